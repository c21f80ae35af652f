import PyProof.Rows.All
import Wide.All
import OpenK.AllK
import Wide.FinOn
import PySem.Challenge.RW_ov0095_01
open PySem PySem.Calls PySem.W PyProof.Rows
set_option Elab.async false
set_option linter.unusedVariables false
set_option linter.unusedSimpArgs false
namespace Mine
/-! ## abstract values and objects -/
inductive V where
  | none
  | bool (b : Bool)
  | int (i : Int)
  | str (s : Str)
  | ref (a : Addr)
  | oth (v : Value)

noncomputable def abs : Value → V
  | .none => .none
  | .bool b => .bool b
  | .int i _ => .int i
  | .str s _ => .str s
  | .ref a => .ref a
  | v => .oth v

theorem abs_none {u : Value} (h : abs u = .none) : u = .none := by cases u <;> simp_all [abs]
theorem abs_bool {u : Value} {b} (h : abs u = .bool b) : u = .bool b := by cases u <;> simp_all [abs]
theorem abs_int {u : Value} {i} (h : abs u = .int i) : ∃ t, u = .int i t := by cases u <;> simp_all [abs]
theorem abs_str {u : Value} {x} (h : abs u = .str x) : ∃ t, u = .str x t := by cases u <;> simp_all [abs]
theorem abs_ref {u : Value} {a} (h : abs u = .ref a) : u = .ref a := by cases u <;> simp_all [abs]
theorem abs_oth {u v : Value} (h : abs u = .oth v) : u = v := by cases u <;> simp_all [abs]

inductive O where
  | list (xs : List V)
  | tup (xs : List V)
  | sdict (kvs : List (Str × V))
  | idict (kvs : List (Int × V))
  | inst (C dx : Addr)
  | ns (fs : List (Str × V))
  | rng (k : Int)

noncomputable def lid : Nat := 100000

theorem lid_le : lid ≤ sizeLine := by rw [sizeLine_eq]; unfold lid; decide

section
variable (prog : Program) (w : World)

def OM : O → Obj → Prop
  | .list xs, o => ∃ vs n, o = { cls := .type "list", dict := none, data := .seq vs n, slots := #[] } ∧ vs.toList.map abs = xs ∧ vs.size ≤ lid
  | .tup xs, o => o.cls = .type "tuple" ∧ o.dict = none ∧ ∃ vs n, o.data = .seq vs n ∧ vs.toList.map abs = xs ∧ vs.size ≤ lid
  | .sdict kvs, o => ∃ r : List (Str × Value), o.IsDictOf (strKind prog w) r ∧ r.map (fun p => (p.1, abs p.2)) = kvs ∧ r.length ≤ lid
  | .idict kvs, o => ∃ r : List (Int × Value), o.IsDictOf (intKind prog w) r ∧ r.map (fun p => (p.1, abs p.2)) = kvs ∧ r.length ≤ lid
  | .inst C dx, o => o.cls = .ref C ∧ o.dict = some dx ∧ ∀ c, o.data ≠ .cls c
  | .rng k, o => ∃ t u v, o = { cls := .type "range", dict := none, data := .fields #[.int 0 t, .int k u, .int 1 v], slots := #[] }
  | .ns fs, o => fs.length ≤ 1000 ∧ ∃ es ep, o.data = .dict es ep ∧ StrKeys es ∧ UniqKeys es ∧ ∀ y, (nsFind es y).map abs = fs.lookup y

noncomputable abbrev AH := Addr → Option O
noncomputable abbrev CH := Addr → Option Obj
noncomputable def AH.set (H : AH) (a : Addr) (o : O) : AH := fun b => if b = a then some o else H b
def AH.le (H H' : AH) : Prop := ∀ a o, H a = some o → H' a = some o
theorem AH.le_refl (H : AH) : H.le H := fun _ _ e => e
theorem AH.le_trans {H H₁ H₂ : AH} (x : H.le H₁) (y : H₁.le H₂) : H.le H₂ := fun a o e => y a o (x a o e)
theorem AH.set_same (H : AH) (a : Addr) (o : O) : H.set a o a = some o := by simp [AH.set]
theorem AH.set_ne (H : AH) {a b : Addr} (o : O) (h : b ≠ a) : H.set a o b = H b := by simp [AH.set, h]
theorem AH.le_set {H : AH} {a : Addr} (o : O) (h : H a = none) : H.le (H.set a o) := fun b x e => by
  have : b ≠ a := by rintro rfl; rw [h] at e; cases e
  rw [AH.set_ne _ _ this]; exact e
theorem AH.le_set_of {H₀ H : AH} {a : Addr} (o : O) (hle : H₀.le H) (h : H₀ a = none) : H₀.le (H.set a o) := fun b x e => by
  have : b ≠ a := by rintro rfl; rw [h] at e; cases e
  rw [AH.set_ne _ _ this]; exact hle _ _ e
theorem AH.ne_of {H : AH} {a b : Addr} {o : O} (ha : H a = some o) (hb : H b = none) : a ≠ b := by rintro rfl; rw [hb] at ha; cases ha

variable {prog w}
variable (S0 : Shared)

structure St (prog : Program) (w : World) (S0 : Shared) (F : CH) (H : AH) (s : Shared) : Prop where
  same : ∃ h tk, s = { S0 with heap := h, toks := tk }
  base : ∀ a o, S0.heap.get? a = some o → F a = some o
  fr : ∀ a o, F a = some o → s.heap.get? a = some o
  hp : ∀ a o, H a = some o → F a = none ∧ ∃ x, s.heap.get? a = some x ∧ OM prog w o x

namespace St
variable {S0} {F : CH} {H : AH} {s : Shared}

theorem old (x : St prog w S0 F H s) {a : Addr} {o : Obj} (h : S0.heap.get? a = some o) : s.heap.get? a = some o := x.fr a o (x.base a o h)
theorem obj (x : St prog w S0 F H s) {a : Addr} {o : O} (h : H a = some o) : ∃ y, s.heap.get? a = some y ∧ OM prog w o y := (x.hp a o h).2
theorem ne_old (x : St prog w S0 F H s) {a b : Addr} {o : O} {p : Obj} (h : H a = some o) (hb : S0.heap.get? b = some p) : a ≠ b := by
  rintro rfl
  have := x.base _ _ hb
  rw [(x.hp _ _ h).1] at this; cases this

theorem toks (x : St prog w S0 F H s) (t : Nat) : St prog w S0 F H { s with toks := t } :=
  ⟨let ⟨h, _, e⟩ := x.same; ⟨h, t, by rw [e]⟩, x.base, x.fr, x.hp⟩

theorem drop {H' : AH} (x : St prog w S0 F H' s) (h : H.le H') : St prog w S0 F H s :=
  ⟨x.same, x.base, x.fr, fun a o e => x.hp a o (h a o e)⟩

theorem fresh (x : St prog w S0 F H s) : H s.heap.objs.size = none := by
  cases q : H s.heap.objs.size with
  | none => rfl
  | some o => obtain ⟨y, hy, _⟩ := x.obj q; exact absurd (Heap.lt_size hy) (Nat.lt_irrefl _)

theorem fresh_F (x : St prog w S0 F H s) : F s.heap.objs.size = none := by
  cases q : F s.heap.objs.size with
  | none => rfl
  | some o => exact absurd (Heap.lt_size (x.fr _ _ q)) (Nat.lt_irrefl _)

/-- an object that nobody asks for -/
theorem push (x : St prog w S0 F H s) (o : Obj) : St prog w S0 F H { s with heap := s.heap.push o } :=
  ⟨let ⟨h, t, e⟩ := x.same; ⟨_, t, by rw [e]⟩, x.base, fun a y e => Heap.get?_push_of_some _ (x.fr a y e),
    fun a y e => ⟨(x.hp a y e).1, let ⟨z, hz, m⟩ := x.obj e; ⟨z, Heap.get?_push_of_some _ hz, m⟩⟩⟩

/-- a new object -/
theorem alloc (x : St prog w S0 F H s) {o : Obj} {y : O} (hf : o.isFreed = false) (m : OM prog w y o) : St prog w S0 F (H.set s.heap.objs.size y) { s with heap := s.heap.push o } :=
  ⟨(x.push o).same, x.base, (x.push o).fr, fun a z e => by
    by_cases q : a = s.heap.objs.size
    · subst q
      rw [AH.set_same] at e; cases e
      exact ⟨x.fresh_F, o, Heap.get?_push_size _ hf, m⟩
    · rw [AH.set_ne _ _ q] at e
      exact (x.push o).hp a z e⟩

/-- one object that stands in neither part is changed -/
theorem off (x : St prog w S0 F H s) {c : Addr} {h' : Heap} (hF : F c = none) (hH : H c = none) (hs : Heap.SameBut c s.heap h') : St prog w S0 F H { s with heap := h' } :=
  ⟨let ⟨_, t, e⟩ := x.same; ⟨h', t, by rw [e]⟩, x.base,
    fun a y e => hs.extBut a y (by rintro rfl; rw [hF] at e; cases e) (x.fr a y e),
    fun a y e => ⟨(x.hp a y e).1, let ⟨z, hz, m⟩ := x.obj e; ⟨z, hs.extBut a z (by rintro rfl; rw [hH] at e; cases e) hz, m⟩⟩⟩

/-- an object of the abstract part is changed -/
theorem upd (x : St prog w S0 F H s) {a : Addr} {o o' : O} {h' : Heap} {y : Obj} (ha : H a = some o) (hs : Heap.SameBut a s.heap h') (hy : h'.get? a = some y) (m : OM prog w o' y) :
    St prog w S0 F (H.set a o') { s with heap := h' } :=
  ⟨let ⟨_, t, e⟩ := x.same; ⟨h', t, by rw [e]⟩, x.base,
    fun b z e => hs.extBut b z (by rintro rfl; rw [(x.hp _ _ ha).1] at e; cases e) (x.fr b z e),
    fun b z e => by
      by_cases q : b = a
      · subst q
        rw [AH.set_same] at e; cases e
        exact ⟨(x.hp _ _ ha).1, y, hy, m⟩
      · rw [AH.set_ne _ _ q] at e
        exact ⟨(x.hp b z e).1, let ⟨v, hv, mv⟩ := x.obj e; ⟨v, hs.extBut b v q hv, mv⟩⟩⟩

/-- more is kept -/
theorem more (x : St prog w S0 F H s) {F' : CH} (h1 : ∀ a o, F a = some o → F' a = some o) (h2 : ∀ a o, F' a = some o → s.heap.get? a = some o) (h3 : ∀ a o, H a = some o → F' a = none) : St prog w S0 F' H s :=
  ⟨x.same, fun a o e => h1 a o (x.base a o e), h2, fun a o e => ⟨h3 a o e, x.obj e⟩⟩
/-- less is kept -/
theorem less {F' : CH} (x : St prog w S0 F' H s) (h1 : ∀ a o, F a = some o → F' a = some o) (h0 : ∀ a o, S0.heap.get? a = some o → F a = some o) : St prog w S0 F H s :=
  ⟨x.same, h0, fun a o e => x.fr a o (h1 a o e), fun a o e => ⟨(by
    cases q : F a with
    | none => rfl
    | some z => have := h1 _ _ q; rw [(x.hp a o e).1] at this; cases this), x.obj e⟩⟩
end St

/-! ## judgements -/
def Rm (n : Nat) (A : Around) : Prop := A.depth + n ≤ 600 ∧ A.units + 10 * n ≤ 9000 ∧ A.handled = none
theorem Rm.le {n m : Nat} {A : Around} (x : Rm n A) (h : m ≤ n) : Rm m A := ⟨by have := x.1; omega, by have := x.2.1; omega, x.2.2⟩
theorem Rm.deep {n : Nat} {A : Around} (x : Rm (n + 1) A) (env : Env) : Rm n (A.deeper env) := ⟨by have := x.1; show A.depth + 1 + n ≤ 600; omega, by have := x.2.1; show A.units + 3 + 10 * n ≤ 9000; omega, x.2.2⟩
theorem Rm.depth {n : Nat} {A : Around} (x : Rm n A) : A.depth < recursionLimit := by have := x.1; show A.depth < 1000; omega
theorem Rm.units {n : Nat} {A : Around} (x : Rm n A) : A.units < cLine := by have := x.2.1; show A.units < 9900; omega
theorem Rm.in1 {n : Nat} {A : Around} (x : Rm (n + 1) A) : Rm n A.in1 := ⟨by have := x.1; show A.depth + n ≤ 600; omega, by have := x.2.1; show A.units + 1 + 10 * n ≤ 9000; omega, x.2.2⟩

abbrev Bot : Value → Shared → Prop := fun _ _ => False

structure Op (prog : Program) (w : World) (S0 : Shared) {α : Type} (n : Nat) (t : Sem α) (H : AH) (Q : α → AH → Prop) : Prop where
  run : ∀ A F s, Rm n A → St prog w S0 F H s → wpAny (model prog w) A t (fun a s' => ∃ H', St prog w S0 F H' s' ∧ Q a H') Bot s

theorem bot {α : Type} {M : Model} {A : Around} {t : Sem α} {Q Q' : α → Shared → Prop} {E : Value → Shared → Prop} {s : Shared} (h : wpAny M A t Q Bot s) (hQ : ∀ a s, Q a s → Q' a s) : wpAny M A t Q' E s :=
  wpAny_mono h hQ fun _ _ x => x.elim

structure EnvOk (env : Env) : Prop where
  kind : env.scope.kind = .function
  glob : env.globals = mainGlobals
  blt : env.builtins = builtinsNs
  cells : ∀ y, env.kindOf y = some .cell → (env.cells.lookup y).isSome = true

noncomputable def lc : Option NameKind → Bool
  | some .local => true
  | some .cell => true
  | _ => false
noncomputable def gl : Option NameKind → Bool
  | some .globalImplicit => true
  | _ => false
noncomputable def ndbg (x : Str) : Bool := x != ("__debug__" : Str)

/-- the names of a frame, each once, with what is known of them -/
noncomputable abbrev Rho := List (Str × Option V)

structure Fm (prog : Program) (w : World) (S0 : Shared) (env : Env) (ρ : Rho) (F : CH) (H : AH) (s : Shared) : Prop where
  st : St prog w S0 F H s
  ok : EnvOk env
  ns : ∃ m, s.heap.Ns env.locals m ∧ ∀ x v, (x, some v) ∈ ρ → env.kindOf x = some .local → ∃ u, m x = some u ∧ abs u = v
  loF : F env.locals = none
  loH : H env.locals = none
  ce : ∀ x c, env.cells.lookup x = some c → H c = none ∧ ∃ vo, s.heap.IsCell c vo
  cv : ∀ x v, (x, some v) ∈ ρ → env.kindOf x = some .cell → ∃ c u, env.cells.lookup x = some c ∧ s.heap.IsCell c (some u) ∧ abs u = v
  kn : ∀ p ∈ ρ, lc (env.kindOf p.1) = true ∧ ndbg p.1 = true
  nd : (ρ.map (·.1)).Nodup

structure Ev (prog : Program) (w : World) (S0 : Shared) {α : Type} (n : Nat) (env : Env) (ρ : Rho) (t : Sem α) (H : AH) (Q : α → AH → Prop) : Prop where
  run : ∀ A F s, Rm n A → Fm prog w S0 env ρ F H s → wpAny (model prog w) A t (fun a s' => ∃ H', Fm prog w S0 env ρ F H' s' ∧ Q a H') Bot s

/-- the cells are the frame's own -/
structure Ow (env : Env) (F : CH) : Prop where
  cell : ∀ x c, env.cells.lookup x = some c → F c = none ∧ c ≠ env.locals
  apart : ∀ x y c, env.cells.lookup x = some c → env.cells.lookup y = some c → x = y

structure Ex (prog : Program) (w : World) (S0 : Shared) (n : Nat) (env : Env) (ρ : Rho) (t : Sem Flow) (H : AH) (Q : Flow → Rho → AH → Prop) : Prop where
  run : ∀ A F s, Rm n A → Ow env F → Fm prog w S0 env ρ F H s → wpAny (model prog w) A t (fun f s' => ∃ ρ' H', Fm prog w S0 env ρ' F H' s' ∧ Q f ρ' H') Bot s

section
variable {α β : Type} {S0 : Shared} {n : Nat} {env : Env} {ρ : Rho} {H : AH}

/-- what the frame's own objects keep: an operation that knows no frame -/
theorem Fm.lift {F : CH} {s : Shared} {A : Around} {t : Sem α} {Q : α → AH → Prop} (x : Fm prog w S0 env ρ F H s) (hr : Rm n A) (h : Op prog w S0 n t H Q) :
    wpAny (model prog w) A t (fun a s' => ∃ H', Fm prog w S0 env ρ F H' s' ∧ Q a H') Bot s := by
  obtain ⟨m, hn, hm⟩ := x.ns
  have x' : ∀ a o, H a = some o → ¬(a = env.locals ∨ (∃ y, env.cells.lookup y = some a)) := fun a o e q => by
    rcases q with rfl | ⟨y, q⟩
    · rw [x.loH] at e; cases e
    · rw [(x.ce _ _ q).1] at e; cases e
  let F'' : CH := fun a => if a = env.locals then s.heap.get? a else if (env.cells.any fun p => env.cells.lookup p.1 == some a) then s.heap.get? a else F a
  have g1 : ∀ a o, F a = some o → F'' a = some o := fun a o e => by
    show (if _ then _ else if _ then _ else _) = _
    split
    · exact x.st.fr a o e
    · split
      · exact x.st.fr a o e
      · exact e
  have g2 : ∀ a o, F'' a = some o → s.heap.get? a = some o := fun a o e => by
    revert e; show (if _ then _ else if _ then _ else _) = _ → _
    split
    · exact id
    · split
      · exact id
      · exact x.st.fr a o
  have g3 : ∀ a o, H a = some o → F'' a = none := fun a o e => by
    show (if _ then _ else if _ then _ else _) = _
    split
    · rename_i q; exact absurd (.inl q) (x' a o e)
    · split
      · rename_i q
        obtain ⟨p, _, hp⟩ := List.any_eq_true.mp q
        exact absurd (.inr ⟨p.1, beq_iff_eq.mp hp⟩) (x' a o e)
      · exact (x.st.hp a o e).1
  refine wpAny_mono (h.run A F'' s hr (x.st.more g1 g2 g3)) (fun a s' z => ?_) fun _ _ e => e
  obtain ⟨H', st, q⟩ := z
  have kl : ∀ o, s.heap.get? env.locals = some o → F'' env.locals = some o := fun o e => by
    show (if _ then _ else _) = _
    rw [if_pos rfl]; exact e
  have kc : ∀ y c o, env.cells.lookup y = some c → s.heap.get? c = some o → F'' c = some o := fun y c o hy e => by
    show (if _ then _ else if _ then _ else _) = _
    split
    · exact e
    · rw [if_pos]; · exact e
      refine List.any_eq_true.mpr ⟨(y, c), mem_of_lookup hy, ?_⟩
      rw [hy]; exact beq_self_eq_true _
  have no : ∀ a o, F'' a = some o → H' a = none := fun a o e => by
    cases q : H' a with
    | none => rfl
    | some z => rw [(st.hp a z q).1] at e; cases e
  obtain ⟨oL, es, ep, hL, r⟩ := hn
  refine ⟨H', ⟨st.less g1 x.st.base, x.ok, ⟨m, ⟨oL, es, ep, st.fr _ _ (kl _ hL), r⟩, hm⟩, x.loF, no _ _ (kl _ hL), fun y c hy => ?_, fun y v hv hk => ?_, x.kn, x.nd⟩, q⟩
  · obtain ⟨hc, vo, oc, ho, hd⟩ := x.ce y c hy
    exact ⟨no _ _ (kc y c oc hy ho), vo, oc, st.fr _ _ (kc y c oc hy ho), hd⟩
  · obtain ⟨c, u, hc, ⟨oc, ho, hd⟩, e⟩ := x.cv y v hv hk
    exact ⟨c, u, hc, ⟨oc, st.fr _ _ (kc y c oc hc ho), hd⟩, e⟩

theorem Ev.op {t : Sem α} {Q : α → AH → Prop} (h : Op prog w S0 n t H Q) : Ev prog w S0 n env ρ t H Q := ⟨fun _ _ _ hr x => x.lift hr h⟩

theorem Ev.mono {t : Sem α} {Q Q' : α → AH → Prop} (h : Ev prog w S0 n env ρ t H Q) (hQ : ∀ a H', Q a H' → Q' a H') : Ev prog w S0 n env ρ t H Q' :=
  .mk <| fun A F s hr x => bot (h.run A F s hr x) fun _ _ ⟨H', f, q⟩ => ⟨H', f, hQ _ _ q⟩
theorem Op.mono {t : Sem α} {Q Q' : α → AH → Prop} (h : Op prog w S0 n t H Q) (hQ : ∀ a H', Q a H' → Q' a H') : Op prog w S0 n t H Q' :=
  .mk <| fun A F s hr x => bot (h.run A F s hr x) fun _ _ ⟨H', f, q⟩ => ⟨H', f, hQ _ _ q⟩
theorem Op.le {m : Nat} {t : Sem α} {Q : α → AH → Prop} (h : Op prog w S0 n t H Q) (hm : n ≤ m) : Op prog w S0 m t H Q := .mk <| fun A F s hr x => h.run A F s (hr.le hm) x

theorem Fm.drop {F : CH} {s : Shared} {H' : AH} (x : Fm prog w S0 env ρ F H' s) (h : H.le H') : Fm prog w S0 env ρ F H s := by
  refine ⟨x.st.drop h, x.ok, x.ns, x.loF, ?_, fun y c e => ?_, x.cv, x.kn, x.nd⟩
  · cases q : H env.locals with
    | none => rfl
    | some o => have := h _ _ q; rw [x.loH] at this; cases this
  · obtain ⟨a, b⟩ := x.ce y c e
    refine ⟨?_, b⟩
    cases q : H c with
    | none => rfl
    | some o => have := h _ _ q; rw [a] at this; cases this
theorem Fm.toks {F : CH} {s : Shared} (x : Fm prog w S0 env ρ F H s) (t : Nat) : Fm prog w S0 env ρ F H { s with toks := t } := ⟨x.st.toks t, x.ok, x.ns, x.loF, x.loH, x.ce, x.cv, x.kn, x.nd⟩

/-- what was made is forgotten -/
theorem Ev.forget {t : Sem α} {Q : α → AH → Prop} (h : Ev prog w S0 n env ρ t H fun a H' => H.le H' ∧ Q a H) : Ev prog w S0 n env ρ t H Q :=
  .mk <| fun A F s hr x => bot (h.run A F s hr x) fun _ _ ⟨_, f, l, q⟩ => ⟨H, f.drop l, q⟩
theorem Op.forget {t : Sem α} {Q : α → AH → Prop} (h : Op prog w S0 n t H fun a H' => H.le H' ∧ Q a H) : Op prog w S0 n t H Q :=
  .mk <| fun A F s hr x => bot (h.run A F s hr x) fun _ _ ⟨_, f, l, q⟩ => ⟨H, f.drop l, q⟩

theorem Ev.bind {m : Sem α} {f : α → Sem β} {Q : β → AH → Prop} (h : Ev prog w S0 n env ρ m H fun a H₁ => Ev prog w S0 n env ρ (f a) H₁ Q) : Ev prog w S0 n env ρ (m >>= f) H Q :=
  .mk <| fun A F s hr x => wpAny_bind (bot (h.run A F s hr x) fun _ _ ⟨_, y, q⟩ => q.run A F _ hr y)
theorem Ev.pure {a : α} {Q : α → AH → Prop} (h : Q a H) : Ev prog w S0 n env ρ (Pure.pure a : Sem α) H Q := .mk <| fun _ _ _ _ x => wpAny_pure ⟨H, x, h⟩
theorem Op.bind {m : Sem α} {f : α → Sem β} {Q : β → AH → Prop} (h : Op prog w S0 n m H fun a H₁ => Op prog w S0 n (f a) H₁ Q) : Op prog w S0 n (m >>= f) H Q :=
  .mk <| fun A F s hr x => wpAny_bind (bot (h.run A F s hr x) fun _ _ ⟨_, y, q⟩ => q.run A F _ hr y)
theorem Op.pure {a : α} {Q : α → AH → Prop} (h : Q a H) : Op prog w S0 n (Pure.pure a : Sem α) H Q := .mk <| fun _ _ _ _ x => wpAny_pure ⟨H, x, h⟩
end
end
structure Bs (prog : Program) (w : World) (S0 : Shared) (K : Frag) (G : List (Str × V)) : Prop where
  k : K.In S0.heap
  nolimit : S0.heap.NoLimit
  mods : (S0.heap.get? sysModules).isSome = true
  glob : ∃ mg mb, S0.heap.Ns mainGlobals mg ∧ S0.heap.Ns builtinsNs mb ∧ ∀ x v, (x, v) ∈ G → (∃ u, mg x = some u ∧ abs u = v) ∨ (mg x = none ∧ ∃ u, mb x = some u ∧ abs u = v)

section
variable {prog : Program} {w : World} {S0 : Shared} {K : Frag} {G : List (Str × V)} {n : Nat} {env : Env} {ρ : Rho} {H : AH}

theorem St.keeps {F : CH} {s : Shared} (x : St prog w S0 F H s) : ∀ b o, S0.heap.get? b = some o → s.heap.get? b = some o := fun _ _ e => x.old e
theorem St.frag {F : CH} {s : Shared} (x : St prog w S0 F H s) (B : Bs prog w S0 K G) : K.In s.heap := B.k.keeps x.keeps
theorem St.mods {F : CH} {s : Shared} (x : St prog w S0 F H s) (B : Bs prog w S0 K G) {a : Addr} {o : O} (h : H a = some o) : (a == sysModules) = false :=
  beq_eq_false_iff_ne.mpr fun e => by
    obtain ⟨p, hp⟩ := Option.isSome_iff_exists.mp B.mods
    have := x.base _ _ hp
    rw [e] at h; rw [(x.hp _ _ h).1] at this; cases this

/-! ### expressions -/
def EvV (prog : Program) (w : World) (S0 : Shared) (n : Nat) (env : Env) (ρ : Rho) (e : Expr) (H : AH) (Q : V → AH → Prop) : Prop := Ev prog w S0 n env ρ (eval e env) H fun u H' => Q (abs u) H'
def OpV (prog : Program) (w : World) (S0 : Shared) (n : Nat) (t : Sem Value) (H : AH) (Q : V → AH → Prop) : Prop := Op prog w S0 n t H fun u H' => Q (abs u) H'
/-- the arguments of a call -/
def EvA (prog : Program) (w : World) (S0 : Shared) (n : Nat) (env : Env) (ρ : Rho) (es : List Expr) (pos : Pos) (H : AH) (Q : List V → AH → Prop) : Prop :=
  Ev prog w S0 n env ρ (spliced (backTo pos (starEach es env))) H fun us H' => Q (us.map abs) H'
/-- a test -/
def EvT (prog : Program) (w : World) (S0 : Shared) (n : Nat) (env : Env) (ρ : Rho) (e : Expr) (H : AH) (Q : Bool → AH → Prop) : Prop := Ev prog w S0 n env ρ (PySem.isTrue e env (eval e env)) H Q

theorem EvV.mono {e : Expr} {Q Q' : V → AH → Prop} (h : EvV prog w S0 n env ρ e H Q) (hQ : ∀ v H', Q v H' → Q' v H') : EvV prog w S0 n env ρ e H Q' := Ev.mono h fun _ _ q => hQ _ _ q
theorem EvT.mono {e : Expr} {Q Q' : Bool → AH → Prop} (h : EvT prog w S0 n env ρ e H Q) (hQ : ∀ v H', Q v H' → Q' v H') : EvT prog w S0 n env ρ e H Q' := Ev.mono h fun _ _ q => hQ _ _ q
theorem OpV.mono {t : Sem Value} {Q Q' : V → AH → Prop} (h : OpV prog w S0 n t H Q) (hQ : ∀ v H', Q v H' → Q' v H') : OpV prog w S0 n t H Q' := Op.mono h fun _ _ q => hQ _ _ q

theorem load_lc {x : Str} {v : V} {F : CH} {s : Shared} {M : Model} {A : Around} {Q : Value → Shared → Prop} {E : Value → Shared → Prop} (f : Fm prog w S0 env ρ F H s) (hv : (x, some v) ∈ ρ)
    (h : ∀ u, abs u = v → Q u s) : wpAny M A (loadName env x) Q E s := by
  have hk := (f.kn _ hv).1
  dsimp only at hk
  unfold lc at hk
  split at hk
  · rename_i q
    obtain ⟨m, hn, hm⟩ := f.ns
    obtain ⟨u, hu, ha⟩ := hm x v hv q
    exact wpAny_loadName_local f.ok.kind q hn hu (h u ha)
  · rename_i q
    obtain ⟨c, u, hc, hcell, ha⟩ := f.cv x v hv q
    exact wpAny_loadName_cell f.ok.kind q hc hcell (h u ha)
  · cases hk

theorem E_name {x : Str} {pos : Pos} {v : V} {Q : V → AH → Prop} (hv : (x, some v) ∈ ρ) (h : Q v H) : EvV prog w S0 n env ρ (.Name x pos) H Q :=
  .mk <| fun A F s _ f => wpAny_Name (load_lc f hv fun u hu => ⟨H, f, by show Q (abs u) H; rw [hu]; exact h⟩) (by simpa [ndbg] using (f.kn _ hv).2)

theorem load_gl {x : Str} {v : V} {F : CH} {s : Shared} {M : Model} {A : Around} {Q : Value → Shared → Prop} {E : Value → Shared → Prop} (B : Bs prog w S0 K G) (f : Fm prog w S0 env ρ F H s) (hv : (x, v) ∈ G)
    (h : ∀ u, abs u = v → Q u s) : wpAny M A (loadGlobal env x) Q E s := by
  obtain ⟨mg, mb, h1, h2, h3⟩ := B.glob
  have g1 : s.heap.Ns env.globals mg := f.ok.glob ▸ h1.keeps f.st.keeps
  have g2 : s.heap.Ns env.builtins mb := f.ok.blt ▸ h2.keeps f.st.keeps
  rcases h3 x v hv with ⟨u, hu, ha⟩ | ⟨hn, u, hu, ha⟩
  · exact loadGlobal_global g1 hu (h u ha)
  · exact loadGlobal_builtin g1 hn g2 hu (h u ha)

theorem E_glob {x : Str} {pos : Pos} {v : V} {Q : V → AH → Prop} (B : Bs prog w S0 K G) (hv : (x, v) ∈ G) (hk : gl (env.kindOf x) = true) (hd : ndbg x = true) (h : Q v H) : EvV prog w S0 n env ρ (.Name x pos) H Q :=
  .mk <| fun A F s _ f => by
    refine Name_function_global f.ok.kind ?_ (load_gl B f hv fun u hu => ⟨H, f, by show Q (abs u) H; rw [hu]; exact h⟩) (by simpa [ndbg] using hd)
    unfold gl at hk
    split at hk
    · assumption
    · cases hk

theorem E_int {i : Int} {k : Nat} {pos : Pos} {Q : V → AH → Prop} (h : Q (.int i) H) : EvV prog w S0 n env ρ (.Constant (.int i) k pos) H Q := .mk <| fun _ _ _ _ f => wpAny_Constant_int ⟨H, f.toks _, h⟩
theorem E_str {x : Str} {k : Nat} {pos : Pos} {Q : V → AH → Prop} (h : Q (.str x) H) : EvV prog w S0 n env ρ (.Constant (.str x) k pos) H Q := .mk <| fun _ _ _ _ f => Constant_str ⟨H, f.toks _, h⟩
theorem E_none {k : Nat} {pos : Pos} {Q : V → AH → Prop} (h : Q .none H) : EvV prog w S0 n env ρ (.Constant .none k pos) H Q := .mk <| fun _ _ _ _ f => wpAny_pure ⟨H, f, h⟩
theorem E_bool {b : Bool} {k : Nat} {pos : Pos} {Q : V → AH → Prop} (h : Q (.bool b) H) : EvV prog w S0 n env ρ (.Constant (.bool b) k pos) H Q := .mk <| fun _ _ _ _ f => wpAny_pure ⟨H, f, h⟩

/-- an operation behind two values -/
def Bin (prog : Program) (w : World) (S0 : Shared) (n : Nat) (t : Value → Value → Sem Value) (a b : V) (H : AH) (Q : V → AH → Prop) : Prop := ∀ u v, abs u = a → abs v = b → OpV prog w S0 n (t u v) H Q
def Una {α : Type} (prog : Program) (w : World) (S0 : Shared) (n : Nat) (t : Value → Sem α) (a : V) (H : AH) (Q : α → AH → Prop) : Prop := ∀ u, abs u = a → Op prog w S0 n (t u) H Q

theorem E_bin {l r : Expr} {op : Operator} {pos : Pos} {Q : V → AH → Prop} (h : EvV prog w S0 n env ρ l H fun a H₁ => EvV prog w S0 n env ρ r H₁ fun b H₂ => Bin prog w S0 n (binaryOp op) a b H₂ Q) :
    EvV prog w S0 n env ρ (.BinOp l op r pos) H Q := .mk <| fun A F s hr f =>
  wpAny_BinOp (bot (h.run A F s hr f) fun u s₁ ⟨H₁, f₁, h₁⟩ => bot (h₁.run A F s₁ hr f₁) fun v s₂ ⟨H₂, f₂, h₂⟩ => f₂.lift hr (h₂ u v rfl rfl))

theorem E_cmp {l r : Expr} {op : CmpOp} {pos : Pos} {Q : V → AH → Prop} (hm : behindInMarks op r = false) (h : EvV prog w S0 n env ρ l H fun a H₁ => EvV prog w S0 n env ρ r H₁ fun b H₂ => Bin prog w S0 n (compareOp op) a b H₂ Q) :
    EvV prog w S0 n env ρ (.Compare l [op] [r] pos) H Q := .mk <| fun A F s hr f =>
  wpAny_Compare1 (bot (h.run A F s hr f) fun u s₁ ⟨H₁, f₁, h₁⟩ => bot (h₁.run A F s₁ hr f₁) fun v s₂ ⟨H₂, f₂, h₂⟩ => f₂.lift hr (h₂ u v rfl rfl)) hm

theorem Op.truthy_bool {b : Bool} {Q : Bool → AH → Prop} (h : Q b H) : Op prog w S0 n (truthy (.bool b)) H Q := .mk <| fun _ _ _ _ f => wpAny_truthy_bool ⟨H, f, h⟩

/-- tests -/
theorem T_cmp {l r : Expr} {op : CmpOp} {pos : Pos} {Q : Bool → AH → Prop} (hm : behindInMarks op r = false)
    (h : EvV prog w S0 n env ρ l H fun a H₁ => EvV prog w S0 n env ρ r H₁ fun b H₂ => Bin prog w S0 n (compareOp op) a b H₂ fun c H₃ => ∃ x, c = .bool x ∧ Q x H₃) :
    EvT prog w S0 n env ρ (.Compare l [op] [r] pos) H Q := .mk <| fun A F s hr f =>
  wpAny_isTrue_Compare1 (bot (h.run A F s hr f) fun u s₁ ⟨H₁, f₁, h₁⟩ => bot (h₁.run A F s₁ hr f₁) fun v s₂ ⟨H₂, f₂, h₂⟩ => bot (f₂.lift hr (h₂ u v rfl rfl)) fun c s₃ ⟨H₃, f₃, x, hc, q⟩ => by
    rw [abs_bool hc]; exact wpAny_truthy_bool ⟨H₃, f₃, q⟩) hm

theorem T_plain {e : Expr} {Q : Bool → AH → Prop} (he : ∀ whole : Sem Value, PySem.isTrue e env whole = (do let v ← whole; standAt e.pos; holding [v] (truthy v)))
    (h : EvV prog w S0 n env ρ e H fun a H₁ => Una prog w S0 n truthy a H₁ Q) : EvT prog w S0 n env ρ e H Q := .mk <| fun A F s hr f =>
  isTrue_plain (bot (h.run A F s hr f) fun u s₁ ⟨_, f₁, h₁⟩ => f₁.lift hr (h₁ u rfl)) (he _)

theorem T_not {e : Expr} {pos : Pos} {Q : Bool → AH → Prop} (h : EvT prog w S0 n env ρ e H fun b H₁ => Q (!b) H₁) : EvT prog w S0 n env ρ (.UnaryOp .Not e pos) H Q := .mk <| fun A F s hr f => isTrue_not (h.run A F s hr f)
theorem T_and_nil {pos : Pos} {Q : Bool → AH → Prop} (h : Q true H) : EvT prog w S0 n env ρ (.BoolOp .And [] pos) H Q := .mk <| fun _ _ _ _ f => isTrue_and_nil ⟨H, f, h⟩
theorem T_or_nil {pos : Pos} {Q : Bool → AH → Prop} (h : Q false H) : EvT prog w S0 n env ρ (.BoolOp .Or [] pos) H Q := .mk <| fun _ _ _ _ f => isTrue_or_nil ⟨H, f, h⟩

theorem T_and {e : Expr} {es : List Expr} {pos : Pos} {Q : Bool → AH → Prop} (h : EvT prog w S0 n env ρ e H fun b H₁ => if b then EvT prog w S0 n env ρ (.BoolOp .And es pos) H₁ Q else Q false H₁) :
    EvT prog w S0 n env ρ (.BoolOp .And (e :: es) pos) H Q := .mk <| fun A F s hr f =>
  isTrue_and (bot (h.run A F s hr f) fun b s₁ ⟨H₁, f₁, h₁⟩ => by
    cases b with
    | false => exact ⟨H₁, f₁, h₁⟩
    | true => exact h₁.run A F s₁ hr f₁)
theorem T_or {e : Expr} {es : List Expr} {pos : Pos} {Q : Bool → AH → Prop} (h : EvT prog w S0 n env ρ e H fun b H₁ => if b then Q true H₁ else EvT prog w S0 n env ρ (.BoolOp .Or es pos) H₁ Q) :
    EvT prog w S0 n env ρ (.BoolOp .Or (e :: es) pos) H Q := .mk <| fun A F s hr f =>
  isTrue_or (bot (h.run A F s hr f) fun b s₁ ⟨H₁, f₁, h₁⟩ => by
    cases b with
    | true => exact ⟨H₁, f₁, h₁⟩
    | false => exact h₁.run A F s₁ hr f₁)
theorem T_ifexp {c a b : Expr} {pos : Pos} {Q : Bool → AH → Prop} (h : EvT prog w S0 n env ρ c H fun x H₁ => if x then EvT prog w S0 n env ρ a H₁ Q else EvT prog w S0 n env ρ b H₁ Q) :
    EvT prog w S0 n env ρ (.IfExp c a b pos) H Q := .mk <| fun A F s hr f =>
  isTrue_IfExp (bot (h.run A F s hr f) fun x s₁ ⟨H₁, f₁, h₁⟩ => by
    cases x with
    | true => exact h₁.run A F s₁ hr f₁
    | false => exact h₁.run A F s₁ hr f₁)

theorem E_ifexp {c a b : Expr} {pos : Pos} {Q : V → AH → Prop} (h : EvT prog w S0 n env ρ c H fun x H₁ => if x then EvV prog w S0 n env ρ a H₁ Q else EvV prog w S0 n env ρ b H₁ Q) :
    EvV prog w S0 n env ρ (.IfExp c a b pos) H Q := .mk <| fun A F s hr f =>
  IfExp_ (bot (h.run A F s hr f) fun x s₁ ⟨H₁, f₁, h₁⟩ => by
    cases x with
    | true => exact h₁.run A F s₁ hr f₁
    | false => exact h₁.run A F s₁ hr f₁)
theorem E_and {a b : Expr} {r : List Expr} {pos : Pos} {Q : V → AH → Prop}
    (h : EvV prog w S0 n env ρ a H fun x H₁ => Una prog w S0 n truthy x H₁ fun c H₂ => if c then EvV prog w S0 n env ρ (.BoolOp .And (b :: r) pos) H₂ Q else Q x H₂) :
    EvV prog w S0 n env ρ (.BoolOp .And (a :: b :: r) pos) H Q := .mk <| fun A F s hr f =>
  BoolOp_and (bot (h.run A F s hr f) fun u s₁ ⟨_, f₁, h₁⟩ => bot (f₁.lift hr (h₁ u rfl)) fun c s₂ ⟨H₂, f₂, h₂⟩ => by
    cases c with
    | true => exact h₂.run A F s₂ hr f₂
    | false => exact ⟨H₂, f₂, h₂⟩)
theorem E_or {a b : Expr} {r : List Expr} {pos : Pos} {Q : V → AH → Prop}
    (h : EvV prog w S0 n env ρ a H fun x H₁ => Una prog w S0 n truthy x H₁ fun c H₂ => if c then Q x H₂ else EvV prog w S0 n env ρ (.BoolOp .Or (b :: r) pos) H₂ Q) :
    EvV prog w S0 n env ρ (.BoolOp .Or (a :: b :: r) pos) H Q := .mk <| fun A F s hr f =>
  BoolOp_or (bot (h.run A F s hr f) fun u s₁ ⟨_, f₁, h₁⟩ => bot (f₁.lift hr (h₁ u rfl)) fun c s₂ ⟨H₂, f₂, h₂⟩ => by
    cases c with
    | false => exact h₂.run A F s₂ hr f₂
    | true => exact ⟨H₂, f₂, h₂⟩)
theorem E_one {op : BoolOp} {a : Expr} {pos : Pos} {Q : V → AH → Prop} (h : EvV prog w S0 n env ρ a H Q) : EvV prog w S0 n env ρ (.BoolOp op [a] pos) H Q := .mk <| fun A F s hr f => BoolOp_one (h.run A F s hr f)
theorem E_not {a : Expr} {pos : Pos} {Q : V → AH → Prop} (h : EvV prog w S0 n env ρ a H fun x H₁ => Una prog w S0 n truthy x H₁ fun c H₂ => Q (.bool (!c)) H₂) : EvV prog w S0 n env ρ (.UnaryOp .Not a pos) H Q := .mk <| fun A F s hr f =>
  UnaryOp_ (bot (h.run A F s hr f) fun u s₁ ⟨_, f₁, h₁⟩ => not_of (bot (f₁.lift hr (h₁ u rfl)) fun _ _ ⟨H₂, f₂, h₂⟩ => ⟨H₂, f₂, h₂⟩))

/-! ### truth -/
theorem truthy_of_bool {b : Bool} {Q : Bool → AH → Prop} (h : Q b H) : Una prog w S0 n truthy (.bool b) H Q := fun u hu => .mk <| fun A F s hr f => by rw [abs_bool hu]; exact wpAny_truthy_bool ⟨H, f, h⟩
theorem truthy_of_none {Q : Bool → AH → Prop} (h : Q false H) : Una prog w S0 n truthy .none H Q := fun u hu => .mk <| fun A F s hr f => by rw [abs_none hu]; exact truthy_none ⟨H, f, h⟩

/-! ### arguments, calls -/
theorem A_nil {pos : Pos} {Q : List V → AH → Prop} (h : Q [] H) : EvA prog w S0 n env ρ [] pos H Q := .mk <| fun _ _ _ _ f => spliced_nil ⟨H, f, h⟩
theorem A_cons {e : Expr} {es : List Expr} {pos : Pos} {Q : List V → AH → Prop} (he : starEach (e :: es) env = (false, eval e env) :: starEach es env)
    (h : EvV prog w S0 n env ρ e H fun v H₁ => EvA prog w S0 n env ρ es pos H₁ fun vs H₂ => Q (v :: vs) H₂) : EvA prog w S0 n env ρ (e :: es) pos H Q := .mk <| fun A F s hr f =>
  args_cons (bot (h.run A F s hr f) fun u s₁ ⟨_, f₁, h₁⟩ => bot (h₁.run A F s₁ hr f₁) fun _ _ ⟨H₂, f₂, h₂⟩ => ⟨H₂, f₂, h₂⟩) he

def plainArgs (ts : List (Bool × Sem Value)) : Prop := ts.any (·.1) = false
theorem evalArgs_all {f : Value} {ts : List (Bool × Sem Value)} {M : Model} {A : Around} {E : Value → Shared → Prop} {s : Shared} {Q : Args → Shared → Prop} (ht : ts.any (·.1) = false)
    (h : wpAny M A (spliced ts) (fun vs s' => Q ⟨vs, []⟩ s') E s) : wpAny M A (evalArgs f true ts []) Q E s := by
  cases ts with
  | nil =>
    exact fun Γ p hΓ => PyProof.Rows.evalArgs_none (Q := Q) (E := E) (show Q ⟨[], []⟩ s from h Γ p hΓ) Γ p hΓ
  | cons x r =>
    obtain ⟨b, t⟩ := x
    cases b with
    | true => simp at ht
    | false => exact evalArgs_plain h

/-- a call whose keeper can be told -/
theorem callWith_any {pos : Pos} {f : Value} {first : List Value} {ts : List (Bool × Sem Value)} {M : Model} {A : Around} {E : Value → Shared → Prop} {s : Shared} {Q : Value → Shared → Prop} (ht : ts.any (·.1) = false)
    (h : wpAny M A (spliced ts) (fun us s₁ => (∀ Q', (∀ k, Q' k s₁) → wpAny M A (keeperOf f) Q' E s₁) ∧ wpAny M A (call f (first ++ us) []) Q E s₁) E s) : wpAny M A (callWith pos f first ts []) Q E s := by
  unfold callWith
  refine wpAny_bind (wpAny_holding (wpAny_mono (evalArgs_all ht (Q := fun a s₁ => a.kw = [] ∧ (∀ Q', (∀ k, Q' k s₁) → wpAny M A (keeperOf f) Q' E s₁) ∧ wpAny M A (call f (first ++ a.pos) []) Q E s₁)
    (wpAny_mono h (fun us s₁ z => ⟨rfl, z⟩) fun _ _ e => e)) (fun a s₁ z => wpAny_bind (wpAny_standAt ?_)) fun _ _ e => e))
  obtain ⟨hk, hkeep, hc⟩ := z
  have tail : ∀ {t : Sem Value}, wpAny M A t Q E s₁ → wpAny M A (t >>= fun r => holding [r] point >>= fun _ => pure r) Q E s₁ :=
    fun ht => wpAny_bind (wpAny_mono ht (fun r s₂ hr => wpAny_bind (wpAny_holding (wpAny_point (wpAny_pure hr)))) fun _ _ x => x)
  dsimp only
  rw [hk]
  refine wpAny_bind (hkeep _ fun k => ?_)
  have hs : (ts.any (·.1) || ([] : List (Option Str × Sem Value)).any (·.1.isNone)) = false := by rw [ht]; rfl
  rw [hs]
  cases k with
  | frame =>
    dsimp only
    split
    · exact tail hc
    · exact tail (by unfold callMarked; exact Calls.wpAny_keep hc)
  | boundFrame =>
    dsimp only
    split
    · exact tail hc
    · exact tail (by unfold callMarked; exact Calls.wpAny_keep hc)
  | machine => exact tail hc
  | caller => exact tail (wpAny_operating hc)

/-- what a def promises of a call -/
def Cn (prog : Program) (w : World) (S0 : Shared) (n : Nat) (f : Value) (args : List V) (H : AH) (Q : V → AH → Prop) : Prop := ∀ us : List Value, us.map abs = args → OpV prog w S0 n (call f us []) H Q

theorem Cn.mono {f : Value} {args : List V} {Q Q' : V → AH → Prop} (h : Cn prog w S0 n f args H Q) (hQ : ∀ v H', Q v H' → Q' v H') : Cn prog w S0 n f args H Q' := fun us hu => (h us hu).mono hQ

/-- how f is kept can be told -/
def Keeps1 (prog : Program) (w : World) (S0 : Shared) (f : Value) : Prop := ∀ (A : Around) (F : CH) (H : AH) (s : Shared), St prog w S0 F H s → ∀ Q', (∀ k, Q' k s) → wpAny (model prog w) A (keeperOf f) Q' Bot s

theorem E_callWith {pos : Pos} {f : Value} {first : List Value} {es : List Expr} {Q : V → AH → Prop} (hk : Keeps1 prog w S0 f) (ht : (backTo pos (starEach es env)).any (·.1) = false)
    (h : EvA prog w S0 n env ρ es pos H fun vs H₁ => Cn prog w S0 n f (first.map abs ++ vs) H₁ Q) : Ev prog w S0 n env ρ (callWith pos f first (backTo pos (starEach es env)) []) H fun u H' => Q (abs u) H' := .mk <| fun A F s hr fm =>
  callWith_any ht (bot (h.run A F s hr fm) fun us _ ⟨_, f₁, h₁⟩ => ⟨hk A F _ _ f₁.st, f₁.lift hr (h₁ (first ++ us) (by rw [List.map_append]))⟩)

theorem E_call {g : Expr} {f : Value} {es : List Expr} {pos : Pos} {Q : V → AH → Prop} (he : ∀ es pos, eval (.Call g es [] pos) env = (do callWith pos (← eval g env) [] (backTo pos (starEach es env)) (backToKw pos (keywordEach [] env))))
    (hk : Keeps1 prog w S0 f) (ht : (backTo pos (starEach es env)).any (·.1) = false)
    (h : EvV prog w S0 n env ρ g H fun v H₁ => (∀ u, abs u = v → u = f) ∧ EvA prog w S0 n env ρ es pos H₁ fun vs H₂ => Cn prog w S0 n f vs H₂ Q) : EvV prog w S0 n env ρ (.Call g es [] pos) H Q := .mk <| fun A F s hr fm =>
  Call_ (bot (h.run A F s hr fm) fun u s₁ ⟨_, f₁, e, h₁⟩ => by
    rw [e u rfl]
    exact (E_callWith (first := []) hk ht h₁).run A F s₁ hr f₁) (he _ _)
end
section
variable {prog : Program} {w : World} {S0 : Shared} {K : Frag} {G : List (Str × V)} {n : Nat} {env : Env} {ρ : Rho} {H : AH}

/-- values that are no built-in -/
def isPlain : V → Prop
  | .oth _ => False
  | _ => True
theorem handedOut_plain {u : Value} (h : isPlain (abs u)) : handedOut u = pure u := by cases u <;> first | rfl | exact h.elim

/-! ### instances -/
theorem St.inst {F : CH} {s : Shared} {x C dx : Addr} {fs : List (Str × V)} (f : St prog w S0 F H s) (hx : H x = some (.inst C dx)) (hd : H dx = some (.ns fs)) :
    ∃ mA, s.heap.Inst x C mA ∧ (∀ y, (mA y).map abs = fs.lookup y) ∧ s.heap.Ns1 dx mA ∧ (∃ o, s.heap.get? x = some o ∧ o.cls = .ref C ∧ o.dict = some dx ∧ ∀ c, o.data ≠ .cls c) ∧ fs.length ≤ 1000 := by
  obtain ⟨o, ho, h1, h2, h3⟩ := f.obj hx
  obtain ⟨d, hd', hl, es, ep, e1, e2, e3, e4⟩ := f.obj hd
  have hne : dx ≠ x := by rintro rfl; rw [hx] at hd; cases hd
  have hn : s.heap.Ns1 dx (nsFind es) := ⟨d, es, ep, hd', e1, e2, e3, fun _ => rfl⟩
  exact ⟨nsFind es, ⟨o, ho, h1, h3, .inr ⟨dx, h2, hne, hn⟩⟩, e4, hn, ⟨o, ho, h1, h2, h3⟩, hl⟩

/-- what a class must show -/
structure Cls (S0 : Shared) (C N : Addr) (mN : Str → Option Value) : Prop where
  at_ : ClsAt S0.heap C N mN
  ga : mN "__getattribute__" = none
  gt : mN "__getattr__" = none
  sa : mN "__setattr__" = none

/-- a name that neither the class nor object bears -/
structure Free (mN : Str → Option Value) (name : Str) : Prop where
  own : mN name = none
  obj : typeLookup (.type "object") name = pure none

theorem O_get {x C N dx : Addr} {mN : Str → Option Value} {fs : List (Str × V)} {name : Str} {v : V} {Q : V → AH → Prop} (c : Cls S0 C N mN) (fr : Free mN name) (hx : H x = some (.inst C dx)) (hd : H dx = some (.ns fs)) (hv : fs.lookup name = some v)
    (hp : isPlain v) (h : Q v H) : OpV prog w S0 n (getAttr (.ref x) name true) H Q := .mk <| fun A F s _ f => by
  obtain ⟨mA, I, hm, _⟩ := f.inst hx hd
  obtain ⟨nm, q, bs, sn, sub, col, dd, k0, k1, k2, k3, k5, hC⟩ := (c.at_.keeps f.keeps).obj
  have := hm name
  rw [hv] at this
  cases hu : mA name with
  | none => rw [hu] at this; cases this
  | some u =>
    rw [hu] at this
    have e : abs u = v := Option.some.inj this
    obtain ⟨hh, g, d, t, os⟩ := s
    exact load_attr hC (c.at_.keeps f.keeps).ns c.ga fr.own fr.obj I hu (handedOut_plain (e ▸ hp)) ⟨H, f.toks _, by show Q (abs u) H; rw [e]; exact h⟩

theorem O_set {x C N dx : Addr} {mN : Str → Option Value} {fs fs' : List (Str × V)} {name : Str} {v : Value} {Q : Unit → AH → Prop} (c : Cls S0 C N mN) (fr : Free mN name) (hx : H x = some (.inst C dx)) (hd : H dx = some (.ns fs))
    (hf : ∀ y, fs'.lookup y = if y = name then some (abs v) else fs.lookup y) (hl : fs'.length ≤ 1000) (h : Q () (H.set dx (.ns fs'))) : Op prog w S0 n (setAttr (.ref x) name v) H Q := .mk <| fun A F s _ f => by
  obtain ⟨mA, I, hm, hn1, ⟨ox, hox, hc1, hc2, hc3⟩, hlen⟩ := f.inst hx hd
  obtain ⟨nm, q, bs, sn, sub, col, dd, k0, k1, k2, k3, k5, hC⟩ := (c.at_.keeps f.keeps).obj
  obtain ⟨_, _, _, _, _, _, _, _, _, _, _, _, hC0⟩ := c.at_.obj
  have hxC : x ≠ C := f.ne_old hx hC0
  have hw : Within mA (fs.map (·.1)) := fun y hy => by
    have := hm y
    cases hu : mA y with
    | none => exact absurd hu hy
    | some u =>
      rw [hu] at this
      exact List.mem_map_of_mem (f := (·.1)) (mem_of_lookup this.symm)
  obtain ⟨hh, g, d, t, os⟩ := s
  have hne : dx ≠ x := by rintro rfl; rw [hx] at hd; cases hd
  refine store_attr PySem.F.store_object hC (c.at_.keeps f.keeps).ns c.sa fr.own fr.obj hxC I (fun h' tk' I' hk hsame => ?_) hw (by rw [List.length_map]; exact Nat.le_trans hlen (by rw [sizeLine_eq]; omega))
  obtain ⟨o₁, hx₁, g1, g2, g3, g4⟩ := hsame ox hox
  have hk' : ∀ b o, b ≠ x → b ≠ dx → hh.get? b = some o → h'.get? b = some o := fun b o h1 h2 e => hk b o h1 (fun o₀ dx' q1 q2 => by
    have : ox = o₀ := Option.some.inj (hox.symm.trans q1)
    subst this
    rw [hc2] at q2; cases q2; exact h2) e
  obtain ⟨o₂, ho₂, hcl₂, hnc₂, hd₂⟩ := I'
  obtain rfl : o₁ = o₂ := Option.some.inj (hx₁.symm.trans ho₂)
  have hdx₁ : o₁.dict = some dx := g4 dx hc2
  rcases hd₂ with ⟨q, _⟩ | ⟨d', q, _, hns⟩
  · rw [hdx₁] at q; cases q
  · rw [hdx₁] at q; cases q
    obtain ⟨od, es, ep, hod, e1, e2, e3, e4⟩ := hns
    refine ⟨_, ⟨let ⟨_, t₀, e⟩ := f.same; ⟨h', tk', by cases e; rfl⟩, f.base, fun a o e => ?_, fun a o e => ?_⟩, h⟩
    · refine hk' a o ?_ ?_ (f.fr a o e)
      · rintro rfl; rw [(f.hp _ _ hx).1] at e; cases e
      · rintro rfl; rw [(f.hp _ _ hd).1] at e; cases e
    · by_cases q : a = dx
      · subst q
        rw [AH.set_same] at e; cases e
        refine ⟨(f.hp _ _ hd).1, od, hod, hl, es, ep, e1, e2, e3, fun y => ?_⟩
        rw [e4, hf]
        by_cases hy : y = name
        · simp [hy]
        · simp only [hy, if_false]; exact hm y
      · rw [AH.set_ne _ _ q] at e
        refine ⟨(f.hp a o e).1, ?_⟩
        by_cases q' : a = x
        · subst q'
          rw [hx] at e; cases e
          exact ⟨o₁, hx₁, hcl₂, hdx₁, hnc₂⟩
        · obtain ⟨z, hz, m⟩ := f.obj e
          exact ⟨z, hk' a z q' q hz, m⟩

theorem O_meth {x C N dx fa : Addr} {mN : Str → Option Value} {fs : List (Str × V)} {name : Str} {of : Obj} {y : Option Value} {pl : Sem Bool} {Q : Value × List Value → AH → Prop} (c : Cls S0 C N mN) (hf : mN name = some (.ref fa)) (ho : S0.heap.get? fa = some of)
    (hfc : of.cls = .type "function") (hB : typeLookup (.type "object") name = pure y) (hx : H x = some (.inst C dx)) (hd : H dx = some (.ns fs)) (hv : fs.lookup name = none)
    (h : Q (.ref fa, [.ref x]) H) : Op prog w S0 n (getMethod (.ref x) name pl) H Q := .mk <| fun A F s _ f => by
  obtain ⟨mA, I, hm, _⟩ := f.inst hx hd
  obtain ⟨nm, q, bs, sn, sub, col, dd, k0, k1, k2, k3, k5, hC⟩ := (c.at_.keeps f.keeps).obj
  have := hm name
  rw [hv] at this
  cases hu : mA name with
  | some u => rw [hu] at this; cases this
  | none =>
    obtain ⟨hh, g, d, t, os⟩ := s
    exact method_of hC (c.at_.keeps f.keeps).ns c.ga c.gt hf (f.old ho) hfc hB I hu ⟨H, f, h⟩

/-- a class is called: its __init__ runs on a bare instance -/
theorem O_make {C N fI : Addr} {mN : Str → Option Value} {oI : Obj} {rest : List Value} {Q : V → AH → Prop} (c : Cls S0 C N mN) (hi : mN "__init__" = some (.ref fI)) (ho : S0.heap.get? fI = some oI) (hfc : oI.cls = .type "function")
    (h : ∀ x dx H', H x = none → H dx = none → H.le H' → H' x = some (.inst C dx) → H' dx = some (.ns []) →
      OpV prog w S0 n (call (.ref fI) (.ref x :: rest)) H' fun r H'' => r = .none ∧ Q (.ref x) H'') : OpV prog w S0 (n + 1) (call (.ref C) rest) H Q := .mk <| fun A F s hr f => by
  obtain ⟨nm, q, bs, sn, sub, col, dd, k0, k1, k2, k3, k5, hC⟩ := (c.at_.keeps f.keeps).obj
  obtain ⟨hh, g, d, t, os⟩ := s
  refine wpAny_call_obj_init PySem.F.objNew hC (c.at_.keeps f.keeps).ns hi (f.old ho) hfc fun h' x dx Mk => ?_
  obtain ⟨ox, hox, hcx, hncx, hdx⟩ := Mk.inst
  have hdd := Mk.dict ox hox
  obtain ⟨hne, hnsd⟩ : dx ≠ x ∧ h'.Ns1 dx fun _ => none := by
    rcases hdx with ⟨q, _⟩ | ⟨d', q, a, b⟩
    · rw [q] at hdd; cases hdd
    · rw [hdd] at q; cases q; exact ⟨a, b⟩
  have nx : H x = none := by
    cases q : H x with
    | none => rfl
    | some o => obtain ⟨z, hz, _⟩ := f.obj q; rw [Mk.newX] at hz; cases hz
  have nd : H dx = none := by
    cases q : H dx with
    | none => rfl
    | some o => obtain ⟨z, hz, _⟩ := f.obj q; rw [Mk.newD] at hz; cases hz
  have nFx : F x = none := by
    cases q : F x with
    | none => rfl
    | some o => have := f.fr _ _ q; rw [Mk.newX] at this; cases this
  have nFd : F dx = none := by
    cases q : F dx with
    | none => rfl
    | some o => have := f.fr _ _ q; rw [Mk.newD] at this; cases this
  obtain ⟨od, es, ep, hod, e1, e2, e3, e4⟩ := hnsd
  have st : St prog w S0 F ((H.set dx (.ns [])).set x (.inst C dx)) ⟨h', g, d, t, os⟩ := by
    refine ⟨let ⟨_, t₀, e⟩ := f.same; ⟨h', t, by cases e; rfl⟩, f.base, fun a o e => Mk.keeps a o (f.fr a o e), fun a o e => ?_⟩
    by_cases q : a = x
    · subst q; rw [AH.set_same] at e; cases e
      exact ⟨nFx, ox, hox, hcx, hdd, hncx⟩
    · rw [AH.set_ne _ _ q] at e
      by_cases q' : a = dx
      · subst q'; rw [AH.set_same] at e; cases e
        exact ⟨nFd, od, hod, Nat.zero_le _, es, ep, e1, e2, e3, fun y => by rw [e4]; rfl⟩
      · rw [AH.set_ne _ _ q'] at e
        obtain ⟨z, hz, m⟩ := f.obj e
        exact ⟨(f.hp a o e).1, z, Mk.keeps a z hz, m⟩
  have hle : H.le ((H.set dx (.ns [])).set x (.inst C dx)) := AH.le_set_of _ (AH.le_set _ nd) nx
  have hr' : Rm n (A.under (.builtin "type.__call__" ⟨.ref C :: rest, []⟩)) := by
    obtain ⟨a, b, c⟩ := hr
    refine ⟨?_, ?_, c⟩
    · show A.depth + 1 + n ≤ 600; omega
    · show A.units + (Code.builtin "type.__call__" ⟨.ref C :: rest, []⟩).cUnits + 10 * n ≤ 9000
      have : (Code.builtin "type.__call__" ⟨.ref C :: rest, []⟩).cUnits ≤ 10 := Nat.le_of_ble_eq_true rfl
      omega
  refine bot ((h x dx _ nx nd hle (AH.set_same ..) (by rw [AH.set_ne _ _ hne, AH.set_same])).run _ F _ hr' st) fun r s' ⟨H'', st', hn', q⟩ => ⟨abs_none hn', H'', st', q⟩
end
section
variable {prog : Program} {w : World} {S0 : Shared} {K : Frag} {G : List (Str × V)} {n : Nat} {env : Env} {ρ : Rho} {H : AH}

/-! ### statements -/
theorem Ex.mono {t : Sem Flow} {Q Q' : Flow → Rho → AH → Prop} (h : Ex prog w S0 n env ρ t H Q) (hQ : ∀ f ρ' H', Q f ρ' H' → Q' f ρ' H') : Ex prog w S0 n env ρ t H Q' :=
  .mk <| fun A F s hr o x => bot (h.run A F s hr o x) fun _ _ ⟨ρ', H', f, q⟩ => ⟨ρ', H', f, hQ _ _ _ q⟩
theorem Ex.forget {H₀ : AH} {t : Sem Flow} {Q : Flow → Rho → AH → Prop} (h : Ex prog w S0 n env ρ t H₀ Q) (hl : H₀.le H) : Ex prog w S0 n env ρ t H Q :=
  .mk <| fun A F s hR o x => h.run A F s hR o (x.drop hl)
theorem Ev.forgetH {α : Type} {H₀ : AH} {t : Sem α} {Q : α → AH → Prop} (h : Ev prog w S0 n env ρ t H₀ Q) (hl : H₀.le H) : Ev prog w S0 n env ρ t H Q :=
  .mk <| fun A F s hR x => h.run A F s hR (x.drop hl)

theorem X_nil {Q : Flow → Rho → AH → Prop} (h : Q .next ρ H) : Ex prog w S0 n env ρ (execs [] env) H Q := .mk <| fun _ _ _ _ _ f => wpAny_execs_nil ⟨ρ, H, f, h⟩
def seqQ (prog : Program) (w : World) (S0 : Shared) (n : Nat) (env : Env) (rest : List Stmt) (Q : Flow → Rho → AH → Prop) (f : Flow) (ρ₁ : Rho) (H₁ : AH) : Prop := match f with
  | .next => Ex prog w S0 n env ρ₁ (execs rest env) H₁ Q
  | f => Q f ρ₁ H₁
theorem X_cons {st : Stmt} {rest : List Stmt} {Q : Flow → Rho → AH → Prop} (h : Ex prog w S0 n env ρ (exec st env) H (seqQ prog w S0 n env rest Q)) : Ex prog w S0 n env ρ (execs (st :: rest) env) H Q := .mk <| fun A F s hr o f =>
  wpAny_execs_cons (bot (h.run A F s hr o f) fun fl s₁ ⟨ρ₁, H₁, f₁, h₁⟩ => by
    cases fl with
    | next => exact h₁.run A F s₁ hr o f₁
    | brk => exact ⟨ρ₁, H₁, f₁, h₁⟩
    | cont => exact ⟨ρ₁, H₁, f₁, h₁⟩
    | ret v => exact ⟨ρ₁, H₁, f₁, h₁⟩)

theorem X_ret {e : Expr} {pos : Pos} {Q : Flow → Rho → AH → Prop} (h : EvV prog w S0 n env ρ e H fun v H₁ => ∀ u, abs u = v → Q (.ret u) ρ H₁) : Ex prog w S0 n env ρ (exec (.Return (some e) pos) env) H Q := .mk <| fun A F s hr _ f =>
  wpAny_Return_some (bot (h.run A F s hr f) fun u s₁ ⟨H₁, f₁, h₁⟩ => ⟨ρ, H₁, f₁, h₁ u rfl⟩)
theorem X_ret0 {pos : Pos} {Q : Flow → Rho → AH → Prop} (h : Q (.ret .none) ρ H) : Ex prog w S0 n env ρ (exec (.Return none pos) env) H Q := .mk <| fun _ _ _ _ _ f => wpAny_Return_none ⟨ρ, H, f, h⟩
theorem X_break {pos : Pos} {Q : Flow → Rho → AH → Prop} (h : Q .brk ρ H) : Ex prog w S0 n env ρ (exec (.Break pos) env) H Q := .mk <| fun _ _ _ _ _ f => wpAny_Break ⟨ρ, H, f, h⟩
theorem X_continue {pos : Pos} {Q : Flow → Rho → AH → Prop} (h : Q .cont ρ H) : Ex prog w S0 n env ρ (exec (.Continue pos) env) H Q := .mk <| fun _ _ _ _ _ f => wpAny_Continue ⟨ρ, H, f, h⟩

theorem X_if {e : Expr} {a b : List Stmt} {pos : Pos} {Q : Flow → Rho → AH → Prop} (h : EvT prog w S0 n env ρ e H fun c H₁ => if c then Ex prog w S0 n env ρ (execs a env) H₁ Q else Ex prog w S0 n env ρ (execs b env) H₁ Q) :
    Ex prog w S0 n env ρ (exec (.If e a b pos) env) H Q := .mk <| fun A F s hr o f =>
  wpAny_If (bot (h.run A F s hr f) fun c s₁ ⟨H₁, f₁, h₁⟩ => by
    cases c with
    | true => exact h₁.run A F s₁ hr o f₁
    | false => exact h₁.run A F s₁ hr o f₁)

theorem X_expr {e : Expr} {pos : Pos} {Q : Flow → Rho → AH → Prop} (hi : interactive env = false) (hs : swapsWith e none pos.line env = pure false) (h : EvV prog w S0 n env ρ e H fun _ H₁ => Q .next ρ H₁) :
    Ex prog w S0 n env ρ (exec (.Expr e pos) env) H Q := .mk <| fun A F s hr _ f =>
  wpAny_Expr_any (bot (h.run A F s hr f) fun _ _ ⟨H₁, f₁, h₁⟩ => ⟨ρ, H₁, f₁, h₁⟩) hi hs

/-! ### storing a name -/
inductive Up (x : Str) (v : V) : Rho → Rho → Prop
  | head {o : Option V} {ρ : Rho} : Up x v ((x, o) :: ρ) ((x, some v) :: ρ)
  | tail {p : Str × Option V} {ρ ρ' : Rho} : Up x v ρ ρ' → Up x v (p :: ρ) (p :: ρ')

theorem Up.names {x : Str} {v : V} {ρ ρ' : Rho} (u : Up x v ρ ρ') : ρ'.map (·.1) = ρ.map (·.1) := by
  induction u with
  | head => rfl
  | tail _ ih => rw [List.map_cons, List.map_cons, ih]
theorem Up.mem {x : Str} {v : V} {ρ ρ' : Rho} (u : Up x v ρ ρ') : ∃ o, (x, o) ∈ ρ := by
  induction u with
  | head => exact ⟨_, .head _⟩
  | tail _ ih => exact ih.imp fun _ h => .tail _ h
theorem Up.of {x : Str} {v : V} {ρ ρ' : Rho} (u : Up x v ρ ρ') (nd : (ρ.map (·.1)).Nodup) : ∀ p ∈ ρ', p = (x, some v) ∨ (p ∈ ρ ∧ p.1 ≠ x) := by
  induction u with
  | head =>
    intro p hp
    rw [List.map_cons, List.nodup_cons] at nd
    cases hp with
    | head => exact .inl rfl
    | tail _ h => exact .inr ⟨.tail _ h, fun e => nd.1 (by rw [← e]; exact List.mem_map_of_mem (f := (·.1)) h)⟩
  | @tail q ρ₁ ρ₂ u ih =>
    intro p hp
    rw [List.map_cons, List.nodup_cons] at nd
    cases hp with
    | head =>
      obtain ⟨o, ho⟩ := u.mem
      exact .inr ⟨.head _, fun e => nd.1 (by rw [e]; exact List.mem_map_of_mem (f := (·.1)) ho)⟩
    | tail _ h => exact (ih nd.2 p h).imp id fun ⟨a, b⟩ => ⟨.tail _ a, b⟩
theorem Up.kn {x : Str} {v : V} {ρ ρ' : Rho} {R : Str → Prop} (u : Up x v ρ ρ') (h : ∀ p ∈ ρ, R p.1) : ∀ p ∈ ρ', R p.1 := fun p hp => by
  have : p.1 ∈ ρ.map (·.1) := by rw [← u.names]; exact List.mem_map_of_mem (f := (·.1)) hp
  obtain ⟨q, hq, e⟩ := List.mem_map.mp this
  rw [← e]; exact h q hq

theorem Fm.storeL {F : CH} {s : Shared} {x : Str} {v : Value} {ρ' : Rho} {M : Model} {A : Around} {E : Value → Shared → Prop} {Q : Unit → Shared → Prop} (f : Fm prog w S0 env ρ F H s) (o : ∀ x c, env.cells.lookup x = some c → c ≠ env.locals) (q : env.kindOf x = some .local) (hu : Up x (abs v) ρ ρ')
    (h : ∀ s', Fm prog w S0 env ρ' F H s' → Q () s') : wpAny M A (storeName env x v) Q E s := by
  obtain ⟨m, hn, hm⟩ := f.ns
  have hp : (env.scope.kind == .class || (env.scope.kind == .module && env.locals != env.globals)) = false := by rw [f.ok.kind]; rfl
  refine wpAny_storeName_local q hn (fun h' hn' hs => h _ ?_) hp
  have st := (f.st.off f.loF f.loH hs).toks (s.toks + 1)
  refine ⟨st, f.ok, ⟨_, hn', fun y u hy hyk => ?_⟩, f.loF, f.loH, fun y c hy => ?_, fun y u hy hyk => ?_, hu.kn (R := fun y => lc (env.kindOf y) = true ∧ ndbg y = true) f.kn, by rw [hu.names]; exact f.nd⟩
  · rcases hu.of f.nd _ hy with e | ⟨e, hne⟩
    · cases e; exact ⟨v, by simp, rfl⟩
    · obtain ⟨z, hz, ha⟩ := hm y u e hyk
      exact ⟨z, by rw [if_neg hne]; exact hz, ha⟩
  · obtain ⟨a, vo, hc⟩ := f.ce y c hy
    exact ⟨a, vo, hc.sameBut hs (o y c hy)⟩
  · rcases hu.of f.nd _ hy with e | ⟨e, hne⟩
    · cases e; rw [q] at hyk; cases hyk
    · obtain ⟨c, z, hc, hcell, ha⟩ := f.cv y u e hyk
      exact ⟨c, z, hc, hcell.sameBut hs (o y c hc), ha⟩

theorem Fm.store {F : CH} {s : Shared} {x : Str} {v : Value} {ρ' : Rho} {M : Model} {A : Around} {E : Value → Shared → Prop} {Q : Unit → Shared → Prop} (f : Fm prog w S0 env ρ F H s) (o : Ow env F) (hu : Up x (abs v) ρ ρ')
    (h : ∀ s', Fm prog w S0 env ρ' F H s' → Q () s') : wpAny M A (storeName env x v) Q E s := by
  obtain ⟨vo₀, hmem⟩ := hu.mem
  have hk := (f.kn _ hmem).1
  dsimp only at hk
  unfold lc at hk
  split at hk
  · rename_i q; exact f.storeL (fun y c hc => (o.cell y c hc).2) q hu h
  · rename_i q
    obtain ⟨m, hn, hm⟩ := f.ns
    obtain ⟨c, hc⟩ := Option.isSome_iff_exists.mp (f.ok.cells x q)
    obtain ⟨hHc, vo, hcell⟩ := f.ce x c hc
    obtain ⟨hFc, hcl⟩ := o.cell x c hc
    refine wpAny_storeName_cell f.ok.kind q hc hcell fun h' hcell' hs => h _ ?_
    refine ⟨f.st.off hFc hHc hs, f.ok, ⟨m, hn.sameBut hs (Ne.symm hcl), fun y u hy hyk => ?_⟩, f.loF, f.loH, fun y d hy => ?_, fun y u hy hyk => ?_, hu.kn (R := fun y => lc (env.kindOf y) = true ∧ ndbg y = true) f.kn, by rw [hu.names]; exact f.nd⟩
    · rcases hu.of f.nd _ hy with e | ⟨e, hne⟩
      · cases e; rw [q] at hyk; cases hyk
      · exact hm y u e hyk
    · obtain ⟨a, vo', hd⟩ := f.ce y d hy
      by_cases e : d = c
      · subst e; exact ⟨a, _, hcell'⟩
      · exact ⟨a, vo', hd.sameBut hs e⟩
    · rcases hu.of f.nd _ hy with e | ⟨e, hne⟩
      · cases e; exact ⟨c, v, hc, hcell', rfl⟩
      · obtain ⟨d, z, hd, hdc, ha⟩ := f.cv y u e hyk
        have hne' : d ≠ c := fun q' => hne (o.apart y x d hd (by rw [q']; exact hc))
        exact ⟨d, z, hd, hdc.sameBut hs hne', ha⟩
  · cases hk

theorem X_assign {x : Str} {p pos : Pos} {e : Expr} {Q : Flow → Rho → AH → Prop} (hs : swapsWith e (some (.Name x p)) pos.line env = pure false)
    (h : EvV prog w S0 n env ρ e H fun v H₁ => ∃ ρ', Up x v ρ ρ' ∧ Q .next ρ' H₁) : Ex prog w S0 n env ρ (exec (.Assign [.Name x p] e pos) env) H Q := .mk <| fun A F s hr o f =>
  wpAny_Assign_Name (bot (h.run A F s hr f) fun _ _ ⟨H₁, f₁, ρ', hu, h₁⟩ => f₁.store o hu fun _ f₂ => ⟨_, H₁, f₂, h₁⟩) hs

theorem X_assignAttr {ob : Expr} {attr : Str} {p pos : Pos} {e : Expr} {Q : Flow → Rho → AH → Prop} (hs : swapsWith e (some (.Attribute ob attr p)) pos.line env = pure false)
    (h : EvV prog w S0 n env ρ e H fun v H₁ => EvV prog w S0 n env ρ ob H₁ fun a H₂ => ∀ u x, abs u = v → abs x = a → Op prog w S0 n (setAttr x attr u) H₂ fun _ H₃ => Q .next ρ H₃) :
    Ex prog w S0 n env ρ (exec (.Assign [.Attribute ob attr p] e pos) env) H Q := .mk <| fun A F s hr _ f =>
  plainObj_wpAny_Assign_Attribute (bot (h.run A F s hr f) fun u _ ⟨_, f₁, h₁⟩ => bot (h₁.run A F _ hr f₁) fun x _ ⟨_, f₂, h₂⟩ => bot (f₂.lift hr (h₂ u x rfl rfl)) fun _ _ ⟨H₃, f₃, h₃⟩ => ⟨ρ, H₃, f₃, h₃⟩) hs

theorem X_assignSub {ob ix : Expr} {p pos : Pos} {e : Expr} {Q : Flow → Rho → AH → Prop} (hs : swapsWith e (some (.Subscript ob ix p)) pos.line env = pure false)
    (h : EvV prog w S0 n env ρ e H fun v H₁ => EvV prog w S0 n env ρ ob H₁ fun a H₂ => EvV prog w S0 n env ρ ix H₂ fun i H₃ => ∀ u x k, abs u = v → abs x = a → abs k = i → Op prog w S0 n (setItem x k u) H₃ fun _ H₄ => Q .next ρ H₄) :
    Ex prog w S0 n env ρ (exec (.Assign [.Subscript ob ix p] e pos) env) H Q := .mk <| fun A F s hr _ f =>
  wpAny_Assign_Subscript (bot (h.run A F s hr f) fun u _ ⟨_, f₁, h₁⟩ => bot (h₁.run A F _ hr f₁) fun x _ ⟨_, f₂, h₂⟩ => bot (h₂.run A F _ hr f₂) fun k _ ⟨_, f₃, h₃⟩ => bot (f₃.lift hr (h₃ u x k rfl rfl rfl)) fun _ _ ⟨H₄, f₄, h₄⟩ => ⟨ρ, H₄, f₄, h₄⟩) hs

/-! ### a def is called -/
/-- the frame of a def with the scope sc -/
noncomputable def mkE (sc : Scope) (L f : Addr) (q : Str) (cd : Value) : Env :=
  { scope := sc, locals := L, globals := mainGlobals, cells := cellsFrom (L + 1) sc.names [], qual := q, func := some f, code := cd, frame := some L, builtins := builtinsNs }

/-- how the defaults stand: none, or one None -/
def Dflt (S0 : Shared) (fd : FuncData) : Bool → Prop
  | false => fd.defaults = .none
  | true => ∃ T o n, fd.defaults = .ref T ∧ S0.heap.get? T = some o ∧ o.data = .seq #[.none] n

structure Fn (S0 : Shared) (a : Addr) (sc : Scope) (body : List Stmt) (params : Arguments) (dv : Bool) : Prop where
  at_ : ∃ o fd, S0.heap.get? a = some o ∧ o.cls = .type "function" ∧ o.data = .func fd ∧ fd.scope = sc ∧ fd.body = .stmts body ∧ fd.params = params ∧ fd.closure = [] ∧ fd.globals = mainGlobals ∧ fd.builtins = builtinsNs ∧ Dflt S0 fd dv ∧ S0.heap.CodeRec fd.code fd.qualname

theorem cells_of (sc : Scope) (L : Nat) : ∀ y, sc.names.lookup y = some .cell → ((cellsFrom (L + 1) sc.names []).lookup y).isSome = true := fun y h => cellsFrom_some _ _ _ (.inl h)

/-- the names bound at the entry -/
theorem bind_ok (sc : Scope) (kindOf : Str → Option NameKind) (hk : ∀ x, kindOf x = sc.names.lookup x) : ∀ (binds : List (Str × Value)) (ml mc : Str → Option Value), (binds.map (·.1)).Nodup →
    (∀ x u, (x, u) ∈ binds → sc.names.lookup x = some .local → bindL kindOf binds ml x = some u) ∧ (∀ x u, (x, u) ∈ binds → sc.names.lookup x = some .cell → bindC kindOf binds mc x = some u) ∧
    (∀ x, x ∉ binds.map (·.1) → bindL kindOf binds ml x = ml x ∧ bindC kindOf binds mc x = mc x)
  | [], ml, mc, _ => ⟨(fun _ _ h => by cases h), (fun _ _ h => by cases h), fun _ _ => ⟨rfl, rfl⟩⟩
  | (y, u) :: r, ml, mc, hnd => by
    rw [List.map_cons, List.nodup_cons] at hnd
    unfold bindL bindC
    obtain ⟨h1, h2, h3⟩ := bind_ok sc kindOf hk r (if kindOf y = some .local then fun z => if z = y then some u else ml z else ml) (if kindOf y = some .local then mc else fun z => if z = y then some u else mc z) hnd.2
    refine ⟨fun x v hx hl => ?_, fun x v hx hl => ?_, fun x hx => ?_⟩
    · cases hx with
      | head => rw [(h3 y hnd.1).1, if_pos (by rw [hk]; exact hl)]; simp
      | tail _ h => exact h1 x v h hl
    · cases hx with
      | head => rw [(h3 y hnd.1).2, if_neg (by rw [hk, hl]; decide)]; simp
      | tail _ h => exact h2 x v h hl
    · rw [List.map_cons, List.mem_cons, not_or] at hx
      obtain ⟨a, b⟩ := h3 x hx.2
      rw [a, b]
      constructor <;> split <;> simp [hx.1]

/-- what a def hands back -/
def retQ (Q : V → AH → Prop) (f : Flow) (_ : Rho) (H' : AH) : Prop := match f with
  | .ret v => Q (abs v) H'
  | _ => Q .none H'

noncomputable def scopeOk (sc : Scope) : Bool := sc.kind == .function && !sc.isCoroutine && !sc.isGenerator

/-- what a def's text must show: its own names, and those of the globals that it reads -/
noncomputable def okF (sc : Scope) (N Gs : List Str) : Bool := decide N.Nodup && (N.all fun x => lc (sc.names.lookup x) && ndbg x) && (Gs.all fun x => gl (sc.names.lookup x) && ndbg x)
def Glob (env : Env) (Gs : List Str) : Prop := ∀ x ∈ Gs, gl (env.kindOf x) = true ∧ ndbg x = true

theorem C_core {a : Addr} {sc : Scope} {body : List Stmt} {params : Arguments} {dv : Bool} {us : List Value} {binds : List (Str × Value)} {Q : V → AH → Prop} {Gs : List Str} {ρ₀ : Rho} (B : Bs prog w S0 K G) (hf : Fn S0 a sc body params dv) (hs : scopeOk sc = true)
    (hb : ∀ s fd, (∀ b o, S0.heap.get? b = some o → s.heap.get? b = some o) → fd.params = params → Dflt S0 fd dv → BindsTo s fd ⟨us, []⟩ binds)
    (hok : okF sc (ρ₀.map (·.1)) Gs = true) (hbn : (binds.map (·.1)).Nodup) (hsub : ∀ x ∈ binds, x.1 ∈ ρ₀.map (·.1)) (hρ : ∀ x v, (x, some v) ∈ ρ₀ → ∃ u, (x, u) ∈ binds ∧ abs u = v)
    (h : ∀ L q cd, Glob (mkE sc L a q cd) Gs → Ex prog w S0 n (mkE sc L a q cd) ρ₀ (execs body (mkE sc L a q cd)) H (retQ Q)) : OpV prog w S0 (n + 1) (call (.ref a) us []) H Q := .mk <| fun A F s hr f => by
  obtain ⟨o, fd, ho, hcls, hd, e1, e2, e3, e4, e5, e6, e7, e8⟩ := hf.at_
  simp only [scopeOk, Bool.and_eq_true, beq_iff_eq, Bool.not_eq_true'] at hs
  obtain ⟨⟨s1, s2⟩, s3⟩ := hs
  simp only [okF, Bool.and_eq_true, decide_eq_true_eq] at hok
  obtain ⟨⟨o1, o2⟩, o3⟩ := hok
  have kn : ∀ x ∈ ρ₀.map (·.1), lc (sc.names.lookup x) = true ∧ ndbg x = true := fun x hx => by
    have := List.all_eq_true.mp o2 x hx
    simpa using this
  refine wpAny_call (codeAny_call_function hr.depth (f.old ho) hd (by rw [e1]; exact s2) (by rw [e1]; exact s3) e2 (e8.keeps f.keeps) (hb s fd f.keeps e3 e7 _ _ _ _ ?_))
  rw [e4]
  refine wpAny_newFunctionEnv_cells (by rw [e1]; exact s1) (fun x hx => ?_) fun env he s₁ X => ?_
  · have := (kn _ (hsub x hx)).1
    rw [e1]
    unfold lc at this
    split at this
    · rename_i q; exact .inl q
    · rename_i q; exact .inr ⟨q, cells_of sc _ _ q⟩
    · cases this
  · subst he
    refine ⟨(B.nolimit.keeps f.keeps).keeps X.toInCall.keep, codeAny_func ?_⟩
    have he : callEnvC fd s.heap.objs.size a = mkE sc s.heap.objs.size a (fd.qualname ++ ".<locals>.") fd.code := by
      unfold callEnvC mkE newEnv; simp only [e1, e5, e6]
    have X : InCallC s (callEnvC fd s.heap.objs.size a).locals (bindL (callEnvC fd s.heap.objs.size a).kindOf binds fun _ => none) (callEnvC fd s.heap.objs.size a).cells (bindC (callEnvC fd s.heap.objs.size a).kindOf binds fun _ => none) s₁ := X
    show wpAny _ (A.deeper (callEnvC fd s.heap.objs.size a)) (execs body (callEnvC fd s.heap.objs.size a)) _ _ _
    rw [he] at X ⊢
    obtain ⟨ok1, ok2, _⟩ := bind_ok sc (mkE sc s.heap.objs.size a (fd.qualname ++ ".<locals>.") fd.code).kindOf (fun _ => rfl) binds (fun _ => none) (fun _ => none) hbn
    have new : ∀ b, s.heap.objs.size ≤ b → F b = none ∧ H b = none := fun b hb => ⟨by
      cases q : F b with
      | none => rfl
      | some z => exact absurd (Heap.lt_size (f.fr _ _ q)) (Nat.not_lt.mpr hb), by
      cases q : H b with
      | none => rfl
      | some z => obtain ⟨y, hy, _⟩ := f.obj q; exact absurd (Heap.lt_size hy) (Nat.not_lt.mpr hb)⟩
    have ow : Ow (mkE sc s.heap.objs.size a (fd.qualname ++ ".<locals>.") fd.code) F :=
      ⟨fun x c hc => ⟨(new c (Nat.le_of_lt (X.above x c (mem_of_lookup hc)))).1, Nat.ne_of_gt (X.above x c (mem_of_lookup hc))⟩, fun x y c hx hy => name_of_addr X.apart (mem_of_lookup hx) (mem_of_lookup hy)⟩
    have st : St prog w S0 F H s₁ := by
      obtain ⟨h₁, tk, e, k⟩ := X.done
      refine ⟨?_, f.base, fun b z q => by rw [e]; exact k b z (f.fr b z q), fun b z q => ⟨(f.hp b z q).1, let ⟨y, hy, m⟩ := f.obj q; ⟨y, by rw [e]; exact k b y hy, m⟩⟩⟩
      obtain ⟨h₀, t₀, e₀⟩ := f.same
      exact ⟨h₁, tk, by rw [e, e₀]⟩
    have fm : Fm prog w S0 (mkE sc s.heap.objs.size a (fd.qualname ++ ".<locals>.") fd.code) ρ₀ F H s₁ :=
      ⟨st, ⟨s1, rfl, rfl, fun y q => cells_of sc _ y q⟩, ⟨_, X.toInCall.ns, fun x v hv hk => by
        obtain ⟨u, hu, ha⟩ := hρ x v hv
        exact ⟨u, ok1 x u hu hk, ha⟩⟩, (new _ (Nat.le_refl _)).1, (new _ (Nat.le_refl _)).2, fun x c hc => ⟨(new c (Nat.le_of_lt (X.above x c (mem_of_lookup hc)))).2, _, X.cell x c hc⟩, fun x v hv hk => by
        obtain ⟨u, hu, ha⟩ := hρ x v hv
        obtain ⟨c, hc⟩ := Option.isSome_iff_exists.mp (cells_of sc s.heap.objs.size x hk)
        exact ⟨c, u, hc, (ok2 x u hu hk) ▸ X.cell x c hc, ha⟩, fun p hp => kn p.1 (List.mem_map_of_mem (f := (·.1)) hp), o1⟩
    have gb : Glob (mkE sc s.heap.objs.size a (fd.qualname ++ ".<locals>.") fd.code) Gs := fun x hx => by
      have := List.all_eq_true.mp o3 x hx
      show gl (sc.names.lookup x) = true ∧ _
      simpa using this
    refine bot ((h _ _ _ gb).run _ F s₁ (hr.deep _) ow fm) fun fl s' ⟨ρ', H', f', q⟩ => ?_
    cases fl <;> exact ⟨H', f'.st, q⟩

theorem nodup_head {x : Str} {l : List Str} {m : List Str} (h : (x :: l ++ m).Nodup) : (x :: l).Nodup := (List.nodup_append.mp h).1
theorem okF_nd {sc : Scope} {N Gs : List Str} (h : okF sc N Gs = true) : N.Nodup := by
  simp only [okF, Bool.and_eq_true, decide_eq_true_eq] at h; exact h.1.1

/-- the frame at the entry: the arguments, then the other names -/
noncomputable def frm (xs : List Str) (vs : List V) (more : List Str) : Rho := List.zipWith (fun x v => (x, some v)) xs vs ++ more.map fun x => (x, none)

theorem C_all {a : Addr} {sc : Scope} {body : List Stmt} {params : Arguments} {dv : Bool} {us : List Value} {xs more Gs : List Str} {Q : V → AH → Prop} (B : Bs prog w S0 K G) (hf : Fn S0 a sc body params dv) (hs : scopeOk sc = true)
    (hl : us.length = xs.length) (hb : ∀ s fd, (∀ b o, S0.heap.get? b = some o → s.heap.get? b = some o) → fd.params = params → Dflt S0 fd dv → BindsTo s fd ⟨us, []⟩ (xs.zip us)) (hok : okF sc (xs ++ more) Gs = true)
    (h : ∀ L q cd, Glob (mkE sc L a q cd) Gs → Ex prog w S0 n (mkE sc L a q cd) (frm xs (us.map abs) more) (execs body (mkE sc L a q cd)) H (retQ Q)) : OpV prog w S0 (n + 1) (call (.ref a) us []) H Q := by
  have e1 : ∀ (xs : List Str) (us : List Value), us.length = xs.length → (List.zipWith (fun x v => (x, some v)) xs (us.map abs)).map (·.1) = xs := fun xs => by
    induction xs with
    | nil => intro us _; cases us <;> rfl
    | cons x r ih =>
      intro us hl
      cases us with
      | nil => cases hl
      | cons u t => simp at hl; simp [ih t hl]
  have e2 : (frm xs (us.map abs) more).map (·.1) = xs ++ more := by
    unfold frm
    rw [List.map_append, e1 xs us hl, List.map_map]
    congr 1
    exact List.map_id _
  have e3 : (xs.zip us).map (·.1) = xs := List.map_fst_zip (Nat.le_of_eq hl.symm)
  refine C_core (ρ₀ := frm xs (us.map abs) more) (Gs := Gs) B hf hs hb (by rw [e2]; exact hok) (by rw [e3]; exact (List.nodup_append.mp (okF_nd hok)).1) (fun x hx => ?_) (fun x v hx => ?_) h
  · rw [e2, List.mem_append]
    left
    rw [← e3]
    exact List.mem_map_of_mem (f := (·.1)) hx
  · unfold frm at hx
    rw [List.mem_append] at hx
    rcases hx with hx | hx
    · clear h hb hf hok e2 e3 e1
      induction xs generalizing us with
      | nil => cases hx
      | cons y r ih =>
        cases us with
        | nil => cases hx
        | cons u t =>
          simp only [List.map_cons, List.zipWith_cons_cons, List.mem_cons, Prod.mk.injEq, Option.some.injEq] at hx
          rcases hx with ⟨rfl, rfl⟩ | hx
          · exact ⟨u, .head _, rfl⟩
          · simp at hl
            obtain ⟨z, hz, ha⟩ := ih hl hx
            exact ⟨z, .tail _ hz, ha⟩
    · obtain ⟨y, _, e⟩ := List.mem_map.mp hx
      cases e

theorem C_fn {a : Addr} {sc : Scope} {body : List Stmt} {params : Arguments} {vs : List V} {xs more Gs : List Str} {Q : V → AH → Prop} (B : Bs prog w S0 K G) (hf : Fn S0 a sc body params false) (hs : scopeOk sc = true) (hok : okF sc (xs ++ more) Gs = true)
    (hl : vs.length = xs.length) (hb : ∀ (fd : FuncData) (us : List Value), us.length = xs.length → fd.params = params → fd.defaults = .none → bindArgs fd ⟨us, []⟩ = pure (xs.zip us))
    (h : ∀ L q cd, Glob (mkE sc L a q cd) Gs → Ex prog w S0 n (mkE sc L a q cd) (frm xs vs more) (execs body (mkE sc L a q cd)) H (retQ Q)) : Cn prog w S0 (n + 1) (.ref a) vs H Q := fun us hu => by
  have hul : us.length = xs.length := by rw [← hl, ← hu]; simp
  subst hu
  exact C_all B hf hs hul (fun s fd _ h1 h2 => .of_eq (hb fd us hul h1 h2)) hok h
end
section
variable {prog : Program} {w : World} {S0 : Shared} {K : Frag} {G : List (Str × V)} {n : Nat} {env : Env} {ρ : Rho} {H : AH}

/-- an iterator on its way -/
structure Wk (prog : Program) (w : World) (S0 : Shared) (n : Nat) (I : Addr) (own : List Addr) (xs : List V) (Inv : AH → Prop) (S : Nat → Heap → Prop) : Prop where
  frame : ∀ i h h', S i h → (∀ b ∈ own, ∀ o, h.get? b = some o → h'.get? b = some o) → S i h'
  live : ∀ i h, S i h → ∀ b ∈ own, ∃ o, h.get? b = some o
  self : ∀ i A (s : Shared) (Q : Value → Shared → Prop), S i s.heap → Q (.ref I) s → wpAny (model prog w) A (pyIter (.ref I)) Q Bot s
  item : ∀ i A F H s (Q : Option Value → Shared → Prop), Rm n A → St prog w S0 F H s → Inv H → S i s.heap → ∀ x, xs[i]? = some x →
    (∀ u h' tk, abs u = x → S (i + 1) h' → (∀ b o, b ∉ own → s.heap.get? b = some o → h'.get? b = some o) → Q (some u) { s with heap := h', toks := tk }) → wpAny (model prog w) A (pyNext (.ref I)) Q Bot s
  done : ∀ A F H s (Q : Option Value → Shared → Prop), Rm n A → St prog w S0 F H s → Inv H → S xs.length s.heap →
    (∀ h' tk, (∀ b o, b ∉ own → s.heap.get? b = some o → h'.get? b = some o) → Q none { s with heap := h', toks := tk }) → wpAny (model prog w) A (pyNext (.ref I)) Q Bot s

def It (prog : Program) (w : World) (S0 : Shared) (n : Nat) (v : V) (H : AH) (xs : List V) (Inv : AH → Prop) : Prop :=
  ∀ A F s u, Rm n A → St prog w S0 F H s → abs u = v → wpAny (model prog w) A (pyIter u) (fun it s' => ∃ I own S, it = .ref I ∧ Wk prog w S0 n I own xs Inv S ∧ S 0 s'.heap ∧ (∀ b ∈ own, s.heap.get? b = none) ∧
    (∃ h' tk, s' = { s with heap := h', toks := tk } ∧ ∀ b o, s.heap.get? b = some o → h'.get? b = some o)) Bot s

theorem St.walk {F : CH} {s : Shared} {own : List Addr} {h' : Heap} {tk : Nat} (f : St prog w S0 F H s) (ho : ∀ b ∈ own, F b = none ∧ H b = none) (hk : ∀ b o, b ∉ own → s.heap.get? b = some o → h'.get? b = some o) :
    St prog w S0 F H { s with heap := h', toks := tk } := by
  refine ⟨let ⟨_, _, e⟩ := f.same; ⟨h', tk, by rw [e]⟩, f.base, fun a o e => hk a o (fun q => ?_) (f.fr a o e), fun a o e => ⟨(f.hp a o e).1, ?_⟩⟩
  · rw [(ho a q).1] at e; cases e
  · obtain ⟨z, hz, m⟩ := f.obj e
    exact ⟨z, hk a z (fun q => by rw [(ho a q).2] at e; cases e) hz, m⟩

theorem Fm.walk {F : CH} {s : Shared} {own : List Addr} {h' : Heap} {tk : Nat} (f : Fm prog w S0 env ρ F H s) (ho : ∀ b ∈ own, F b = none ∧ H b = none ∧ b ≠ env.locals ∧ ∀ x c, env.cells.lookup x = some c → b ≠ c)
    (hk : ∀ b o, b ∉ own → s.heap.get? b = some o → h'.get? b = some o) : Fm prog w S0 env ρ F H { s with heap := h', toks := tk } := by
  have hc : ∀ x c o, env.cells.lookup x = some c → s.heap.get? c = some o → h'.get? c = some o := fun x c o q e => hk c o (fun z => (ho c z).2.2.2 x c q rfl) e
  obtain ⟨m, ⟨oL, es, ep, hL, r⟩, hm⟩ := f.ns
  refine ⟨f.st.walk (fun b hb => ⟨(ho b hb).1, (ho b hb).2.1⟩) hk, f.ok, ⟨m, ⟨oL, es, ep, hk _ _ (fun z => (ho _ z).2.2.1 rfl) hL, r⟩, hm⟩, f.loF, f.loH, fun x c q => ?_, fun x v q1 q2 => ?_, f.kn, f.nd⟩
  · obtain ⟨a, vo, oc, e, d⟩ := f.ce x c q
    exact ⟨a, vo, oc, hc x c oc q e, d⟩
  · obtain ⟨c, u, q, ⟨oc, e, d⟩, ha⟩ := f.cv x v q1 q2
    exact ⟨c, u, q, ⟨oc, hc x c oc q e, d⟩, ha⟩

theorem Fm.grow {F : CH} {s : Shared} {h' : Heap} {tk : Nat} (f : Fm prog w S0 env ρ F H s) (hk : ∀ b o, s.heap.get? b = some o → h'.get? b = some o) : Fm prog w S0 env ρ F H { s with heap := h', toks := tk } :=
  f.walk (own := []) (fun _ h => by cases h) fun b o _ e => hk b o e

/-- what stands at the addresses own is kept besides -/
noncomputable def plus (F : CH) (own : List Addr) (h : Heap) : CH := fun a => if a ∈ own then h.get? a else F a

theorem Fm.plus {F : CH} {s : Shared} {own : List Addr} (f : Fm prog w S0 env ρ F H s) (ho : ∀ b ∈ own, F b = none ∧ H b = none ∧ b ≠ env.locals ∧ ∀ x c, env.cells.lookup x = some c → b ≠ c) :
    Fm prog w S0 env ρ (plus F own s.heap) H s := by
  refine ⟨f.st.more (fun a o e => ?_) (fun a o e => ?_) (fun a o e => ?_), f.ok, f.ns, ?_, f.loH, f.ce, f.cv, f.kn, f.nd⟩
  · unfold Mine.plus; split
    · rename_i q; rw [(ho a q).1] at e; cases e
    · exact e
  · unfold Mine.plus at e; split at e
    · exact e
    · exact f.st.fr a o e
  · unfold Mine.plus; split
    · rename_i q; rw [(ho a q).2.1] at e; cases e
    · exact (f.st.hp a o e).1
  · unfold Mine.plus; split
    · rename_i q; exact absurd rfl (ho _ q).2.2.1
    · exact f.loF

theorem Fm.minus {F : CH} {s : Shared} {own : List Addr} {h : Heap} {H' : AH} {ρ' : Rho} (f : Fm prog w S0 env ρ' (Mine.plus F own h) H' s) (ho : ∀ b ∈ own, F b = none) (hb : ∀ a o, S0.heap.get? a = some o → F a = some o) (hl : F env.locals = none) :
    Fm prog w S0 env ρ' F H' s := by
  refine ⟨f.st.less (fun a o e => ?_) hb, f.ok, f.ns, hl, f.loH, f.ce, f.cv, f.kn, f.nd⟩
  unfold Mine.plus; split
  · rename_i q; rw [ho a q] at e; cases e
  · exact e

theorem Ow.plus {F : CH} {own : List Addr} {h : Heap} (o : Ow env F) (ho : ∀ b ∈ own, ∀ x c, env.cells.lookup x = some c → b ≠ c) : Ow env (plus F own h) :=
  ⟨fun x c hc => ⟨by unfold Mine.plus; split; · rename_i q; exact absurd rfl (ho c q x c hc)
                     · exact (o.cell x c hc).1, (o.cell x c hc).2⟩, o.apart⟩

/-- what a turn of a loop must end in -/
def turnQ (J : Nat → Rho → AH → Prop) (i : Nat) (Q : Flow → Rho → AH → Prop) (f : Flow) (ρ' : Rho) (H' : AH) : Prop := match f with
  | .next => J (i + 1) ρ' H'
  | .cont => J (i + 1) ρ' H'
  | .brk => Q .next ρ' H'
  | .ret v => Q (.ret v) ρ' H'

/-- the words of a loop over the value v -/
def Loop (prog : Program) (w : World) (S0 : Shared) (n : Nat) (env : Env) (x : Str) (body : List Stmt) (Q : Flow → Rho → AH → Prop) (ρ : Rho) (v : V) (H : AH) : Prop :=
  ∃ (xs : List V) (Inv : AH → Prop) (J : Nat → Rho → AH → Prop), It prog w S0 n v H xs Inv ∧ J 0 ρ H ∧ (∀ i ρ' H', J i ρ' H' → Inv H') ∧
    (∀ i y ρ' H', xs[i]? = some y → J i ρ' H' → ∃ ρ'', Up x y ρ' ρ'' ∧ Ex prog w S0 n env ρ'' (execs body env) H' (turnQ J i Q)) ∧ (∀ ρ' H', J xs.length ρ' H' → Q .next ρ' H')

theorem X_for {x : Str} {p pos : Pos} {iter : Expr} {body : List Stmt} {Q : Flow → Rho → AH → Prop} (hs : ∀ y, foldedSetIterable iter env y = pure y)
    (h : EvV prog w S0 n env ρ iter H fun v H₁ => Loop prog w S0 n env x body Q ρ v H₁) : Ex prog w S0 n env ρ (exec (.For (.Name x p) iter body [] pos) env) H Q := .mk <| fun A F s hr o f => by
  refine wpAny_For (bot (h.run A F s hr f) fun u s₁ ⟨H₁, f₁, xs, Inv, J, hit, hJ0, hinv, turn, fin⟩ => ?_) hs
  refine bot (hit A F s₁ u hr f₁.st rfl) fun it s₂ ⟨I, own, S, hI, W, hS, hnew, h₂, tk₂, e₂, hk₂⟩ => ?_
  subst hI; subst e₂
  have f₂ := f₁.grow (tk := tk₂) hk₂
  -- the iterator's own objects stand apart
  have apF : ∀ b ∈ own, F b = none := fun b hb => by
    cases q : F b with
    | none => rfl
    | some z => have := f₁.st.fr _ _ q; rw [hnew b hb] at this; cases this
  have apH : ∀ b ∈ own, H₁ b = none := fun b hb => by
    cases q : H₁ b with
    | none => rfl
    | some z => obtain ⟨y, hy, _⟩ := f₁.st.obj q; rw [hnew b hb] at hy; cases hy
  have apL : ∀ b ∈ own, b ≠ env.locals := fun b hb e => by
    obtain ⟨m, ⟨oL, _, _, hL, _⟩, _⟩ := f₁.ns
    rw [← e, hnew b hb] at hL; cases hL
  have apC : ∀ b ∈ own, ∀ y c, env.cells.lookup y = some c → b ≠ c := fun b hb y c hc e => by
    obtain ⟨_, vo, oc, hoc, _⟩ := f₁.ce y c hc
    rw [← e, hnew b hb] at hoc; cases hoc
  have ap : ∀ (H' : AH), (∀ b ∈ own, H' b = none) → ∀ b ∈ own, F b = none ∧ H' b = none ∧ b ≠ env.locals ∧ ∀ x c, env.cells.lookup x = some c → b ≠ c := fun H' hH b hb => ⟨apF b hb, hH b hb, apL b hb, apC b hb⟩
  refine codeAny_forLoop_any (fun k s' => ∃ i ρ' H', k = xs.length + 1 - i ∧ i ≤ xs.length ∧ Fm prog w S0 env ρ' F H' s' ∧ S i s'.heap ∧ J i ρ' H' ∧ ∀ b ∈ own, H' b = none) ?_ (xs.length + 1) ⟨0, ρ, H₁, rfl, Nat.zero_le _, f₂, hS, hJ0, apH⟩
  rintro k s' ⟨i, ρ', H', rfl, hi, f', hSi, hJ, hH'⟩
  by_cases hlt : i < xs.length
  · obtain ⟨y, hy⟩ : ∃ y, xs[i]? = some y := ⟨xs[i], List.getElem?_eq_getElem hlt⟩
    refine wpAny_mono (W.item i A F H' s' _ hr f'.st (hinv _ _ _ hJ) hSi y hy fun v h₃ tk₃ hv hS₃ hk₃ => ?_) (fun _ _ z => z) fun _ _ z => z.elim
    dsimp only
    have f₃ := f'.walk (tk := tk₃) (ap H' hH') hk₃
    have hlet : letOwnedTupleGo (.Name x p) (.ref I) v = pure () := rfl
    rw [hlet]
    have fp := f₃.plus (ap H' hH')
    obtain ⟨ρ₂, hup, hturn⟩ := turn i y ρ' H' hy hJ
    refine wpAny_pure (wpAny_assign_Name (fp.store (o.plus apC) (hv.symm ▸ hup) fun s₄ f₄ => ?_))
    refine wpAny_mono (hturn.run A _ s₄ hr (o.plus apC) f₄) (fun fl s₅ ⟨ρ'', H'', f₅, q⟩ => ?_) fun _ _ z => z.elim
    have f₆ := f₅.minus apF f'.st.base f'.loF
    have hS₅ : S (i + 1) s₅.heap := W.frame _ _ _ hS₃ fun b hb z hz => f₅.st.fr b z (by unfold Mine.plus; rw [if_pos hb]; exact hz)
    have hH₅ : ∀ b ∈ own, H'' b = none := fun b hb => by
      obtain ⟨z, hz⟩ := W.live _ _ hS₃ b hb
      have hF : Mine.plus F own h₃ b = some z := by unfold Mine.plus; rw [if_pos hb]; exact hz
      cases q : H'' b with
      | none => rfl
      | some z' => rw [(f₅.st.hp _ _ q).1] at hF; cases hF
    cases fl with
    | next => exact ⟨xs.length + 1 - (i + 1), by omega, i + 1, ρ'', H'', rfl, hlt, f₆, hS₅, q, hH₅⟩
    | cont => exact ⟨xs.length + 1 - (i + 1), by omega, i + 1, ρ'', H'', rfl, hlt, f₆, hS₅, q, hH₅⟩
    | brk => exact ⟨ρ'', H'', f₆, q⟩
    | ret v => exact ⟨ρ'', H'', f₆, q⟩
  · have hin : i = xs.length := Nat.le_antisymm hi (Nat.not_lt.mp hlt)
    subst hin
    refine wpAny_mono (W.done A F H' s' _ hr f'.st (hinv _ _ _ hJ) hSi fun h₃ tk₃ hk₃ => ?_) (fun _ _ z => z) fun _ _ z => z.elim
    exact wpAny_execs_nil ⟨ρ', H', f'.walk (tk := tk₃) (ap H' hH') hk₃, fin _ _ hJ⟩
end
section
variable {prog : Program} {w : World} {S0 : Shared} {K : Frag} {G : List (Str × V)} {n : Nat} {env : Env} {ρ : Rho} {H : AH}

/-! ### iterables -/
theorem It_list {a : Addr} {xs : List V} (ha : H a = some (.list xs)) : It prog w S0 n (.ref a) H xs fun H' => H' a = some (.list xs) := fun A F s u hr f hu => by
  rw [abs_ref hu]
  obtain ⟨o, ho, vs, ep, hoe, hxs, hl⟩ := f.obj ha
  subst hoe
  have hlist : s.heap.IsList a vs := ⟨_, ho, rfl, ep, rfl⟩
  have fr : s.heap.get? s.heap.objs.size = none := by
    cases q : s.heap.get? s.heap.objs.size with
    | none => rfl
    | some z => exact absurd (Heap.lt_size q) (Nat.lt_irrefl _)
  refine wpAny_pyIter_list hlist ⟨s.heap.objs.size, [s.heap.objs.size], fun i h => h.IsListIter s.heap.objs.size a i, rfl, ⟨fun i h h' hS hk => ?_, fun i h hS b hb => ?_, fun i A s Q hS hQ => wpAny_pyIter_listiter hS hQ, fun i A F H s Q hr f hInv hS x hx hQ => ?_, fun A F H s Q hr f hInv hS hQ => ?_⟩,
    ⟨_, Heap.get?_push_size _ rfl, rfl, rfl⟩, fun b hb => by rw [List.mem_singleton.mp hb]; exact fr, ⟨_, s.toks, rfl, fun b o e => Heap.get?_push_of_some _ e⟩⟩
  · obtain ⟨o, e, r⟩ := hS
    exact ⟨o, hk _ (List.mem_singleton.mpr rfl) o e, r⟩
  · obtain ⟨o, e, r⟩ := hS
    rw [List.mem_singleton.mp hb]; exact ⟨o, e⟩
  · obtain ⟨o, ho, vs, ep, hoe, hxs, hl⟩ := f.obj hInv
    subst hoe
    have hi : (vs[i]?).map abs = some x := by
      have : (vs.toList.map abs)[i]? = some x := by rw [hxs]; exact hx
      rwa [List.getElem?_map, Array.getElem?_toList] at this
    obtain ⟨v, hv, hvx⟩ := Option.map_eq_some_iff.mp hi
    exact wpAny_pyNext_list_item hS ⟨_, ho, rfl, ep, rfl⟩ hv fun h' hit hs => hQ v h' s.toks hvx hit fun b o hb e => hs.extBut b o (fun q => hb (List.mem_singleton.mpr q)) e
  · obtain ⟨o, ho, vs, ep, hoe, hxs, hl⟩ := f.obj hInv
    subst hoe
    have hn : vs[xs.length]? = none := by
      rw [← hxs, List.length_map, Array.length_toList]; simp
    exact wpAny_pyNext_list_end hr.2.2 hS ⟨_, ho, rfl, ep, rfl⟩ hn fun h' he => hQ h' s.toks fun b o hb e => he b o (fun q => hb (List.mem_singleton.mpr q)) e

noncomputable def nums (k : Nat) : List V := (List.range k).map fun i : Nat => V.int (i : Int)
theorem nums_get {k i : Nat} (h : i < k) : (nums k)[i]? = some (.int i) := by simp [nums, h]
theorem nums_length (k : Nat) : (nums k).length = k := by simp [nums]

theorem It_rng {a : Addr} {k : Nat} (ha : H a = some (.rng k)) (hk : k ≤ lid) : It prog w S0 n (.ref a) H (nums k) fun _ => True := fun A F s u hr f hu => by
  rw [abs_ref hu]
  obtain ⟨o, ho, t, u', v, rfl⟩ := f.obj ha
  have hk' : (k : Int) < 2 ^ 62 := by unfold lid at hk; omega
  have hsz : Builtin.Range.rangeSize 0 k 1 = k := by rw [rangeSize_one]; split <;> omega
  have fr : s.heap.get? s.heap.objs.size = none := by
    cases q : s.heap.get? s.heap.objs.size with
    | none => rfl
    | some z => exact absurd (Heap.lt_size q) (Nat.lt_irrefl _)
  refine wpAny_pyIter_range ho (small_one (by decide) (by decide) (by omega) hk') ?_
  rw [hsz]
  refine ⟨s.heap.objs.size, [s.heap.objs.size], fun i h => IsRangeIter h s.heap.objs.size (0 + (i : Nat) * 1) ((k : Int) - (i : Nat)) 1, rfl, ⟨fun i h h' hS hk => hk _ (List.mem_singleton.mpr rfl) _ hS, fun i h hS b hb => ?_, fun i A s Q hS hQ => wpAny_pyIter_rangeiter hS hQ, fun i A F H s Q hr f hInv hS x hx hQ => ?_, fun A F H s Q hr f hInv hS hQ => ?_⟩,
    ?_, fun b hb => by rw [List.mem_singleton.mp hb]; exact fr, ⟨_, s.toks, rfl, fun b o e => Heap.get?_push_of_some _ e⟩⟩
  · rw [List.mem_singleton.mp hb]; exact ⟨_, hS⟩
  · have hi : i < k := by
      have := (List.getElem?_eq_some_iff.mp hx).1
      rwa [nums_length] at this
    rw [nums_get hi] at hx; cases hx
    refine (Walks.range (prog := prog) (w := w) hr.2.2 _ 0 1 k).item i s Q _ hi hS fun v h' tk hv hS' hk' => ?_
    obtain ⟨t, rfl⟩ := hv
    exact hQ _ h' tk (by show V.int _ = V.int _; rw [Int.zero_add, Int.mul_one]) hS' hk'
  · rw [nums_length] at hS
    exact (Walks.range (prog := prog) (w := w) hr.2.2 _ 0 1 k).done s Q _ hS fun h' tk hk' => hQ h' tk hk'
  · show IsRangeIter _ _ _ _ _
    have := Heap.get?_push_size s.heap (o := { cls := .type "range_iterator", data := .fields #[rawInt 0, rawInt (k : Int), rawInt 1] }) rfl
    simpa using this
end
section
variable {prog : Program} {w : World} {S0 : Shared} {K : Frag} {G : List (Str × V)} {n : Nat} {env : Env} {ρ : Rho} {H : AH}

/-! ### comprehensions -/
/-- the frame's own objects are kept besides -/
noncomputable def full (env : Env) (F : CH) (h : Heap) : CH := fun a => if a = env.locals then h.get? a else if (env.cells.any fun p => env.cells.lookup p.1 == some a) then h.get? a else F a

theorem Fm.full {F : CH} {s : Shared} (x : Fm prog w S0 env ρ F H s) : St prog w S0 (full env F s.heap) H s := by
  have x' : ∀ a o, H a = some o → ¬(a = env.locals ∨ (∃ y, env.cells.lookup y = some a)) := fun a o e q => by
    rcases q with rfl | ⟨y, q⟩
    · rw [x.loH] at e; cases e
    · rw [(x.ce _ _ q).1] at e; cases e
  refine x.st.more (fun a o e => ?_) (fun a o e => ?_) (fun a o e => ?_)
  · unfold Mine.full
    split
    · exact x.st.fr a o e
    · split
      · exact x.st.fr a o e
      · exact e
  · unfold Mine.full at e
    split at e
    · exact e
    · split at e
      · exact e
      · exact x.st.fr a o e
  · unfold Mine.full
    split
    · rename_i q; exact absurd (.inl q) (x' a o e)
    · split
      · rename_i q
        obtain ⟨p, _, hp⟩ := List.any_eq_true.mp q
        exact absurd (.inr ⟨p.1, beq_iff_eq.mp hp⟩) (x' a o e)
      · exact (x.st.hp a o e).1

theorem full_loc {F : CH} {h : Heap} : full env F h env.locals = h.get? env.locals := by unfold full; rw [if_pos rfl]
theorem full_cell {F : CH} {h : Heap} {y : Str} {c : Addr} (hy : env.cells.lookup y = some c) : full env F h c = h.get? c := by
  unfold full
  split
  · rfl
  · rw [if_pos]
    exact List.any_eq_true.mpr ⟨(y, c), mem_of_lookup hy, by rw [hy]; exact beq_self_eq_true _⟩

/-- the frame stands again, where its own objects were kept -/
theorem Fm.again {F F' : CH} {s s' : Shared} {H' : AH} (x : Fm prog w S0 env ρ F H s) (st : St prog w S0 F' H' s') (hF : ∀ a o, Mine.full env F s.heap a = some o → F' a = some o) : Fm prog w S0 env ρ F H' s' := by
  obtain ⟨m, ⟨oL, es, ep, hL, r⟩, hm⟩ := x.ns
  have kl : F' env.locals = some oL := hF _ _ (full_loc.trans hL)
  have kc : ∀ y c o, env.cells.lookup y = some c → s.heap.get? c = some o → F' c = some o := fun y c o hy e => hF _ _ ((full_cell hy).trans e)
  have no : ∀ a o, F' a = some o → H' a = none := fun a o e => by
    cases q : H' a with
    | none => rfl
    | some z => rw [(st.hp a z q).1] at e; cases e
  refine ⟨st.less (fun a o e => hF _ _ ?_) x.st.base, x.ok, ⟨m, ⟨oL, es, ep, st.fr _ _ kl, r⟩, hm⟩, x.loF, no _ _ kl, fun y c hy => ?_, fun y v hv hk => ?_, x.kn, x.nd⟩
  · unfold Mine.full
    split
    · exact x.st.fr a o e
    · split
      · exact x.st.fr a o e
      · exact e
  · obtain ⟨hc, vo, oc, ho, hd⟩ := x.ce y c hy
    exact ⟨no _ _ (kc y c oc hy ho), vo, oc, st.fr _ _ (kc y c oc hy ho), hd⟩
  · obtain ⟨c, u, hc, ⟨oc, ho, hd⟩, e⟩ := x.cv y v hv hk
    exact ⟨c, u, hc, ⟨oc, st.fr _ _ (kc y c oc hc ho), hd⟩, e⟩

/-- the closure of a comprehension -/
noncomputable def clo (cells : List (Str × Addr)) : List (Str × NameKind) → List (Str × Addr) → List (Str × Addr)
  | [], acc => acc
  | (y, k) :: r, acc => if k == .free then clo cells r ((y, (cells.lookup y).getD 0) :: acc) else clo cells r acc

theorem clo_eq (env : Env) : ∀ (names : List (Str × NameKind)) (acc : List (Str × Addr)), (∀ p ∈ names, p.2 = .free → (env.cells.lookup p.1).isSome = true) →
    (forIn names acc fun x cs => (do if x.2 == .free then let c ← cellOf env x.1; pure (ForInStep.yield ((x.1, c) :: cs)) else pure (ForInStep.yield cs) : Sem _)) = (Pure.pure (clo env.cells names acc) : Sem _)
  | [], acc, _ => rfl
  | (y, k) :: r, acc, h => by
    rw [List.forIn_cons]
    unfold clo
    by_cases hk : (k == .free) = true
    · obtain ⟨c, hc⟩ := Option.isSome_iff_exists.mp (h (y, k) (.head _) (beq_iff_eq.mp hk))
      simp only [hk, if_true]
      unfold cellOf
      simp only [hc, Option.getD_some]
      exact clo_eq env r _ fun p hp => h p (.tail _ hp)
    · simp only [hk]
      exact clo_eq env r _ fun p hp => h p (.tail _ hp)

theorem closureFor_clo {scope : Scope} (h : ∀ p ∈ scope.names, p.2 = .free → (env.cells.lookup p.1).isSome = true) : closureFor scope env = pure (clo env.cells scope.names []) := by
  have := clo_eq env scope.names [] h
  unfold closureFor
  exact (congrArg (fun t : Sem (List (Str × Addr)) => t >>= fun cs => Pure.pure cs) this).trans rfl

theorem clo_lookup (cells : List (Str × Addr)) : ∀ (names : List (Str × NameKind)) (acc : List (Str × Addr)) (y : Str) (c : Addr), (clo cells names acc).lookup y = some c → acc.lookup y = some c ∨ c = (cells.lookup y).getD 0 ∧ (y, NameKind.free) ∈ names
  | [], acc, y, c, h => .inl h
  | (z, k) :: r, acc, y, c, h => by
    unfold clo at h
    split at h
    · rename_i hk
      rcases clo_lookup cells r _ y c h with q | ⟨q1, q2⟩
      · rw [List.lookup_cons] at q
        by_cases e : y = z
        · subst e; simp only [beq_self_eq_true] at q; cases q
          exact .inr ⟨rfl, by rw [beq_iff_eq.mp hk]; exact .head _⟩
        · rw [beq_eq_false_iff_ne.mpr e] at q; exact .inl q
      · exact .inr ⟨q1, .tail _ q2⟩
    · rcases clo_lookup cells r _ y c h with q | ⟨q1, q2⟩
      · exact .inl q
      · exact .inr ⟨q1, .tail _ q2⟩
theorem clo_has (cells : List (Str × Addr)) : ∀ (names : List (Str × NameKind)) (acc : List (Str × Addr)) (y : Str), ((y, NameKind.free) ∈ names ∨ (acc.lookup y).isSome = true) → ((clo cells names acc).lookup y).isSome = true
  | [], acc, y, h => h.elim (fun q => by cases q) id
  | (z, k) :: r, acc, y, h => by
    unfold clo
    split
    · rename_i hk
      refine clo_has cells r _ y ?_
      rcases h with q | q
      · cases q with
        | head => exact .inr (by rw [List.lookup_cons, beq_self_eq_true]; rfl)
        | tail _ q => exact .inl q
      · right
        rw [List.lookup_cons]
        split
        · rfl
        · exact q
    · rename_i hk
      refine clo_has cells r _ y ?_
      rcases h with q | q
      · cases q with
        | head => exact absurd rfl hk
        | tail _ q => exact .inl q
      · exact .inr q

/-- the frame of a comprehension's turns -/
noncomputable abbrev cE (scope : Scope) (C : Addr) (env : Env) : Env := compEnvC scope (clo env.cells scope.names []) C env

structure CompOk (env : Env) (scope : Scope) (x : Str) (caps Gs : List Str) : Prop where
  kind : scope.kind = .function
  cell : ∀ y ∈ scope.names, y.2 ≠ .cell
  names : ∀ y ∈ scope.names, y.2 = .local → scope.names.lookup y.1 = some .local
  tgt : scope.names.lookup x = some .local
  free : ∀ y ∈ scope.names, y.2 = .free → env.kindOf y.1 = some .cell ∧ scope.names.lookup y.1 = some .free
  nd : (x :: caps).Nodup
  tdbg : ndbg x = true
  caps : ∀ y ∈ caps, scope.names.lookup y = some .free ∧ env.kindOf y = some .cell ∧ ndbg y = true
  gs : ∀ y ∈ Gs, scope.names.lookup y = some .globalImplicit ∧ ndbg y = true

noncomputable def compOk (esc : Scope) (scope : Scope) (x : Str) (caps Gs : List Str) : Bool :=
  (scope.kind == .function && (scope.names.all fun y => match y.2 with
    | .cell => false
    | .local => scope.names.lookup y.1 == some .local
    | .free => (esc.names.lookup y.1 == some .cell) && (scope.names.lookup y.1 == some .free)
    | _ => true) && scope.names.lookup x == some .local) && (decide (x :: caps).Nodup && ndbg x && (caps.all fun y => scope.names.lookup y == some .free && (esc.names.lookup y == some .cell && ndbg y)) && (Gs.all fun y => scope.names.lookup y == some .globalImplicit && ndbg y))
theorem compOk_of {scope : Scope} {x : Str} {caps Gs : List Str} (h : compOk env.scope scope x caps Gs = true) : CompOk env scope x caps Gs := by
  unfold compOk at h
  rw [Bool.and_eq_true] at h
  obtain ⟨h, h'⟩ := h
  simp only [Bool.and_eq_true, beq_iff_eq, decide_eq_true_eq] at h h'
  obtain ⟨⟨h1, h2⟩, h3⟩ := h
  obtain ⟨⟨⟨q1, q2⟩, q3⟩, q4⟩ := h'
  have g := List.all_eq_true.mp h2
  refine ⟨h1, fun y hy e => ?_, fun y hy e => ?_, h3, fun y hy e => ?_, q1, q2, fun y hy => ?_, fun y hy => ?_⟩
  · have := g y hy; rw [e] at this; cases this
  · have := g y hy; rw [e] at this; exact beq_iff_eq.mp this
  · have := g y hy; rw [e] at this; simp only [Bool.and_eq_true, beq_iff_eq] at this; exact this
  · have := List.all_eq_true.mp q3 y hy
    simp only [Bool.and_eq_true, beq_iff_eq] at this
    exact this
  · have := List.all_eq_true.mp q4 y hy
    simp only [Bool.and_eq_true, beq_iff_eq] at this
    exact this

theorem relabel_lookup {env : Env} : ∀ {names : List (Str × NameKind)} {y : Str}, (names.map fun (n, k) => if (k == NameKind.free && env.scope.kind == .function && env.kindOf n == some .cell) then (n, NameKind.cell) else (n, k)).lookup y =
    (names.lookup y).map fun k => if (k == NameKind.free && env.scope.kind == .function && env.kindOf y == some .cell) then NameKind.cell else k
  | [], _ => rfl
  | (z, k') :: r, y => by
    have ih := @relabel_lookup env r y
    rw [List.map_cons]
    dsimp only
    by_cases hc : (k' == .free && env.scope.kind == .function && env.kindOf z == some .cell) = true
    · rw [if_pos hc, List.lookup_cons, List.lookup_cons]
      cases hb : y == z with
      | false => exact ih
      | true =>
        have e : y = z := beq_iff_eq.mp hb
        subst e
        simp only [Option.map_some, hc, if_true]
    · rw [if_neg hc, List.lookup_cons, List.lookup_cons]
      cases hb : y == z with
      | false => exact ih
      | true =>
        have e : y = z := beq_iff_eq.mp hb
        subst e
        simp only [Option.map_some, hc]; rfl

/-- what a block reads of the outer frame -/
structure Cap (ρ : Rho) (caps : List Str) (ρc : Rho) : Prop where
  names : ρc.map (·.1) = caps
  mem : ∀ p ∈ ρc, p ∈ ρ

theorem kind_cE {scope : Scope} {C : Addr} (y : Str) : (cE scope C env).kindOf y = (scope.names.lookup y).map fun k => if (k == NameKind.free && env.scope.kind == .function && env.kindOf y == some .cell) then NameKind.cell else k := relabel_lookup

/-- the turn's frame stands over the outer one -/
theorem Fm.inner {F F' : CH} {s : Shared} {scope : Scope} {x : Str} {caps Gs : List Str} {ρc : Rho} {C : Addr} {H' : AH} {s' : Shared} {m : Str → Option Value} (f : Fm prog w S0 env ρ F H s) (c : CompOk env scope x caps Gs) (hc : Cap ρ caps ρc) (st : St prog w S0 F' H' s') (hF : ∀ a o, Mine.full env F s.heap a = some o → F' a = some o)
    (hn : s'.heap.Ns C m) (hCF : F' C = none) (hCH : H' C = none) : Fm prog w S0 (cE scope C env) ((x, none) :: ρc) F' H' s' := by
  have kc : ∀ y c o, env.cells.lookup y = some c → s.heap.get? c = some o → F' c = some o := fun y c o hy e => hF _ _ ((full_cell hy).trans e)
  have no : ∀ a o, F' a = some o → H' a = none := fun a o e => by
    cases q : H' a with
    | none => rfl
    | some z => rw [(st.hp a z q).1] at e; cases e
  have kinds : ∀ y, (cE scope C env).kindOf y = some .cell → scope.names.lookup y = some .free ∧ env.kindOf y = some .cell := fun y h => by
    rw [kind_cE] at h
    obtain ⟨k, hk1, hk2⟩ := Option.map_eq_some_iff.mp h
    split at hk2
    · rename_i hc
      simp only [Bool.and_eq_true, beq_iff_eq] at hc
      exact ⟨by rw [hk1, hc.1.1], hc.2⟩
    · rw [hk2] at hk1; exact absurd rfl (c.cell _ (mem_of_lookup hk1))
  have cl : ∀ y d, (clo env.cells scope.names []).lookup y = some d → env.cells.lookup y = some d := fun y d h => by
    rcases clo_lookup env.cells scope.names [] y d h with q | ⟨q1, q2⟩
    · cases q
    · obtain ⟨d', hd'⟩ := Option.isSome_iff_exists.mp (f.ok.cells y (c.free _ q2 rfl).1)
      rw [hd', Option.getD_some] at q1
      rw [q1]; exact hd'
  have capn : ∀ p ∈ ρc, p.1 ∈ caps := fun p hp => by rw [← hc.names]; exact List.mem_map_of_mem (f := (·.1)) hp
  have kcap : ∀ y ∈ caps, (cE scope C env).kindOf y = some .cell := fun y hy => by
    obtain ⟨a, b, _⟩ := c.caps y hy
    rw [kind_cE, a, b, f.ok.kind]; rfl
  refine ⟨st, ⟨c.kind, f.ok.glob, f.ok.blt, fun y h => clo_has _ _ _ _ (.inl (mem_of_lookup (kinds y h).1))⟩, ⟨m, hn, fun y v hv hk => ?_⟩, hCF, hCH, fun y d hd => ?_, fun y v hv hk => ?_, fun p hp => ?_, ?_⟩
  · exfalso
    rcases List.mem_cons.mp hv with e | hv
    · cases e
    · rw [kcap y (capn _ hv)] at hk; cases hk
  · have hd' := cl y d hd
    obtain ⟨_, vo, oc, ho, hdt⟩ := f.ce y d hd'
    have hF' := kc y d oc hd' ho
    exact ⟨no _ _ hF', vo, oc, st.fr _ _ hF', hdt⟩
  · rcases List.mem_cons.mp hv with e | hv
    · cases e
    obtain ⟨q1, q2⟩ := kinds y hk
    obtain ⟨d, u, hd, ⟨oc, ho, hdt⟩, ha⟩ := f.cv y v (hc.mem _ hv) q2
    have hF' := kc y d oc hd ho
    obtain ⟨d', hd'⟩ := Option.isSome_iff_exists.mp (clo_has env.cells scope.names [] y (.inl (mem_of_lookup q1)))
    have := cl y d' hd'
    rw [hd] at this; cases this
    exact ⟨d, u, hd', ⟨oc, st.fr _ _ hF', hdt⟩, ha⟩
  · rcases List.mem_cons.mp hp with e | hp
    · subst e
      exact ⟨by rw [kind_cE, c.tgt]; rfl, c.tdbg⟩
    · exact ⟨by rw [kcap _ (capn p hp)]; rfl, (c.caps _ (capn p hp)).2.2⟩
  · rw [List.map_cons, hc.names]; exact c.nd

theorem glob_cE {scope : Scope} {x : Str} {caps Gs : List Str} (c : CompOk env scope x caps Gs) (C : Addr) : Glob (cE scope C env) Gs := fun y hy => by
  obtain ⟨a, b⟩ := c.gs y hy
  exact ⟨by rw [kind_cE, a]; rfl, b⟩

theorem closure_ok {scope : Scope} {x : Str} {caps Gs : List Str} {F : CH} {s : Shared} (f : Fm prog w S0 env ρ F H s) (c : CompOk env scope x caps Gs) : closureFor scope env = Pure.pure (clo env.cells scope.names []) :=
  closureFor_clo fun p hp hk => f.ok.cells p.1 (c.free p hp hk).1

/-- the tests of a comprehension, then its element -/
def Elt (prog : Program) (w : World) (S0 : Shared) (n : Nat) (env : Env) (ρ : Rho) (ifs : List Expr) (elt : Expr) (H : AH) (Q : Option V → AH → Prop) : Prop := match ifs with
  | [] => EvV prog w S0 n env ρ elt H fun v H' => Q (some v) H'
  | [c] => EvT prog w S0 n env ρ c H fun b H' => if b then EvV prog w S0 n env ρ elt H' fun v H'' => Q (some v) H'' else Q none H'
  | _ => False

/-- the words of a comprehension over the value v -/
def CompW (prog : Program) (w : World) (S0 : Shared) (n : Nat) (env : Env) (ρc : Rho) (Gs : List Str) (scope : Scope) (x : Str) (ifs : List Expr) (elt : Expr) (Q : List V → AH → Prop) (v : V) (H : AH) : Prop :=
  ∃ (xs : List V) (Inv : AH → Prop) (J : Nat → List V → AH → Prop), It prog w S0 n v H xs Inv ∧ xs.length ≤ lid ∧ J 0 [] H ∧ (∀ i ys H', J i ys H' → Inv H') ∧
    (∀ i y ys H' C, xs[i]? = some y → J i ys H' → Glob (cE scope C env) Gs → Elt prog w S0 n (cE scope C env) ((x, some y) :: ρc) ifs elt H' fun r H'' => match r with
      | some z => J (i + 1) (ys ++ [z]) H''
      | none => J (i + 1) ys H'') ∧ (∀ ys H', J xs.length ys H' → Q ys H')

/-- what stands when a comprehension's loop is through -/
structure CompEnd (prog : Program) (w : World) (S0 : Shared) (env : Env) (ρ : Rho) (F : CH) (Q : List V → AH → Prop) (D C : Addr) (s' : Shared) : Prop where
  out : ∃ ys H' m, Fm prog w S0 env ρ F H' s' ∧ Q ys H' ∧ s'.heap.Ns C m ∧ (∃ o, s'.heap.get? D = some o ∧ OM prog w (.list ys) o) ∧ H' D = none ∧ F D = none ∧ H' C = none ∧ F C = none ∧ D ≠ C ∧
    (D ≠ env.locals ∧ C ≠ env.locals) ∧ ∀ y c, env.cells.lookup y = some c → D ≠ c ∧ C ≠ c
end
section
variable {prog : Program} {w : World} {S0 : Shared} {K : Frag} {G : List (Str × V)} {n : Nat} {env : Env} {ρ : Rho} {H : AH}

theorem Wk.of_le {m : Nat} {I : Addr} {own : List Addr} {xs : List V} {Inv : AH → Prop} {S : Nat → Heap → Prop} (W : Wk prog w S0 n I own xs Inv S) (h : n ≤ m) : Wk prog w S0 m I own xs Inv S :=
  ⟨W.frame, W.live, W.self, fun i A F H s Q hr => W.item i A F H s Q (hr.le h), fun A F H s Q hr => W.done A F H s Q (hr.le h)⟩

/-- one turn's tests and element -/
theorem elt_run {A : Around} {F : CH} {s : Shared} {ifs : List Expr} {elt : Expr} {Qn : Option V → AH → Prop} {E : Value → Shared → Prop} {Qe : Value → Shared → Prop} {Qs : Shared → Prop} (hr : Rm n A) (f : Fm prog w S0 env ρ F H s) (h : Elt prog w S0 n env ρ ifs elt H Qn)
    (he : ∀ z s' H', Fm prog w S0 env ρ F H' s' → Qn (some (abs z)) H' → Qe z s') (hs : ∀ s' H', Fm prog w S0 env ρ F H' s' → Qn none H' → Qs s') :
    wpAny (model prog w) A (forIn ifs true fun c r => if r = true then do let ok ← PySem.isTrue c env (eval c env); pure (ForInStep.yield ok) else pure (ForInStep.yield r))
      (fun ok s₃ => if ok = true then wpAny (model prog w) A (eval elt env) Qe E s₃ else Qs s₃) E s := by
  unfold Elt at h
  split at h
  · refine wpAny_tests_nil ?_
    rw [if_pos rfl]
    exact bot (h.run A F s hr f) fun z s' ⟨H', f', q⟩ => he z s' H' f' q
  · refine wpAny_tests_one (bot (h.run A F s hr f) fun b s₁ ⟨H₁, f₁, h₁⟩ => ?_)
    cases b with
    | true => rw [if_pos rfl]; exact bot (h₁.run A F s₁ hr f₁) fun z s' ⟨H', f', q⟩ => he z s' H' f' q
    | false => rw [if_neg (by decide)]; exact hs s₁ H₁ f₁ h₁
  · exact h.elim

theorem comp_loop {A : Around} {F : CH} {s : Shared} {elt iter : Expr} {x : Str} {px pos : Pos} {ifs : List Expr} {scope : Scope} {E : Value → Shared → Prop} {RR : Value → Addr → Result → Shared → Prop} {Q : List V → AH → Prop} {caps Gs : List Str} {ρc : Rho}
    {I : Addr} {own : List Addr} {xs : List V} {Inv : AH → Prop} {S : Nat → Heap → Prop} {J : Nat → List V → AH → Prop} (hr : Rm n A) (f : Fm prog w S0 env ρ F H s) (c : CompOk env scope x caps Gs) (hcap : Cap ρ caps ρc)
    (W : Wk prog w S0 n I own xs Inv S) (hS : S 0 s.heap) (ap : ∀ b ∈ own, F b = none ∧ H b = none ∧ b ≠ env.locals ∧ ∀ x c, env.cells.lookup x = some c → b ≠ c) (hlen : xs.length ≤ lid) (hJ0 : J 0 [] H) (hinv : ∀ i ys H', J i ys H' → Inv H')
    (turn : ∀ i y ys H' C, xs[i]? = some y → J i ys H' → Glob (cE scope C env) Gs → Elt prog w S0 n (cE scope C env) ((x, some y) :: ρc) ifs elt H' fun r H'' => match r with
      | some z => J (i + 1) (ys ++ [z]) H''
      | none => J (i + 1) ys H'')
    (fin : ∀ ys H', J xs.length ys H' → Q ys H')
    (hRR : ∀ D C s', CompEnd prog w S0 env ρ F Q D C s' → RR (.ref D) C (.ok .next) s') :
    wpAny (model prog w) A (newList []) (fun acc s₃ => wpAny (model prog w) A (newFunctionEnv scope env.globals (clo env.cells scope.names []) [] env.qual none .none (some env)) (fun cenv s₄ =>
      codeAny (model prog w) A (.compStart (.ListComp elt [⟨.Name x px, iter, ifs, 0⟩] scope pos) 0 (.ref I) acc { cenv with scope := relabel scope env }) (RR acc cenv.locals) s₄) E s₃) E s := by
  have fresh : ∀ a, s.heap.objs.size ≤ a → s.heap.get? a = none := fun a ha => by
    cases e : s.heap.get? a with
    | none => rfl
    | some o' => exact absurd (Heap.lt_size e) (Nat.not_lt.mpr ha)
  refine wpAny_newObj_type (wpAny_newFunctionEnv c.cell (by intro y hy; cases hy) (fun h₁ hns₁ hsb₁ => ?_) c.kind)
  dsimp only at hns₁ hsb₁ ⊢
  generalize hH2 : s.heap.push { cls := .type "list", dict := none, data := .seq ([] : List Value).toArray } = H2 at hns₁ hsb₁ ⊢
  generalize hD : s.heap.objs.size = D at fresh hns₁ hsb₁ ⊢
  have hCs : H2.objs.size = D + 1 := by rw [← hH2, Heap.size_push, hD]
  generalize hC : H2.objs.size = C at hns₁ hsb₁ hCs ⊢
  have hDC : D ≠ C := by omega
  have newD : s.heap.get? D = none := fresh D (Nat.le_refl _)
  have newC : s.heap.get? C = none := fresh C (by omega)
  have old : ∀ b o, s.heap.get? b = some o → h₁.get? b = some o := fun b o e => hsb₁.extBut b o (Nat.ne_of_lt (Nat.lt_of_lt_of_le (hD ▸ Heap.lt_size e) (by omega))) (Heap.get?_push_of_some _ (hH2 ▸ Heap.get?_push_of_some _ e))
  have hacc : h₁.PlainList D #[] := ⟨_, hsb₁.extBut _ _ hDC (Heap.get?_push_of_some _ (hH2 ▸ hD ▸ Heap.get?_push_size _ rfl))⟩
  -- what is new stands apart
  have apF : ∀ b, s.heap.get? b = none → F b = none := fun b hb => by
    cases q : F b with
    | none => rfl
    | some z => have := f.st.fr _ _ q; rw [hb] at this; cases this
  have apH : ∀ b, s.heap.get? b = none → H b = none := fun b hb => by
    cases q : H b with
    | none => rfl
    | some z => obtain ⟨y, hy, _⟩ := f.st.obj q; rw [hb] at hy; cases hy
  have apL : ∀ b, s.heap.get? b = none → b ≠ env.locals := fun b hb e => by
    obtain ⟨m, ⟨oL, _, _, hL, _⟩, _⟩ := f.ns
    rw [← e, hb] at hL; cases hL
  have apC : ∀ b, s.heap.get? b = none → ∀ y c, env.cells.lookup y = some c → b ≠ c := fun b hb y c hc e => by
    obtain ⟨_, vo, oc, hoc, _⟩ := f.ce y c hc
    rw [← e, hb] at hoc; cases hoc
  have hownD : ∀ b ∈ own, b ≠ D ∧ b ≠ C := fun b hb => by
    obtain ⟨o, ho⟩ := W.live _ _ hS b hb
    exact ⟨(fun e => by rw [e, newD] at ho; cases ho), (fun e => by rw [e, newC] at ho; cases ho)⟩
  have clC : ∀ y d, (clo env.cells scope.names []).lookup y = some d → d ≠ C := fun y d h e => by
    rcases clo_lookup env.cells scope.names [] y d h with q | ⟨q1, q2⟩
    · cases q
    · obtain ⟨d', hd'⟩ := Option.isSome_iff_exists.mp (f.ok.cells y (c.free _ q2 rfl).1)
      rw [hd', Option.getD_some] at q1
      exact apC C newC y d' hd' (by rw [← e, q1])
  let P : Nat → Shared → Prop := fun k s' => ∃ i ys H' items m, k = xs.length + 1 - i ∧ i ≤ xs.length ∧ Fm prog w S0 env ρ F H' s' ∧ S i s'.heap ∧ J i ys H' ∧ s'.heap.Ns C m ∧ s'.heap.PlainList D items ∧ items.toList.map abs = ys ∧ items.size ≤ i ∧
    (∀ b, b ∈ own ∨ b = D ∨ b = C → H' b = none)
  have start : P (xs.length + 1) { s with heap := h₁, toks := s.toks + ([] : List (Str × Value)).length } :=
    ⟨0, [], H, #[], _, rfl, Nat.zero_le _, f.grow old, W.frame _ _ _ hS fun b _ o e => old b o e, hJ0, hns₁, hacc, rfl, Nat.le_refl _, fun b hb => by
      rcases hb with hb | rfl | rfl
      · exact (ap b hb).2.1
      · exact apH _ newD
      · exact apH _ newC⟩
  have loop : codeAny (model prog w) A (.compLoop (.ListComp elt [⟨.Name x px, iter, ifs, 0⟩] scope pos) 0 (.ref I) (.ref D) (cE scope C env)) (RR (.ref D) C) { s with heap := h₁, toks := s.toks + ([] : List (Str × Value)).length } := by
    refine codeAny_compLoop_tests P ?_ _ start
    rintro k s' ⟨i, ys, H', items, m, rfl, hi, f', hSi, hJ, hn', hD', hys, hit, hno⟩
    have ap' : ∀ b ∈ own, F b = none ∧ H' b = none ∧ b ≠ env.locals ∧ ∀ x c, env.cells.lookup x = some c → b ≠ c := fun b hb => ⟨(ap b hb).1, hno b (.inl hb), (ap b hb).2.2⟩
    by_cases hlt : i < xs.length
    · obtain ⟨y, hy⟩ : ∃ y, xs[i]? = some y := ⟨xs[i], List.getElem?_eq_getElem hlt⟩
      refine wpAny_mono (W.item i A F H' s' _ hr f'.st (hinv _ _ _ hJ) hSi y hy fun v h₃ tk₃ hv hS₃ hk₃ => ?_) (fun _ _ z => z) fun _ _ z => z.elim
      dsimp only
      have f₃ := f'.walk (tk := tk₃) ap' hk₃
      have hn₃ : h₃.Ns C m := let ⟨o, es, ep, e, r⟩ := hn'; ⟨o, es, ep, hk₃ C o (fun q => (hownD C q).2 rfl) e, r⟩
      obtain ⟨nD, hDo⟩ := hD'
      have hD₃ : h₃.get? D = some { cls := .type "list", data := .seq items nD } := hk₃ D _ (fun q => (hownD D q).1 rfl) hDo
      -- the frame of the turn
      generalize hs₃ : ({ s' with heap := h₃, toks := tk₃ } : Shared) = s₃ at f₃ ⊢
      have hh₃ : s₃.heap = h₃ := by rw [← hs₃]
      rw [← hh₃] at hn₃ hD₃ hS₃
      clear hs₃ hk₃ hh₃
      let F' : CH := fun a => if a ∈ own ∨ a = D then s₃.heap.get? a else Mine.full env F s₃.heap a
      have fullno : ∀ a, a ∈ own ∨ a = D → ∀ o, Mine.full env F s₃.heap a = some o → False := fun a ha o e => by
        have hx : F a = none ∧ a ≠ env.locals ∧ ∀ x c, env.cells.lookup x = some c → a ≠ c := by
          rcases ha with ha | rfl
          · exact ⟨(ap a ha).1, (ap a ha).2.2⟩
          · exact ⟨apF _ newD, apL _ newD, apC _ newD⟩
        unfold Mine.full at e
        rw [if_neg hx.2.1] at e
        split at e
        · rename_i q
          obtain ⟨p, _, hp⟩ := List.any_eq_true.mp q
          exact hx.2.2 _ _ (beq_iff_eq.mp hp) rfl
        · rw [hx.1] at e; cases e
      have hFF : ∀ a o, Mine.full env F s₃.heap a = some o → F' a = some o := fun a o e => by
        show (if _ then _ else _) = _
        split
        · rename_i q; exact (fullno a q o e).elim
        · exact e
      have st' : St prog w S0 F' H' s₃ := (Fm.full f₃).more hFF (fun a o e => by
          revert e; show (if _ then _ else _) = _ → _
          split
          · exact id
          · exact (Fm.full f₃).fr a o) (fun a o e => by
          show (if _ then _ else _) = _
          split
          · rename_i q
            have := hno a (q.elim .inl fun z => .inr (.inl z))
            rw [this] at e; cases e
          · exact ((Fm.full f₃).hp a o e).1)
      have hCF' : F' C = none := by
        show (if _ then _ else _) = _
        rw [if_neg (fun q => q.elim (fun z => (hownD C z).2 rfl) fun z => hDC z.symm)]
        unfold Mine.full
        rw [if_neg (apL C newC)]
        split
        · rename_i q
          obtain ⟨p, _, hp⟩ := List.any_eq_true.mp q
          exact absurd rfl (apC C newC _ _ (beq_iff_eq.mp hp))
        · exact apF C newC
      have fi := f₃.inner (C := C) c hcap st' hFF hn₃ hCF' (hno C (.inr (.inr rfl)))
      have hxl : (cE scope C env).kindOf x = some .local := lookup_relabel_local c.tgt
      refine wpAny_assign_Name (fi.storeL (fun y d h => clC y d h) hxl (Up.head (o := none)) fun s₄ f₄ => ?_)
      rw [hv] at f₄
      -- what stands after the turn's own work
      have back : ∀ s₅ H₅, Fm prog w S0 (cE scope C env) ((x, some y) :: ρc) F' H₅ s₅ → Fm prog w S0 env ρ F H₅ s₅ ∧ S (i + 1) s₅.heap ∧ (∃ m, s₅.heap.Ns C m) ∧ s₅.heap.get? D = some { cls := .type "list", data := .seq items nD } ∧ (∀ b, b ∈ own ∨ b = D ∨ b = C → H₅ b = none) := fun s₅ H₅ f₅ => by
        have own5 : ∀ b, b ∈ own ∨ b = D → ∀ o, s₃.heap.get? b = some o → F' b = some o := fun b hb o e => by
          show (if _ then _ else _) = _
          rw [if_pos hb]; exact e
        have no5 : ∀ a o, F' a = some o → H₅ a = none := fun a o e => by
          cases q : H₅ a with
          | none => rfl
          | some z => rw [(f₅.st.hp a z q).1] at e; cases e
        refine ⟨f₃.again f₅.st hFF, W.frame _ _ _ hS₃ fun b hb o e => f₅.st.fr _ _ (own5 b (.inl hb) o e), f₅.ns.imp fun m z => z.1, f₅.st.fr _ _ (own5 D (.inr rfl) _ hD₃), fun b hb => ?_⟩
        rcases hb with hb | rfl | rfl
        · obtain ⟨o, ho⟩ := W.live _ _ hS₃ b hb
          exact no5 b o (own5 b (.inl hb) o ho)
        · exact no5 _ _ (own5 _ (.inr rfl) _ hD₃)
        · exact f₅.loH
      refine elt_run hr f₄ (turn i y ys H' C hy hJ (glob_cE c C)) (fun z s₅ H₅ f₅ q => ?_) fun s₅ H₅ f₅ q => ?_
      · obtain ⟨b1, b2, ⟨m₅, b3⟩, b4, b5⟩ := back s₅ H₅ f₅
        have hsz : items.size ≤ sizeLine := Nat.le_trans hit (Nat.le_trans (Nat.le_of_lt hlt) (Nat.le_trans hlen lid_le))
        refine wpAny_list_append_plain (hsz := hsz) ⟨nD, b4⟩ fun h₆ hl₆ hs₆ => ?_
        have aD : ∀ b ∈ [D], F b = none ∧ H₅ b = none ∧ b ≠ env.locals ∧ ∀ x c, env.cells.lookup x = some c → b ≠ c := fun b hb => by
          rw [List.mem_singleton.mp hb]; exact ⟨apF _ newD, b5 _ (.inr (.inl rfl)), apL _ newD, apC _ newD⟩
        have kD : ∀ b o, b ∉ [D] → s₅.heap.get? b = some o → h₆.get? b = some o := fun b o hb e => hs₆.extBut b o (fun q => hb (List.mem_singleton.mpr q)) e
        refine ⟨xs.length + 1 - (i + 1), by omega, i + 1, ys ++ [abs z], H₅, items.push z, m₅, rfl, hlt, b1.walk (tk := s₅.toks) aD kD, W.frame _ _ _ b2 fun b hb o e => kD b o (fun q => (hownD b hb).1 (List.mem_singleton.mp q)) e, q,
          b3.sameBut hs₆ hDC.symm, hl₆, by rw [Array.toList_push, List.map_append, hys]; rfl, by rw [Array.size_push]; omega, b5⟩
      · obtain ⟨b1, b2, ⟨m₅, b3⟩, b4, b5⟩ := back s₅ H₅ f₅
        exact ⟨xs.length + 1 - (i + 1), by omega, i + 1, ys, H₅, items, m₅, rfl, hlt, b1, b2, q, b3, ⟨nD, b4⟩, hys, by omega, b5⟩
    · have hin : i = xs.length := Nat.le_antisymm hi (Nat.not_lt.mp hlt)
      subst hin
      refine wpAny_mono (W.done A F H' s' _ hr f'.st (hinv _ _ _ hJ) hSi fun h₃ tk₃ hk₃ => ?_) (fun _ _ z => z) fun _ _ z => z.elim
      dsimp only
      obtain ⟨nD, hDo⟩ := hD'
      refine hRR D C _ ⟨ys, H', m, f'.walk (tk := tk₃) ap' hk₃, fin _ _ hJ, ?_, ⟨_, hk₃ D _ (fun q => (hownD D q).1 rfl) hDo, items, nD, rfl, hys, Nat.le_trans hit hlen⟩, hno D (.inr (.inl rfl)), apF _ newD, hno C (.inr (.inr rfl)), apF _ newC, hDC, ⟨apL _ newD, apL _ newC⟩, fun y d h => ⟨apC _ newD y d h, apC _ newC y d h⟩⟩
      obtain ⟨o, es, ep, e, r⟩ := hn'
      exact ⟨o, es, ep, hk₃ C o (fun q => (hownD C q).2 rfl) e, r⟩
  exact codeAny_compStart_list loop (wpAny_mono (W.self 0 A _ _ (W.frame _ _ _ hS fun b _ o e => old b o e) loop) (fun _ _ z => z) fun _ _ z => z.elim)
end
section
variable {prog : Program} {w : World} {S0 : Shared} {K : Frag} {G : List (Str × V)} {n : Nat} {env : Env} {ρ : Rho} {H : AH}

theorem Fm.adopt {F : CH} {s : Shared} {D : Addr} {y : O} {o : Obj} (f : Fm prog w S0 env ρ F H s) (hH : H D = none) (hF : F D = none) (ho : s.heap.get? D = some o) (hm : OM prog w y o) (hl : D ≠ env.locals) (hc : ∀ z c, env.cells.lookup z = some c → D ≠ c) :
    Fm prog w S0 env ρ F (H.set D y) s := by
  refine ⟨⟨f.st.same, f.st.base, f.st.fr, fun a z e => ?_⟩, f.ok, f.ns, f.loF, by rw [AH.set_ne _ _ hl.symm]; exact f.loH, fun z c e => ?_, f.cv, f.kn, f.nd⟩
  · by_cases q : a = D
    · subst q; rw [AH.set_same] at e; cases e; exact ⟨hF, o, ho, hm⟩
    · rw [AH.set_ne _ _ q] at e; exact f.st.hp a z e
  · have := f.ce z c e
    rw [AH.set_ne _ _ (hc z c e).symm]; exact this

theorem Fm.off {F : CH} {s : Shared} {C : Addr} {h' : Heap} (f : Fm prog w S0 env ρ F H s) (hH : H C = none) (hF : F C = none) (hl : C ≠ env.locals) (hc : ∀ z c, env.cells.lookup z = some c → C ≠ c) (hs : Heap.SameBut C s.heap h') :
    Fm prog w S0 env ρ F H { s with heap := h' } :=
  f.walk (own := [C]) (fun b hb => by rw [List.mem_singleton.mp hb]; exact ⟨hF, hH, hl, hc⟩) fun b o hb e => hs.extBut b o (fun q => hb (List.mem_singleton.mpr q)) e

/-- the words of a list comprehension -/
abbrev CompV (prog : Program) (w : World) (S0 : Shared) (n : Nat) (env : Env) (ρc : Rho) (Gs : List Str) (scope : Scope) (x : Str) (ifs : List Expr) (elt : Expr) (Q : V → AH → Prop) (v : V) (H : AH) : Prop :=
  CompW prog w S0 n env ρc Gs scope x ifs elt (fun ys H' => ∀ D, H' D = none → Q (.ref D) (H'.set D (.list ys))) v H

theorem comp_any {elt iter : Expr} {x : Str} {px pos pos' : Pos} {ifs : List Expr} {scope : Scope} {use : Option (Value → Sem Unit)} {A : Around} {F : CH} {s : Shared} {Q' : Value → Shared → Prop} {Q : List V → AH → Prop} {caps Gs : List Str} {ρc : Rho} (hs : ∀ y, foldedSetIterable iter env y = pure y) (hok : compOk env.scope scope x caps Gs = true) (hcap : Cap ρ caps ρc)
    (hr : Rm n A) (f : Fm prog w S0 env ρ F H s) (h : EvV prog w S0 n env ρ iter H (CompW prog w S0 n env ρc Gs scope x ifs elt Q))
    (hend : ∀ D C s', CompEnd prog w S0 env ρ F Q D C s' → compPost (model prog w) A Bot use Q' (.ref D) C (.ok .next) s') :
    wpAny (model prog w) A (comprehension (.ListComp elt [⟨.Name x px, iter, ifs, 0⟩] scope pos) scope env pos' (newList []) false (eval iter env) use) Q' Bot s := by
  have c := compOk_of hok
  refine wpAny_comprehension_free rfl hs (closure_ok f c) c.kind c.names (bot (h.run A F s hr f) fun u s₁ ⟨H₁, f₁, xs, Inv, J, hit, hlen, hJ0, hinv, turn, fin⟩ => ?_)
  refine bot (hit A F s₁ u hr f₁.st rfl) fun it s₂ ⟨I, own, S, hI, W, hS, hnew, h₂, tk₂, e₂, hk₂⟩ => ?_
  subst hI; subst e₂
  have f₂ := f₁.grow (tk := tk₂) hk₂
  have ap : ∀ b ∈ own, F b = none ∧ H₁ b = none ∧ b ≠ env.locals ∧ ∀ x c, env.cells.lookup x = some c → b ≠ c := fun b hb => by
    refine ⟨?_, ?_, ?_, ?_⟩
    · cases q : F b with
      | none => rfl
      | some z => have := f₁.st.fr _ _ q; rw [hnew b hb] at this; cases this
    · cases q : H₁ b with
      | none => rfl
      | some z => obtain ⟨y, hy, _⟩ := f₁.st.obj q; rw [hnew b hb] at hy; cases hy
    · intro e
      obtain ⟨m, ⟨oL, _, _, hL, _⟩, _⟩ := f₁.ns
      rw [← e, hnew b hb] at hL; cases hL
    · intro y c hc e
      obtain ⟨_, vo, oc, hoc, _⟩ := f₁.ce y c hc
      rw [← e, hnew b hb] at hoc; cases hoc
  exact comp_loop (RR := fun acc C => compPost (model prog w) A Bot use Q' acc C) (Q := Q) hr f₂ c hcap W hS ap hlen hJ0 hinv turn fin hend

theorem E_comp {elt iter : Expr} {x : Str} {px pos : Pos} {ifs : List Expr} {scope : Scope} {Q : V → AH → Prop} {caps Gs : List Str} {ρc : Rho} (hs : ∀ y, foldedSetIterable iter env y = pure y) (hok : compOk env.scope scope x caps Gs = true) (hcap : Cap ρ caps ρc)
    (h : EvV prog w S0 n env ρ iter H (CompV prog w S0 n env ρc Gs scope x ifs elt Q)) : EvV prog w S0 n env ρ (.ListComp elt [⟨.Name x px, iter, ifs, 0⟩] scope pos) H Q := .mk <| fun A F s hr f => by
  rw [eval_ListComp]
  refine comp_any hs hok hcap hr f h fun D C s' ⟨ys, H', m, f', q, hn, ⟨o, ho, hm⟩, d1, d2, c1, c2, hDC, ⟨d3, c3⟩, dc⟩ => ?_
  refine ⟨m, hn, fun h' hs' => ⟨H'.set D (.list ys), ?_, q D d1⟩⟩
  exact (f'.off c1 c2 c3 (fun z c e => (dc z c e).2) hs').adopt d1 d2 (hs'.extBut D o hDC ho) hm d3 fun z c e => (dc z c e).1

theorem X_assignComp {elt iter : Expr} {x y : Str} {px py pos spos : Pos} {ifs : List Expr} {scope : Scope} {Q : Flow → Rho → AH → Prop} {caps Gs : List Str} {ρc : Rho}
    (hsw : swapsWith (.ListComp elt [⟨.Name x px, iter, ifs, 0⟩] scope pos) (some (.Name y py)) spos.line env = pure true) (hs : ∀ y, foldedSetIterable iter env y = pure y) (hok : compOk env.scope scope x caps Gs = true) (hcap : Cap ρ caps ρc)
    (h : EvV prog w S0 n env ρ iter H (CompV prog w S0 n env ρc Gs scope x ifs elt fun v H' => ∃ ρ', Up y v ρ ρ' ∧ Q .next ρ' H')) : Ex prog w S0 n env ρ (exec (.Assign [.Name y py] (.ListComp elt [⟨.Name x px, iter, ifs, 0⟩] scope pos) spos) env) H Q := .mk <| fun A F s hr ow f => by
  rw [exec_Assign_Name_used _ _ _ _ hsw]
  refine wpAny_bind (wpAny_standAt (wpAny_bind ?_))
  show wpAny _ A (do let _ ← comprehension (.ListComp elt [⟨.Name x px, iter, ifs, 0⟩] scope pos) scope env _ (newList []) false (eval iter env) (some (assign (.Name y py) env))) _ _ s
  refine wpAny_bind (wpAny_mono (comp_any (use := some (assign (.Name y py) env)) (Q' := fun _ s' => ∃ ρ' H', Fm prog w S0 env ρ' F H' s' ∧ Q .next ρ' H') hs hok hcap hr f h ?_) (fun _ s' hq => wpAny_pure (wpAny_pure hq)) fun _ _ e => e)
  intro D C s' ⟨ys, H', m, f', q, hn, ⟨o, ho, hm⟩, d1, d2, c1, c2, hDC, ⟨d3, c3⟩, dc⟩
  show wpAny _ A (assign (.Name y py) env (.ref D)) _ _ _
  have f₁ := f'.adopt d1 d2 ho hm d3 fun z c e => (dc z c e).1
  have hC : (H'.set D (.list ys)) C = none := by rw [AH.set_ne _ _ hDC.symm]; exact c1
  -- the frame of the block is kept besides
  have fp := f₁.plus (own := [C]) fun b hb => by rw [List.mem_singleton.mp hb]; exact ⟨c2, hC, c3, fun z c e => (dc z c e).2⟩
  obtain ⟨ρ', hup, hQ⟩ := q D d1
  refine wpAny_assign_Name (fp.store (ow.plus fun b hb z c e => by rw [List.mem_singleton.mp hb]; exact (dc z c e).2) hup fun s₂ f₂ => ?_)
  obtain ⟨oC, es, ep, hC', r⟩ := hn
  have hC₂ : s₂.heap.get? C = some oC := f₂.st.fr C oC (by unfold Mine.plus; rw [if_pos (List.mem_singleton.mpr rfl)]; exact hC')
  refine ⟨m, ⟨oC, es, ep, hC₂, r⟩, fun h'' hs'' => ⟨_, _, ?_, hQ⟩⟩
  exact (f₂.minus (fun b hb => by rw [List.mem_singleton.mp hb]; exact c2) f'.st.base f'.loF).off hC c2 c3 (fun z c e => (dc z c e).2) hs''
end
section
variable {prog : Program} {w : World} {S0 : Shared} {K : Frag} {G : List (Str × V)} {n : Nat} {env : Env} {ρ : Rho} {H : AH}

/-! ### equality of plain words -/
noncomputable def isSc : V → Bool
  | .none => true
  | .bool _ => true
  | .int _ => true
  | .str _ => true
  | _ => false
noncomputable def veq : V → V → Bool
  | .none, .none => true
  | .bool a, .bool b => a == b
  | .int a, .int b => a == b
  | .str a, .str b => a == b
  | .bool a, .int b => (if a then 1 else 0) == b
  | .int a, .bool b => a == (if b then 1 else 0)
  | _, _ => false

theorem eqAt_as {A : Around} {s : Shared} {u v : Value} {b c : Bool} (h : SeqAt.EqAt A s u v b) (e : b = c) : SeqAt.EqAt A s u v c := e ▸ h
theorem rcAt_as {A : Around} {s : Shared} {u v : Value} {b c : Bool} (h : SeqAt.RcAt A s u v b) (e : b = c) : SeqAt.RcAt A s u v c := e ▸ h
theorem rcNeAt_as {A : Around} {s : Shared} {u v : Value} {b c : Bool} (h : SeqAt.RcNeAt A s u v b) (e : b = c) : SeqAt.RcNeAt A s u v c := e ▸ h
theorem sc_cases {u : Value} (h : isSc (abs u) = true) : u = .none ∨ (∃ b, u = .bool b) ∨ (∃ i t, u = .int i t) ∨ (∃ x t, u = .str x t) := by
  cases u with
  | none => exact .inl rfl
  | bool b => exact .inr (.inl ⟨b, rfl⟩)
  | int i t => exact .inr (.inr (.inl ⟨i, t, rfl⟩))
  | str x t => exact .inr (.inr (.inr ⟨x, t, rfl⟩))
  | _ => simp [abs, isSc] at h

theorem eqAt_sc {A : Around} {s : Shared} {u v : Value} (ha : isSc (abs u) = true) (hb : isSc (abs v) = true) : SeqAt.EqAt A s u v (veq (abs u) (abs v)) := by
  rcases sc_cases ha with rfl | ⟨a, rfl⟩ | ⟨a, t, rfl⟩ | ⟨a, t, rfl⟩ <;> rcases sc_cases hb with rfl | ⟨b, rfl⟩ | ⟨b, t', rfl⟩ | ⟨b, t', rfl⟩
  · exact @eqAt_as A s _ _ _ _ (@SeqAt.EqAt.same A s Value.none) rfl
  · exact @eqAt_as A s _ _ _ _ (@SeqAt.EqAt.none_bool A s b) rfl
  · exact @eqAt_as A s _ _ _ _ (@SeqAt.EqAt.none_int A s b t') rfl
  · exact @eqAt_as A s _ _ _ _ (@SeqAt.EqAt.none_str A s b t') rfl
  · exact @eqAt_as A s _ _ _ _ (@SeqAt.EqAt.bool_none A s a) rfl
  · exact @eqAt_as A s _ _ _ _ (@SeqAt.EqAt.bool_bool A s a b) rfl
  · exact @eqAt_as A s _ _ _ _ (@SeqAt.EqAt.bool_int A s a b t') rfl
  · exact @eqAt_as A s _ _ _ _ (@SeqAt.EqAt.bool_str A s a b t') rfl
  · exact @eqAt_as A s _ _ _ _ (@SeqAt.EqAt.int_none A s a t) rfl
  · exact @eqAt_as A s _ _ _ _ (@SeqAt.EqAt.int_bool A s a t b) rfl
  · exact @eqAt_as A s _ _ _ _ (@SeqAt.EqAt.int_int A s a t b t') rfl
  · exact @eqAt_as A s _ _ _ _ (@SeqAt.EqAt.int_str A s a t b t') rfl
  · exact @eqAt_as A s _ _ _ _ (@SeqAt.EqAt.str_none A s a t) rfl
  · exact @eqAt_as A s _ _ _ _ (@SeqAt.EqAt.str_bool A s a t b) rfl
  · exact @eqAt_as A s _ _ _ _ (@SeqAt.EqAt.str_int A s a t b t') rfl
  · exact @eqAt_as A s _ _ _ _ (@SeqAt.EqAt.str_str A s a t b t') rfl

theorem rcAt_sc {A : Around} {s : Shared} {u v : Value} (ha : isSc (abs u) = true) (hb : isSc (abs v) = true) : SeqAt.RcAt A s u v (veq (abs u) (abs v)) := by
  rcases sc_cases ha with rfl | ⟨a, rfl⟩ | ⟨a, t, rfl⟩ | ⟨a, t, rfl⟩ <;> rcases sc_cases hb with rfl | ⟨b, rfl⟩ | ⟨b, t', rfl⟩ | ⟨b, t', rfl⟩
  · exact @rcAt_as A s _ _ _ _ (@SeqAt.RcAt.none_none A s) rfl
  · exact @rcAt_as A s _ _ _ _ (@SeqAt.RcAt.none_bool A s b) rfl
  · exact @rcAt_as A s _ _ _ _ (@SeqAt.RcAt.none_int A s b t') rfl
  · exact @rcAt_as A s _ _ _ _ (@SeqAt.RcAt.none_str A s b t') rfl
  · exact @rcAt_as A s _ _ _ _ (@SeqAt.RcAt.bool_none A s a) rfl
  · exact @rcAt_as A s _ _ _ _ (@SeqAt.RcAt.bool_bool A s a b) rfl
  · exact @rcAt_as A s _ _ _ _ (@SeqAt.RcAt.bool_int A s a b t') rfl
  · exact @rcAt_as A s _ _ _ _ (@SeqAt.RcAt.bool_str A s a b t') rfl
  · exact @rcAt_as A s _ _ _ _ (@SeqAt.RcAt.int_none A s a t) rfl
  · exact @rcAt_as A s _ _ _ _ (@SeqAt.RcAt.int_bool A s a t b) rfl
  · exact @rcAt_as A s _ _ _ _ (@SeqAt.RcAt.int_int A s a t b t') rfl
  · exact @rcAt_as A s _ _ _ _ (@SeqAt.RcAt.int_str A s a t b t') rfl
  · exact @rcAt_as A s _ _ _ _ (@SeqAt.RcAt.str_none A s a t) rfl
  · exact @rcAt_as A s _ _ _ _ (@SeqAt.RcAt.str_bool A s a t b) rfl
  · exact @rcAt_as A s _ _ _ _ (@SeqAt.RcAt.str_int A s a t b t') rfl
  · exact @rcAt_as A s _ _ _ _ (@SeqAt.RcAt.str_str A s a t b t') rfl

theorem rcNeAt_sc {A : Around} {s : Shared} {u v : Value} (ha : isSc (abs u) = true) (hb : isSc (abs v) = true) : SeqAt.RcNeAt A s u v (!veq (abs u) (abs v)) := by
  rcases sc_cases ha with rfl | ⟨a, rfl⟩ | ⟨a, t, rfl⟩ | ⟨a, t, rfl⟩ <;> rcases sc_cases hb with rfl | ⟨b, rfl⟩ | ⟨b, t', rfl⟩ | ⟨b, t', rfl⟩
  · exact @rcNeAt_as A s _ _ _ _ (@SeqAt.RcNeAt.none_none A s) rfl
  · exact @rcNeAt_as A s _ _ _ _ (@SeqAt.RcNeAt.none_bool A s b) rfl
  · exact @rcNeAt_as A s _ _ _ _ (@SeqAt.RcNeAt.none_int A s b t') rfl
  · exact @rcNeAt_as A s _ _ _ _ (@SeqAt.RcNeAt.none_str A s b t') rfl
  · exact @rcNeAt_as A s _ _ _ _ (@SeqAt.RcNeAt.bool_none A s a) rfl
  · exact @rcNeAt_as A s _ _ _ _ (@SeqAt.RcNeAt.bool_bool A s a b) rfl
  · exact @rcNeAt_as A s _ _ _ _ (@SeqAt.RcNeAt.bool_int A s a b t') rfl
  · exact @rcNeAt_as A s _ _ _ _ (@SeqAt.RcNeAt.bool_str A s a b t') rfl
  · exact @rcNeAt_as A s _ _ _ _ (@SeqAt.RcNeAt.int_none A s a t) rfl
  · exact @rcNeAt_as A s _ _ _ _ (@SeqAt.RcNeAt.int_bool A s a t b) rfl
  · exact @rcNeAt_as A s _ _ _ _ (@SeqAt.RcNeAt.int_int A s a t b t') rfl
  · exact @rcNeAt_as A s _ _ _ _ (@SeqAt.RcNeAt.int_str A s a t b t') rfl
  · exact @rcNeAt_as A s _ _ _ _ (@SeqAt.RcNeAt.str_none A s a t) rfl
  · exact @rcNeAt_as A s _ _ _ _ (@SeqAt.RcNeAt.str_bool A s a t b) rfl
  · exact @rcNeAt_as A s _ _ _ _ (@SeqAt.RcNeAt.str_int A s a t b t') rfl
  · exact @rcNeAt_as A s _ _ _ _ (@SeqAt.RcNeAt.str_str A s a t b t') rfl

theorem B_eq {a b : V} {Q : V → AH → Prop} (ha : isSc a = true) (hb : isSc b = true) (h : Q (.bool (veq a b)) H) : Bin prog w S0 n (compareOp .Eq) a b H Q := fun u v hu hv => .mk <| fun A F s _ f => by
  subst hu; subst hv
  exact @rcAt_sc A s u v ha hb prog w _ _ ⟨H, f, h⟩
theorem B_ne {a b : V} {Q : V → AH → Prop} (ha : isSc a = true) (hb : isSc b = true) (h : Q (.bool (!veq a b)) H) : Bin prog w S0 n (compareOp .NotEq) a b H Q := fun u v hu hv => .mk <| fun A F s _ f => by
  subst hu; subst hv
  exact @rcNeAt_sc A s u v ha hb prog w _ _ ⟨H, f, h⟩

/-! ### lists held against one another -/
noncomputable def veqs : List V → List V → Bool
  | [], [] => true
  | a :: r, b :: t => veq a b && veqs r t
  | _, _ => false

theorem veqs_length : ∀ {xs ys : List V}, veqs xs ys = true → xs.length = ys.length
  | [], [], _ => rfl
  | a :: r, b :: t, h => by
    unfold veqs at h
    simp only [Bool.and_eq_true] at h
    simp [veqs_length h.2]
  | [], _ :: _, h => by cases h
  | _ :: _, [], h => by cases h

theorem veqs_range : ∀ (xs ys : List V), xs.length = ys.length → (List.range xs.length).all (fun j => veq (xs.getD j .none) (ys.getD j .none)) = veqs xs ys
  | [], [], _ => rfl
  | a :: r, b :: t, h => by
    have h' : r.length = t.length := by simpa using h
    rw [List.length_cons, List.range_succ_eq_map, List.all_cons, List.all_map]
    unfold veqs
    rw [← veqs_range r t h']
    rfl
  | [], _ :: _, h => by cases h
  | _ :: _, [], h => by cases h

theorem veqs_ne {xs ys : List V} (h : xs.length ≠ ys.length) : veqs xs ys = false := by
  cases q : veqs xs ys with
  | false => rfl
  | true => exact absurd (veqs_length q) h

theorem St.isL {F : CH} {s : Shared} {a : Addr} {xs : List V} (f : St prog w S0 F H s) (ha : H a = some (.list xs)) : ∃ vs nn, s.heap.get? a = some { cls := .type "list", dict := none, data := .seq vs nn, slots := #[] } ∧ vs.toList.map abs = xs ∧ vs.size = xs.length ∧ vs.size ≤ lid := by
  obtain ⟨o, ho, vs, nn, hoe, hxs, hl⟩ := f.obj ha
  subst hoe
  exact ⟨vs, nn, ho, hxs, by rw [← hxs]; simp, hl⟩
theorem St.isList {F : CH} {s : Shared} {a : Addr} {xs : List V} (f : St prog w S0 F H s) (ha : H a = some (.list xs)) : ∃ vs, s.heap.IsList a vs ∧ vs.toList.map abs = xs ∧ vs.size = xs.length ∧ vs.size ≤ lid := by
  obtain ⟨vs, nn, ho, h1, h2, h3⟩ := f.isL ha
  exact ⟨vs, ⟨_, ho, rfl, nn, rfl⟩, h1, h2, h3⟩
theorem St.isTup {F : CH} {s : Shared} {a : Addr} {xs : List V} (f : St prog w S0 F H s) (ha : H a = some (.tup xs)) : ∃ vs, s.heap.IsTuple a vs ∧ vs.toList.map abs = xs ∧ vs.size = xs.length ∧ vs.size ≤ lid := by
  obtain ⟨o, ho, hc, hd, vs, nn, hdat, hxs, hl⟩ := f.obj ha
  exact ⟨vs, ⟨o, ho, hc, nn, hdat⟩, hxs, by rw [← hxs]; simp, hl⟩

theorem get_map {vs : Array Value} {xs : List V} (h : vs.toList.map abs = xs) {j : Nat} (hj : j < vs.size) : abs vs[j] = xs.getD j .none := by
  subst h
  simp [List.getD, hj]

theorem B_eqL {a b : Addr} {xs ys : List V} {Q : V → AH → Prop} (ha : H a = some (.list xs)) (hb : H b = some (.list ys)) (hx : xs.all isSc = true) (hy : ys.all isSc = true) (h : Q (.bool (veqs xs ys)) H) :
    Bin prog w S0 n (compareOp .Eq) (.ref a) (.ref b) H Q := fun u v hu hv => .mk <| fun A F s hr f => by
  rw [abs_ref hu, abs_ref hv]
  obtain ⟨vs, l1, m1, z1, _⟩ := f.isList ha
  obtain ⟨us, l2, m2, z2, _⟩ := f.isList hb
  by_cases hsz : vs.size = us.size
  · refine SeqAt.eq_listAt (e := fun j => veq (xs.getD j .none) (ys.getD j .none)) l1 l2 hsz hr.units (fun j h1 h2 => ?_) ⟨H, f, ?_⟩
    · rw [← get_map m1 h1, ← get_map m2 h2]
      exact @eqAt_sc A.in1 s _ _ (List.all_eq_true.mp hx _ (by rw [← m1]; exact List.mem_map_of_mem (by simp))) (List.all_eq_true.mp hy _ (by rw [← m2]; exact List.mem_map_of_mem (by simp)))
    · rw [z1, veqs_range _ _ (by omega)]; exact h
  · refine SeqAt.eq_list_lengthsAt l1 l2 (by simpa using hsz) hr.units ⟨H, f, ?_⟩
    rw [veqs_ne (by omega)] at h; exact h
theorem B_neL {a b : Addr} {xs ys : List V} {Q : V → AH → Prop} (ha : H a = some (.list xs)) (hb : H b = some (.list ys)) (hx : xs.all isSc = true) (hy : ys.all isSc = true) (h : Q (.bool (!veqs xs ys)) H) :
    Bin prog w S0 n (compareOp .NotEq) (.ref a) (.ref b) H Q := fun u v hu hv => .mk <| fun A F s hr f => by
  rw [abs_ref hu, abs_ref hv]
  obtain ⟨vs, l1, m1, z1, _⟩ := f.isList ha
  obtain ⟨us, l2, m2, z2, _⟩ := f.isList hb
  by_cases hsz : vs.size = us.size
  · refine SeqAt.RcNeAt.lists (e := fun j => veq (xs.getD j .none) (ys.getD j .none)) l1 l2 hsz hr.units (fun j h1 h2 => ?_) prog w _ _ ⟨H, f, ?_⟩
    · rw [← get_map m1 h1, ← get_map m2 h2]
      exact @eqAt_sc A.in1 s _ _ (List.all_eq_true.mp hx _ (by rw [← m1]; exact List.mem_map_of_mem (by simp))) (List.all_eq_true.mp hy _ (by rw [← m2]; exact List.mem_map_of_mem (by simp)))
    · rw [z1, veqs_range _ _ (by omega)]; exact h
  · refine SeqAt.RcNeAt.lists_lengths l1 l2 (by simpa using hsz) hr.units prog w _ _ ⟨H, f, ?_⟩
    rw [veqs_ne (by omega)] at h; exact h

/-! ### in, not in -/
theorem any_map {vs : Array Value} {xs : List V} (h : vs.toList.map abs = xs) (x : V) : (vs.any fun y => veq (abs y) x) = xs.any (veq · x) := by
  rw [← h, List.any_map, ← Array.any_toList]; rfl
theorem B_inL {a : Addr} {xs : List V} {x : V} {Q : V → AH → Prop} (ha : H a = some (.list xs)) (hx : isSc x = true) (hy : xs.all isSc = true) (h : Q (.bool (xs.any (veq · x))) H) : Bin prog w S0 n (compareOp .In) x (.ref a) H Q := fun u v hu hv => .mk <| fun A F s hr f => by
  subst hu; rw [abs_ref hv]
  obtain ⟨vs, l1, m1, z1, _⟩ := f.isList ha
  refine SeqAt.in_listAt (fun y => veq (abs y) (abs u)) l1 (fun y hy' => @eqAt_sc A.in1 s y u (List.all_eq_true.mp hy _ (by rw [← m1]; exact List.mem_map_of_mem (by simpa using hy'))) hx) ⟨H, f, ?_⟩
  rw [any_map m1]; exact h
theorem B_notInL {a : Addr} {xs : List V} {x : V} {Q : V → AH → Prop} (ha : H a = some (.list xs)) (hx : isSc x = true) (hy : xs.all isSc = true) (h : Q (.bool (!xs.any (veq · x))) H) : Bin prog w S0 n (compareOp .NotIn) x (.ref a) H Q := fun u v hu hv => .mk <| fun A F s hr f => by
  subst hu; rw [abs_ref hv]
  obtain ⟨vs, l1, m1, z1, _⟩ := f.isList ha
  refine SeqAt.notIn_listAt (fun y => veq (abs y) (abs u)) l1 (fun y hy' => @eqAt_sc A.in1 s y u (List.all_eq_true.mp hy _ (by rw [← m1]; exact List.mem_map_of_mem (by simpa using hy'))) hx) ⟨H, f, ?_⟩
  rw [any_map m1]; exact h
theorem B_inT {a : Addr} {xs : List V} {x : V} {Q : V → AH → Prop} (ha : H a = some (.tup xs)) (hx : isSc x = true) (hy : xs.all isSc = true) (h : Q (.bool (xs.any (veq · x))) H) : Bin prog w S0 n (compareOp .In) x (.ref a) H Q := fun u v hu hv => .mk <| fun A F s hr f => by
  subst hu; rw [abs_ref hv]
  obtain ⟨vs, l1, m1, z1, _⟩ := f.isTup ha
  refine SeqAt.in_tupleAt (fun y => veq (abs y) (abs u)) l1 (fun y hy' => @eqAt_sc A.in1 s y u (List.all_eq_true.mp hy _ (by rw [← m1]; exact List.mem_map_of_mem (by simpa using hy'))) hx) ⟨H, f, ?_⟩
  rw [any_map m1]; exact h
theorem B_notInT {a : Addr} {xs : List V} {x : V} {Q : V → AH → Prop} (ha : H a = some (.tup xs)) (hx : isSc x = true) (hy : xs.all isSc = true) (h : Q (.bool (!xs.any (veq · x))) H) : Bin prog w S0 n (compareOp .NotIn) x (.ref a) H Q := fun u v hu hv => .mk <| fun A F s hr f => by
  subst hu; rw [abs_ref hv]
  obtain ⟨vs, l1, m1, z1, _⟩ := f.isTup ha
  refine SeqAt.notIn_tupleAt (fun y => veq (abs y) (abs u)) l1 (fun y hy' => @eqAt_sc A.in1 s y u (List.all_eq_true.mp hy _ (by rw [← m1]; exact List.mem_map_of_mem (by simpa using hy'))) hx) ⟨H, f, ?_⟩
  rw [any_map m1]; exact h

/-! ### is None -/
noncomputable def isN : V → Bool
  | .none => true
  | _ => false
noncomputable def noB : V → Bool
  | .oth _ => false
  | _ => true
theorem B_isN {a : V} {Q : V → AH → Prop} (ha : noB a = true) (h : Q (.bool (isN a)) H) : Bin prog w S0 n (compareOp .Is) a .none H Q := fun u v hu hv => .mk <| fun A F s _ f => by
  subst hu; rw [abs_none hv]
  refine wpAny_is_plain (by cases u <;> first | rfl | cases ha) ⟨H, f, ?_⟩
  have : (u == Value.none) = isN (abs u) := by cases u <;> first | rfl | cases ha
  rw [this]; exact h
theorem B_isNot {a : V} {Q : V → AH → Prop} (ha : noB a = true) (h : Q (.bool (!isN a)) H) : Bin prog w S0 n (compareOp .IsNot) a .none H Q := fun u v hu hv => .mk <| fun A F s _ f => by
  subst hu; rw [abs_none hv]
  refine wpAny_isNot_plain (by cases u <;> first | rfl | cases ha) ⟨H, f, ?_⟩
  have : (u == Value.none) = isN (abs u) := by cases u <;> first | rfl | cases ha
  rw [this]; exact h

/-! ### ints -/
theorem B_add {a b : Int} {Q : V → AH → Prop} (h : Q (.int (a + b)) H) : Bin prog w S0 n (binaryOp .Add) (.int a) (.int b) H Q := fun u v hu hv => .mk <| fun A F s _ f => by
  obtain ⟨t, rfl⟩ := abs_int hu; obtain ⟨t', rfl⟩ := abs_int hv
  with_reducible refine wpAny_add_int ?_
  exact ⟨H, f.toks _, h⟩
theorem B_sub {a b : Int} {Q : V → AH → Prop} (h : Q (.int (a - b)) H) : Bin prog w S0 n (binaryOp .Sub) (.int a) (.int b) H Q := fun u v hu hv => .mk <| fun A F s _ f => by
  obtain ⟨t, rfl⟩ := abs_int hu; obtain ⟨t', rfl⟩ := abs_int hv
  with_reducible refine SiftDown.sub_int ?_
  exact ⟨H, f.toks _, h⟩
theorem B_mod {a b : Int} {Q : V → AH → Prop} (hb : b ≠ 0) (h : Q (.int (a.fmod b)) H) : Bin prog w S0 n (binaryOp .Mod) (.int a) (.int b) H Q := fun u v hu hv => .mk <| fun A F s _ f => by
  obtain ⟨t, rfl⟩ := abs_int hu; obtain ⟨t', rfl⟩ := abs_int hv
  with_reducible refine IsLeap.wpAny_mod_int hb ?_
  exact ⟨H, f.toks _, h⟩
theorem B_lt {a b : Int} {Q : V → AH → Prop} (h : Q (.bool (decide (a < b))) H) : Bin prog w S0 n (compareOp .Lt) (.int a) (.int b) H Q := fun u v hu hv => .mk <| fun A F s _ f => by
  obtain ⟨t, rfl⟩ := abs_int hu; obtain ⟨t', rfl⟩ := abs_int hv
  with_reducible refine wpAny_lt_int ?_
  exact ⟨H, f, h⟩
theorem B_gt {a b : Int} {Q : V → AH → Prop} (h : Q (.bool (decide (b < a))) H) : Bin prog w S0 n (compareOp .Gt) (.int a) (.int b) H Q := fun u v hu hv => .mk <| fun A F s _ f => by
  obtain ⟨t, rfl⟩ := abs_int hu; obtain ⟨t', rfl⟩ := abs_int hv
  with_reducible refine SiftDown.gt_int ?_
  exact ⟨H, f, h⟩
theorem B_ge {a b : Int} {Q : V → AH → Prop} (h : Q (.bool (decide (b ≤ a))) H) : Bin prog w S0 n (compareOp .GtE) (.int a) (.int b) H Q := fun u v hu hv => .mk <| fun A F s _ f => by
  obtain ⟨t, rfl⟩ := abs_int hu; obtain ⟨t', rfl⟩ := abs_int hv
  with_reducible refine ge_int ?_
  exact ⟨H, f, h⟩
theorem B_le {a b : Int} {Q : V → AH → Prop} (h : Q (.bool (decide (a ≤ b))) H) : Bin prog w S0 n (compareOp .LtE) (.int a) (.int b) H Q := fun u v hu hv => .mk <| fun A F s _ f => by
  obtain ⟨t, rfl⟩ := abs_int hu; obtain ⟨t', rfl⟩ := abs_int hv
  with_reducible refine le_int ?_
  exact ⟨H, f, h⟩
end
section
variable {prog : Program} {w : World} {S0 : Shared} {K : Frag} {G : List (Str × V)} {n : Nat} {env : Env} {ρ : Rho} {H : AH}

/-! ### new objects -/
theorem St.new {F : CH} {s : Shared} {D : Addr} (f : St prog w S0 F H s) (hn : s.heap.get? D = none) : F D = none ∧ H D = none := by
  constructor
  · cases q : F D with
    | none => rfl
    | some z => have := f.fr _ _ q; rw [hn] at this; cases this
  · cases q : H D with
    | none => rfl
    | some z => obtain ⟨y, hy, _⟩ := f.obj q; rw [hn] at hy; cases hy
theorem size_none (h : Heap) {a : Addr} (ha : h.objs.size ≤ a) : h.get? a = none := by
  cases q : h.get? a with
  | none => rfl
  | some z => exact absurd (Heap.lt_size q) (Nat.not_lt.mpr ha)

theorem St.make {F : CH} {s : Shared} {D : Addr} {y : O} {o : Obj} {h' : Heap} {tk : Nat} (f : St prog w S0 F H s) (hn : s.heap.get? D = none) (hk : ∀ b o, s.heap.get? b = some o → h'.get? b = some o) (ho : h'.get? D = some o) (hm : OM prog w y o) :
    St prog w S0 F (H.set D y) { s with heap := h', toks := tk } := by
  refine ⟨let ⟨_, _, e⟩ := f.same; ⟨h', tk, by rw [e]⟩, f.base, fun a z e => hk a z (f.fr a z e), fun a z e => ?_⟩
  by_cases q : a = D
  · subst q; rw [AH.set_same] at e; cases e; exact ⟨(f.new hn).1, o, ho, hm⟩
  · rw [AH.set_ne _ _ q] at e
    obtain ⟨x, hx, m⟩ := f.obj e
    exact ⟨(f.hp a z e).1, x, hk a x hx, m⟩

theorem Fm.make {F : CH} {s : Shared} {D : Addr} {y : O} {o : Obj} {h' : Heap} {tk : Nat} (f : Fm prog w S0 env ρ F H s) (hn : s.heap.get? D = none) (hk : ∀ b o, s.heap.get? b = some o → h'.get? b = some o) (ho : h'.get? D = some o) (hm : OM prog w y o) :
    H D = none ∧ Fm prog w S0 env ρ F (H.set D y) { s with heap := h', toks := tk } := by
  obtain ⟨a, b⟩ := f.st.new hn
  refine ⟨b, (f.grow (tk := tk) hk).adopt b a ho hm (fun e => ?_) fun z c hc e => ?_⟩
  · obtain ⟨m, ⟨oL, _, _, hL, _⟩, _⟩ := f.ns
    rw [← e, hn] at hL; cases hL
  · obtain ⟨_, vo, oc, hoc, _⟩ := f.ce z c hc
    rw [← e, hn] at hoc; cases hoc

theorem OM_list (prog : Program) (w : World) (vs : List Value) (n : Nat) (h : vs.length ≤ lid) : OM prog w (.list (vs.map abs)) { cls := .type "list", dict := none, data := .seq vs.toArray n, slots := #[] } := ⟨_, n, rfl, by simp, by simpa using h⟩
theorem OM_tup (prog : Program) (w : World) (vs : List Value) (n : Nat) (h : vs.length ≤ lid) : OM prog w (.tup (vs.map abs)) { cls := .type "tuple", dict := none, data := .seq vs.toArray n, slots := #[] } := ⟨rfl, rfl, _, n, rfl, by simp, by simpa using h⟩

theorem E_list {es : List Expr} {pos : Pos} {Q : V → AH → Prop} (h : EvA prog w S0 n env ρ es pos H fun vs H₁ => vs.length ≤ lid ∧ ∀ D, H₁ D = none → Q (.ref D) (H₁.set D (.list vs))) : EvV prog w S0 n env ρ (.List es pos) H Q := .mk <| fun A F s hr f => by
  with_reducible refine wpAny_List_spliced ?_
  refine bot (h.run A F s hr f) fun us s₁ ⟨H₁, f₁, hl, hQ⟩ => ?_
  have hl' : us.length ≤ lid := by simpa using hl
  obtain ⟨a, b⟩ := f₁.make (tk := s₁.toks) (size_none _ (Nat.le_refl _)) (fun b o e => Heap.get?_push_of_some _ e) (Heap.get?_push_size _ rfl) (OM_list prog w us 0 hl')
  exact ⟨Nat.le_trans hl' lid_le, _, b, hQ _ a⟩
theorem E_tup {es : List Expr} {k : Nat} {pos : Pos} {Q : V → AH → Prop} (h : EvA prog w S0 n env ρ es pos H fun vs H₁ => vs.length ≤ lid ∧ ∀ D, H₁ D = none → Q (.ref D) (H₁.set D (.tup vs))) : EvV prog w S0 n env ρ (.Tuple es k pos) H Q := .mk <| fun A F s hr f => by
  with_reducible refine wpAny_Tuple_spliced ?_
  refine bot (h.run A F s hr f) fun us s₁ ⟨H₁, f₁, hl, hQ⟩ => ?_
  have hl' : us.length ≤ lid := by simpa using hl
  obtain ⟨a, b⟩ := f₁.make (tk := s₁.toks) (size_none _ (Nat.le_refl _)) (fun b o e => Heap.get?_push_of_some _ e) (Heap.get?_push_size _ rfl) (OM_tup prog w us 0 hl')
  exact ⟨Nat.le_trans hl' lid_le, _, b, hQ _ a⟩

/-! ### attributes -/
def UnaV (prog : Program) (w : World) (S0 : Shared) (n : Nat) (t : Value → Sem Value) (a : V) (H : AH) (Q : V → AH → Prop) : Prop := ∀ u, abs u = a → OpV prog w S0 n (t u) H Q
theorem E_attr {ob : Expr} {attr : Str} {pos : Pos} {Q : V → AH → Prop} (hb : attributeBase ob attr env (eval ob env) = eval ob env) (h : EvV prog w S0 n env ρ ob H fun a H₁ => UnaV prog w S0 n (fun u => getAttr u attr true) a H₁ Q) :
    EvV prog w S0 n env ρ (.Attribute ob attr pos) H Q := .mk <| fun A F s hr f => by
  rw [arm_eval_Attribute, hb]
  refine wpAny_bind (bot (h.run A F s hr f) fun u s₁ ⟨H₁, f₁, h₁⟩ => ?_)
  refine wpAny_bind (wpAny_standAt (wpAny_bind (wpAny_holding (bot (f₁.lift hr (h₁ u rfl)) fun r s₂ h₂ => ?_))))
  exact wpAny_bind (wpAny_letTemporaryGo (wpAny_pure h₂))

theorem U_get {x C N dx : Addr} {mN : Str → Option Value} {fs : List (Str × V)} {name : Str} {v : V} {Q : V → AH → Prop} (c : Cls S0 C N mN) (fr : Free mN name) (hx : H x = some (.inst C dx)) (hd : H dx = some (.ns fs)) (hv : fs.lookup name = some v)
    (hp : isPlain v) (h : Q v H) : UnaV prog w S0 n (fun u => getAttr u name true) (.ref x) H Q := fun u hu => by
  rw [abs_ref hu]; exact O_get c fr hx hd hv hp h

/-! ### calls of a method -/
theorem E_meth {o : Expr} {name : Str} {apos pos : Pos} {args : List Expr} {Q : V → AH → Prop} (hb : attributeBase o name env (eval o env) = eval o env) (hfew : methodCallForm (args.length + 0) (backTo pos (starEach args env)) (backToKw pos (keywordEach [] env)) = true)
    (hline : (apos.endLine == pos.line) = true) (ht : (backTo pos (starEach args env)).any (·.1) = false)
    (h : EvV prog w S0 n env ρ o H fun a H₁ => ∃ f x, a = .ref x ∧ (∀ pl, Op prog w S0 n (getMethod (.ref x) name pl) H₁ fun p H₂ => p = (f, [.ref x]) ∧ H₂ = H₁) ∧ Keeps1 prog w S0 f ∧ EvA prog w S0 n env ρ args pos H₁ fun vs H₃ => Cn prog w S0 n f (.ref x :: vs) H₃ Q) :
    EvV prog w S0 n env ρ (.Call (.Attribute o name apos) args [] pos) H Q := .mk <| fun A F s hr f => by
  rw [arm_eval_Call, hb]
  refine wpAny_bind (bot (h.run A F s hr f) fun u s₁ ⟨H₁, f₁, g, x, hx, hm, hk, h₁⟩ => ?_)
  rw [abs_ref hx]
  refine wpAny_bind (wpAny_standAt ?_)
  have hpos : methodCallPos true o env apos pos = pure pos := by unfold methodCallPos; simp [hline]
  unfold methodCall
  have hfew' : methodCallForm (args.length + ([] : List Keyword).length) (backTo pos (starEach args env)) (backToKw pos (keywordEach [] env)) = true := hfew
  rw [hfew']
  refine wpAny_bind (wpAny_holding (bot (f₁.lift hr (hm _)) fun p s₂ ⟨H₂, f₂, e₁, e₂⟩ => ?_))
  subst e₁; subst e₂
  exact wpAny_bind (wpAny_of_eq hpos ((E_callWith (first := [.ref x]) hk ht h₁).run A F s₂ hr f₂))
end
section
variable {prog : Program} {w : World} {S0 : Shared} {K : Frag} {G : List (Str × V)} {n : Nat} {env : Env} {ρ : Rho} {H : AH}

/-! ### what keeps a callable -/
theorem keeps_builtin (id : String) : Keeps1 prog w S0 (.builtin id) := fun A F H s f Q' hq => by
  unfold keeperOf; exact wpAny_pure (hq _)
theorem keeps_type (id : String) : Keeps1 prog w S0 (.type id) := fun A F H s f Q' hq => by
  unfold keeperOf; exact wpAny_pure (hq _)
theorem keeps_K {f : Value} (B : Bs prog w S0 K G) (e : keepIn K f = true) : Keeps1 prog w S0 f := fun A F H s st Q' hq => by
  obtain ⟨k, _, hl⟩ := looks_keep (M := model prog w) e (st.frag B)
  exact hl A Q' _ s (fun _ _ e => e) (hq k)

/-! ### methods of lists and dicts -/
theorem M_list {x : Addr} {xs : List V} {name : Str} {id : String} {pl : Sem Bool} (hx : H x = some (.list xs)) (slot : Slot "list" name id) (hty : typeOf (.builtin id) = pure (.type "method_descriptor")) :
    Op prog w S0 n (getMethod (.ref x) name pl) H fun p H₂ => p = (.builtin id, [.ref x]) ∧ H₂ = H := .mk <| fun A F s _ f => by
  obtain ⟨vs, nn, ho, _⟩ := f.isL hx
  have hT : s.TypeIs (.ref x) "list" := ⟨_, ho, rfl⟩
  with_reducible refine getMethod_builtin hT PySem.F.plainAttrs_list slot hty (fun a e => by cases e; exact ⟨_, ho, rfl⟩) ?_
  exact ⟨H, f, rfl, rfl⟩

noncomputable def isD : O → Bool
  | .sdict _ => true
  | .idict _ => true
  | _ => false
theorem St.isDict {F : CH} {s : Shared} {x : Addr} {d : O} (f : St prog w S0 F H s) (hx : H x = some d) (hd : isD d = true) : ∃ o, s.heap.get? x = some o ∧ o.cls = .type "dict" ∧ o.dict = none := by
  obtain ⟨o, ho, m⟩ := f.obj hx
  cases d with
  | sdict kvs => obtain ⟨r, ⟨es, ep, hc, _⟩, _⟩ := m; exact ⟨o, ho, hc.1, hc.2.1⟩
  | idict kvs => obtain ⟨r, ⟨es, ep, hc, _⟩, _⟩ := m; exact ⟨o, ho, hc.1, hc.2.1⟩
  | _ => cases hd
theorem M_dict {x : Addr} {d : O} {name : Str} {id : String} {pl : Sem Bool} (hx : H x = some d) (hd : isD d = true) (slot : Slot "dict" name id) (hty : typeOf (.builtin id) = pure (.type "method_descriptor")) :
    Op prog w S0 n (getMethod (.ref x) name pl) H fun p H₂ => p = (.builtin id, [.ref x]) ∧ H₂ = H := .mk <| fun A F s _ f => by
  obtain ⟨o, ho, hc, hdi⟩ := f.isDict hx hd
  have hT : s.TypeIs (.ref x) "dict" := ⟨_, ho, hc⟩
  with_reducible refine getMethod_builtin hT PySem.F.plainAttrs_dict slot hty (fun a e => by cases e; exact ⟨_, ho, hdi⟩) ?_
  exact ⟨H, f, rfl, rfl⟩

theorem OM_l {xs : List V} {vs : Array Value} {nn : Nat} (e : vs.toList.map abs = xs) (h : vs.size ≤ lid) : OM prog w (.list xs) { cls := .type "list", dict := none, data := .seq vs nn, slots := #[] } := ⟨vs, nn, rfl, e, h⟩
/-! ### list.append, list.pop(0), list.index -/
theorem map_c {us : List Value} {a : V} {l : List V} (h : us.map abs = a :: l) : ∃ u r, us = u :: r ∧ abs u = a ∧ r.map abs = l := by
  cases us with
  | nil => cases h
  | cons u r =>
    rw [List.map_cons] at h
    injection h with h1 h2
    exact ⟨u, r, rfl, h1, h2⟩
theorem map_two {us : List Value} {a b : V} (h : us.map abs = [a, b]) : ∃ u0 u1, us = [u0, u1] ∧ abs u0 = a ∧ abs u1 = b := by
  obtain ⟨u0, us, rfl, hu0, h⟩ := map_c h
  obtain ⟨u1, us, rfl, hu1, h⟩ := map_c h
  obtain rfl := List.map_eq_nil_iff.mp h
  exact ⟨u0, u1, rfl, hu0, hu1⟩
theorem map_one {us : List Value} {a : V} (h : us.map abs = [a]) : ∃ u0, us = [u0] ∧ abs u0 = a := by
  obtain ⟨u0, us, rfl, hu0, h⟩ := map_c h
  obtain rfl := List.map_eq_nil_iff.mp h
  exact ⟨u0, rfl, hu0⟩
theorem map_three {us : List Value} {a b c : V} (h : us.map abs = [a, b, c]) : ∃ u0 u1 u2, us = [u0, u1, u2] ∧ abs u0 = a ∧ abs u1 = b ∧ abs u2 = c := by
  obtain ⟨u0, us, rfl, hu0, h⟩ := map_c h
  obtain ⟨u1, us, rfl, hu1, h⟩ := map_c h
  obtain ⟨u2, us, rfl, hu2, h⟩ := map_c h
  obtain rfl := List.map_eq_nil_iff.mp h
  exact ⟨u0, u1, u2, rfl, hu0, hu1, hu2⟩
theorem map_four {us : List Value} {a b c d : V} (h : us.map abs = [a, b, c, d]) : ∃ u0 u1 u2 u3, us = [u0, u1, u2, u3] ∧ abs u0 = a ∧ abs u1 = b ∧ abs u2 = c ∧ abs u3 = d := by
  obtain ⟨u0, us, rfl, hu0, h⟩ := map_c h
  obtain ⟨u1, us, rfl, hu1, h⟩ := map_c h
  obtain ⟨u2, us, rfl, hu2, h⟩ := map_c h
  obtain ⟨u3, us, rfl, hu3, h⟩ := map_c h
  obtain rfl := List.map_eq_nil_iff.mp h
  exact ⟨u0, u1, u2, u3, rfl, hu0, hu1, hu2, hu3⟩
theorem map_five {us : List Value} {a b c d e : V} (h : us.map abs = [a, b, c, d, e]) : ∃ u0 u1 u2 u3 u4, us = [u0, u1, u2, u3, u4] ∧ abs u0 = a ∧ abs u1 = b ∧ abs u2 = c ∧ abs u3 = d ∧ abs u4 = e := by
  obtain ⟨u0, us, rfl, hu0, h⟩ := map_c h
  obtain ⟨u1, us, rfl, hu1, h⟩ := map_c h
  obtain ⟨u2, us, rfl, hu2, h⟩ := map_c h
  obtain ⟨u3, us, rfl, hu3, h⟩ := map_c h
  obtain ⟨u4, us, rfl, hu4, h⟩ := map_c h
  obtain rfl := List.map_eq_nil_iff.mp h
  exact ⟨u0, u1, u2, u3, u4, rfl, hu0, hu1, hu2, hu3, hu4⟩
theorem map_seven {us : List Value} {a b c d e f g : V} (h : us.map abs = [a, b, c, d, e, f, g]) : ∃ u0 u1 u2 u3 u4 u5 u6, us = [u0, u1, u2, u3, u4, u5, u6] ∧ abs u0 = a ∧ abs u1 = b ∧ abs u2 = c ∧ abs u3 = d ∧ abs u4 = e ∧ abs u5 = f ∧ abs u6 = g := by
  obtain ⟨u0, us, rfl, hu0, h⟩ := map_c h
  obtain ⟨u1, us, rfl, hu1, h⟩ := map_c h
  obtain ⟨u2, us, rfl, hu2, h⟩ := map_c h
  obtain ⟨u3, us, rfl, hu3, h⟩ := map_c h
  obtain ⟨u4, us, rfl, hu4, h⟩ := map_c h
  obtain ⟨u5, us, rfl, hu5, h⟩ := map_c h
  obtain ⟨u6, us, rfl, hu6, h⟩ := map_c h
  obtain rfl := List.map_eq_nil_iff.mp h
  exact ⟨u0, u1, u2, u3, u4, u5, u6, rfl, hu0, hu1, hu2, hu3, hu4, hu5, hu6⟩

theorem Cn_append {x : Addr} {xs : List V} {v : V} {Q : V → AH → Prop} (hx : H x = some (.list xs)) (hl : xs.length < lid) (h : Q .none (H.set x (.list (xs ++ [v])))) : Cn prog w S0 n (.builtin "list.append") [.ref x, v] H Q := fun us hu => .mk <| fun A F s _ f => by
  obtain ⟨u, y, rfl, h1, h2⟩ := map_two hu
  rw [abs_ref h1]
  obtain ⟨vs, nn, ho, m, hz, _⟩ := f.isL hx
  have hsz : vs.size ≤ sizeLine := Nat.le_trans (Nat.le_of_lt (by omega)) lid_le
  have hp : s.heap.PlainList x vs := ⟨nn, ho⟩
  with_reducible refine wpAny_list_append_plain (hsz := hsz) hp fun h' hp' hs => ?_
  obtain ⟨n', ho'⟩ := hp'
  refine ⟨_, f.upd hx hs ho' (OM_l ?_ ?_), h⟩
  · rw [Array.toList_push, List.map_append, m, ← h2]; rfl
  · rw [Array.size_push]; omega

theorem Cn_pop0 {x : Addr} {y : V} {xs : List V} {Q : V → AH → Prop} (hx : H x = some (.list (y :: xs))) (h : Q y (H.set x (.list xs))) : Cn prog w S0 n (.builtin "list.pop") [.ref x, .int 0] H Q := fun us hu => .mk <| fun A F s _ f => by
  obtain ⟨u, z, rfl, h1, h2⟩ := map_two hu
  rw [abs_ref h1]
  obtain ⟨t, rfl⟩ := abs_int h2
  obtain ⟨vs, nn, ho, m, hz, hle⟩ := f.isL hx
  obtain ⟨vl⟩ := vs
  match vl, m, hz, hle, ho with
  | v :: r, m, hz, hle, ho =>
  simp only [List.map_cons, List.cons.injEq] at m
  have hsz : (v :: r).toArray.size ≤ sizeLine := Nat.le_trans hle lid_le
  have hk : seqIndex? 0 (v :: r).toArray.size = some 0 := by simp [seqIndex?]
  refine @call_meets prog w A _ s _ _ _ _ _ _ _ _ PySem.F.slot_list_pop ⟨_, ho, rfl⟩ PySem.F.entry_list_pop (PySem.F.args_list_pop_2 _ _) (MeetsSeq.list_pop_at x (v :: r).toArray nn 0 t 0 v (by decide) hk (by simp) hsz) ⟨ho, ?_⟩
  have e' := PySem.IsL.update (n := nn) ho (fun xs => xs.eraseIdxIfInBounds 0)
  have q : ((v :: r).toArray.eraseIdxIfInBounds 0) = r.toArray := by simp [Array.eraseIdxIfInBounds]
  rw [q] at e'
  refine ⟨_, f.upd hx (Heap.SameBut.update ..) e' (OM_l (xs := xs) (by simpa using m.2) ?_), ?_⟩
  · simp at hle ⊢; omega
  · show Q (abs v) _; rw [m.1]; exact h
end
section
variable {prog : Program} {w : World} {S0 : Shared} {K : Frag} {G : List (Str × V)} {n : Nat} {env : Env} {ρ : Rho} {H : AH}

/-! ### dicts -/
def dOM {κ : Type} [DecidableEq κ] (knd : KeyKind prog w κ) (kvs : List (κ × V)) (o : Obj) : Prop := ∃ r : List (κ × Value), o.IsDictOf knd r ∧ r.map (fun p => (p.1, abs p.2)) = kvs ∧ r.length ≤ lid
structure DK (prog : Program) (w : World) {κ : Type} [DecidableEq κ] (knd : KeyKind prog w κ) (mk : List (κ × V) → O) (kv : κ → V) : Prop where
  om : ∀ kvs o, OM prog w (mk kvs) o = dOM knd kvs o
  is : ∀ k u, abs u = kv k → knd.is k u = true
  back : ∀ k u, knd.is k u = true → abs u = kv k
  isD : ∀ kvs, isD (mk kvs) = true
theorem dkS (prog : Program) (w : World) : DK prog w (PySem.strKind prog w) O.sdict V.str :=
  ⟨fun _ _ => rfl, fun k u h => by obtain ⟨t, rfl⟩ := abs_str h; simp [PySem.strKind, Value.isStrOf], fun k u h => by obtain ⟨t, rfl⟩ := Value.isStrOf_shape h; rfl, fun _ => rfl⟩
theorem dkI (prog : Program) (w : World) : DK prog w (PySem.intKind prog w) O.idict V.int :=
  ⟨fun _ _ => rfl, fun k u h => by obtain ⟨t, rfl⟩ := abs_int h; simp [PySem.intKind, Value.isInt], fun k u h => by
    obtain ⟨t, rfl⟩ := Value.isInt_shape h; rfl, fun _ => rfl⟩

section
variable {κ : Type} [DecidableEq κ] {knd : KeyKind prog w κ} {mk : List (κ × V) → O} {kv : κ → V}

noncomputable def look (kvs : List (κ × V)) (k : κ) : Option V := (kvs.find? fun p => p.1 = k).map (·.2)
noncomputable def put (kvs : List (κ × V)) (k : κ) (v : V) : List (κ × V) := if kvs.any (fun p => p.1 = k) then kvs.map (fun p => if p.1 = k then (p.1, v) else p) else kvs ++ [(k, v)]
theorem look_map (r : List (κ × Value)) (k : κ) : (valueAt r k).map abs = look (r.map fun p => (p.1, abs p.2)) k := by
  unfold valueAt look
  rw [List.find?_map, Option.map_map, Option.map_map]
  rfl
theorem put_map (r : List (κ × Value)) (k : κ) (v : Value) : (stored r k v).map (fun p => (p.1, abs p.2)) = put (r.map fun p => (p.1, abs p.2)) k (abs v) := by
  unfold stored put
  rw [List.any_map]
  split <;> rename_i h
  · rw [if_pos (by exact h), List.map_map, List.map_map]
    refine List.map_congr_left fun p _ => ?_
    simp only [Function.comp]
    split <;> simp [*]
  · rw [if_neg (by exact h)]; simp
theorem put_length (kvs : List (κ × V)) (k : κ) (v : V) : (put kvs k v).length ≤ kvs.length + 1 := by unfold put; split <;> simp
theorem look_put (kvs : List (κ × V)) (k : κ) (v : V) (j : κ) : look (put kvs k v) j = if j = k then some v else look kvs j := by
  unfold look put
  split
  · rename_i h
    rw [List.find?_map]
    have e : ((fun p : κ × V => decide (p.1 = j)) ∘ fun p : κ × V => if p.1 = k then (p.1, v) else p) = fun p => decide (p.1 = j) := by
      funext p
      simp only [Function.comp]
      split <;> rfl
    rw [e, Option.map_map]
    cases q : kvs.find? (fun p => decide (p.1 = j)) with
    | none =>
      by_cases hj : j = k
      · subst hj
        obtain ⟨p, hp, hpk⟩ := List.any_eq_true.mp h
        exact absurd hpk (List.find?_eq_none.mp q p hp)
      · simp [hj]
    | some p =>
      have hp : p.1 = j := by simpa using List.find?_some q
      by_cases hj : j = k
      · simp [hj, hp]
      · have : ¬ p.1 = k := by rw [hp]; exact hj
        simp [hj, this]
  · rename_i h
    rw [List.find?_append]
    by_cases hj : j = k
    · subst hj
      have : kvs.find? (fun p => decide (p.1 = j)) = none := List.find?_eq_none.mpr fun p hp q => h (List.any_eq_true.mpr ⟨p, hp, q⟩)
      simp [this]
    · have : ¬ k = j := fun e => hj e.symm
      simp [hj, this]

theorem St.dict {F : CH} {s : Shared} {d : Addr} {kvs : List (κ × V)} (dk : DK prog w knd mk kv) (f : St prog w S0 F H s) (hd : H d = some (mk kvs)) : ∃ r, s.heap.DictOf knd d r ∧ r.map (fun p => (p.1, abs p.2)) = kvs ∧ r.length ≤ lid := by
  obtain ⟨o, ho, m⟩ := f.obj hd
  rw [dk.om] at m
  obtain ⟨r, h1, h2, h3⟩ := m
  exact ⟨r, Heap.dictOf_iff.mpr ⟨o, ho, h1⟩, h2, h3⟩

theorem size_lt {m : Nat} (h : m ≤ lid) : (m : Int) < 2 ^ 63 := by unfold lid at h; omega

theorem B_inD {d : Addr} {kvs : List (κ × V)} {k : κ} {Q : V → AH → Prop} (B : Bs prog w S0 K G) (dk : DK prog w knd mk kv) (hd : H d = some (mk kvs)) (h : Q (.bool (look kvs k).isSome) H) : Bin prog w S0 n (compareOp .In) (kv k) (.ref d) H Q := fun u v hu hv => .mk <| fun A F s _ f => by
  rw [abs_ref hv]
  obtain ⟨r, h1, h2, _⟩ := f.dict dk hd
  with_reducible refine wpAny_in_of (dk.is k u hu) (f.mods B hd) h1.mapOf ?_
  refine ⟨H, f.toks _, ?_⟩
  have := look_map r k
  rw [h2] at this
  rw [← this, Option.isSome_map] at h
  exact h
theorem B_notInD {d : Addr} {kvs : List (κ × V)} {k : κ} {Q : V → AH → Prop} (B : Bs prog w S0 K G) (dk : DK prog w knd mk kv) (hd : H d = some (mk kvs)) (h : Q (.bool (!(look kvs k).isSome)) H) : Bin prog w S0 n (compareOp .NotIn) (kv k) (.ref d) H Q := fun u v hu hv => .mk <| fun A F s _ f => by
  rw [abs_ref hv]
  obtain ⟨r, h1, h2, _⟩ := f.dict dk hd
  with_reducible refine wpAny_notIn_of (dk.is k u hu) (f.mods B hd) h1.mapOf ?_
  refine ⟨H, f.toks _, ?_⟩
  have := look_map r k
  rw [h2] at this
  rw [← this, Option.isSome_map] at h
  exact h

theorem Cn_get {d : Addr} {kvs : List (κ × V)} {k : κ} {Q : V → AH → Prop} (B : Bs prog w S0 K G) (dk : DK prog w knd mk kv) (hd : H d = some (mk kvs)) (h : Q ((look kvs k).getD .none) H) : Cn prog w S0 n (.builtin "dict.get") [.ref d, kv k] H Q := fun us hu => .mk <| fun A F s _ f => by
  obtain ⟨u, y, rfl, h1, h2⟩ := map_two hu
  rw [abs_ref h1]
  obtain ⟨r, q1, q2, _⟩ := f.dict dk hd
  refine wpAny_call (codeAny_call_builtin PySem.F.slot_dict_get.plain PySem.F.entry_dict_get (PySem.F.slot_dict_get.check _ _ _ _ _ _ _ _ q1.typeIs (PySem.F.args_dict_get_2 _ _) ((meets_dict_get knd d (dk.is k y h2) (f.mods B hd)) A (wants _ _) s ⟨_, q1.mapOf, ?_⟩)))
  refine ⟨H, f.toks _, ?_⟩
  have := look_map r k
  rw [q2] at this
  rw [← this] at h
  cases e : valueAt r k with
  | none => rw [e] at h; exact h
  | some z => rw [e] at h; exact h

/-- d[k] -/
theorem U_item {d : Addr} {kvs : List (κ × V)} {k : κ} {v : V} {Q : V → AH → Prop} (dk : DK prog w knd mk kv) (hd : H d = some (mk kvs)) (hv : look kvs k = some v) (h : Q v H) : Bin prog w S0 n getItem (.ref d) (kv k) H Q := fun u y hu hy => .mk <| fun A F s _ f => by
  rw [abs_ref hu]
  obtain ⟨r, q1, q2, _⟩ := f.dict dk hd
  have := look_map r k
  rw [q2, hv] at this
  obtain ⟨z, hz, hzv⟩ := Option.map_eq_some_iff.mp this
  with_reducible refine wpAny_getItem_of (dk.is k y hy) q1.mapOf hz ?_
  exact ⟨H, f.toks _, by show Q (abs z) H; rw [hzv]; exact h⟩

/-- d[k] = v -/
theorem U_setItem {d : Addr} {kvs : List (κ × V)} {k : κ} {v : V} {Q : AH → Prop} (dk : DK prog w knd mk kv) (hd : H d = some (mk kvs)) (hl : kvs.length < lid) (h : Q (H.set d (mk (put kvs k v)))) :
    ∀ u x y, abs u = v → abs x = .ref d → abs y = kv k → Op prog w S0 n (setItem x y u) H fun _ H' => Q H' := fun u x y hu hx hy => .mk <| fun A F s _ f => by
  rw [abs_ref hx]
  obtain ⟨r, q1, q2, q3⟩ := f.dict dk hd
  have hlr : r.length = kvs.length := by rw [← q2]; simp
  with_reducible refine wpAny_setItem_pairs (dk.is k y hy) q1 (fun h' hd' hs => ?_) (Nat.le_trans q3 lid_le)
  obtain ⟨o', ho', ho2⟩ := Heap.dictOf_iff.mp hd'
  refine ⟨_, (f.upd hd hs ho' ?_).toks _, h⟩
  rw [dk.om]
  have e := put_map r k u
  rw [q2, hu] at e
  refine ⟨_, ho2, e, ?_⟩
  have := congrArg List.length e
  rw [List.length_map] at this
  rw [this]
  have := put_length kvs k v
  omega

theorem Cn_lenD {d : Addr} {kvs : List (κ × V)} {Q : V → AH → Prop} (B : Bs prog w S0 K G) (dk : DK prog w knd mk kv) (hd : H d = some (mk kvs)) (h : Q (.int kvs.length) H) : Cn prog w S0 n (.builtin "len") [.ref d] H Q := fun us hu => .mk <| fun A F s _ f => by
  obtain ⟨u, rfl, h1⟩ := map_one hu
  rw [abs_ref h1]
  obtain ⟨r, q1, q2, q3⟩ := f.dict dk hd
  have hlr : r.length = kvs.length := by rw [← q2]; simp
  with_reducible refine call_len_dict (f.mods B hd) q1 (size_lt q3) ?_
  exact ⟨H, f.toks _, by rw [← hlr] at h; exact h⟩

/-- list(d) -/
theorem Cn_listD {d : Addr} {kvs : List (κ × V)} {Q : V → AH → Prop} (B : Bs prog w S0 K G) (dk : DK prog w knd mk kv) (hd : H d = some (mk kvs)) (h : ∀ D, H D = none → Q (.ref D) (H.set D (.list (kvs.map fun p => kv p.1)))) : Cn prog w S0 n (.type "list") [.ref d] H Q := fun us hu => .mk <| fun A F s hr f => by
  obtain ⟨u, rfl, h1⟩ := map_one hu
  rw [abs_ref h1]
  obtain ⟨r, q1, q2, q3⟩ := f.dict dk hd
  obtain ⟨ep, hat⟩ := q1.dictAt
  have hh : A.handled = none := hr.2.2
  with_reducible refine kdl_call (kdl_dict (knd := knd) (kvs := r) (ep := ep) (f.mods B hd)) hh hat (Nat.le_trans q3 lid_le) fun h' tk acc' c' hk hD hacc => ?_
  have hn := size_none s.heap (Nat.le_refl _)
  have e : acc'.toList.map abs = kvs.map fun p => kv p.1 := by
    have hl : acc'.toList.length = r.length := by rw [Array.length_toList]; exact hacc.1
    apply List.ext_getElem?
    intro j
    rw [← q2, List.map_map, List.getElem?_map, List.getElem?_map]
    cases q : acc'.toList[j]? with
    | none =>
      have : r[j]? = none := by
        rw [List.getElem?_eq_none_iff] at q ⊢; omega
      rw [this]; rfl
    | some v =>
      obtain ⟨k, x, hx, hk'⟩ := hacc.2 j v (by rw [← Array.getElem?_toList]; exact q)
      rw [hx]
      simp [dk.back k v hk']
  have hsz : acc'.size ≤ lid := by rw [hacc.1]; exact q3
  exact ⟨_, f.make (tk := tk) hn hk hD (OM_l e hsz), h _ (f.new hn).2⟩

/-- dict(d) -/
theorem Cn_dict {d : Addr} {kvs : List (κ × V)} {Q : V → AH → Prop} (B : Bs prog w S0 K G) (dk : DK prog w knd mk kv) (hd : H d = some (mk kvs)) (h : ∀ D, H D = none → Q (.ref D) (H.set D (mk kvs))) : Cn prog w S0 n (.type "dict") [.ref d] H Q := fun us hu => .mk <| fun A F s hr f => by
  obtain ⟨u, rfl, h1⟩ := map_one hu
  rw [abs_ref h1]
  obtain ⟨r, q1, q2, q3⟩ := f.dict dk hd
  with_reducible refine kt_call_dict (f.mods B hd) q1 (Nat.le_trans q3 lid_le) fun h' hm hs => ?_
  have hn := size_none s.heap (Nat.le_refl _)
  obtain ⟨o', ho', ho2⟩ := Heap.dictOf_iff.mp hm
  refine ⟨_, f.make (tk := s.toks) hn (fun b o e => hs.extBut b o (Nat.ne_of_lt (Heap.lt_size e)) (Heap.get?_push_of_some _ e)) ho' ?_, h _ (f.new hn).2⟩
  rw [dk.om]
  exact ⟨r, ho2, q2, q3⟩

/-- {} -/
theorem E_dict0 {pos : Pos} {Q : V → AH → Prop} (dk : DK prog w knd mk kv) (h : ∀ D, H D = none → Q (.ref D) (H.set D (mk []))) : EvV prog w S0 n env ρ (.Dict [] [] pos) H Q := .mk <| fun A F s hr f => by
  with_reducible refine wpAny_Dict_empty ?_
  obtain ⟨o', ho', ho2⟩ := Heap.dictOf_iff.mp (Heap.DictOf.new (knd := knd) s.heap)
  obtain ⟨a, b⟩ := f.make (y := mk []) (tk := s.toks) (size_none _ (Nat.le_refl _)) (fun b o e => Heap.get?_push_of_some _ e) ho' (by rw [dk.om]; exact ⟨[], ho2, rfl, Nat.zero_le _⟩)
  exact ⟨_, b, h _ a⟩
end
end
section
variable {prog : Program} {w : World} {S0 : Shared} {K : Frag} {G : List (Str × V)} {n : Nat} {env : Env} {ρ : Rho} {H : AH}

/-! ### len, range, list, max -/
theorem Cn_lenL {a : Addr} {xs : List V} {Q : V → AH → Prop} (ha : H a = some (.list xs)) (h : Q (.int xs.length) H) : Cn prog w S0 n (.builtin "len") [.ref a] H Q := fun us hu => .mk <| fun A F s _ f => by
  obtain ⟨u, rfl, h1⟩ := map_one hu
  rw [abs_ref h1]
  obtain ⟨vs, l1, m1, z1, z2⟩ := f.isList ha
  with_reducible refine call_len_list l1 (size_lt z2) ?_
  exact ⟨H, f.toks _, by rw [← z1] at h; exact h⟩

theorem Cn_range {k : Int} {Q : V → AH → Prop} (h : ∀ D, H D = none → Q (.ref D) (H.set D (.rng k))) : Cn prog w S0 n (.type "range") [.int k] H Q := fun us hu => .mk <| fun A F s _ f => by
  obtain ⟨u, rfl, h1⟩ := map_one hu
  obtain ⟨t, rfl⟩ := abs_int h1
  with_reducible refine call_range_1 ?_
  have hn := size_none s.heap (Nat.le_refl _)
  exact ⟨_, f.make (y := .rng k) (tk := s.toks + 1 + 1) hn (fun b o e => Heap.get?_push_of_some _ e) (Heap.get?_push_size _ rfl) ⟨_, _, _, rfl⟩, h _ (f.new hn).2⟩

theorem Cn_listL {a : Addr} {xs : List V} {Q : V → AH → Prop} (ha : H a = some (.list xs)) (h : ∀ D, H D = none → Q (.ref D) (H.set D (.list xs))) : Cn prog w S0 n (.type "list") [.ref a] H Q := fun us hu => .mk <| fun A F s _ f => by
  obtain ⟨u, rfl, h1⟩ := map_one hu
  rw [abs_ref h1]
  obtain ⟨vs, nn, ho, m1, z1, z2⟩ := f.isL ha
  with_reducible refine call_list_seq a (T := "list") (.inl rfl) ho rfl rfl (fun h' c' hk hD => ?_) (Nat.le_trans z2 lid_le)
  have hn := size_none s.heap (Nat.le_refl _)
  exact ⟨_, f.make (tk := s.toks) hn hk hD (OM_l m1 z2), h _ (f.new hn).2⟩

theorem Cn_max {a b : Int} {Q : V → AH → Prop} (h : Q (.int (max a b)) H) : Cn prog w S0 n (.builtin "max") [.int a, .int b] H Q := fun us hu => .mk <| fun A F s hr f => by
  obtain ⟨u, v, rfl, h1, h2⟩ := map_two hu
  obtain ⟨t, rfl⟩ := abs_int h1
  obtain ⟨t', rfl⟩ := abs_int h2
  have hh : A.handled = none := hr.2.2
  with_reducible refine max_two_ints hh fun h' tk hk => ?_
  refine ⟨H, ⟨let ⟨_, _, e⟩ := f.same; ⟨h', tk, by rw [e]⟩, f.base, fun a o e => hk a o (f.fr a o e), fun a o e => ⟨(f.hp a o e).1, let ⟨z, hz, m⟩ := f.obj e; ⟨z, hk a z hz, m⟩⟩⟩, ?_⟩
  show Q (abs (if b > a then Value.int b t' else Value.int a t)) H
  have e : abs (if b > a then Value.int b t' else Value.int a t) = .int (max a b) := by
    split
    · rw [Int.max_eq_right (by omega)]; rfl
    · rw [Int.max_eq_left (by omega)]; rfl
  rw [e]; exact h

/-! ### list.index -/
theorem Cn_index {a : Addr} {xs : List V} {x : V} {j : Nat} {Q : V → AH → Prop} (ha : H a = some (.list xs)) (hx : isSc x = true) (hy : xs.all isSc = true) (hj : xs[j]? = some x) (he : veq x x = true) (hno : ∀ i y, i < j → xs[i]? = some y → veq y x = false) (h : Q (.int j) H) :
    Cn prog w S0 n (.builtin "list.index") [.ref a, x] H Q := fun us hu => .mk <| fun A F s hr f => by
  obtain ⟨u, v, rfl, h1, h2⟩ := map_two hu
  subst h2
  rw [abs_ref h1]
  obtain ⟨vs, nn, ho, m1, z1, z2⟩ := f.isL ha
  have hlt : j < vs.size := by rw [z1]; exact (List.getElem?_eq_some_iff.mp hj).1
  have at_ : ∀ i (hi : i < vs.size), xs[i]? = some (abs vs[i]) := fun i hi => by
    rw [← m1, List.getElem?_map]; simp [hi]
  refine @call_meets prog w A _ s _ _ _ _ _ _ _ _ PySem.F.slot_list_index ⟨_, ho, rfl⟩ PySem.F.entry_list_index (PySem.F.args_list_index_2 _ _)
    (SeqAt.list_indexAt a vs nn none #[] v (fun y => veq (abs y) (abs v)) j hlt (by unfold lid at z2; omega) ?_ ?_) ⟨ho, ?_, ?_⟩
  · have := at_ j hlt
    rw [hj] at this
    show veq (abs vs[j]) (abs v) = true
    rw [← Option.some.inj this]; exact he
  · intro i hi hij
    exact hno i _ hij (at_ i hi)
  · intro y hy'
    exact @eqAt_sc A.in1 s y v (List.all_eq_true.mp hy _ (by rw [← m1]; exact List.mem_map_of_mem (by simpa using hy'))) hx
  · exact ⟨H, f.toks _, h⟩

/-! ### items -/
theorem U_itemL {a : Addr} {xs : List V} {k : Int} {v : V} {Q : V → AH → Prop} (ha : H a = some (.list xs)) (h0 : 0 ≤ k) (hv : xs[k.toNat]? = some v) (h : Q v H) : Bin prog w S0 n getItem (.ref a) (.int k) H Q := fun u y hu hy => .mk <| fun A F s _ f => by
  rw [abs_ref hu]
  obtain ⟨t, rfl⟩ := abs_int hy
  obtain ⟨vs, l1, m1, z1, z2⟩ := f.isList ha
  rw [← m1, List.getElem?_map] at hv
  obtain ⟨z, hz, hzv⟩ := Option.map_eq_some_iff.mp hv
  rw [Array.getElem?_toList] at hz
  have hlt : k < 2 ^ 63 := by
    have := (Array.getElem?_eq_some_iff.mp hz).1
    unfold lid at z2; omega
  with_reducible refine wpAny_getItem_list l1 h0 hlt hz ?_
  exact ⟨H, f, by show Q (abs z) H; rw [hzv]; exact h⟩
theorem St.isTup' {F : CH} {s : Shared} {a : Addr} {xs : List V} (f : St prog w S0 F H s) (ha : H a = some (.tup xs)) : ∃ vs, IsTup s.heap a vs ∧ vs.toList.map abs = xs ∧ vs.size ≤ lid := by
  obtain ⟨o, ho, hc, hd, vs, nn, hdat, hxs, hl⟩ := f.obj ha
  exact ⟨vs, ⟨o, ho, hc, nn, hdat⟩, hxs, hl⟩
theorem U_itemT {a : Addr} {xs : List V} {k : Int} {v : V} {Q : V → AH → Prop} (ha : H a = some (.tup xs)) (h0 : 0 ≤ k) (hv : xs[k.toNat]? = some v) (h : Q v H) : Bin prog w S0 n getItem (.ref a) (.int k) H Q := fun u y hu hy => .mk <| fun A F s _ f => by
  rw [abs_ref hu]
  obtain ⟨t, rfl⟩ := abs_int hy
  obtain ⟨vs, l1, m1, z2⟩ := f.isTup' ha
  rw [← m1, List.getElem?_map] at hv
  obtain ⟨z, hz, hzv⟩ := Option.map_eq_some_iff.mp hv
  rw [Array.getElem?_toList] at hz
  have hs := (Array.getElem?_eq_some_iff.mp hz).1
  have hlt : k < 2 ^ 63 := by unfold lid at z2; omega
  have hi : seqIndex? k vs.size = some k.toNat := by unfold seqIndex?; simp; omega
  with_reducible refine getItem_tuple l1 (by omega) hlt hi hz ?_
  exact ⟨H, f, by show Q (abs z) H; rw [hzv]; exact h⟩

/-- xs[k] = v -/
theorem U_setItemL {a : Addr} {xs : List V} {k : Int} {v : V} {Q : AH → Prop} (ha : H a = some (.list xs)) (h0 : 0 ≤ k) (hk : k < xs.length) (h : Q (H.set a (.list (xs.set k.toNat v)))) :
    ∀ u x y, abs u = v → abs x = .ref a → abs y = .int k → Op prog w S0 n (setItem x y u) H fun _ H' => Q H' := fun u x y hu hx hy => .mk <| fun A F s _ f => by
  rw [abs_ref hx]
  obtain ⟨t, rfl⟩ := abs_int hy
  obtain ⟨vs, nn, ho, m1, z1, z2⟩ := f.isL ha
  have hT : s.TypeIs (.ref a) "list" := ⟨_, ho, rfl⟩
  have hfit := fitsIndex_of h0 (show k < 2 ^ 63 by unfold lid at z2; omega)
  have fin : wpAny (model prog w) A (setItem (.ref a) (.int k t) u) (fun _ s' => s' = { s with heap := s.heap.update a (Obj.mapSeq (·.setIfInBounds k.toNat u)) }) Bot s := by
    unfold setItem
    try with_reducible refine wpAny_holding ?_
    refine wpAny_bind (wpAny_sequenceKey hT (by decide) ?_)
    refine wpAny_bind (wpAny_callSpecial?_slot (name := Str.ofString "__setitem__") hT slot_list_setitem (wpAny_call_entry slot_list_setitem hT entry_list_setitem ?_ (args_list_setitem _ _ _)))
    show wpAny _ _ (Builtin.List.listSubscript? (.int k t) >>= _) _ _ s
    refine wpAny_bind (wpAny_listSubscript_int hfit ?_)
    clear hfit
    obtain ⟨j, rfl⟩ := Int.eq_ofNat_of_zero_le h0
    have hj : j < vs.size := by omega
    show wpAny _ _ ((seqItemAt a j >>= fun r => pure (r.map (j, ·))) >>= _) _ _ s
    refine wpAny_bind (wpAny_bind (wpAny_seqItemAt ho rfl (wpAny_pure ?_)))
    rw [Array.getElem?_eq_getElem hj]
    show wpAny _ _ (setSeqItemAt a j u >>= _) _ _ s
    refine wpAny_bind (wpAny_setSeqItemAt ho rfl ?_)
    first
      | exact wpAny_bind (wpAny_pure (wpAny_pure ⟨.none, rfl, wpAny_pure rfl⟩))
      | exact wpAny_pure ⟨.none, rfl, wpAny_pure rfl⟩
  have e' := PySem.IsL.update (n := nn) ho (fun xs => xs.setIfInBounds k.toNat u)
  refine wpAny_mono fin (fun _ s' e => ?_) fun _ _ e => e
  subst e
  refine ⟨_, f.upd ha (Heap.SameBut.update ..) e' (OM_l (xs := xs.set k.toNat v) ?_ ?_), h⟩
  · rw [Array.toList_setIfInBounds, ← hu, ← m1, List.map_set]
  · rw [Array.size_setIfInBounds]; exact z2

/-! ### the node a[i] -/
theorem E_sub {value slice : Expr} {pos : Pos} {Q : V → AH → Prop} (hsl : ∀ a b c p, slice ≠ .Slice a b c p)
    (h : EvV prog w S0 n env ρ value H fun a H₁ => EvV prog w S0 n env ρ slice H₁ fun i H₂ => (∃ T id x o, a = .ref x ∧ H₂ x = some o ∧ (∀ y, OM prog w o y → y.cls = .type T) ∧ typeLookup (.type T) "__getitem__" = pure (some (.builtin id))) ∧ Bin prog w S0 n getItem a i H₂ Q) :
    EvV prog w S0 n env ρ (.Subscript value slice pos) H Q := .mk <| fun A F s hr f => by
  with_reducible refine Subscript_ ?_
  refine bot (h.run A F s hr f) fun u s₁ ⟨H₁, f₁, h₁⟩ => bot (h₁.run A F s₁ hr f₁) fun k s₂ ⟨H₂, f₂, ⟨T, id, x, o, hx, ho, hT', hl⟩, h₂⟩ => ?_
  obtain ⟨y, hy, hm⟩ := f₂.st.obj ho
  have hT : s₂.TypeIs u T := by rw [abs_ref hx]; exact ⟨y, hy, hT' y hm⟩
  unfold subscriptTail
  refine wpAny_bind ?_
  rw [getitemInPython_of_ne hT.not_modules]
  refine wpAny_bind (wpAny_specialOf hT hl ?_)
  have fin : wpAny (model prog w) A (subscripted slice false u k) (fun r s₃ => wpAny (model prog w) A (letTemporaryGo value u r >>= fun _ => pure r) (fun r s₄ => ∃ H', Fm prog w S0 env ρ F H' s₄ ∧ Q (abs r) H') Bot s₃) Bot s₂ := by
    have hs : subscripted slice false u k = operate [u, k] (getItem u k) := by
      cases slice <;> first | rfl | exact absurd rfl (hsl _ _ _ _)
    rw [hs]
    exact wpAny_operating (bot (f₂.lift hr (h₂ u k rfl rfl)) fun r s₃ h₃ => wpAny_bind (wpAny_letTemporaryGo (wpAny_pure h₃)))
  first
    | exact wpAny_pure (wpAny_bind fin)
    | exact wpAny_bind (wpAny_pure (wpAny_bind fin))
    | exact wpAny_bind fin
end
section
variable {prog : Program} {w : World} {S0 : Shared} {K : Frag} {G : List (Str × V)} {n : Nat} {env : Env} {ρ : Rho} {H : AH}

noncomputable def notStar : Expr → Bool
  | .Starred _ _ => false
  | _ => true
theorem star_cons {e : Expr} {es : List Expr} (h : notStar e = true) : starEach (e :: es) env = (false, eval e env) :: starEach es env := by
  cases e <;> first | rfl | cases h
theorem any_star {pos : Pos} : ∀ {es : List Expr}, es.all notStar = true → (backTo pos (starEach es env)).any (·.1) = false
  | [], _ => rfl
  | e :: es, h => by
    simp only [List.all_cons, Bool.and_eq_true] at h
    rw [star_cons h.1]
    have := any_star (pos := pos) h.2
    unfold backTo at this ⊢
    rw [List.map_cons, List.any_cons, this]; rfl
theorem few_star {pos : Pos} {es : List Expr} (h : es.all notStar = true) (hl : es.length < 30) : methodCallForm (es.length + 0) (backTo pos (starEach es env)) (backToKw pos (keywordEach [] env)) = true := by
  have h1 := any_star (env := env) (pos := pos) h
  unfold methodCallForm
  have : ((backTo pos (starEach es env)).all fun x => !x.1) = true := by
    rw [List.all_eq_true]
    intro x hx
    have := List.any_eq_false.mp h1 x hx
    simpa using this
  rw [this]
  simp [backToKw, keywordEach]; omega

theorem A_one {e : Expr} {es : List Expr} {pos : Pos} {Q : List V → AH → Prop} (he : notStar e = true)
    (h : EvV prog w S0 n env ρ e H fun v H₁ => EvA prog w S0 n env ρ es pos H₁ fun vs H₂ => Q (v :: vs) H₂) : EvA prog w S0 n env ρ (e :: es) pos H Q := A_cons (star_cons he) h

noncomputable def toVal : V → Value
  | .ref a => .ref a
  | .oth u => u
  | _ => .none
noncomputable def isCal : V → Bool
  | .ref _ => true
  | .oth _ => true
  | _ => false
theorem toVal_of {v : V} (h : isCal v = true) : ∀ u, abs u = v → u = toVal v := fun u hu => by
  cases v with
  | ref a => exact abs_ref hu
  | oth x => exact abs_oth hu
  | _ => cases h

theorem E_callG {x : Str} {p pos : Pos} {es : List Expr} {v : V} {Q : V → AH → Prop} (B : Bs prog w S0 K G) (hg : (x, v) ∈ G) (hv : isCal v = true) {Gs : List Str} (gb : Glob env Gs) (hx : x ∈ Gs) (hk : Keeps1 prog w S0 (toVal v)) (hs : es.all notStar = true)
    (h : EvA prog w S0 n env ρ es pos H fun vs H₁ => Cn prog w S0 n (toVal v) vs H₁ Q) : EvV prog w S0 n env ρ (.Call (.Name x p) es [] pos) H Q :=
  E_call (f := toVal v) (fun _ _ => rfl) hk (any_star hs) (E_glob B hg (gb x hx).1 (gb x hx).2 ⟨toVal_of hv, h⟩)

theorem seq_next {rest : List Stmt} {Q : Flow → Rho → AH → Prop} {ρ₁ : Rho} {H₁ : AH} (h : Ex prog w S0 n env ρ₁ (execs rest env) H₁ Q) : seqQ prog w S0 n env rest Q .next ρ₁ H₁ := h
theorem seq_ret {rest : List Stmt} {Q : Flow → Rho → AH → Prop} {ρ₁ : Rho} {H₁ : AH} {u : Value} (h : Q (.ret u) ρ₁ H₁) : seqQ prog w S0 n env rest Q (.ret u) ρ₁ H₁ := h
theorem seq_brk {rest : List Stmt} {Q : Flow → Rho → AH → Prop} {ρ₁ : Rho} {H₁ : AH} (h : Q .brk ρ₁ H₁) : seqQ prog w S0 n env rest Q .brk ρ₁ H₁ := h
theorem seq_cont {rest : List Stmt} {Q : Flow → Rho → AH → Prop} {ρ₁ : Rho} {H₁ : AH} (h : Q .cont ρ₁ H₁) : seqQ prog w S0 n env rest Q .cont ρ₁ H₁ := h
theorem ret_ret {Q : V → AH → Prop} {ρ₁ : Rho} {H₁ : AH} {u : Value} {v : V} (hu : abs u = v) (h : Q v H₁) : retQ Q (.ret u) ρ₁ H₁ := by
  show Q (abs u) H₁; rw [hu]; exact h
theorem ret_next {Q : V → AH → Prop} {ρ₁ : Rho} {H₁ : AH} (h : Q .none H₁) : retQ Q .next ρ₁ H₁ := h
theorem ret_none {Q : V → AH → Prop} {ρ₁ : Rho} {H₁ : AH} (h : Q .none H₁) : retQ Q (.ret .none) ρ₁ H₁ := h
theorem turn_next {J : Nat → Rho → AH → Prop} {i : Nat} {Q : Flow → Rho → AH → Prop} {ρ' : Rho} {H' : AH} (h : J (i + 1) ρ' H') : turnQ J i Q .next ρ' H' := h
theorem turn_cont {J : Nat → Rho → AH → Prop} {i : Nat} {Q : Flow → Rho → AH → Prop} {ρ' : Rho} {H' : AH} (h : J (i + 1) ρ' H') : turnQ J i Q .cont ρ' H' := h
theorem turn_brk {J : Nat → Rho → AH → Prop} {i : Nat} {Q : Flow → Rho → AH → Prop} {ρ' : Rho} {H' : AH} (h : Q .next ρ' H') : turnQ J i Q .brk ρ' H' := h
theorem turn_ret {J : Nat → Rho → AH → Prop} {i : Nat} {Q : Flow → Rho → AH → Prop} {ρ' : Rho} {H' : AH} {u : Value} (h : Q (.ret u) ρ' H') : turnQ J i Q (.ret u) ρ' H' := h

/-- the result of a def is handed back -/
theorem X_retv {e : Expr} {pos : Pos} {Q : Flow → Rho → AH → Prop} (h : EvV prog w S0 n env ρ e H fun v H₁ => ∀ u, abs u = v → Q (.ret u) ρ H₁) : Ex prog w S0 n env ρ (exec (.Return (some e) pos) env) H Q := X_ret h

theorem T_name {x : Str} {p : Pos} {Q : Bool → AH → Prop} (h : EvV prog w S0 n env ρ (.Name x p) H fun a H₁ => Una prog w S0 n truthy a H₁ Q) : EvT prog w S0 n env ρ (.Name x p) H Q := T_plain (fun _ => rfl) h
theorem T_call {f : Expr} {es : List Expr} {p : Pos} {Q : Bool → AH → Prop} (h : EvV prog w S0 n env ρ (.Call f es [] p) H fun a H₁ => Una prog w S0 n truthy a H₁ Q) : EvT prog w S0 n env ρ (.Call f es [] p) H Q := T_plain (fun _ => rfl) h
theorem T_attr {f : Expr} {x : Str} {p : Pos} {Q : Bool → AH → Prop} (h : EvV prog w S0 n env ρ (.Attribute f x p) H fun a H₁ => Una prog w S0 n truthy a H₁ Q) : EvT prog w S0 n env ρ (.Attribute f x p) H Q := T_plain (fun _ => rfl) h

theorem U_truthy {b : Bool} {Q : Bool → AH → Prop} (h : Q b H) : Una prog w S0 n truthy (.bool b) H Q := truthy_of_bool h

/-- a ≤ b ≤ c as a test -/
theorem T_cmp2 {l r1 r2 : Expr} {o1 o2 : CmpOp} {pos : Pos} {Q : Bool → AH → Prop} (hm : behindInMarks o2 r2 = false)
    (h : EvV prog w S0 n env ρ l H fun a H₁ => EvV prog w S0 n env ρ r1 H₁ fun b H₂ => Bin prog w S0 n (compareOp o1) a b H₂ fun c H₃ => ∃ x, c = .bool x ∧ if x then EvV prog w S0 n env ρ r2 H₃ fun d H₄ => Bin prog w S0 n (compareOp o2) b d H₄ fun e H₅ => ∃ y, e = .bool y ∧ Q y H₅ else Q false H₃) :
    EvT prog w S0 n env ρ (.Compare l [o1, o2] [r1, r2] pos) H Q := .mk <| fun A F s hr f => by
  rw [arm_isTrue_Compare]
  refine wpAny_bind (bot (h.run A F s hr f) fun u s₁ ⟨H₁, f₁, h₁⟩ => ?_)
  have e : markedEach [o1, o2] [r1, r2] (evalEach [r1, r2] env) = [eval r1 env, eval r2 env] := by
    show [eval r1 env, markedBehindIn o2 r2 (eval r2 env)] = _
    rw [markedBehindIn_of_false hm]
  rw [e]
  show wpAny _ A (do
    let rv ← holding [u] (eval r1 env)
    standAt pos
    let c ← holding [u, rv] (compareOp o1 u rv)
    release [u, rv] [c]
    if ← holding [c, rv] (truthy c) then testChain pos rv [o2] [eval r2 env] else pure false) _ _ _
  refine wpAny_bind (wpAny_holding (bot (h₁.run A F s₁ hr f₁) fun v s₂ ⟨H₂, f₂, h₂⟩ => wpAny_bind (wpAny_standAt (wpAny_bind (wpAny_holding (bot (f₂.lift hr (h₂ u v rfl rfl)) fun c s₃ ⟨H₃, f₃, x, hc, h₃⟩ => ?_))))))
  rw [abs_bool hc]
  refine wpAny_bind (wpAny_release (wpAny_bind (wpAny_holding (wpAny_truthy_bool ?_))))
  cases x with
  | false => exact wpAny_pure ⟨H₃, f₃, h₃⟩
  | true =>
    rw [if_pos rfl] at h₃
    show wpAny _ A (do
      let rv ← holding [v] (eval r2 env)
      standAt pos
      let c ← operate [v, rv] (compareOp o2 v rv)
      holding [c] (truthy c)) _ _ _
    refine wpAny_bind (wpAny_holding (bot (h₃.run A F s₃ hr f₃) fun z s₄ ⟨H₄, f₄, h₄⟩ => wpAny_bind (wpAny_standAt (wpAny_bind (wpAny_operating (bot (f₄.lift hr (h₄ v z rfl rfl)) fun c s₅ ⟨H₅, f₅, y, hy, q⟩ => ?_))))))
    rw [abs_bool hy]
    exact wpAny_holding (wpAny_truthy_bool ⟨H₅, f₅, q⟩)

theorem len_s {α : Type} {l : List α} {n : Nat} (h : l.length = n + 1) : ∃ a r, l = a :: r ∧ r.length = n := by
  cases l with
  | nil => cases h
  | cons a r => exact ⟨a, r, rfl, Nat.succ.inj h⟩
theorem none_more : ∀ more : Rho, more.all (fun p => p.2.isNone) = true → (more.map (·.1)).map (fun x => (x, (none : Option V))) = more
  | [], _ => rfl
  | (x, o) :: r, h => by
    simp only [List.all_cons, Bool.and_eq_true] at h
    rw [List.map_cons, List.map_cons, none_more r h.2]
    cases o with
    | none => rfl
    | some v => cases h.1

section
variable {a : Addr} {sc : Scope} {body : List Stmt} {params : Arguments} {more : Rho} {Gs : List Str} {Q : V → AH → Prop} {x1 x2 x3 x4 x5 : Str} {v1 v2 v3 v4 v5 : V}
theorem C_fn1 (B : Bs prog w S0 K G) (hf : Fn S0 a sc body params false) (hs : scopeOk sc = true) (hm : more.all (fun p => p.2.isNone) = true) (hok : okF sc (x1 :: more.map (·.1)) Gs = true)
    (hb : ∀ (fd : FuncData) (u1 : Value), fd.params = params → fd.defaults = .none → bindArgs fd ⟨[u1], []⟩ = pure [(x1, u1)])
    (h : ∀ L q cd, Glob (mkE sc L a q cd) Gs → Ex prog w S0 n (mkE sc L a q cd) ((x1, some v1) :: more) (execs body (mkE sc L a q cd)) H (retQ Q)) : Cn prog w S0 (n + 1) (.ref a) [v1] H Q := by
  have e : frm [x1] [v1] (more.map (·.1)) = (x1, some v1) :: more := by unfold frm; rw [none_more more hm]; rfl
  refine C_fn (xs := [x1]) (more := List.map (fun p : Str × Option V => p.1) more) (Gs := Gs) B hf hs hok rfl (fun fd us hl h1 h2 => ?_) (by rw [e]; exact h)
  obtain ⟨u1, us0, e0, hl0⟩ := len_s hl
  subst e0
  have eE := List.eq_nil_of_length_eq_zero hl0
  subst eE
  exact hb fd u1 h1 h2
theorem C_fn2 (B : Bs prog w S0 K G) (hf : Fn S0 a sc body params false) (hs : scopeOk sc = true) (hm : more.all (fun p => p.2.isNone) = true) (hok : okF sc (x1 :: x2 :: more.map (·.1)) Gs = true)
    (hb : ∀ (fd : FuncData) (u1 u2 : Value), fd.params = params → fd.defaults = .none → bindArgs fd ⟨[u1, u2], []⟩ = pure [(x1, u1), (x2, u2)])
    (h : ∀ L q cd, Glob (mkE sc L a q cd) Gs → Ex prog w S0 n (mkE sc L a q cd) ((x1, some v1) :: (x2, some v2) :: more) (execs body (mkE sc L a q cd)) H (retQ Q)) : Cn prog w S0 (n + 1) (.ref a) [v1, v2] H Q := by
  have e : frm [x1, x2] [v1, v2] (more.map (·.1)) = (x1, some v1) :: (x2, some v2) :: more := by unfold frm; rw [none_more more hm]; rfl
  refine C_fn (xs := [x1, x2]) (more := List.map (fun p : Str × Option V => p.1) more) (Gs := Gs) B hf hs hok rfl (fun fd us hl h1 h2 => ?_) (by rw [e]; exact h)
  obtain ⟨u1, us0, e0, hl0⟩ := len_s hl
  subst e0
  obtain ⟨u2, us1, e1, hl1⟩ := len_s hl0
  subst e1
  have eE := List.eq_nil_of_length_eq_zero hl1
  subst eE
  exact hb fd u1 u2 h1 h2
theorem C_fn3 (B : Bs prog w S0 K G) (hf : Fn S0 a sc body params false) (hs : scopeOk sc = true) (hm : more.all (fun p => p.2.isNone) = true) (hok : okF sc (x1 :: x2 :: x3 :: more.map (·.1)) Gs = true)
    (hb : ∀ (fd : FuncData) (u1 u2 u3 : Value), fd.params = params → fd.defaults = .none → bindArgs fd ⟨[u1, u2, u3], []⟩ = pure [(x1, u1), (x2, u2), (x3, u3)])
    (h : ∀ L q cd, Glob (mkE sc L a q cd) Gs → Ex prog w S0 n (mkE sc L a q cd) ((x1, some v1) :: (x2, some v2) :: (x3, some v3) :: more) (execs body (mkE sc L a q cd)) H (retQ Q)) : Cn prog w S0 (n + 1) (.ref a) [v1, v2, v3] H Q := by
  have e : frm [x1, x2, x3] [v1, v2, v3] (more.map (·.1)) = (x1, some v1) :: (x2, some v2) :: (x3, some v3) :: more := by unfold frm; rw [none_more more hm]; rfl
  refine C_fn (xs := [x1, x2, x3]) (more := List.map (fun p : Str × Option V => p.1) more) (Gs := Gs) B hf hs hok rfl (fun fd us hl h1 h2 => ?_) (by rw [e]; exact h)
  obtain ⟨u1, us0, e0, hl0⟩ := len_s hl
  subst e0
  obtain ⟨u2, us1, e1, hl1⟩ := len_s hl0
  subst e1
  obtain ⟨u3, us2, e2, hl2⟩ := len_s hl1
  subst e2
  have eE := List.eq_nil_of_length_eq_zero hl2
  subst eE
  exact hb fd u1 u2 u3 h1 h2
theorem C_fn4 (B : Bs prog w S0 K G) (hf : Fn S0 a sc body params false) (hs : scopeOk sc = true) (hm : more.all (fun p => p.2.isNone) = true) (hok : okF sc (x1 :: x2 :: x3 :: x4 :: more.map (·.1)) Gs = true)
    (hb : ∀ (fd : FuncData) (u1 u2 u3 u4 : Value), fd.params = params → fd.defaults = .none → bindArgs fd ⟨[u1, u2, u3, u4], []⟩ = pure [(x1, u1), (x2, u2), (x3, u3), (x4, u4)])
    (h : ∀ L q cd, Glob (mkE sc L a q cd) Gs → Ex prog w S0 n (mkE sc L a q cd) ((x1, some v1) :: (x2, some v2) :: (x3, some v3) :: (x4, some v4) :: more) (execs body (mkE sc L a q cd)) H (retQ Q)) : Cn prog w S0 (n + 1) (.ref a) [v1, v2, v3, v4] H Q := by
  have e : frm [x1, x2, x3, x4] [v1, v2, v3, v4] (more.map (·.1)) = (x1, some v1) :: (x2, some v2) :: (x3, some v3) :: (x4, some v4) :: more := by unfold frm; rw [none_more more hm]; rfl
  refine C_fn (xs := [x1, x2, x3, x4]) (more := List.map (fun p : Str × Option V => p.1) more) (Gs := Gs) B hf hs hok rfl (fun fd us hl h1 h2 => ?_) (by rw [e]; exact h)
  obtain ⟨u1, us0, e0, hl0⟩ := len_s hl
  subst e0
  obtain ⟨u2, us1, e1, hl1⟩ := len_s hl0
  subst e1
  obtain ⟨u3, us2, e2, hl2⟩ := len_s hl1
  subst e2
  obtain ⟨u4, us3, e3, hl3⟩ := len_s hl2
  subst e3
  have eE := List.eq_nil_of_length_eq_zero hl3
  subst eE
  exact hb fd u1 u2 u3 u4 h1 h2
theorem C_fn5 (B : Bs prog w S0 K G) (hf : Fn S0 a sc body params false) (hs : scopeOk sc = true) (hm : more.all (fun p => p.2.isNone) = true) (hok : okF sc (x1 :: x2 :: x3 :: x4 :: x5 :: more.map (·.1)) Gs = true)
    (hb : ∀ (fd : FuncData) (u1 u2 u3 u4 u5 : Value), fd.params = params → fd.defaults = .none → bindArgs fd ⟨[u1, u2, u3, u4, u5], []⟩ = pure [(x1, u1), (x2, u2), (x3, u3), (x4, u4), (x5, u5)])
    (h : ∀ L q cd, Glob (mkE sc L a q cd) Gs → Ex prog w S0 n (mkE sc L a q cd) ((x1, some v1) :: (x2, some v2) :: (x3, some v3) :: (x4, some v4) :: (x5, some v5) :: more) (execs body (mkE sc L a q cd)) H (retQ Q)) : Cn prog w S0 (n + 1) (.ref a) [v1, v2, v3, v4, v5] H Q := by
  have e : frm [x1, x2, x3, x4, x5] [v1, v2, v3, v4, v5] (more.map (·.1)) = (x1, some v1) :: (x2, some v2) :: (x3, some v3) :: (x4, some v4) :: (x5, some v5) :: more := by unfold frm; rw [none_more more hm]; rfl
  refine C_fn (xs := [x1, x2, x3, x4, x5]) (more := List.map (fun p : Str × Option V => p.1) more) (Gs := Gs) B hf hs hok rfl (fun fd us hl h1 h2 => ?_) (by rw [e]; exact h)
  obtain ⟨u1, us0, e0, hl0⟩ := len_s hl
  subst e0
  obtain ⟨u2, us1, e1, hl1⟩ := len_s hl0
  subst e1
  obtain ⟨u3, us2, e2, hl2⟩ := len_s hl1
  subst e2
  obtain ⟨u4, us3, e3, hl3⟩ := len_s hl2
  subst e3
  obtain ⟨u5, us4, e4, hl4⟩ := len_s hl3
  subst e4
  have eE := List.eq_nil_of_length_eq_zero hl4
  subst eE
  exact hb fd u1 u2 u3 u4 u5 h1 h2
end

theorem Cap.nil : Cap ρ [] [] := ⟨rfl, fun _ h => by cases h⟩
theorem Cap.cons {x : Str} {o : Option V} {caps : List Str} {ρc : Rho} (h : (x, o) ∈ ρ) (c : Cap ρ caps ρc) : Cap ρ (x :: caps) ((x, o) :: ρc) := ⟨by rw [List.map_cons, c.names], fun p hp => by
  rcases List.mem_cons.mp hp with e | e
  · rw [e]; exact h
  · exact c.mem p e⟩

/-- a name is bound anew -/
structure AsQ (x : Str) (v : V) (ρ : Rho) (Q : Flow → Rho → AH → Prop) (H : AH) : Prop where
  ex : ∃ ρ', Up x v ρ ρ' ∧ Q .next ρ' H
theorem asg {x : Str} {v : V} {ρ ρ' : Rho} {Q : Flow → Rho → AH → Prop} (u : Up x v ρ ρ') (h : Q .next ρ' H) : AsQ x v ρ Q H := ⟨_, u, h⟩
noncomputable def notComp : Expr → Bool
  | .ListComp _ _ _ _ => false
  | _ => true
theorem X_asg {x : Str} {p pos : Pos} {e : Expr} {Q : Flow → Rho → AH → Prop} (_hc : notComp e = true) (hs : swapsWith e (some (.Name x p)) pos.line env = pure false)
    (h : EvV prog w S0 n env ρ e H fun v H₁ => AsQ x v ρ Q H₁) : Ex prog w S0 n env ρ (exec (.Assign [.Name x p] e pos) env) H Q := X_assign hs (h.mono fun _ _ a => a.ex)
theorem X_asgComp {elt iter : Expr} {x y : Str} {px py pos spos : Pos} {ifs : List Expr} {scope : Scope} {Q : Flow → Rho → AH → Prop} {caps Gs : List Str} {ρc : Rho}
    (hsw : swapsWith (.ListComp elt [⟨.Name x px, iter, ifs, 0⟩] scope pos) (some (.Name y py)) spos.line env = pure true) (hs : ∀ y, foldedSetIterable iter env y = pure y) (hok : compOk env.scope scope x caps Gs = true) (hcap : Cap ρ caps ρc)
    (h : EvV prog w S0 n env ρ iter H (CompV prog w S0 n env ρc Gs scope x ifs elt fun v H' => AsQ y v ρ Q H')) : Ex prog w S0 n env ρ (exec (.Assign [.Name y py] (.ListComp elt [⟨.Name x px, iter, ifs, 0⟩] scope pos) spos) env) H Q :=
  X_assignComp hsw hs hok hcap (h.mono fun v H' ⟨xs, Inv, J, a, b, c, d, e, f⟩ => ⟨xs, Inv, J, a, b, c, d, e, fun ys H'' j D hD => (f ys H'' j D hD).ex⟩)

/-- a test's outcome that is told -/
theorem res {b : Bool} {P : Bool → Prop} (h : P b) : ∃ x, V.bool b = .bool x ∧ P x := ⟨b, rfl, h⟩
theorem if_t {A B : Prop} (h : A) : if true = true then A else B := h
theorem if_f {A B : Prop} (h : B) : if false = true then A else B := h
theorem if_any {b : Bool} {A B : Prop} (h : b = true → A) (h' : b = false → B) : if b = true then A else B := by
  cases b with
  | true => exact h rfl
  | false => exact h' rfl

theorem fin0 {Q : V → AH → Prop} {v : V} (h : Q v H) : ∀ u, abs u = v → retQ Q (.ret u) ρ H := fun u hu => ret_ret hu h
theorem finS {rest : List Stmt} {Q : Flow → Rho → AH → Prop} {v : V} (h : ∀ u, abs u = v → Q (.ret u) ρ H) : ∀ u, abs u = v → seqQ prog w S0 n env rest Q (.ret u) ρ H := h
theorem finT {J : Nat → Rho → AH → Prop} {i : Nat} {Q : Flow → Rho → AH → Prop} {v : V} (h : ∀ u, abs u = v → Q (.ret u) ρ H) : ∀ u, abs u = v → turnQ J i Q (.ret u) ρ H := h

theorem B_isN_none {Q : V → AH → Prop} (h : Q (.bool true) H) : Bin prog w S0 n (compareOp .Is) .none .none H Q := B_isN rfl h
theorem B_isN_ref {x : Addr} {Q : V → AH → Prop} (h : Q (.bool false) H) : Bin prog w S0 n (compareOp .Is) (.ref x) .none H Q := B_isN rfl h
theorem B_isN_int {x : Int} {Q : V → AH → Prop} (h : Q (.bool false) H) : Bin prog w S0 n (compareOp .Is) (.int x) .none H Q := B_isN rfl h
theorem B_isN_str {x : Str} {Q : V → AH → Prop} (h : Q (.bool false) H) : Bin prog w S0 n (compareOp .Is) (.str x) .none H Q := B_isN rfl h
theorem B_isNot_none {Q : V → AH → Prop} (h : Q (.bool false) H) : Bin prog w S0 n (compareOp .IsNot) .none .none H Q := B_isNot rfl h
theorem B_isNot_ref {x : Addr} {Q : V → AH → Prop} (h : Q (.bool true) H) : Bin prog w S0 n (compareOp .IsNot) (.ref x) .none H Q := B_isNot rfl h
theorem B_isNot_int {x : Int} {Q : V → AH → Prop} (h : Q (.bool true) H) : Bin prog w S0 n (compareOp .IsNot) (.int x) .none H Q := B_isNot rfl h
theorem B_isNot_str {x : Str} {Q : V → AH → Prop} (h : Q (.bool true) H) : Bin prog w S0 n (compareOp .IsNot) (.str x) .none H Q := B_isNot rfl h
theorem if_by_t {c : Bool} {A B : Prop} (hc : c = true) (h : A) : if c = true then A else B := by rw [if_pos hc]; exact h
theorem if_by_f {c : Bool} {A B : Prop} (hc : c = false) (h : B) : if c = true then A else B := by rw [hc]; exact h

/-- d.get(k) -/
theorem E_dget {o e : Expr} {apos pos : Pos} {Q : V → AH → Prop} (B : Bs prog w S0 K G) (hb : attributeBase o (Str.ofString "get") env (eval o env) = eval o env) (hline : (apos.endLine == pos.line) = true) (hs : notStar e = true)
    (h : EvV prog w S0 n env ρ o H fun a H₁ => ∃ d kvs, a = .ref d ∧ H₁ d = some (.sdict kvs) ∧ EvV prog w S0 n env ρ e H₁ fun k H₂ => ∃ name, k = .str name ∧ H₂ d = some (.sdict kvs) ∧ Q ((look kvs name).getD .none) H₂) :
    EvV prog w S0 n env ρ (.Call (.Attribute o (Str.ofString "get") apos) [e] [] pos) H Q := by
  have hst : [e].all notStar = true := by simp [hs]
  refine E_meth hb (few_star hst (by simp)) hline (any_star hst) (h.mono fun a H₁ ⟨d, kvs, ha, hd, h₁⟩ => ⟨_, d, ha, fun pl => M_dict hd rfl PySem.F.slot_dict_get PySem.F.type_dict_get, keeps_builtin _, ?_⟩)
  refine A_one hs (h₁.mono fun k H₂ ⟨name, hk, hd₂, q⟩ => A_nil ?_)
  rw [hk]
  exact Cn_get B (dkS prog w) hd₂ q

/-- xs.append(v) -/
theorem E_append {o e : Expr} {apos pos : Pos} {Q : V → AH → Prop} (hb : attributeBase o (Str.ofString "append") env (eval o env) = eval o env) (hline : (apos.endLine == pos.line) = true) (hs : notStar e = true)
    (h : EvV prog w S0 n env ρ o H fun a H₁ => ∃ x xs, a = .ref x ∧ H₁ x = some (.list xs) ∧ EvV prog w S0 n env ρ e H₁ fun v H₂ => H₂ x = some (.list xs) ∧ xs.length < lid ∧ Q .none (H₂.set x (.list (xs ++ [v])))) :
    EvV prog w S0 n env ρ (.Call (.Attribute o (Str.ofString "append") apos) [e] [] pos) H Q := by
  have hst : [e].all notStar = true := by simp [hs]
  refine E_meth hb (few_star hst (by simp)) hline (any_star hst) (h.mono fun a H₁ ⟨x, xs, ha, hx, h₁⟩ => ⟨_, x, ha, fun pl => M_list hx PySem.F.slot_list_append PySem.F.type_list_append, keeps_builtin _, ?_⟩)
  exact A_one hs (h₁.mono fun k H₂ ⟨hx₂, hl, q⟩ => A_nil (Cn_append hx₂ hl q))

/-- xs.index(v) -/
theorem E_index {o e : Expr} {apos pos : Pos} {Q : V → AH → Prop} (hb : attributeBase o (Str.ofString "index") env (eval o env) = eval o env) (hline : (apos.endLine == pos.line) = true) (hs : notStar e = true)
    (h : EvV prog w S0 n env ρ o H fun a H₁ => ∃ x xs, a = .ref x ∧ H₁ x = some (.list xs) ∧ EvV prog w S0 n env ρ e H₁ fun v H₂ => ∃ j : Nat, H₂ x = some (.list xs) ∧ isSc v = true ∧ xs.all isSc = true ∧ xs[j]? = some v ∧ veq v v = true ∧ (∀ i y, i < j → xs[i]? = some y → veq y v = false) ∧ Q (.int j) H₂) :
    EvV prog w S0 n env ρ (.Call (.Attribute o (Str.ofString "index") apos) [e] [] pos) H Q := by
  have hst : [e].all notStar = true := by simp [hs]
  refine E_meth hb (few_star hst (by simp)) hline (any_star hst) (h.mono fun a H₁ ⟨x, xs, ha, hx, h₁⟩ => ⟨_, x, ha, fun pl => M_list hx PySem.F.slot_list_index PySem.F.type_list_index, keeps_builtin _, ?_⟩)
  exact A_one hs (h₁.mono fun k H₂ ⟨j, hx₂, a1, a2, a3, a4, a5, q⟩ => A_nil (Cn_index hx₂ a1 a2 a3 a4 a5 q))

/-- xs.pop(0) -/
theorem E_pop0 {o : Expr} {apos pos p : Pos} {k : Nat} {Q : V → AH → Prop} (hb : attributeBase o (Str.ofString "pop") env (eval o env) = eval o env) (hline : (apos.endLine == pos.line) = true)
    (h : EvV prog w S0 n env ρ o H fun a H₁ => ∃ x y xs, a = .ref x ∧ H₁ x = some (.list (y :: xs)) ∧ Q y (H₁.set x (.list xs))) :
    EvV prog w S0 n env ρ (.Call (.Attribute o (Str.ofString "pop") apos) [.Constant (.int 0) k p] [] pos) H Q := by
  have hst : [Expr.Constant (.int 0) k p].all notStar = true := rfl
  refine E_meth hb (few_star hst (by simp)) hline (any_star hst) (h.mono fun a H₁ ⟨x, y, xs, ha, hx, h₁⟩ => ⟨_, x, ha, fun pl => M_list hx PySem.F.slot_list_pop PySem.F.type_list_pop, keeps_builtin _, ?_⟩)
  exact A_one rfl (E_int (A_nil (Cn_pop0 hx h₁)))

noncomputable def notSlice : Expr → Bool
  | .Slice _ _ _ _ => false
  | _ => true
theorem notSlice_of {e : Expr} (h : notSlice e = true) : ∀ a b c p, e ≠ .Slice a b c p := fun _ _ _ _ q => by rw [q] at h; cases h
theorem E_subL {value slice : Expr} {pos : Pos} {Q : V → AH → Prop} (hs : notSlice slice = true) (h : EvV prog w S0 n env ρ value H fun a H₁ => EvV prog w S0 n env ρ slice H₁ fun i H₂ => ∃ x xs k v, a = .ref x ∧ i = .int k ∧ H₂ x = some (.list xs) ∧ 0 ≤ k ∧ xs[k.toNat]? = some v ∧ Q v H₂) :
    EvV prog w S0 n env ρ (.Subscript value slice pos) H Q :=
  E_sub (notSlice_of hs) (h.mono fun a H₁ h₁ => h₁.mono fun i H₂ ⟨x, xs, k, v, e1, e2, hx, h0, hv, q⟩ => ⟨⟨_, _, x, _, e1, hx, fun y m => by obtain ⟨vs, nn, e, _⟩ := m; rw [e], slot_list_getitem.lookup⟩, by rw [e1, e2]; exact U_itemL hx h0 hv q⟩)
theorem E_subT {value slice : Expr} {pos : Pos} {Q : V → AH → Prop} (hs : notSlice slice = true) (h : EvV prog w S0 n env ρ value H fun a H₁ => EvV prog w S0 n env ρ slice H₁ fun i H₂ => ∃ x xs k v, a = .ref x ∧ i = .int k ∧ H₂ x = some (.tup xs) ∧ 0 ≤ k ∧ xs[k.toNat]? = some v ∧ Q v H₂) :
    EvV prog w S0 n env ρ (.Subscript value slice pos) H Q :=
  E_sub (notSlice_of hs) (h.mono fun a H₁ h₁ => h₁.mono fun i H₂ ⟨x, xs, k, v, e1, e2, hx, h0, hv, q⟩ => ⟨⟨_, _, x, _, e1, hx, fun y m => m.1, slot_tuple_getitem.lookup⟩, by rw [e1, e2]; exact U_itemT hx h0 hv q⟩)
theorem E_subS {value slice : Expr} {pos : Pos} {Q : V → AH → Prop} (hs : notSlice slice = true) (h : EvV prog w S0 n env ρ value H fun a H₁ => EvV prog w S0 n env ρ slice H₁ fun i H₂ => ∃ x kvs k v, a = .ref x ∧ i = .str k ∧ H₂ x = some (.sdict kvs) ∧ look kvs k = some v ∧ Q v H₂) :
    EvV prog w S0 n env ρ (.Subscript value slice pos) H Q :=
  E_sub (notSlice_of hs) (h.mono fun a H₁ h₁ => h₁.mono fun i H₂ ⟨x, xs, k, v, e1, e2, hx, hv, q⟩ => ⟨⟨_, _, x, _, e1, hx, fun y ⟨r, ⟨es, ep, hc, _⟩, _⟩ => hc.1, slot_dict_getitem.lookup⟩, by rw [e1, e2]; exact U_item (dkS prog w) hx hv q⟩)
theorem E_subI {value slice : Expr} {pos : Pos} {Q : V → AH → Prop} (hs : notSlice slice = true) (h : EvV prog w S0 n env ρ value H fun a H₁ => EvV prog w S0 n env ρ slice H₁ fun i H₂ => ∃ x kvs k v, a = .ref x ∧ i = .int k ∧ H₂ x = some (.idict kvs) ∧ look kvs k = some v ∧ Q v H₂) :
    EvV prog w S0 n env ρ (.Subscript value slice pos) H Q :=
  E_sub (notSlice_of hs) (h.mono fun a H₁ h₁ => h₁.mono fun i H₂ ⟨x, xs, k, v, e1, e2, hx, hv, q⟩ => ⟨⟨_, _, x, _, e1, hx, fun y ⟨r, ⟨es, ep, hc, _⟩, _⟩ => hc.1, slot_dict_getitem.lookup⟩, by rw [e1, e2]; exact U_item (dkI prog w) hx hv q⟩)
end
noncomputable def topS (i : Nat) : Stmt := PySem.Challenge.pw_ov0095_01.main.body.getD i (.Pass ⟨0, 0, 0, 0⟩)
noncomputable def fB : Stmt → List Stmt
  | .FunctionDef _ _ b _ _ _ _ _ _ _ => b
  | _ => []
noncomputable def fP : Stmt → Arguments
  | .FunctionDef _ a _ _ _ _ _ _ _ _ => a
  | _ => { posonlyargs := [], args := [], vararg := none, kwonlyargs := [], kw_defaults := [], kwarg := none, defaults := [] }
noncomputable def fS : Stmt → Scope
  | .FunctionDef _ _ _ _ _ _ s _ _ _ => s
  | _ => default
/-- the i-th statement of a class's body -/
noncomputable def inCls (i : Nat) : Stmt → Stmt
  | .ClassDef _ _ _ b _ _ _ _ _ _ _ => b.getD i (.Pass ⟨0, 0, 0, 0⟩)
  | s => s
noncomputable def defs : List (Addr × Nat) := [(1151, 174), (1068, 160), (1087, 163), (1101, 165), (1073, 161), (1106, 166), (1111, 167), (1118, 169), (1125, 170), (1132, 171), (1139, 172), (1146, 173), (1051, 157), (399, 51), (453, 60), (420, 55), (441, 58), (1063, 159), (1056, 158), (1034, 154), (1044, 156), (358, 45), (372, 47), (458, 61), (465, 62), (1027, 153), (365, 46), (1020, 152), (1013, 151), (1003, 149), (1008, 150), (991, 147), (477, 64), (998, 148), (1080, 162), (881, 129), (392, 50), (470, 63), (734, 106), (803, 117), (713, 103), (673, 97), (685, 99), (789, 115), (761, 111), (782, 114), (1094, 164), (984, 145), (958, 141), (951, 140), (902, 133), (930, 137), (909, 134), (558, 79), (551, 78), (895, 132), (406, 52), (888, 131), (937, 138), (923, 136), (768, 112), (385, 49), (413, 53)]
noncomputable def defsD : List (Addr × Nat) := [(754, 109), (378, 48)]
noncomputable def GG : List (Str × V) := [(Str.ofString "law", .ref 1151),
  (Str.ofString "make_factor", .ref 1068),
  (Str.ofString "subset_factor", .ref 1087),
  (Str.ofString "assign_factor", .ref 1101),
  (Str.ofString "drop_levels", .ref 1073),
  (Str.ofString "relevelled", .ref 1106),
  (Str.ofString "split_by", .ref 1111),
  (Str.ofString "_law_dealt", .ref 1118),
  (Str.ofString "_law_deal", .ref 1125),
  (Str.ofString "_law_told_levels", .ref 1132),
  (Str.ofString "_law_agrees", .ref 1139),
  (Str.ofString "_law_first_come", .ref 1146),
  (Str.ofString "item_texts", .ref 1051),
  (Str.ofString "is_atomic", .ref 399),
  (Str.ofString "label_texts", .ref 453),
  (Str.ofString "get_attr", .ref 420),
  (Str.ofString "label_text", .ref 441),
  (Str.ofString "check_distinct", .ref 1063),
  (Str.ofString "label_list", .ref 1056),
  (Str.ofString "distinct_texts", .ref 1034),
  (Str.ofString "codes_of", .ref 1044),
  (Str.ofString "integer", .ref 358),
  (Str.ofString "named", .ref 372),
  (Str.ofString "names_of", .ref 458),
  (Str.ofString "dim_of", .ref 465),
  (Str.ofString "with_levels", .ref 1027),
  (Str.ofString "character", .ref 365),
  (Str.ofString "factor_class", .ref 1020),
  (Str.ofString "factor_texts", .ref 1013),
  (Str.ofString "level_texts", .ref 1003),
  (Str.ofString "codes_in", .ref 1008),
  (Str.ofString "is_factor", .ref 991),
  (Str.ofString "class_attr", .ref 477),
  (Str.ofString "is_ordered", .ref 998),
  (Str.ofString "codes_alone", .ref 1080),
  (Str.ofString "subset_any", .ref 881),
  (Str.ofString "is_vector", .ref 392),
  (Str.ofString "dimnames_of", .ref 470),
  (Str.ofString "matrix_index", .ref 754),
  (Str.ofString "is_matrix_index", .ref 734),
  (Str.ofString "subset_vector", .ref 803),
  (Str.ofString "positions", .ref 713),
  (Str.ofString "whole_subscripts", .ref 673),
  (Str.ofString "whole_places", .ref 685),
  (Str.ofString "items_at", .ref 789),
  (Str.ofString "lacking_item", .ref 761),
  (Str.ofString "result_kind", .ref 782),
  (Str.ofString "value_codes", .ref 1094),
  (Str.ofString "assign_any", .ref 984),
  (Str.ofString "assign_vector", .ref 958),
  (Str.ofString "assign_places", .ref 951),
  (Str.ofString "value_vector", .ref 902),
  (Str.ofString "check_places", .ref 930),
  (Str.ofString "assigned_kind", .ref 909),
  (Str.ofString "common_kind", .ref 558),
  (Str.ofString "kind_order", .ref 551),
  (Str.ofString "raised", .ref 895),
  (Str.ofString "own", .ref 406),
  (Str.ofString "converted_items", .ref 888),
  (Str.ofString "first_count", .ref 937),
  (Str.ofString "put_items", .ref 923),
  (Str.ofString "is_list_kind", .ref 768),
  (Str.ofString "length", .ref 385),
  (Str.ofString "list_of", .ref 378),
  (Str.ofString "share", .ref 413),
  (Str.ofString "Vector", .ref 311),
  (Str.ofString "len", .oth (.builtin "len")),
  (Str.ofString "range", .oth (.type "range")),
  (Str.ofString "list", .oth (.type "list")),
  (Str.ofString "dict", .oth (.type "dict")),
  (Str.ofString "isinstance", .oth (.builtin "isinstance")),
  (Str.ofString "max", .oth (.builtin "max")),
  (Str.ofString "sorted", .oth (.builtin "sorted")),
  (Str.ofString "zip", .oth (.type "zip"))]
noncomputable def cals : List Addr := [1151, 1068, 1087, 1101, 1073, 1106, 1111, 1118, 1125, 1132, 1139, 1146, 1051, 399, 453, 420, 441, 1063, 1056, 1034, 1044, 358, 372, 458, 465, 1027, 365, 1020, 1013, 1003, 1008, 991, 477, 998, 1080, 881, 392, 470, 754, 734, 803, 713, 673, 685, 789, 761, 782, 1094, 984, 958, 951, 902, 930, 909, 558, 551, 895, 406, 888, 937, 923, 768, 385, 378, 413, 311]
theorem g_law : (Str.ofString "law", V.ref 1151) ∈ GG := List.mem_of_getElem? (i := 0) rfl
theorem g_make_factor : (Str.ofString "make_factor", V.ref 1068) ∈ GG := List.mem_of_getElem? (i := 1) rfl
theorem g_subset_factor : (Str.ofString "subset_factor", V.ref 1087) ∈ GG := List.mem_of_getElem? (i := 2) rfl
theorem g_assign_factor : (Str.ofString "assign_factor", V.ref 1101) ∈ GG := List.mem_of_getElem? (i := 3) rfl
theorem g_drop_levels : (Str.ofString "drop_levels", V.ref 1073) ∈ GG := List.mem_of_getElem? (i := 4) rfl
theorem g_relevelled : (Str.ofString "relevelled", V.ref 1106) ∈ GG := List.mem_of_getElem? (i := 5) rfl
theorem g_split_by : (Str.ofString "split_by", V.ref 1111) ∈ GG := List.mem_of_getElem? (i := 6) rfl
theorem g_law_dealt : (Str.ofString "_law_dealt", V.ref 1118) ∈ GG := List.mem_of_getElem? (i := 7) rfl
theorem g_law_deal : (Str.ofString "_law_deal", V.ref 1125) ∈ GG := List.mem_of_getElem? (i := 8) rfl
theorem g_law_told_levels : (Str.ofString "_law_told_levels", V.ref 1132) ∈ GG := List.mem_of_getElem? (i := 9) rfl
theorem g_law_agrees : (Str.ofString "_law_agrees", V.ref 1139) ∈ GG := List.mem_of_getElem? (i := 10) rfl
theorem g_law_first_come : (Str.ofString "_law_first_come", V.ref 1146) ∈ GG := List.mem_of_getElem? (i := 11) rfl
theorem g_item_texts : (Str.ofString "item_texts", V.ref 1051) ∈ GG := List.mem_of_getElem? (i := 12) rfl
theorem g_is_atomic : (Str.ofString "is_atomic", V.ref 399) ∈ GG := List.mem_of_getElem? (i := 13) rfl
theorem g_label_texts : (Str.ofString "label_texts", V.ref 453) ∈ GG := List.mem_of_getElem? (i := 14) rfl
theorem g_get_attr : (Str.ofString "get_attr", V.ref 420) ∈ GG := List.mem_of_getElem? (i := 15) rfl
theorem g_label_text : (Str.ofString "label_text", V.ref 441) ∈ GG := List.mem_of_getElem? (i := 16) rfl
theorem g_check_distinct : (Str.ofString "check_distinct", V.ref 1063) ∈ GG := List.mem_of_getElem? (i := 17) rfl
theorem g_label_list : (Str.ofString "label_list", V.ref 1056) ∈ GG := List.mem_of_getElem? (i := 18) rfl
theorem g_distinct_texts : (Str.ofString "distinct_texts", V.ref 1034) ∈ GG := List.mem_of_getElem? (i := 19) rfl
theorem g_codes_of : (Str.ofString "codes_of", V.ref 1044) ∈ GG := List.mem_of_getElem? (i := 20) rfl
theorem g_integer : (Str.ofString "integer", V.ref 358) ∈ GG := List.mem_of_getElem? (i := 21) rfl
theorem g_named : (Str.ofString "named", V.ref 372) ∈ GG := List.mem_of_getElem? (i := 22) rfl
theorem g_names_of : (Str.ofString "names_of", V.ref 458) ∈ GG := List.mem_of_getElem? (i := 23) rfl
theorem g_dim_of : (Str.ofString "dim_of", V.ref 465) ∈ GG := List.mem_of_getElem? (i := 24) rfl
theorem g_with_levels : (Str.ofString "with_levels", V.ref 1027) ∈ GG := List.mem_of_getElem? (i := 25) rfl
theorem g_character : (Str.ofString "character", V.ref 365) ∈ GG := List.mem_of_getElem? (i := 26) rfl
theorem g_factor_class : (Str.ofString "factor_class", V.ref 1020) ∈ GG := List.mem_of_getElem? (i := 27) rfl
theorem g_factor_texts : (Str.ofString "factor_texts", V.ref 1013) ∈ GG := List.mem_of_getElem? (i := 28) rfl
theorem g_level_texts : (Str.ofString "level_texts", V.ref 1003) ∈ GG := List.mem_of_getElem? (i := 29) rfl
theorem g_codes_in : (Str.ofString "codes_in", V.ref 1008) ∈ GG := List.mem_of_getElem? (i := 30) rfl
theorem g_is_factor : (Str.ofString "is_factor", V.ref 991) ∈ GG := List.mem_of_getElem? (i := 31) rfl
theorem g_class_attr : (Str.ofString "class_attr", V.ref 477) ∈ GG := List.mem_of_getElem? (i := 32) rfl
theorem g_is_ordered : (Str.ofString "is_ordered", V.ref 998) ∈ GG := List.mem_of_getElem? (i := 33) rfl
theorem g_codes_alone : (Str.ofString "codes_alone", V.ref 1080) ∈ GG := List.mem_of_getElem? (i := 34) rfl
theorem g_subset_any : (Str.ofString "subset_any", V.ref 881) ∈ GG := List.mem_of_getElem? (i := 35) rfl
theorem g_is_vector : (Str.ofString "is_vector", V.ref 392) ∈ GG := List.mem_of_getElem? (i := 36) rfl
theorem g_dimnames_of : (Str.ofString "dimnames_of", V.ref 470) ∈ GG := List.mem_of_getElem? (i := 37) rfl
theorem g_matrix_index : (Str.ofString "matrix_index", V.ref 754) ∈ GG := List.mem_of_getElem? (i := 38) rfl
theorem g_is_matrix_index : (Str.ofString "is_matrix_index", V.ref 734) ∈ GG := List.mem_of_getElem? (i := 39) rfl
theorem g_subset_vector : (Str.ofString "subset_vector", V.ref 803) ∈ GG := List.mem_of_getElem? (i := 40) rfl
theorem g_positions : (Str.ofString "positions", V.ref 713) ∈ GG := List.mem_of_getElem? (i := 41) rfl
theorem g_whole_subscripts : (Str.ofString "whole_subscripts", V.ref 673) ∈ GG := List.mem_of_getElem? (i := 42) rfl
theorem g_whole_places : (Str.ofString "whole_places", V.ref 685) ∈ GG := List.mem_of_getElem? (i := 43) rfl
theorem g_items_at : (Str.ofString "items_at", V.ref 789) ∈ GG := List.mem_of_getElem? (i := 44) rfl
theorem g_lacking_item : (Str.ofString "lacking_item", V.ref 761) ∈ GG := List.mem_of_getElem? (i := 45) rfl
theorem g_result_kind : (Str.ofString "result_kind", V.ref 782) ∈ GG := List.mem_of_getElem? (i := 46) rfl
theorem g_value_codes : (Str.ofString "value_codes", V.ref 1094) ∈ GG := List.mem_of_getElem? (i := 47) rfl
theorem g_assign_any : (Str.ofString "assign_any", V.ref 984) ∈ GG := List.mem_of_getElem? (i := 48) rfl
theorem g_assign_vector : (Str.ofString "assign_vector", V.ref 958) ∈ GG := List.mem_of_getElem? (i := 49) rfl
theorem g_assign_places : (Str.ofString "assign_places", V.ref 951) ∈ GG := List.mem_of_getElem? (i := 50) rfl
theorem g_value_vector : (Str.ofString "value_vector", V.ref 902) ∈ GG := List.mem_of_getElem? (i := 51) rfl
theorem g_check_places : (Str.ofString "check_places", V.ref 930) ∈ GG := List.mem_of_getElem? (i := 52) rfl
theorem g_assigned_kind : (Str.ofString "assigned_kind", V.ref 909) ∈ GG := List.mem_of_getElem? (i := 53) rfl
theorem g_common_kind : (Str.ofString "common_kind", V.ref 558) ∈ GG := List.mem_of_getElem? (i := 54) rfl
theorem g_kind_order : (Str.ofString "kind_order", V.ref 551) ∈ GG := List.mem_of_getElem? (i := 55) rfl
theorem g_raised : (Str.ofString "raised", V.ref 895) ∈ GG := List.mem_of_getElem? (i := 56) rfl
theorem g_own : (Str.ofString "own", V.ref 406) ∈ GG := List.mem_of_getElem? (i := 57) rfl
theorem g_converted_items : (Str.ofString "converted_items", V.ref 888) ∈ GG := List.mem_of_getElem? (i := 58) rfl
theorem g_first_count : (Str.ofString "first_count", V.ref 937) ∈ GG := List.mem_of_getElem? (i := 59) rfl
theorem g_put_items : (Str.ofString "put_items", V.ref 923) ∈ GG := List.mem_of_getElem? (i := 60) rfl
theorem g_is_list_kind : (Str.ofString "is_list_kind", V.ref 768) ∈ GG := List.mem_of_getElem? (i := 61) rfl
theorem g_length : (Str.ofString "length", V.ref 385) ∈ GG := List.mem_of_getElem? (i := 62) rfl
theorem g_list_of : (Str.ofString "list_of", V.ref 378) ∈ GG := List.mem_of_getElem? (i := 63) rfl
theorem g_share : (Str.ofString "share", V.ref 413) ∈ GG := List.mem_of_getElem? (i := 64) rfl
theorem g_Vector : (Str.ofString "Vector", V.ref 311) ∈ GG := List.mem_of_getElem? (i := 65) rfl
theorem g_len : (Str.ofString "len", V.oth (.builtin "len")) ∈ GG := List.mem_of_getElem? (i := 66) rfl
theorem g_range : (Str.ofString "range", V.oth (.type "range")) ∈ GG := List.mem_of_getElem? (i := 67) rfl
theorem g_list : (Str.ofString "list", V.oth (.type "list")) ∈ GG := List.mem_of_getElem? (i := 68) rfl
theorem g_dict : (Str.ofString "dict", V.oth (.type "dict")) ∈ GG := List.mem_of_getElem? (i := 69) rfl
theorem g_isinstance : (Str.ofString "isinstance", V.oth (.builtin "isinstance")) ∈ GG := List.mem_of_getElem? (i := 70) rfl
theorem g_max : (Str.ofString "max", V.oth (.builtin "max")) ∈ GG := List.mem_of_getElem? (i := 71) rfl
theorem g_sorted : (Str.ofString "sorted", V.oth (.builtin "sorted")) ∈ GG := List.mem_of_getElem? (i := 72) rfl
theorem g_zip : (Str.ofString "zip", V.oth (.type "zip")) ∈ GG := List.mem_of_getElem? (i := 73) rfl

structure Fa (prog : Program) (w : World) (S0 : Shared) (K : Frag) (mV : Str → Option Value) : Prop where
  B : Bs prog w S0 K GG
  fn : ∀ p ∈ defs, Fn S0 p.1 (fS (topS p.2)) (fB (topS p.2)) (fP (topS p.2)) false
  fnD : ∀ p ∈ defsD, Fn S0 p.1 (fS (topS p.2)) (fB (topS p.2)) (fP (topS p.2)) true
  init : Fn S0 301 (fS (inCls 0 (topS 41))) (fB (inCls 0 (topS 41))) (fP (inCls 0 (topS 41))) true
  copy : Fn S0 308 (fS (inCls 1 (topS 41))) (fB (inCls 1 (topS 41))) (fP (inCls 1 (topS 41))) false
  cls : Cls S0 311 310 mV
  free : ∀ y ∈ [Str.ofString "kind", Str.ofString "items", Str.ofString "attrs", Str.ofString "shared", Str.ofString "loose"], Free mV y
  mInit : mV (Str.ofString "__init__") = some (.ref 301)
  mCopy : mV (Str.ofString "copy") = some (.ref 308)
  oCopy : typeLookup (.type "object") (Str.ofString "copy") = pure none
  isi : isIn K (.ref 311) 311 = true
  keep : ∀ a ∈ 308 :: cals, keepIn K (.ref a) = true
section
set_option maxRecDepth 100000
set_option maxHeartbeats 4000000
theorem sa0 : Str.ofString "" = Str.mk (Array.mk []) := rfl
theorem sa1 : Str.ofString " \t\n\u000d\u000c\u000b" = Str.mk (Array.mk [nat_lit 32, nat_lit 9, nat_lit 10, nat_lit 13, nat_lit 12, nat_lit 11]) := rfl
theorem sa2 : Str.ofString " should be 1 or " = Str.mk (Array.mk [nat_lit 32, nat_lit 115, nat_lit 104, nat_lit 111, nat_lit 117, nat_lit 108, nat_lit 100, nat_lit 32, nat_lit 98, nat_lit 101, nat_lit 32, nat_lit 49, nat_lit 32, nat_lit 111, nat_lit 114, nat_lit 32]) := rfl
theorem sa3 : Str.ofString " to " = Str.mk (Array.mk [nat_lit 32, nat_lit 116, nat_lit 111, nat_lit 32]) := rfl
theorem sa4 : Str.ofString "'" = Str.mk (Array.mk [nat_lit 39]) := rfl
theorem sa5 : Str.ofString "' in 'orderVector1'" = Str.mk (Array.mk [nat_lit 39, nat_lit 32, nat_lit 105, nat_lit 110, nat_lit 32, nat_lit 39, nat_lit 111, nat_lit 114, nat_lit 100, nat_lit 101, nat_lit 114, nat_lit 86, nat_lit 101, nat_lit 99, nat_lit 116, nat_lit 111, nat_lit 114, nat_lit 49, nat_lit 39]) := rfl
theorem sa6 : Str.ofString "' is not subsettable" = Str.mk (Array.mk [nat_lit 39, nat_lit 32, nat_lit 105, nat_lit 115, nat_lit 32, nat_lit 110, nat_lit 111, nat_lit 116, nat_lit 32, nat_lit 115, nat_lit 117, nat_lit 98, nat_lit 115, nat_lit 101, nat_lit 116, nat_lit 116, nat_lit 97, nat_lit 98, nat_lit 108, nat_lit 101]) := rfl
theorem sa7 : Str.ofString "' object cannot be coerced to type '" = Str.mk (Array.mk [nat_lit 39, nat_lit 32, nat_lit 111, nat_lit 98, nat_lit 106, nat_lit 101, nat_lit 99, nat_lit 116, nat_lit 32, nat_lit 99, nat_lit 97, nat_lit 110, nat_lit 110, nat_lit 111, nat_lit 116, nat_lit 32, nat_lit 98, nat_lit 101, nat_lit 32, nat_lit 99, nat_lit 111, nat_lit 101, nat_lit 114, nat_lit 99, nat_lit 101, nat_lit 100, nat_lit 32, nat_lit 116, nat_lit 111, nat_lit 32, nat_lit 116, nat_lit 121, nat_lit 112, nat_lit 101, nat_lit 32, nat_lit 39]) := rfl
theorem sa8 : Str.ofString "' to vector of type '" = Str.mk (Array.mk [nat_lit 39, nat_lit 32, nat_lit 116, nat_lit 111, nat_lit 32, nat_lit 118, nat_lit 101, nat_lit 99, nat_lit 116, nat_lit 111, nat_lit 114, nat_lit 32, nat_lit 111, nat_lit 102, nat_lit 32, nat_lit 116, nat_lit 121, nat_lit 112, nat_lit 101, nat_lit 32, nat_lit 39]) := rfl
theorem sa9 : Str.ofString "'x' must be atomic" = Str.mk (Array.mk [nat_lit 39, nat_lit 120, nat_lit 39, nat_lit 32, nat_lit 109, nat_lit 117, nat_lit 115, nat_lit 116, nat_lit 32, nat_lit 98, nat_lit 101, nat_lit 32, nat_lit 97, nat_lit 116, nat_lit 111, nat_lit 109, nat_lit 105, nat_lit 99]) := rfl
theorem sa10 : Str.ofString "(subscript) logical subscript too long" = Str.mk (Array.mk [nat_lit 40, nat_lit 115, nat_lit 117, nat_lit 98, nat_lit 115, nat_lit 99, nat_lit 114, nat_lit 105, nat_lit 112, nat_lit 116, nat_lit 41, nat_lit 32, nat_lit 108, nat_lit 111, nat_lit 103, nat_lit 105, nat_lit 99, nat_lit 97, nat_lit 108, nat_lit 32, nat_lit 115, nat_lit 117, nat_lit 98, nat_lit 115, nat_lit 99, nat_lit 114, nat_lit 105, nat_lit 112, nat_lit 116, nat_lit 32, nat_lit 116, nat_lit 111, nat_lit 111, nat_lit 32, nat_lit 108, nat_lit 111, nat_lit 110, nat_lit 103]) := rfl
theorem sa11 : Str.ofString ") in subassignment type fix" = Str.mk (Array.mk [nat_lit 41, nat_lit 32, nat_lit 105, nat_lit 110, nat_lit 32, nat_lit 115, nat_lit 117, nat_lit 98, nat_lit 97, nat_lit 115, nat_lit 115, nat_lit 105, nat_lit 103, nat_lit 110, nat_lit 109, nat_lit 101, nat_lit 110, nat_lit 116, nat_lit 32, nat_lit 116, nat_lit 121, nat_lit 112, nat_lit 101, nat_lit 32, nat_lit 102, nat_lit 105, nat_lit 120]) := rfl
theorem sa12 : Str.ofString "+" = Str.mk (Array.mk [nat_lit 43]) := rfl
theorem sa13 : Str.ofString "-" = Str.mk (Array.mk [nat_lit 45]) := rfl
theorem sa14 : Str.ofString "-Inf" = Str.mk (Array.mk [nat_lit 45, nat_lit 73, nat_lit 110, nat_lit 102]) := rfl
theorem sa15 : Str.ofString "." = Str.mk (Array.mk [nat_lit 46]) := rfl
theorem sa16 : Str.ofString ".0" = Str.mk (Array.mk [nat_lit 46, nat_lit 48]) := rfl
theorem sa17 : Str.ofString "/claim/cut.py" = Str.mk (Array.mk [nat_lit 47, nat_lit 99, nat_lit 108, nat_lit 97, nat_lit 105, nat_lit 109, nat_lit 47, nat_lit 99, nat_lit 117, nat_lit 116, nat_lit 46, nat_lit 112, nat_lit 121]) := rfl
theorem sa18 : Str.ofString "0" = Str.mk (Array.mk [nat_lit 48]) := rfl
theorem sa19 : Str.ofString "0123456789" = Str.mk (Array.mk [nat_lit 48, nat_lit 49, nat_lit 50, nat_lit 51, nat_lit 52, nat_lit 53, nat_lit 54, nat_lit 55, nat_lit 56, nat_lit 57]) := rfl
theorem sa20 : Str.ofString "0123456789abcdef" = Str.mk (Array.mk [nat_lit 48, nat_lit 49, nat_lit 50, nat_lit 51, nat_lit 52, nat_lit 53, nat_lit 54, nat_lit 55, nat_lit 56, nat_lit 57, nat_lit 97, nat_lit 98, nat_lit 99, nat_lit 100, nat_lit 101, nat_lit 102]) := rfl
theorem sa21 : Str.ofString "0X" = Str.mk (Array.mk [nat_lit 48, nat_lit 88]) := rfl
theorem sa22 : Str.ofString "0x" = Str.mk (Array.mk [nat_lit 48, nat_lit 120]) := rfl
theorem sa23 : Str.ofString "<NA>" = Str.mk (Array.mk [nat_lit 60, nat_lit 78, nat_lit 65, nat_lit 62]) := rfl
theorem sa24 : Str.ofString "Call" = Str.mk (Array.mk [nat_lit 67, nat_lit 97, nat_lit 108, nat_lit 108]) := rfl
theorem sa25 : Str.ofString "CoveError" = Str.mk (Array.mk [nat_lit 67, nat_lit 111, nat_lit 118, nat_lit 101, nat_lit 69, nat_lit 114, nat_lit 114, nat_lit 111, nat_lit 114]) := rfl
theorem sa26 : Str.ofString "Exception" = Str.mk (Array.mk [nat_lit 69, nat_lit 120, nat_lit 99, nat_lit 101, nat_lit 112, nat_lit 116, nat_lit 105, nat_lit 111, nat_lit 110]) := rfl
theorem sa27 : Str.ofString "F" = Str.mk (Array.mk [nat_lit 70]) := rfl
theorem sa28 : Str.ofString "FALSE" = Str.mk (Array.mk [nat_lit 70, nat_lit 65, nat_lit 76, nat_lit 83, nat_lit 69]) := rfl
theorem sa29 : Str.ofString "False" = Str.mk (Array.mk [nat_lit 70, nat_lit 97, nat_lit 108, nat_lit 115, nat_lit 101]) := rfl
theorem sa30 : Str.ofString "INF" = Str.mk (Array.mk [nat_lit 73, nat_lit 78, nat_lit 70]) := rfl
theorem sa31 : Str.ofString "Inf" = Str.mk (Array.mk [nat_lit 73, nat_lit 110, nat_lit 102]) := rfl
theorem sa32 : Str.ofString "MOST_EXPONENT" = Str.mk (Array.mk [nat_lit 77, nat_lit 79, nat_lit 83, nat_lit 84, nat_lit 95, nat_lit 69, nat_lit 88, nat_lit 80, nat_lit 79, nat_lit 78, nat_lit 69, nat_lit 78, nat_lit 84]) := rfl
theorem sa33 : Str.ofString "MOST_INTEGER" = Str.mk (Array.mk [nat_lit 77, nat_lit 79, nat_lit 83, nat_lit 84, nat_lit 95, nat_lit 73, nat_lit 78, nat_lit 84, nat_lit 69, nat_lit 71, nat_lit 69, nat_lit 82]) := rfl
theorem sa34 : Str.ofString "MOST_LENGTH" = Str.mk (Array.mk [nat_lit 77, nat_lit 79, nat_lit 83, nat_lit 84, nat_lit 95, nat_lit 76, nat_lit 69, nat_lit 78, nat_lit 71, nat_lit 84, nat_lit 72]) := rfl
theorem sa35 : Str.ofString "Missing" = Str.mk (Array.mk [nat_lit 77, nat_lit 105, nat_lit 115, nat_lit 115, nat_lit 105, nat_lit 110, nat_lit 103]) := rfl
theorem sa36 : Str.ofString "NA" = Str.mk (Array.mk [nat_lit 78, nat_lit 65]) := rfl
theorem sa37 : Str.ofString "NAN" = Str.mk (Array.mk [nat_lit 78, nat_lit 65, nat_lit 78]) := rfl
theorem sa38 : Str.ofString "NAs are not allowed in subscripted assignments" = Str.mk (Array.mk [nat_lit 78, nat_lit 65, nat_lit 115, nat_lit 32, nat_lit 97, nat_lit 114, nat_lit 101, nat_lit 32, nat_lit 110, nat_lit 111, nat_lit 116, nat_lit 32, nat_lit 97, nat_lit 108, nat_lit 108, nat_lit 111, nat_lit 119, nat_lit 101, nat_lit 100, nat_lit 32, nat_lit 105, nat_lit 110, nat_lit 32, nat_lit 115, nat_lit 117, nat_lit 98, nat_lit 115, nat_lit 99, nat_lit 114, nat_lit 105, nat_lit 112, nat_lit 116, nat_lit 101, nat_lit 100, nat_lit 32, nat_lit 97, nat_lit 115, nat_lit 115, nat_lit 105, nat_lit 103, nat_lit 110, nat_lit 109, nat_lit 101, nat_lit 110, nat_lit 116, nat_lit 115]) := rfl
theorem sa39 : Str.ofString "NAs introduced by coercion" = Str.mk (Array.mk [nat_lit 78, nat_lit 65, nat_lit 115, nat_lit 32, nat_lit 105, nat_lit 110, nat_lit 116, nat_lit 114, nat_lit 111, nat_lit 100, nat_lit 117, nat_lit 99, nat_lit 101, nat_lit 100, nat_lit 32, nat_lit 98, nat_lit 121, nat_lit 32, nat_lit 99, nat_lit 111, nat_lit 101, nat_lit 114, nat_lit 99, nat_lit 105, nat_lit 111, nat_lit 110]) := rfl
theorem sa40 : Str.ofString "NAs introduced by coercion to integer range" = Str.mk (Array.mk [nat_lit 78, nat_lit 65, nat_lit 115, nat_lit 32, nat_lit 105, nat_lit 110, nat_lit 116, nat_lit 114, nat_lit 111, nat_lit 100, nat_lit 117, nat_lit 99, nat_lit 101, nat_lit 100, nat_lit 32, nat_lit 98, nat_lit 121, nat_lit 32, nat_lit 99, nat_lit 111, nat_lit 101, nat_lit 114, nat_lit 99, nat_lit 105, nat_lit 111, nat_lit 110, nat_lit 32, nat_lit 116, nat_lit 111, nat_lit 32, nat_lit 105, nat_lit 110, nat_lit 116, nat_lit 101, nat_lit 103, nat_lit 101, nat_lit 114, nat_lit 32, nat_lit 114, nat_lit 97, nat_lit 110, nat_lit 103, nat_lit 101]) := rfl
theorem sa41 : Str.ofString "NULL" = Str.mk (Array.mk [nat_lit 78, nat_lit 85, nat_lit 76, nat_lit 76]) := rfl
theorem sa42 : Str.ofString "NaN" = Str.mk (Array.mk [nat_lit 78, nat_lit 97, nat_lit 78]) := rfl
theorem sa43 : Str.ofString "Null" = Str.mk (Array.mk [nat_lit 78, nat_lit 117, nat_lit 108, nat_lit 108]) := rfl
theorem sa44 : Str.ofString "Refusal" = Str.mk (Array.mk [nat_lit 82, nat_lit 101, nat_lit 102, nat_lit 117, nat_lit 115, nat_lit 97, nat_lit 108]) := rfl
theorem sa45 : Str.ofString "T" = Str.mk (Array.mk [nat_lit 84]) := rfl
theorem sa46 : Str.ofString "TRUE" = Str.mk (Array.mk [nat_lit 84, nat_lit 82, nat_lit 85, nat_lit 69]) := rfl
theorem sa47 : Str.ofString "True" = Str.mk (Array.mk [nat_lit 84, nat_lit 114, nat_lit 117, nat_lit 101]) := rfl
theorem sa48 : Str.ofString "Vector" = Str.mk (Array.mk [nat_lit 86, nat_lit 101, nat_lit 99, nat_lit 116, nat_lit 111, nat_lit 114]) := rfl
theorem sa49 : Str.ofString "ZERO" = Str.mk (Array.mk [nat_lit 90, nat_lit 69, nat_lit 82, nat_lit 79]) := rfl
theorem sa50 : Str.ofString "] is duplicated" = Str.mk (Array.mk [nat_lit 93, nat_lit 32, nat_lit 105, nat_lit 115, nat_lit 32, nat_lit 100, nat_lit 117, nat_lit 112, nat_lit 108, nat_lit 105, nat_lit 99, nat_lit 97, nat_lit 116, nat_lit 101, nat_lit 100]) := rfl
theorem sa51 : Str.ofString "__init__" = Str.mk (Array.mk [nat_lit 95, nat_lit 95, nat_lit 105, nat_lit 110, nat_lit 105, nat_lit 116, nat_lit 95, nat_lit 95]) := rfl
theorem sa52 : Str.ofString "__name__" = Str.mk (Array.mk [nat_lit 95, nat_lit 95, nat_lit 110, nat_lit 97, nat_lit 109, nat_lit 101, nat_lit 95, nat_lit 95]) := rfl
theorem sa53 : Str.ofString "_law_agrees" = Str.mk (Array.mk [nat_lit 95, nat_lit 108, nat_lit 97, nat_lit 119, nat_lit 95, nat_lit 97, nat_lit 103, nat_lit 114, nat_lit 101, nat_lit 101, nat_lit 115]) := rfl
theorem sa54 : Str.ofString "_law_deal" = Str.mk (Array.mk [nat_lit 95, nat_lit 108, nat_lit 97, nat_lit 119, nat_lit 95, nat_lit 100, nat_lit 101, nat_lit 97, nat_lit 108]) := rfl
theorem sa55 : Str.ofString "_law_dealt" = Str.mk (Array.mk [nat_lit 95, nat_lit 108, nat_lit 97, nat_lit 119, nat_lit 95, nat_lit 100, nat_lit 101, nat_lit 97, nat_lit 108, nat_lit 116]) := rfl
theorem sa56 : Str.ofString "_law_first_come" = Str.mk (Array.mk [nat_lit 95, nat_lit 108, nat_lit 97, nat_lit 119, nat_lit 95, nat_lit 102, nat_lit 105, nat_lit 114, nat_lit 115, nat_lit 116, nat_lit 95, nat_lit 99, nat_lit 111, nat_lit 109, nat_lit 101]) := rfl
theorem sa57 : Str.ofString "_law_told_levels" = Str.mk (Array.mk [nat_lit 95, nat_lit 108, nat_lit 97, nat_lit 119, nat_lit 95, nat_lit 116, nat_lit 111, nat_lit 108, nat_lit 100, nat_lit 95, nat_lit 108, nat_lit 101, nat_lit 118, nat_lit 101, nat_lit 108, nat_lit 115]) := rfl
theorem sa58 : Str.ofString "a" = Str.mk (Array.mk [nat_lit 97]) := rfl
theorem sa59 : Str.ofString "abs" = Str.mk (Array.mk [nat_lit 97, nat_lit 98, nat_lit 115]) := rfl
theorem sa60 : Str.ofString "added" = Str.mk (Array.mk [nat_lit 97, nat_lit 100, nat_lit 100, nat_lit 101, nat_lit 100]) := rfl
theorem sa61 : Str.ofString "append" = Str.mk (Array.mk [nat_lit 97, nat_lit 112, nat_lit 112, nat_lit 101, nat_lit 110, nat_lit 100]) := rfl
theorem sa62 : Str.ofString "args" = Str.mk (Array.mk [nat_lit 97, nat_lit 114, nat_lit 103, nat_lit 115]) := rfl
theorem sa63 : Str.ofString "argument lengths differ" = Str.mk (Array.mk [nat_lit 97, nat_lit 114, nat_lit 103, nat_lit 117, nat_lit 109, nat_lit 101, nat_lit 110, nat_lit 116, nat_lit 32, nat_lit 108, nat_lit 101, nat_lit 110, nat_lit 103, nat_lit 116, nat_lit 104, nat_lit 115, nat_lit 32, nat_lit 100, nat_lit 105, nat_lit 102, nat_lit 102, nat_lit 101, nat_lit 114]) := rfl
theorem sa64 : Str.ofString "array_axes" = Str.mk (Array.mk [nat_lit 97, nat_lit 114, nat_lit 114, nat_lit 97, nat_lit 121, nat_lit 95, nat_lit 97, nat_lit 120, nat_lit 101, nat_lit 115]) := rfl
theorem sa65 : Str.ofString "array_places" = Str.mk (Array.mk [nat_lit 97, nat_lit 114, nat_lit 114, nat_lit 97, nat_lit 121, nat_lit 95, nat_lit 112, nat_lit 108, nat_lit 97, nat_lit 99, nat_lit 101, nat_lit 115]) := rfl
theorem sa66 : Str.ofString "as_kind" = Str.mk (Array.mk [nat_lit 97, nat_lit 115, nat_lit 95, nat_lit 107, nat_lit 105, nat_lit 110, nat_lit 100]) := rfl
theorem sa67 : Str.ofString "as_list" = Str.mk (Array.mk [nat_lit 97, nat_lit 115, nat_lit 95, nat_lit 108, nat_lit 105, nat_lit 115, nat_lit 116]) := rfl
theorem sa68 : Str.ofString "as_logical_text" = Str.mk (Array.mk [nat_lit 97, nat_lit 115, nat_lit 95, nat_lit 108, nat_lit 111, nat_lit 103, nat_lit 105, nat_lit 99, nat_lit 97, nat_lit 108, nat_lit 95, nat_lit 116, nat_lit 101, nat_lit 120, nat_lit 116]) := rfl
theorem sa69 : Str.ofString "as_vector_kind" = Str.mk (Array.mk [nat_lit 97, nat_lit 115, nat_lit 95, nat_lit 118, nat_lit 101, nat_lit 99, nat_lit 116, nat_lit 111, nat_lit 114, nat_lit 95, nat_lit 107, nat_lit 105, nat_lit 110, nat_lit 100]) := rfl
theorem sa70 : Str.ofString "assign_any" = Str.mk (Array.mk [nat_lit 97, nat_lit 115, nat_lit 115, nat_lit 105, nat_lit 103, nat_lit 110, nat_lit 95, nat_lit 97, nat_lit 110, nat_lit 121]) := rfl
theorem sa71 : Str.ofString "assign_array" = Str.mk (Array.mk [nat_lit 97, nat_lit 115, nat_lit 115, nat_lit 105, nat_lit 103, nat_lit 110, nat_lit 95, nat_lit 97, nat_lit 114, nat_lit 114, nat_lit 97, nat_lit 121]) := rfl
theorem sa72 : Str.ofString "assign_factor" = Str.mk (Array.mk [nat_lit 97, nat_lit 115, nat_lit 115, nat_lit 105, nat_lit 103, nat_lit 110, nat_lit 95, nat_lit 102, nat_lit 97, nat_lit 99, nat_lit 116, nat_lit 111, nat_lit 114]) := rfl
theorem sa73 : Str.ofString "assign_places" = Str.mk (Array.mk [nat_lit 97, nat_lit 115, nat_lit 115, nat_lit 105, nat_lit 103, nat_lit 110, nat_lit 95, nat_lit 112, nat_lit 108, nat_lit 97, nat_lit 99, nat_lit 101, nat_lit 115]) := rfl
theorem sa74 : Str.ofString "assign_vector" = Str.mk (Array.mk [nat_lit 97, nat_lit 115, nat_lit 115, nat_lit 105, nat_lit 103, nat_lit 110, nat_lit 95, nat_lit 118, nat_lit 101, nat_lit 99, nat_lit 116, nat_lit 111, nat_lit 114]) := rfl
theorem sa75 : Str.ofString "assigned_kind" = Str.mk (Array.mk [nat_lit 97, nat_lit 115, nat_lit 115, nat_lit 105, nat_lit 103, nat_lit 110, nat_lit 101, nat_lit 100, nat_lit 95, nat_lit 107, nat_lit 105, nat_lit 110, nat_lit 100]) := rfl
theorem sa76 : Str.ofString "at" = Str.mk (Array.mk [nat_lit 97, nat_lit 116]) := rfl
theorem sa77 : Str.ofString "attrs" = Str.mk (Array.mk [nat_lit 97, nat_lit 116, nat_lit 116, nat_lit 114, nat_lit 115]) := rfl
theorem sa78 : Str.ofString "axes" = Str.mk (Array.mk [nat_lit 97, nat_lit 120, nat_lit 101, nat_lit 115]) := rfl
theorem sa79 : Str.ofString "axis" = Str.mk (Array.mk [nat_lit 97, nat_lit 120, nat_lit 105, nat_lit 115]) := rfl
theorem sa80 : Str.ofString "b" = Str.mk (Array.mk [nat_lit 98]) := rfl
theorem sa81 : Str.ofString "base" = Str.mk (Array.mk [nat_lit 98, nat_lit 97, nat_lit 115, nat_lit 101]) := rfl
theorem sa82 : Str.ofString "before" = Str.mk (Array.mk [nat_lit 98, nat_lit 101, nat_lit 102, nat_lit 111, nat_lit 114, nat_lit 101]) := rfl
theorem sa83 : Str.ofString "behind" = Str.mk (Array.mk [nat_lit 98, nat_lit 101, nat_lit 104, nat_lit 105, nat_lit 110, nat_lit 100]) := rfl
theorem sa84 : Str.ofString "beyond 1e+18" = Str.mk (Array.mk [nat_lit 98, nat_lit 101, nat_lit 121, nat_lit 111, nat_lit 110, nat_lit 100, nat_lit 32, nat_lit 49, nat_lit 101, nat_lit 43, nat_lit 49, nat_lit 56]) := rfl
theorem sa85 : Str.ofString "body" = Str.mk (Array.mk [nat_lit 98, nat_lit 111, nat_lit 100, nat_lit 121]) := rfl
theorem sa86 : Str.ofString "call_of_list" = Str.mk (Array.mk [nat_lit 99, nat_lit 97, nat_lit 108, nat_lit 108, nat_lit 95, nat_lit 111, nat_lit 102, nat_lit 95, nat_lit 108, nat_lit 105, nat_lit 115, nat_lit 116]) := rfl
theorem sa87 : Str.ofString "called" = Str.mk (Array.mk [nat_lit 99, nat_lit 97, nat_lit 108, nat_lit 108, nat_lit 101, nat_lit 100]) := rfl
theorem sa88 : Str.ofString "can't mix NAs with negative subscripts" = Str.mk (Array.mk [nat_lit 99, nat_lit 97, nat_lit 110, nat_lit 39, nat_lit 116, nat_lit 32, nat_lit 109, nat_lit 105, nat_lit 120, nat_lit 32, nat_lit 78, nat_lit 65, nat_lit 115, nat_lit 32, nat_lit 119, nat_lit 105, nat_lit 116, nat_lit 104, nat_lit 32, nat_lit 110, nat_lit 101, nat_lit 103, nat_lit 97, nat_lit 116, nat_lit 105, nat_lit 118, nat_lit 101, nat_lit 32, nat_lit 115, nat_lit 117, nat_lit 98, nat_lit 115, nat_lit 99, nat_lit 114, nat_lit 105, nat_lit 112, nat_lit 116, nat_lit 115]) := rfl
theorem sa89 : Str.ofString "can't mix positive and negative subscripts" = Str.mk (Array.mk [nat_lit 99, nat_lit 97, nat_lit 110, nat_lit 39, nat_lit 116, nat_lit 32, nat_lit 109, nat_lit 105, nat_lit 120, nat_lit 32, nat_lit 112, nat_lit 111, nat_lit 115, nat_lit 105, nat_lit 116, nat_lit 105, nat_lit 118, nat_lit 101, nat_lit 32, nat_lit 97, nat_lit 110, nat_lit 100, nat_lit 32, nat_lit 110, nat_lit 101, nat_lit 103, nat_lit 97, nat_lit 116, nat_lit 105, nat_lit 118, nat_lit 101, nat_lit 32, nat_lit 115, nat_lit 117, nat_lit 98, nat_lit 115, nat_lit 99, nat_lit 114, nat_lit 105, nat_lit 112, nat_lit 116, nat_lit 115]) := rfl
theorem sa90 : Str.ofString "cannot allocate vector of length " = Str.mk (Array.mk [nat_lit 99, nat_lit 97, nat_lit 110, nat_lit 110, nat_lit 111, nat_lit 116, nat_lit 32, nat_lit 97, nat_lit 108, nat_lit 108, nat_lit 111, nat_lit 99, nat_lit 97, nat_lit 116, nat_lit 101, nat_lit 32, nat_lit 118, nat_lit 101, nat_lit 99, nat_lit 116, nat_lit 111, nat_lit 114, nat_lit 32, nat_lit 111, nat_lit 102, nat_lit 32, nat_lit 108, nat_lit 101, nat_lit 110, nat_lit 103, nat_lit 116, nat_lit 104, nat_lit 32]) := rfl
theorem sa91 : Str.ofString "cannot coerce type '" = Str.mk (Array.mk [nat_lit 99, nat_lit 97, nat_lit 110, nat_lit 110, nat_lit 111, nat_lit 116, nat_lit 32, nat_lit 99, nat_lit 111, nat_lit 101, nat_lit 114, nat_lit 99, nat_lit 101, nat_lit 32, nat_lit 116, nat_lit 121, nat_lit 112, nat_lit 101, nat_lit 32, nat_lit 39]) := rfl
theorem sa92 : Str.ofString "cards" = Str.mk (Array.mk [nat_lit 99, nat_lit 97, nat_lit 114, nat_lit 100, nat_lit 115]) := rfl
theorem sa93 : Str.ofString "char" = Str.mk (Array.mk [nat_lit 99, nat_lit 104, nat_lit 97, nat_lit 114]) := rfl
theorem sa94 : Str.ofString "character" = Str.mk (Array.mk [nat_lit 99, nat_lit 104, nat_lit 97, nat_lit 114, nat_lit 97, nat_lit 99, nat_lit 116, nat_lit 101, nat_lit 114]) := rfl
theorem sa95 : Str.ofString "check_distinct" = Str.mk (Array.mk [nat_lit 99, nat_lit 104, nat_lit 101, nat_lit 99, nat_lit 107, nat_lit 95, nat_lit 100, nat_lit 105, nat_lit 115, nat_lit 116, nat_lit 105, nat_lit 110, nat_lit 99, nat_lit 116]) := rfl
theorem sa96 : Str.ofString "check_places" = Str.mk (Array.mk [nat_lit 99, nat_lit 104, nat_lit 101, nat_lit 99, nat_lit 107, nat_lit 95, nat_lit 112, nat_lit 108, nat_lit 97, nat_lit 99, nat_lit 101, nat_lit 115]) := rfl
theorem sa97 : Str.ofString "check_sortable" = Str.mk (Array.mk [nat_lit 99, nat_lit 104, nat_lit 101, nat_lit 99, nat_lit 107, nat_lit 95, nat_lit 115, nat_lit 111, nat_lit 114, nat_lit 116, nat_lit 97, nat_lit 98, nat_lit 108, nat_lit 101]) := rfl
theorem sa98 : Str.ofString "chosen_form" = Str.mk (Array.mk [nat_lit 99, nat_lit 104, nat_lit 111, nat_lit 115, nat_lit 101, nat_lit 110, nat_lit 95, nat_lit 102, nat_lit 111, nat_lit 114, nat_lit 109]) := rfl
theorem sa99 : Str.ofString "class" = Str.mk (Array.mk [nat_lit 99, nat_lit 108, nat_lit 97, nat_lit 115, nat_lit 115]) := rfl
theorem sa100 : Str.ofString "class_attr" = Str.mk (Array.mk [nat_lit 99, nat_lit 108, nat_lit 97, nat_lit 115, nat_lit 115, nat_lit 95, nat_lit 97, nat_lit 116, nat_lit 116, nat_lit 114]) := rfl
theorem sa101 : Str.ofString "code" = Str.mk (Array.mk [nat_lit 99, nat_lit 111, nat_lit 100, nat_lit 101]) := rfl
theorem sa102 : Str.ofString "codes" = Str.mk (Array.mk [nat_lit 99, nat_lit 111, nat_lit 100, nat_lit 101, nat_lit 115]) := rfl
theorem sa103 : Str.ofString "codes_alone" = Str.mk (Array.mk [nat_lit 99, nat_lit 111, nat_lit 100, nat_lit 101, nat_lit 115, nat_lit 95, nat_lit 97, nat_lit 108, nat_lit 111, nat_lit 110, nat_lit 101]) := rfl
theorem sa104 : Str.ofString "codes_in" = Str.mk (Array.mk [nat_lit 99, nat_lit 111, nat_lit 100, nat_lit 101, nat_lit 115, nat_lit 95, nat_lit 105, nat_lit 110]) := rfl
theorem sa105 : Str.ofString "codes_of" = Str.mk (Array.mk [nat_lit 99, nat_lit 111, nat_lit 100, nat_lit 101, nat_lit 115, nat_lit 95, nat_lit 111, nat_lit 102]) := rfl
theorem sa106 : Str.ofString "common" = Str.mk (Array.mk [nat_lit 99, nat_lit 111, nat_lit 109, nat_lit 109, nat_lit 111, nat_lit 110]) := rfl
theorem sa107 : Str.ofString "common_kind" = Str.mk (Array.mk [nat_lit 99, nat_lit 111, nat_lit 109, nat_lit 109, nat_lit 111, nat_lit 110, nat_lit 95, nat_lit 107, nat_lit 105, nat_lit 110, nat_lit 100]) := rfl
theorem sa108 : Str.ofString "common_texts" = Str.mk (Array.mk [nat_lit 99, nat_lit 111, nat_lit 109, nat_lit 109, nat_lit 111, nat_lit 110, nat_lit 95, nat_lit 116, nat_lit 101, nat_lit 120, nat_lit 116, nat_lit 115]) := rfl
theorem sa109 : Str.ofString "compare" = Str.mk (Array.mk [nat_lit 99, nat_lit 111, nat_lit 109, nat_lit 112, nat_lit 97, nat_lit 114, nat_lit 101]) := rfl
theorem sa110 : Str.ofString "compare_items" = Str.mk (Array.mk [nat_lit 99, nat_lit 111, nat_lit 109, nat_lit 112, nat_lit 97, nat_lit 114, nat_lit 101, nat_lit 95, nat_lit 105, nat_lit 116, nat_lit 101, nat_lit 109, nat_lit 115]) := rfl
theorem sa111 : Str.ofString "compare_keys" = Str.mk (Array.mk [nat_lit 99, nat_lit 111, nat_lit 109, nat_lit 112, nat_lit 97, nat_lit 114, nat_lit 101, nat_lit 95, nat_lit 107, nat_lit 101, nat_lit 121, nat_lit 115]) := rfl
theorem sa112 : Str.ofString "compare_places" = Str.mk (Array.mk [nat_lit 99, nat_lit 111, nat_lit 109, nat_lit 112, nat_lit 97, nat_lit 114, nat_lit 101, nat_lit 95, nat_lit 112, nat_lit 108, nat_lit 97, nat_lit 99, nat_lit 101, nat_lit 115]) := rfl
theorem sa113 : Str.ofString "converted_items" = Str.mk (Array.mk [nat_lit 99, nat_lit 111, nat_lit 110, nat_lit 118, nat_lit 101, nat_lit 114, nat_lit 116, nat_lit 101, nat_lit 100, nat_lit 95, nat_lit 105, nat_lit 116, nat_lit 101, nat_lit 109, nat_lit 115]) := rfl
theorem sa114 : Str.ofString "copy" = Str.mk (Array.mk [nat_lit 99, nat_lit 111, nat_lit 112, nat_lit 121]) := rfl
theorem sa115 : Str.ofString "count" = Str.mk (Array.mk [nat_lit 99, nat_lit 111, nat_lit 117, nat_lit 110, nat_lit 116]) := rfl
theorem sa116 : Str.ofString "d" = Str.mk (Array.mk [nat_lit 100]) := rfl
theorem sa117 : Str.ofString "decreasing" = Str.mk (Array.mk [nat_lit 100, nat_lit 101, nat_lit 99, nat_lit 114, nat_lit 101, nat_lit 97, nat_lit 115, nat_lit 105, nat_lit 110, nat_lit 103]) := rfl
theorem sa118 : Str.ofString "deed" = Str.mk (Array.mk [nat_lit 100, nat_lit 101, nat_lit 101, nat_lit 100]) := rfl
theorem sa119 : Str.ofString "delete_places" = Str.mk (Array.mk [nat_lit 100, nat_lit 101, nat_lit 108, nat_lit 101, nat_lit 116, nat_lit 101, nat_lit 95, nat_lit 112, nat_lit 108, nat_lit 97, nat_lit 99, nat_lit 101, nat_lit 115]) := rfl
theorem sa120 : Str.ofString "dict" = Str.mk (Array.mk [nat_lit 100, nat_lit 105, nat_lit 99, nat_lit 116]) := rfl
theorem sa121 : Str.ofString "digit_run" = Str.mk (Array.mk [nat_lit 100, nat_lit 105, nat_lit 103, nat_lit 105, nat_lit 116, nat_lit 95, nat_lit 114, nat_lit 117, nat_lit 110]) := rfl
theorem sa122 : Str.ofString "digits" = Str.mk (Array.mk [nat_lit 100, nat_lit 105, nat_lit 103, nat_lit 105, nat_lit 116, nat_lit 115]) := rfl
theorem sa123 : Str.ofString "digits_value" = Str.mk (Array.mk [nat_lit 100, nat_lit 105, nat_lit 103, nat_lit 105, nat_lit 116, nat_lit 115, nat_lit 95, nat_lit 118, nat_lit 97, nat_lit 108, nat_lit 117, nat_lit 101]) := rfl
theorem sa124 : Str.ofString "dim" = Str.mk (Array.mk [nat_lit 100, nat_lit 105, nat_lit 109]) := rfl
theorem sa125 : Str.ofString "dim_of" = Str.mk (Array.mk [nat_lit 100, nat_lit 105, nat_lit 109, nat_lit 95, nat_lit 111, nat_lit 102]) := rfl
theorem sa126 : Str.ofString "dimnames" = Str.mk (Array.mk [nat_lit 100, nat_lit 105, nat_lit 109, nat_lit 110, nat_lit 97, nat_lit 109, nat_lit 101, nat_lit 115]) := rfl
theorem sa127 : Str.ofString "dimnames_of" = Str.mk (Array.mk [nat_lit 100, nat_lit 105, nat_lit 109, nat_lit 110, nat_lit 97, nat_lit 109, nat_lit 101, nat_lit 115, nat_lit 95, nat_lit 111, nat_lit 102]) := rfl
theorem sa128 : Str.ofString "dimnames_value" = Str.mk (Array.mk [nat_lit 100, nat_lit 105, nat_lit 109, nat_lit 110, nat_lit 97, nat_lit 109, nat_lit 101, nat_lit 115, nat_lit 95, nat_lit 118, nat_lit 97, nat_lit 108, nat_lit 117, nat_lit 101]) := rfl
theorem sa129 : Str.ofString "dims" = Str.mk (Array.mk [nat_lit 100, nat_lit 105, nat_lit 109, nat_lit 115]) := rfl
theorem sa130 : Str.ofString "distinct_texts" = Str.mk (Array.mk [nat_lit 100, nat_lit 105, nat_lit 115, nat_lit 116, nat_lit 105, nat_lit 110, nat_lit 99, nat_lit 116, nat_lit 95, nat_lit 116, nat_lit 101, nat_lit 120, nat_lit 116, nat_lit 115]) := rfl
theorem sa131 : Str.ofString "divmod" = Str.mk (Array.mk [nat_lit 100, nat_lit 105, nat_lit 118, nat_lit 109, nat_lit 111, nat_lit 100]) := rfl
theorem sa132 : Str.ofString "dots" = Str.mk (Array.mk [nat_lit 100, nat_lit 111, nat_lit 116, nat_lit 115]) := rfl
theorem sa133 : Str.ofString "double" = Str.mk (Array.mk [nat_lit 100, nat_lit 111, nat_lit 117, nat_lit 98, nat_lit 108, nat_lit 101]) := rfl
theorem sa134 : Str.ofString "double_to_integer" = Str.mk (Array.mk [nat_lit 100, nat_lit 111, nat_lit 117, nat_lit 98, nat_lit 108, nat_lit 101, nat_lit 95, nat_lit 116, nat_lit 111, nat_lit 95, nat_lit 105, nat_lit 110, nat_lit 116, nat_lit 101, nat_lit 103, nat_lit 101, nat_lit 114]) := rfl
theorem sa135 : Str.ofString "drop" = Str.mk (Array.mk [nat_lit 100, nat_lit 114, nat_lit 111, nat_lit 112]) := rfl
theorem sa136 : Str.ofString "drop_attr" = Str.mk (Array.mk [nat_lit 100, nat_lit 114, nat_lit 111, nat_lit 112, nat_lit 95, nat_lit 97, nat_lit 116, nat_lit 116, nat_lit 114]) := rfl
theorem sa137 : Str.ofString "drop_levels" = Str.mk (Array.mk [nat_lit 100, nat_lit 114, nat_lit 111, nat_lit 112, nat_lit 95, nat_lit 108, nat_lit 101, nat_lit 118, nat_lit 101, nat_lit 108, nat_lit 115]) := rfl
theorem sa138 : Str.ofString "e" = Str.mk (Array.mk [nat_lit 101]) := rfl
theorem sa139 : Str.ofString "e+" = Str.mk (Array.mk [nat_lit 101, nat_lit 43]) := rfl
theorem sa140 : Str.ofString "e-" = Str.mk (Array.mk [nat_lit 101, nat_lit 45]) := rfl
theorem sa141 : Str.ofString "each_key" = Str.mk (Array.mk [nat_lit 101, nat_lit 97, nat_lit 99, nat_lit 104, nat_lit 95, nat_lit 107, nat_lit 101, nat_lit 121]) := rfl
theorem sa142 : Str.ofString "end" = Str.mk (Array.mk [nat_lit 101, nat_lit 110, nat_lit 100]) := rfl
theorem sa143 : Str.ofString "environment" = Str.mk (Array.mk [nat_lit 101, nat_lit 110, nat_lit 118, nat_lit 105, nat_lit 114, nat_lit 111, nat_lit 110, nat_lit 109, nat_lit 101, nat_lit 110, nat_lit 116]) := rfl
theorem sa144 : Str.ofString "exact" = Str.mk (Array.mk [nat_lit 101, nat_lit 120, nat_lit 97, nat_lit 99, nat_lit 116]) := rfl
theorem sa145 : Str.ofString "exclude" = Str.mk (Array.mk [nat_lit 101, nat_lit 120, nat_lit 99, nat_lit 108, nat_lit 117, nat_lit 100, nat_lit 101]) := rfl
theorem sa146 : Str.ofString "exponent" = Str.mk (Array.mk [nat_lit 101, nat_lit 120, nat_lit 112, nat_lit 111, nat_lit 110, nat_lit 101, nat_lit 110, nat_lit 116]) := rfl
theorem sa147 : Str.ofString "exponent_value" = Str.mk (Array.mk [nat_lit 101, nat_lit 120, nat_lit 112, nat_lit 111, nat_lit 110, nat_lit 101, nat_lit 110, nat_lit 116, nat_lit 95, nat_lit 118, nat_lit 97, nat_lit 108, nat_lit 117, nat_lit 101]) := rfl
theorem sa148 : Str.ofString "expression" = Str.mk (Array.mk [nat_lit 101, nat_lit 120, nat_lit 112, nat_lit 114, nat_lit 101, nat_lit 115, nat_lit 115, nat_lit 105, nat_lit 111, nat_lit 110]) := rfl
theorem sa149 : Str.ofString "extend" = Str.mk (Array.mk [nat_lit 101, nat_lit 120, nat_lit 116, nat_lit 101, nat_lit 110, nat_lit 100]) := rfl
theorem sa150 : Str.ofString "extend_vector" = Str.mk (Array.mk [nat_lit 101, nat_lit 120, nat_lit 116, nat_lit 101, nat_lit 110, nat_lit 100, nat_lit 95, nat_lit 118, nat_lit 101, nat_lit 99, nat_lit 116, nat_lit 111, nat_lit 114]) := rfl
theorem sa151 : Str.ofString "extending_places" = Str.mk (Array.mk [nat_lit 101, nat_lit 120, nat_lit 116, nat_lit 101, nat_lit 110, nat_lit 100, nat_lit 105, nat_lit 110, nat_lit 103, nat_lit 95, nat_lit 112, nat_lit 108, nat_lit 97, nat_lit 99, nat_lit 101, nat_lit 115]) := rfl
theorem sa152 : Str.ofString "extent" = Str.mk (Array.mk [nat_lit 101, nat_lit 120, nat_lit 116, nat_lit 101, nat_lit 110, nat_lit 116]) := rfl
theorem sa153 : Str.ofString "extents" = Str.mk (Array.mk [nat_lit 101, nat_lit 120, nat_lit 116, nat_lit 101, nat_lit 110, nat_lit 116, nat_lit 115]) := rfl
theorem sa154 : Str.ofString "f" = Str.mk (Array.mk [nat_lit 102]) := rfl
theorem sa155 : Str.ofString "factor" = Str.mk (Array.mk [nat_lit 102, nat_lit 97, nat_lit 99, nat_lit 116, nat_lit 111, nat_lit 114]) := rfl
theorem sa156 : Str.ofString "factor level [" = Str.mk (Array.mk [nat_lit 102, nat_lit 97, nat_lit 99, nat_lit 116, nat_lit 111, nat_lit 114, nat_lit 32, nat_lit 108, nat_lit 101, nat_lit 118, nat_lit 101, nat_lit 108, nat_lit 32, nat_lit 91]) := rfl
theorem sa157 : Str.ofString "factor_class" = Str.mk (Array.mk [nat_lit 102, nat_lit 97, nat_lit 99, nat_lit 116, nat_lit 111, nat_lit 114, nat_lit 95, nat_lit 99, nat_lit 108, nat_lit 97, nat_lit 115, nat_lit 115]) := rfl
theorem sa158 : Str.ofString "factor_texts" = Str.mk (Array.mk [nat_lit 102, nat_lit 97, nat_lit 99, nat_lit 116, nat_lit 111, nat_lit 114, nat_lit 95, nat_lit 116, nat_lit 101, nat_lit 120, nat_lit 116, nat_lit 115]) := rfl
theorem sa159 : Str.ofString "false" = Str.mk (Array.mk [nat_lit 102, nat_lit 97, nat_lit 108, nat_lit 115, nat_lit 101]) := rfl
theorem sa160 : Str.ofString "fast" = Str.mk (Array.mk [nat_lit 102, nat_lit 97, nat_lit 115, nat_lit 116]) := rfl
theorem sa161 : Str.ofString "filled" = Str.mk (Array.mk [nat_lit 102, nat_lit 105, nat_lit 108, nat_lit 108, nat_lit 101, nat_lit 100]) := rfl
theorem sa162 : Str.ofString "find" = Str.mk (Array.mk [nat_lit 102, nat_lit 105, nat_lit 110, nat_lit 100]) := rfl
theorem sa163 : Str.ofString "first_count" = Str.mk (Array.mk [nat_lit 102, nat_lit 105, nat_lit 114, nat_lit 115, nat_lit 116, nat_lit 95, nat_lit 99, nat_lit 111, nat_lit 117, nat_lit 110, nat_lit 116]) := rfl
theorem sa164 : Str.ofString "first_places" = Str.mk (Array.mk [nat_lit 102, nat_lit 105, nat_lit 114, nat_lit 115, nat_lit 116, nat_lit 95, nat_lit 112, nat_lit 108, nat_lit 97, nat_lit 99, nat_lit 101, nat_lit 115]) := rfl
theorem sa165 : Str.ofString "fixed" = Str.mk (Array.mk [nat_lit 102, nat_lit 105, nat_lit 120, nat_lit 101, nat_lit 100]) := rfl
theorem sa166 : Str.ofString "fixed_text" = Str.mk (Array.mk [nat_lit 102, nat_lit 105, nat_lit 120, nat_lit 101, nat_lit 100, nat_lit 95, nat_lit 116, nat_lit 101, nat_lit 120, nat_lit 116]) := rfl
theorem sa167 : Str.ofString "fixed_width" = Str.mk (Array.mk [nat_lit 102, nat_lit 105, nat_lit 120, nat_lit 101, nat_lit 100, nat_lit 95, nat_lit 119, nat_lit 105, nat_lit 100, nat_lit 116, nat_lit 104]) := rfl
theorem sa168 : Str.ofString "flags" = Str.mk (Array.mk [nat_lit 102, nat_lit 108, nat_lit 97, nat_lit 103, nat_lit 115]) := rfl
theorem sa169 : Str.ofString "form" = Str.mk (Array.mk [nat_lit 102, nat_lit 111, nat_lit 114, nat_lit 109]) := rfl
theorem sa170 : Str.ofString "formed" = Str.mk (Array.mk [nat_lit 102, nat_lit 111, nat_lit 114, nat_lit 109, nat_lit 101, nat_lit 100]) := rfl
theorem sa171 : Str.ofString "found" = Str.mk (Array.mk [nat_lit 102, nat_lit 111, nat_lit 117, nat_lit 110, nat_lit 100]) := rfl
theorem sa172 : Str.ofString "fractions" = Str.mk (Array.mk [nat_lit 102, nat_lit 114, nat_lit 97, nat_lit 99, nat_lit 116, nat_lit 105, nat_lit 111, nat_lit 110, nat_lit 115]) := rfl
theorem sa173 : Str.ofString "frame" = Str.mk (Array.mk [nat_lit 102, nat_lit 114, nat_lit 97, nat_lit 109, nat_lit 101]) := rfl
theorem sa174 : Str.ofString "from_int" = Str.mk (Array.mk [nat_lit 102, nat_lit 114, nat_lit 111, nat_lit 109, nat_lit 95, nat_lit 105, nat_lit 110, nat_lit 116]) := rfl
theorem sa175 : Str.ofString "gcd" = Str.mk (Array.mk [nat_lit 103, nat_lit 99, nat_lit 100]) := rfl
theorem sa176 : Str.ofString "get" = Str.mk (Array.mk [nat_lit 103, nat_lit 101, nat_lit 116]) := rfl
theorem sa177 : Str.ofString "get_attr" = Str.mk (Array.mk [nat_lit 103, nat_lit 101, nat_lit 116, nat_lit 95, nat_lit 97, nat_lit 116, nat_lit 116, nat_lit 114]) := rfl
theorem sa178 : Str.ofString "gone" = Str.mk (Array.mk [nat_lit 103, nat_lit 111, nat_lit 110, nat_lit 101]) := rfl
theorem sa179 : Str.ofString "groups" = Str.mk (Array.mk [nat_lit 103, nat_lit 114, nat_lit 111, nat_lit 117, nat_lit 112, nat_lit 115]) := rfl
theorem sa180 : Str.ofString "heads" = Str.mk (Array.mk [nat_lit 104, nat_lit 101, nat_lit 97, nat_lit 100, nat_lit 115]) := rfl
theorem sa181 : Str.ofString "heads_of_dimnames" = Str.mk (Array.mk [nat_lit 104, nat_lit 101, nat_lit 97, nat_lit 100, nat_lit 115, nat_lit 95, nat_lit 111, nat_lit 102, nat_lit 95, nat_lit 100, nat_lit 105, nat_lit 109, nat_lit 110, nat_lit 97, nat_lit 109, nat_lit 101, nat_lit 115]) := rfl
theorem sa182 : Str.ofString "high" = Str.mk (Array.mk [nat_lit 104, nat_lit 105, nat_lit 103, nat_lit 104]) := rfl
theorem sa183 : Str.ofString "hop" = Str.mk (Array.mk [nat_lit 104, nat_lit 111, nat_lit 112]) := rfl
theorem sa184 : Str.ofString "i" = Str.mk (Array.mk [nat_lit 105]) := rfl
theorem sa185 : Str.ofString "incompatible types (from " = Str.mk (Array.mk [nat_lit 105, nat_lit 110, nat_lit 99, nat_lit 111, nat_lit 109, nat_lit 112, nat_lit 97, nat_lit 116, nat_lit 105, nat_lit 98, nat_lit 108, nat_lit 101, nat_lit 32, nat_lit 116, nat_lit 121, nat_lit 112, nat_lit 101, nat_lit 115, nat_lit 32, nat_lit 40, nat_lit 102, nat_lit 114, nat_lit 111, nat_lit 109, nat_lit 32]) := rfl
theorem sa186 : Str.ofString "incorrect number of dimensions" = Str.mk (Array.mk [nat_lit 105, nat_lit 110, nat_lit 99, nat_lit 111, nat_lit 114, nat_lit 114, nat_lit 101, nat_lit 99, nat_lit 116, nat_lit 32, nat_lit 110, nat_lit 117, nat_lit 109, nat_lit 98, nat_lit 101, nat_lit 114, nat_lit 32, nat_lit 111, nat_lit 102, nat_lit 32, nat_lit 100, nat_lit 105, nat_lit 109, nat_lit 101, nat_lit 110, nat_lit 115, nat_lit 105, nat_lit 111, nat_lit 110, nat_lit 115]) := rfl
theorem sa187 : Str.ofString "incorrect number of subscripts" = Str.mk (Array.mk [nat_lit 105, nat_lit 110, nat_lit 99, nat_lit 111, nat_lit 114, nat_lit 114, nat_lit 101, nat_lit 99, nat_lit 116, nat_lit 32, nat_lit 110, nat_lit 117, nat_lit 109, nat_lit 98, nat_lit 101, nat_lit 114, nat_lit 32, nat_lit 111, nat_lit 102, nat_lit 32, nat_lit 115, nat_lit 117, nat_lit 98, nat_lit 115, nat_lit 99, nat_lit 114, nat_lit 105, nat_lit 112, nat_lit 116, nat_lit 115]) := rfl
theorem sa188 : Str.ofString "index" = Str.mk (Array.mk [nat_lit 105, nat_lit 110, nat_lit 100, nat_lit 101, nat_lit 120]) := rfl
theorem sa189 : Str.ofString "indexes" = Str.mk (Array.mk [nat_lit 105, nat_lit 110, nat_lit 100, nat_lit 101, nat_lit 120, nat_lit 101, nat_lit 115]) := rfl
theorem sa190 : Str.ofString "inf" = Str.mk (Array.mk [nat_lit 105, nat_lit 110, nat_lit 102]) := rfl
theorem sa191 : Str.ofString "infinity" = Str.mk (Array.mk [nat_lit 105, nat_lit 110, nat_lit 102, nat_lit 105, nat_lit 110, nat_lit 105, nat_lit 116, nat_lit 121]) := rfl
theorem sa192 : Str.ofString "inside" = Str.mk (Array.mk [nat_lit 105, nat_lit 110, nat_lit 115, nat_lit 105, nat_lit 100, nat_lit 101]) := rfl
theorem sa193 : Str.ofString "integer" = Str.mk (Array.mk [nat_lit 105, nat_lit 110, nat_lit 116, nat_lit 101, nat_lit 103, nat_lit 101, nat_lit 114]) := rfl
theorem sa194 : Str.ofString "invalid 'labels'; length " = Str.mk (Array.mk [nat_lit 105, nat_lit 110, nat_lit 118, nat_lit 97, nat_lit 108, nat_lit 105, nat_lit 100, nat_lit 32, nat_lit 39, nat_lit 108, nat_lit 97, nat_lit 98, nat_lit 101, nat_lit 108, nat_lit 115, nat_lit 39, nat_lit 59, nat_lit 32, nat_lit 108, nat_lit 101, nat_lit 110, nat_lit 103, nat_lit 116, nat_lit 104, nat_lit 32]) := rfl
theorem sa195 : Str.ofString "invalid factor level, NA generated" = Str.mk (Array.mk [nat_lit 105, nat_lit 110, nat_lit 118, nat_lit 97, nat_lit 108, nat_lit 105, nat_lit 100, nat_lit 32, nat_lit 102, nat_lit 97, nat_lit 99, nat_lit 116, nat_lit 111, nat_lit 114, nat_lit 32, nat_lit 108, nat_lit 101, nat_lit 118, nat_lit 101, nat_lit 108, nat_lit 44, nat_lit 32, nat_lit 78, nat_lit 65, nat_lit 32, nat_lit 103, nat_lit 101, nat_lit 110, nat_lit 101, nat_lit 114, nat_lit 97, nat_lit 116, nat_lit 101, nat_lit 100]) := rfl
theorem sa196 : Str.ofString "invalid subscript type '" = Str.mk (Array.mk [nat_lit 105, nat_lit 110, nat_lit 118, nat_lit 97, nat_lit 108, nat_lit 105, nat_lit 100, nat_lit 32, nat_lit 115, nat_lit 117, nat_lit 98, nat_lit 115, nat_lit 99, nat_lit 114, nat_lit 105, nat_lit 112, nat_lit 116, nat_lit 32, nat_lit 116, nat_lit 121, nat_lit 112, nat_lit 101, nat_lit 32, nat_lit 39]) := rfl
theorem sa197 : Str.ofString "is_atomic" = Str.mk (Array.mk [nat_lit 105, nat_lit 115, nat_lit 95, nat_lit 97, nat_lit 116, nat_lit 111, nat_lit 109, nat_lit 105, nat_lit 99]) := rfl
theorem sa198 : Str.ofString "is_atomic_kind" = Str.mk (Array.mk [nat_lit 105, nat_lit 115, nat_lit 95, nat_lit 97, nat_lit 116, nat_lit 111, nat_lit 109, nat_lit 105, nat_lit 99, nat_lit 95, nat_lit 107, nat_lit 105, nat_lit 110, nat_lit 100]) := rfl
theorem sa199 : Str.ofString "is_factor" = Str.mk (Array.mk [nat_lit 105, nat_lit 115, nat_lit 95, nat_lit 102, nat_lit 97, nat_lit 99, nat_lit 116, nat_lit 111, nat_lit 114]) := rfl
theorem sa200 : Str.ofString "is_finite" = Str.mk (Array.mk [nat_lit 105, nat_lit 115, nat_lit 95, nat_lit 102, nat_lit 105, nat_lit 110, nat_lit 105, nat_lit 116, nat_lit 101]) := rfl
theorem sa201 : Str.ofString "is_lacking" = Str.mk (Array.mk [nat_lit 105, nat_lit 115, nat_lit 95, nat_lit 108, nat_lit 97, nat_lit 99, nat_lit 107, nat_lit 105, nat_lit 110, nat_lit 103]) := rfl
theorem sa202 : Str.ofString "is_list_kind" = Str.mk (Array.mk [nat_lit 105, nat_lit 115, nat_lit 95, nat_lit 108, nat_lit 105, nat_lit 115, nat_lit 116, nat_lit 95, nat_lit 107, nat_lit 105, nat_lit 110, nat_lit 100]) := rfl
theorem sa203 : Str.ofString "is_matrix_index" = Str.mk (Array.mk [nat_lit 105, nat_lit 115, nat_lit 95, nat_lit 109, nat_lit 97, nat_lit 116, nat_lit 114, nat_lit 105, nat_lit 120, nat_lit 95, nat_lit 105, nat_lit 110, nat_lit 100, nat_lit 101, nat_lit 120]) := rfl
theorem sa204 : Str.ofString "is_na" = Str.mk (Array.mk [nat_lit 105, nat_lit 115, nat_lit 95, nat_lit 110, nat_lit 97]) := rfl
theorem sa205 : Str.ofString "is_ordered" = Str.mk (Array.mk [nat_lit 105, nat_lit 115, nat_lit 95, nat_lit 111, nat_lit 114, nat_lit 100, nat_lit 101, nat_lit 114, nat_lit 101, nat_lit 100]) := rfl
theorem sa206 : Str.ofString "is_vector" = Str.mk (Array.mk [nat_lit 105, nat_lit 115, nat_lit 95, nat_lit 118, nat_lit 101, nat_lit 99, nat_lit 116, nat_lit 111, nat_lit 114]) := rfl
theorem sa207 : Str.ofString "isinstance" = Str.mk (Array.mk [nat_lit 105, nat_lit 115, nat_lit 105, nat_lit 110, nat_lit 115, nat_lit 116, nat_lit 97, nat_lit 110, nat_lit 99, nat_lit 101]) := rfl
theorem sa208 : Str.ofString "item" = Str.mk (Array.mk [nat_lit 105, nat_lit 116, nat_lit 101, nat_lit 109]) := rfl
theorem sa209 : Str.ofString "item_as" = Str.mk (Array.mk [nat_lit 105, nat_lit 116, nat_lit 101, nat_lit 109, nat_lit 95, nat_lit 97, nat_lit 115]) := rfl
theorem sa210 : Str.ofString "item_texts" = Str.mk (Array.mk [nat_lit 105, nat_lit 116, nat_lit 101, nat_lit 109, nat_lit 95, nat_lit 116, nat_lit 101, nat_lit 120, nat_lit 116, nat_lit 115]) := rfl
theorem sa211 : Str.ofString "items" = Str.mk (Array.mk [nat_lit 105, nat_lit 116, nat_lit 101, nat_lit 109, nat_lit 115]) := rfl
theorem sa212 : Str.ofString "items_at" = Str.mk (Array.mk [nat_lit 105, nat_lit 116, nat_lit 101, nat_lit 109, nat_lit 115, nat_lit 95, nat_lit 97, nat_lit 116]) := rfl
theorem sa213 : Str.ofString "ix" = Str.mk (Array.mk [nat_lit 105, nat_lit 120]) := rfl
theorem sa214 : Str.ofString "j" = Str.mk (Array.mk [nat_lit 106]) := rfl
theorem sa215 : Str.ofString "join" = Str.mk (Array.mk [nat_lit 106, nat_lit 111, nat_lit 105, nat_lit 110]) := rfl
theorem sa216 : Str.ofString "joined" = Str.mk (Array.mk [nat_lit 106, nat_lit 111, nat_lit 105, nat_lit 110, nat_lit 101, nat_lit 100]) := rfl
theorem sa217 : Str.ofString "k" = Str.mk (Array.mk [nat_lit 107]) := rfl
theorem sa218 : Str.ofString "keep" = Str.mk (Array.mk [nat_lit 107, nat_lit 101, nat_lit 101, nat_lit 112]) := rfl
theorem sa219 : Str.ofString "kept" = Str.mk (Array.mk [nat_lit 107, nat_lit 101, nat_lit 112, nat_lit 116]) := rfl
theorem sa220 : Str.ofString "kept_heads" = Str.mk (Array.mk [nat_lit 107, nat_lit 101, nat_lit 112, nat_lit 116, nat_lit 95, nat_lit 104, nat_lit 101, nat_lit 97, nat_lit 100, nat_lit 115]) := rfl
theorem sa221 : Str.ofString "kept_names" = Str.mk (Array.mk [nat_lit 107, nat_lit 101, nat_lit 112, nat_lit 116, nat_lit 95, nat_lit 110, nat_lit 97, nat_lit 109, nat_lit 101, nat_lit 115]) := rfl
theorem sa222 : Str.ofString "kept_places" = Str.mk (Array.mk [nat_lit 107, nat_lit 101, nat_lit 112, nat_lit 116, nat_lit 95, nat_lit 112, nat_lit 108, nat_lit 97, nat_lit 99, nat_lit 101, nat_lit 115]) := rfl
theorem sa223 : Str.ofString "kind" = Str.mk (Array.mk [nat_lit 107, nat_lit 105, nat_lit 110, nat_lit 100]) := rfl
theorem sa224 : Str.ofString "kind_order" = Str.mk (Array.mk [nat_lit 107, nat_lit 105, nat_lit 110, nat_lit 100, nat_lit 95, nat_lit 111, nat_lit 114, nat_lit 100, nat_lit 101, nat_lit 114]) := rfl
theorem sa225 : Str.ofString "kinds" = Str.mk (Array.mk [nat_lit 107, nat_lit 105, nat_lit 110, nat_lit 100, nat_lit 115]) := rfl
theorem sa226 : Str.ofString "label_list" = Str.mk (Array.mk [nat_lit 108, nat_lit 97, nat_lit 98, nat_lit 101, nat_lit 108, nat_lit 95, nat_lit 108, nat_lit 105, nat_lit 115, nat_lit 116]) := rfl
theorem sa227 : Str.ofString "label_text" = Str.mk (Array.mk [nat_lit 108, nat_lit 97, nat_lit 98, nat_lit 101, nat_lit 108, nat_lit 95, nat_lit 116, nat_lit 101, nat_lit 120, nat_lit 116]) := rfl
theorem sa228 : Str.ofString "label_texts" = Str.mk (Array.mk [nat_lit 108, nat_lit 97, nat_lit 98, nat_lit 101, nat_lit 108, nat_lit 95, nat_lit 116, nat_lit 101, nat_lit 120, nat_lit 116, nat_lit 115]) := rfl
theorem sa229 : Str.ofString "labels" = Str.mk (Array.mk [nat_lit 108, nat_lit 97, nat_lit 98, nat_lit 101, nat_lit 108, nat_lit 115]) := rfl
theorem sa230 : Str.ofString "lacking_item" = Str.mk (Array.mk [nat_lit 108, nat_lit 97, nat_lit 99, nat_lit 107, nat_lit 105, nat_lit 110, nat_lit 103, nat_lit 95, nat_lit 105, nat_lit 116, nat_lit 101, nat_lit 109]) := rfl
theorem sa231 : Str.ofString "lacks" = Str.mk (Array.mk [nat_lit 108, nat_lit 97, nat_lit 99, nat_lit 107, nat_lit 115]) := rfl
theorem sa232 : Str.ofString "language" = Str.mk (Array.mk [nat_lit 108, nat_lit 97, nat_lit 110, nat_lit 103, nat_lit 117, nat_lit 97, nat_lit 103, nat_lit 101]) := rfl
theorem sa233 : Str.ofString "later" = Str.mk (Array.mk [nat_lit 108, nat_lit 97, nat_lit 116, nat_lit 101, nat_lit 114]) := rfl
theorem sa234 : Str.ofString "law" = Str.mk (Array.mk [nat_lit 108, nat_lit 97, nat_lit 119]) := rfl
theorem sa235 : Str.ofString "law_ov0095_01" = Str.mk (Array.mk [nat_lit 108, nat_lit 97, nat_lit 119, nat_lit 95, nat_lit 111, nat_lit 118, nat_lit 48, nat_lit 48, nat_lit 57, nat_lit 53, nat_lit 95, nat_lit 48, nat_lit 49]) := rfl
theorem sa236 : Str.ofString "left" = Str.mk (Array.mk [nat_lit 108, nat_lit 101, nat_lit 102, nat_lit 116]) := rfl
theorem sa237 : Str.ofString "left_lacking" = Str.mk (Array.mk [nat_lit 108, nat_lit 101, nat_lit 102, nat_lit 116, nat_lit 95, nat_lit 108, nat_lit 97, nat_lit 99, nat_lit 107, nat_lit 105, nat_lit 110, nat_lit 103]) := rfl
theorem sa238 : Str.ofString "left_out" = Str.mk (Array.mk [nat_lit 108, nat_lit 101, nat_lit 102, nat_lit 116, nat_lit 95, nat_lit 111, nat_lit 117, nat_lit 116]) := rfl
theorem sa239 : Str.ofString "len" = Str.mk (Array.mk [nat_lit 108, nat_lit 101, nat_lit 110]) := rfl
theorem sa240 : Str.ofString "length" = Str.mk (Array.mk [nat_lit 108, nat_lit 101, nat_lit 110, nat_lit 103, nat_lit 116, nat_lit 104]) := rfl
theorem sa241 : Str.ofString "level_at" = Str.mk (Array.mk [nat_lit 108, nat_lit 101, nat_lit 118, nat_lit 101, nat_lit 108, nat_lit 95, nat_lit 97, nat_lit 116]) := rfl
theorem sa242 : Str.ofString "level_texts" = Str.mk (Array.mk [nat_lit 108, nat_lit 101, nat_lit 118, nat_lit 101, nat_lit 108, nat_lit 95, nat_lit 116, nat_lit 101, nat_lit 120, nat_lit 116, nat_lit 115]) := rfl
theorem sa243 : Str.ofString "levels" = Str.mk (Array.mk [nat_lit 108, nat_lit 101, nat_lit 118, nat_lit 101, nat_lit 108, nat_lit 115]) := rfl
theorem sa244 : Str.ofString "list" = Str.mk (Array.mk [nat_lit 108, nat_lit 105, nat_lit 115, nat_lit 116]) := rfl
theorem sa245 : Str.ofString "list_item_as" = Str.mk (Array.mk [nat_lit 108, nat_lit 105, nat_lit 115, nat_lit 116, nat_lit 95, nat_lit 105, nat_lit 116, nat_lit 101, nat_lit 109, nat_lit 95, nat_lit 97, nat_lit 115]) := rfl
theorem sa246 : Str.ofString "list_of" = Str.mk (Array.mk [nat_lit 108, nat_lit 105, nat_lit 115, nat_lit 116, nat_lit 95, nat_lit 111, nat_lit 102]) := rfl
theorem sa247 : Str.ofString "list_of_call" = Str.mk (Array.mk [nat_lit 108, nat_lit 105, nat_lit 115, nat_lit 116, nat_lit 95, nat_lit 111, nat_lit 102, nat_lit 95, nat_lit 99, nat_lit 97, nat_lit 108, nat_lit 108]) := rfl
theorem sa248 : Str.ofString "listed" = Str.mk (Array.mk [nat_lit 108, nat_lit 105, nat_lit 115, nat_lit 116, nat_lit 101, nat_lit 100]) := rfl
theorem sa249 : Str.ofString "lists" = Str.mk (Array.mk [nat_lit 108, nat_lit 105, nat_lit 115, nat_lit 116, nat_lit 115]) := rfl
theorem sa250 : Str.ofString "logical" = Str.mk (Array.mk [nat_lit 108, nat_lit 111, nat_lit 103, nat_lit 105, nat_lit 99, nat_lit 97, nat_lit 108]) := rfl
theorem sa251 : Str.ofString "logical_places" = Str.mk (Array.mk [nat_lit 108, nat_lit 111, nat_lit 103, nat_lit 105, nat_lit 99, nat_lit 97, nat_lit 108, nat_lit 95, nat_lit 112, nat_lit 108, nat_lit 97, nat_lit 99, nat_lit 101, nat_lit 115]) := rfl
theorem sa252 : Str.ofString "longer" = Str.mk (Array.mk [nat_lit 108, nat_lit 111, nat_lit 110, nat_lit 103, nat_lit 101, nat_lit 114]) := rfl
theorem sa253 : Str.ofString "loose" = Str.mk (Array.mk [nat_lit 108, nat_lit 111, nat_lit 111, nat_lit 115, nat_lit 101]) := rfl
theorem sa254 : Str.ofString "low" = Str.mk (Array.mk [nat_lit 108, nat_lit 111, nat_lit 119]) := rfl
theorem sa255 : Str.ofString "lower" = Str.mk (Array.mk [nat_lit 108, nat_lit 111, nat_lit 119, nat_lit 101, nat_lit 114]) := rfl
theorem sa256 : Str.ofString "make" = Str.mk (Array.mk [nat_lit 109, nat_lit 97, nat_lit 107, nat_lit 101]) := rfl
theorem sa257 : Str.ofString "make_factor" = Str.mk (Array.mk [nat_lit 109, nat_lit 97, nat_lit 107, nat_lit 101, nat_lit 95, nat_lit 102, nat_lit 97, nat_lit 99, nat_lit 116, nat_lit 111, nat_lit 114]) := rfl
theorem sa258 : Str.ofString "mark" = Str.mk (Array.mk [nat_lit 109, nat_lit 97, nat_lit 114, nat_lit 107]) := rfl
theorem sa259 : Str.ofString "matrix_index" = Str.mk (Array.mk [nat_lit 109, nat_lit 97, nat_lit 116, nat_lit 114, nat_lit 105, nat_lit 120, nat_lit 95, nat_lit 105, nat_lit 110, nat_lit 100, nat_lit 101, nat_lit 120]) := rfl
theorem sa260 : Str.ofString "max" = Str.mk (Array.mk [nat_lit 109, nat_lit 97, nat_lit 120]) := rfl
theorem sa261 : Str.ofString "measures" = Str.mk (Array.mk [nat_lit 109, nat_lit 101, nat_lit 97, nat_lit 115, nat_lit 117, nat_lit 114, nat_lit 101, nat_lit 115]) := rfl
theorem sa262 : Str.ofString "merge_runs" = Str.mk (Array.mk [nat_lit 109, nat_lit 101, nat_lit 114, nat_lit 103, nat_lit 101, nat_lit 95, nat_lit 114, nat_lit 117, nat_lit 110, nat_lit 115]) := rfl
theorem sa263 : Str.ofString "merge_sort" = Str.mk (Array.mk [nat_lit 109, nat_lit 101, nat_lit 114, nat_lit 103, nat_lit 101, nat_lit 95, nat_lit 115, nat_lit 111, nat_lit 114, nat_lit 116]) := rfl
theorem sa264 : Str.ofString "merged" = Str.mk (Array.mk [nat_lit 109, nat_lit 101, nat_lit 114, nat_lit 103, nat_lit 101, nat_lit 100]) := rfl
theorem sa265 : Str.ofString "message" = Str.mk (Array.mk [nat_lit 109, nat_lit 101, nat_lit 115, nat_lit 115, nat_lit 97, nat_lit 103, nat_lit 101]) := rfl
theorem sa266 : Str.ofString "met" = Str.mk (Array.mk [nat_lit 109, nat_lit 101, nat_lit 116]) := rfl
theorem sa267 : Str.ofString "mid" = Str.mk (Array.mk [nat_lit 109, nat_lit 105, nat_lit 100]) := rfl
theorem sa268 : Str.ofString "min" = Str.mk (Array.mk [nat_lit 109, nat_lit 105, nat_lit 110]) := rfl
theorem sa269 : Str.ofString "minus" = Str.mk (Array.mk [nat_lit 109, nat_lit 105, nat_lit 110, nat_lit 117, nat_lit 115]) := rfl
theorem sa270 : Str.ofString "missing" = Str.mk (Array.mk [nat_lit 109, nat_lit 105, nat_lit 115, nat_lit 115, nat_lit 105, nat_lit 110, nat_lit 103]) := rfl
theorem sa271 : Str.ofString "most" = Str.mk (Array.mk [nat_lit 109, nat_lit 111, nat_lit 115, nat_lit 116]) := rfl
theorem sa272 : Str.ofString "n" = Str.mk (Array.mk [nat_lit 110]) := rfl
theorem sa273 : Str.ofString "na_last" = Str.mk (Array.mk [nat_lit 110, nat_lit 97, nat_lit 95, nat_lit 108, nat_lit 97, nat_lit 115, nat_lit 116]) := rfl
theorem sa274 : Str.ofString "name" = Str.mk (Array.mk [nat_lit 110, nat_lit 97, nat_lit 109, nat_lit 101]) := rfl
theorem sa275 : Str.ofString "name_places" = Str.mk (Array.mk [nat_lit 110, nat_lit 97, nat_lit 109, nat_lit 101, nat_lit 95, nat_lit 112, nat_lit 108, nat_lit 97, nat_lit 99, nat_lit 101, nat_lit 115]) := rfl
theorem sa276 : Str.ofString "named" = Str.mk (Array.mk [nat_lit 110, nat_lit 97, nat_lit 109, nat_lit 101, nat_lit 100]) := rfl
theorem sa277 : Str.ofString "named_subscripts" = Str.mk (Array.mk [nat_lit 110, nat_lit 97, nat_lit 109, nat_lit 101, nat_lit 100, nat_lit 95, nat_lit 115, nat_lit 117, nat_lit 98, nat_lit 115, nat_lit 99, nat_lit 114, nat_lit 105, nat_lit 112, nat_lit 116, nat_lit 115]) := rfl
theorem sa278 : Str.ofString "names" = Str.mk (Array.mk [nat_lit 110, nat_lit 97, nat_lit 109, nat_lit 101, nat_lit 115]) := rfl
theorem sa279 : Str.ofString "names_at" = Str.mk (Array.mk [nat_lit 110, nat_lit 97, nat_lit 109, nat_lit 101, nat_lit 115, nat_lit 95, nat_lit 97, nat_lit 116]) := rfl
theorem sa280 : Str.ofString "names_of" = Str.mk (Array.mk [nat_lit 110, nat_lit 97, nat_lit 109, nat_lit 101, nat_lit 115, nat_lit 95, nat_lit 111, nat_lit 102]) := rfl
theorem sa281 : Str.ofString "nearest_whole" = Str.mk (Array.mk [nat_lit 110, nat_lit 101, nat_lit 97, nat_lit 114, nat_lit 101, nat_lit 115, nat_lit 116, nat_lit 95, nat_lit 119, nat_lit 104, nat_lit 111, nat_lit 108, nat_lit 101]) := rfl
theorem sa282 : Str.ofString "neg" = Str.mk (Array.mk [nat_lit 110, nat_lit 101, nat_lit 103]) := rfl
theorem sa283 : Str.ofString "negative" = Str.mk (Array.mk [nat_lit 110, nat_lit 101, nat_lit 103, nat_lit 97, nat_lit 116, nat_lit 105, nat_lit 118, nat_lit 101]) := rfl
theorem sa284 : Str.ofString "negative values are not allowed in a matrix subscript" = Str.mk (Array.mk [nat_lit 110, nat_lit 101, nat_lit 103, nat_lit 97, nat_lit 116, nat_lit 105, nat_lit 118, nat_lit 101, nat_lit 32, nat_lit 118, nat_lit 97, nat_lit 108, nat_lit 117, nat_lit 101, nat_lit 115, nat_lit 32, nat_lit 97, nat_lit 114, nat_lit 101, nat_lit 32, nat_lit 110, nat_lit 111, nat_lit 116, nat_lit 32, nat_lit 97, nat_lit 108, nat_lit 108, nat_lit 111, nat_lit 119, nat_lit 101, nat_lit 100, nat_lit 32, nat_lit 105, nat_lit 110, nat_lit 32, nat_lit 97, nat_lit 32, nat_lit 109, nat_lit 97, nat_lit 116, nat_lit 114, nat_lit 105, nat_lit 120, nat_lit 32, nat_lit 115, nat_lit 117, nat_lit 98, nat_lit 115, nat_lit 99, nat_lit 114, nat_lit 105, nat_lit 112, nat_lit 116]) := rfl
theorem sa285 : Str.ofString "note" = Str.mk (Array.mk [nat_lit 110, nat_lit 111, nat_lit 116, nat_lit 101]) := rfl
theorem sa286 : Str.ofString "notes" = Str.mk (Array.mk [nat_lit 110, nat_lit 111, nat_lit 116, nat_lit 101, nat_lit 115]) := rfl
theorem sa287 : Str.ofString "number" = Str.mk (Array.mk [nat_lit 110, nat_lit 117, nat_lit 109, nat_lit 98, nat_lit 101, nat_lit 114]) := rfl
theorem sa288 : Str.ofString "number of items to replace is not a multiple of replacement length" = Str.mk (Array.mk [nat_lit 110, nat_lit 117, nat_lit 109, nat_lit 98, nat_lit 101, nat_lit 114, nat_lit 32, nat_lit 111, nat_lit 102, nat_lit 32, nat_lit 105, nat_lit 116, nat_lit 101, nat_lit 109, nat_lit 115, nat_lit 32, nat_lit 116, nat_lit 111, nat_lit 32, nat_lit 114, nat_lit 101, nat_lit 112, nat_lit 108, nat_lit 97, nat_lit 99, nat_lit 101, nat_lit 32, nat_lit 105, nat_lit 115, nat_lit 32, nat_lit 110, nat_lit 111, nat_lit 116, nat_lit 32, nat_lit 97, nat_lit 32, nat_lit 109, nat_lit 117, nat_lit 108, nat_lit 116, nat_lit 105, nat_lit 112, nat_lit 108, nat_lit 101, nat_lit 32, nat_lit 111, nat_lit 102, nat_lit 32, nat_lit 114, nat_lit 101, nat_lit 112, nat_lit 108, nat_lit 97, nat_lit 99, nat_lit 101, nat_lit 109, nat_lit 101, nat_lit 110, nat_lit 116, nat_lit 32, nat_lit 108, nat_lit 101, nat_lit 110, nat_lit 103, nat_lit 116, nat_lit 104]) := rfl
theorem sa289 : Str.ofString "number of levels differs" = Str.mk (Array.mk [nat_lit 110, nat_lit 117, nat_lit 109, nat_lit 98, nat_lit 101, nat_lit 114, nat_lit 32, nat_lit 111, nat_lit 102, nat_lit 32, nat_lit 108, nat_lit 101, nat_lit 118, nat_lit 101, nat_lit 108, nat_lit 115, nat_lit 32, nat_lit 100, nat_lit 105, nat_lit 102, nat_lit 102, nat_lit 101, nat_lit 114, nat_lit 115]) := rfl
theorem sa290 : Str.ofString "number_at" = Str.mk (Array.mk [nat_lit 110, nat_lit 117, nat_lit 109, nat_lit 98, nat_lit 101, nat_lit 114, nat_lit 95, nat_lit 97, nat_lit 116]) := rfl
theorem sa291 : Str.ofString "number_text" = Str.mk (Array.mk [nat_lit 110, nat_lit 117, nat_lit 109, nat_lit 98, nat_lit 101, nat_lit 114, nat_lit 95, nat_lit 116, nat_lit 101, nat_lit 120, nat_lit 116]) := rfl
theorem sa292 : Str.ofString "object of type '" = Str.mk (Array.mk [nat_lit 111, nat_lit 98, nat_lit 106, nat_lit 101, nat_lit 99, nat_lit 116, nat_lit 32, nat_lit 111, nat_lit 102, nat_lit 32, nat_lit 116, nat_lit 121, nat_lit 112, nat_lit 101, nat_lit 32, nat_lit 39]) := rfl
theorem sa293 : Str.ofString "ok" = Str.mk (Array.mk [nat_lit 111, nat_lit 107]) := rfl
theorem sa294 : Str.ofString "one" = Str.mk (Array.mk [nat_lit 111, nat_lit 110, nat_lit 101]) := rfl
theorem sa295 : Str.ofString "only_names" = Str.mk (Array.mk [nat_lit 111, nat_lit 110, nat_lit 108, nat_lit 121, nat_lit 95, nat_lit 110, nat_lit 97, nat_lit 109, nat_lit 101, nat_lit 115]) := rfl
theorem sa296 : Str.ofString "order_by" = Str.mk (Array.mk [nat_lit 111, nat_lit 114, nat_lit 100, nat_lit 101, nat_lit 114, nat_lit 95, nat_lit 98, nat_lit 121]) := rfl
theorem sa297 : Str.ofString "ordered" = Str.mk (Array.mk [nat_lit 111, nat_lit 114, nat_lit 100, nat_lit 101, nat_lit 114, nat_lit 101, nat_lit 100]) := rfl
theorem sa298 : Str.ofString "own" = Str.mk (Array.mk [nat_lit 111, nat_lit 119, nat_lit 110]) := rfl
theorem sa299 : Str.ofString "p" = Str.mk (Array.mk [nat_lit 112]) := rfl
theorem sa300 : Str.ofString "pairlist" = Str.mk (Array.mk [nat_lit 112, nat_lit 97, nat_lit 105, nat_lit 114, nat_lit 108, nat_lit 105, nat_lit 115, nat_lit 116]) := rfl
theorem sa301 : Str.ofString "parse_number" = Str.mk (Array.mk [nat_lit 112, nat_lit 97, nat_lit 114, nat_lit 115, nat_lit 101, nat_lit 95, nat_lit 110, nat_lit 117, nat_lit 109, nat_lit 98, nat_lit 101, nat_lit 114]) := rfl
theorem sa302 : Str.ofString "part" = Str.mk (Array.mk [nat_lit 112, nat_lit 97, nat_lit 114, nat_lit 116]) := rfl
theorem sa303 : Str.ofString "part_x" = Str.mk (Array.mk [nat_lit 112, nat_lit 97, nat_lit 114, nat_lit 116, nat_lit 95, nat_lit 120]) := rfl
theorem sa304 : Str.ofString "parts" = Str.mk (Array.mk [nat_lit 112, nat_lit 97, nat_lit 114, nat_lit 116, nat_lit 115]) := rfl
theorem sa305 : Str.ofString "picked" = Str.mk (Array.mk [nat_lit 112, nat_lit 105, nat_lit 99, nat_lit 107, nat_lit 101, nat_lit 100]) := rfl
theorem sa306 : Str.ofString "picked_dimnames" = Str.mk (Array.mk [nat_lit 112, nat_lit 105, nat_lit 99, nat_lit 107, nat_lit 101, nat_lit 100, nat_lit 95, nat_lit 100, nat_lit 105, nat_lit 109, nat_lit 110, nat_lit 97, nat_lit 109, nat_lit 101, nat_lit 115]) := rfl
theorem sa307 : Str.ofString "place" = Str.mk (Array.mk [nat_lit 112, nat_lit 108, nat_lit 97, nat_lit 99, nat_lit 101]) := rfl
theorem sa308 : Str.ofString "places" = Str.mk (Array.mk [nat_lit 112, nat_lit 108, nat_lit 97, nat_lit 99, nat_lit 101, nat_lit 115]) := rfl
theorem sa309 : Str.ofString "pop" = Str.mk (Array.mk [nat_lit 112, nat_lit 111, nat_lit 112]) := rfl
theorem sa310 : Str.ofString "positions" = Str.mk (Array.mk [nat_lit 112, nat_lit 111, nat_lit 115, nat_lit 105, nat_lit 116, nat_lit 105, nat_lit 111, nat_lit 110, nat_lit 115]) := rfl
theorem sa311 : Str.ofString "powered" = Str.mk (Array.mk [nat_lit 112, nat_lit 111, nat_lit 119, nat_lit 101, nat_lit 114, nat_lit 101, nat_lit 100]) := rfl
theorem sa312 : Str.ofString "put_attr" = Str.mk (Array.mk [nat_lit 112, nat_lit 117, nat_lit 116, nat_lit 95, nat_lit 97, nat_lit 116, nat_lit 116, nat_lit 114]) := rfl
theorem sa313 : Str.ofString "put_dropped" = Str.mk (Array.mk [nat_lit 112, nat_lit 117, nat_lit 116, nat_lit 95, nat_lit 100, nat_lit 114, nat_lit 111, nat_lit 112, nat_lit 112, nat_lit 101, nat_lit 100]) := rfl
theorem sa314 : Str.ofString "put_items" = Str.mk (Array.mk [nat_lit 112, nat_lit 117, nat_lit 116, nat_lit 95, nat_lit 105, nat_lit 116, nat_lit 101, nat_lit 109, nat_lit 115]) := rfl
theorem sa315 : Str.ofString "put_shape" = Str.mk (Array.mk [nat_lit 112, nat_lit 117, nat_lit 116, nat_lit 95, nat_lit 115, nat_lit 104, nat_lit 97, nat_lit 112, nat_lit 101]) := rfl
theorem sa316 : Str.ofString "q" = Str.mk (Array.mk [nat_lit 113]) := rfl
theorem sa317 : Str.ofString "raised" = Str.mk (Array.mk [nat_lit 114, nat_lit 97, nat_lit 105, nat_lit 115, nat_lit 101, nat_lit 100]) := rfl
theorem sa318 : Str.ofString "range" = Str.mk (Array.mk [nat_lit 114, nat_lit 97, nat_lit 110, nat_lit 103, nat_lit 101]) := rfl
theorem sa319 : Str.ofString "refuse_subset" = Str.mk (Array.mk [nat_lit 114, nat_lit 101, nat_lit 102, nat_lit 117, nat_lit 115, nat_lit 101, nat_lit 95, nat_lit 115, nat_lit 117, nat_lit 98, nat_lit 115, nat_lit 101, nat_lit 116]) := rfl
theorem sa320 : Str.ofString "refuse_type" = Str.mk (Array.mk [nat_lit 114, nat_lit 101, nat_lit 102, nat_lit 117, nat_lit 115, nat_lit 101, nat_lit 95, nat_lit 116, nat_lit 121, nat_lit 112, nat_lit 101]) := rfl
theorem sa321 : Str.ofString "relevelled" = Str.mk (Array.mk [nat_lit 114, nat_lit 101, nat_lit 108, nat_lit 101, nat_lit 118, nat_lit 101, nat_lit 108, nat_lit 108, nat_lit 101, nat_lit 100]) := rfl
theorem sa322 : Str.ofString "renewed" = Str.mk (Array.mk [nat_lit 114, nat_lit 101, nat_lit 110, nat_lit 101, nat_lit 119, nat_lit 101, nat_lit 100]) := rfl
theorem sa323 : Str.ofString "replacement has length zero" = Str.mk (Array.mk [nat_lit 114, nat_lit 101, nat_lit 112, nat_lit 108, nat_lit 97, nat_lit 99, nat_lit 101, nat_lit 109, nat_lit 101, nat_lit 110, nat_lit 116, nat_lit 32, nat_lit 104, nat_lit 97, nat_lit 115, nat_lit 32, nat_lit 108, nat_lit 101, nat_lit 110, nat_lit 103, nat_lit 116, nat_lit 104, nat_lit 32, nat_lit 122, nat_lit 101, nat_lit 114, nat_lit 111]) := rfl
theorem sa324 : Str.ofString "rest" = Str.mk (Array.mk [nat_lit 114, nat_lit 101, nat_lit 115, nat_lit 116]) := rfl
theorem sa325 : Str.ofString "result" = Str.mk (Array.mk [nat_lit 114, nat_lit 101, nat_lit 115, nat_lit 117, nat_lit 108, nat_lit 116]) := rfl
theorem sa326 : Str.ofString "result_kind" = Str.mk (Array.mk [nat_lit 114, nat_lit 101, nat_lit 115, nat_lit 117, nat_lit 108, nat_lit 116, nat_lit 95, nat_lit 107, nat_lit 105, nat_lit 110, nat_lit 100]) := rfl
theorem sa327 : Str.ofString "reverse" = Str.mk (Array.mk [nat_lit 114, nat_lit 101, nat_lit 118, nat_lit 101, nat_lit 114, nat_lit 115, nat_lit 101]) := rfl
theorem sa328 : Str.ofString "right" = Str.mk (Array.mk [nat_lit 114, nat_lit 105, nat_lit 103, nat_lit 104, nat_lit 116]) := rfl
theorem sa329 : Str.ofString "right_lacking" = Str.mk (Array.mk [nat_lit 114, nat_lit 105, nat_lit 103, nat_lit 104, nat_lit 116, nat_lit 95, nat_lit 108, nat_lit 97, nat_lit 99, nat_lit 107, nat_lit 105, nat_lit 110, nat_lit 103]) := rfl
theorem sa330 : Str.ofString "rjust" = Str.mk (Array.mk [nat_lit 114, nat_lit 106, nat_lit 117, nat_lit 115, nat_lit 116]) := rfl
theorem sa331 : Str.ofString "room" = Str.mk (Array.mk [nat_lit 114, nat_lit 111, nat_lit 111, nat_lit 109]) := rfl
theorem sa332 : Str.ofString "row" = Str.mk (Array.mk [nat_lit 114, nat_lit 111, nat_lit 119]) := rfl
theorem sa333 : Str.ofString "row_place" = Str.mk (Array.mk [nat_lit 114, nat_lit 111, nat_lit 119, nat_lit 95, nat_lit 112, nat_lit 108, nat_lit 97, nat_lit 99, nat_lit 101]) := rfl
theorem sa334 : Str.ofString "rows" = Str.mk (Array.mk [nat_lit 114, nat_lit 111, nat_lit 119, nat_lit 115]) := rfl
theorem sa335 : Str.ofString "runs" = Str.mk (Array.mk [nat_lit 114, nat_lit 117, nat_lit 110, nat_lit 115]) := rfl
theorem sa336 : Str.ofString "s" = Str.mk (Array.mk [nat_lit 115]) := rfl
theorem sa337 : Str.ofString "scale" = Str.mk (Array.mk [nat_lit 115, nat_lit 99, nat_lit 97, nat_lit 108, nat_lit 101]) := rfl
theorem sa338 : Str.ofString "scaled" = Str.mk (Array.mk [nat_lit 115, nat_lit 99, nat_lit 97, nat_lit 108, nat_lit 101, nat_lit 100]) := rfl
theorem sa339 : Str.ofString "scientific" = Str.mk (Array.mk [nat_lit 115, nat_lit 99, nat_lit 105, nat_lit 101, nat_lit 110, nat_lit 116, nat_lit 105, nat_lit 102, nat_lit 105, nat_lit 99]) := rfl
theorem sa340 : Str.ofString "scientific_text" = Str.mk (Array.mk [nat_lit 115, nat_lit 99, nat_lit 105, nat_lit 101, nat_lit 110, nat_lit 116, nat_lit 105, nat_lit 102, nat_lit 105, nat_lit 99, nat_lit 95, nat_lit 116, nat_lit 101, nat_lit 120, nat_lit 116]) := rfl
theorem sa341 : Str.ofString "scientific_width" = Str.mk (Array.mk [nat_lit 115, nat_lit 99, nat_lit 105, nat_lit 101, nat_lit 110, nat_lit 116, nat_lit 105, nat_lit 102, nat_lit 105, nat_lit 99, nat_lit 95, nat_lit 119, nat_lit 105, nat_lit 100, nat_lit 116, nat_lit 104]) := rfl
theorem sa342 : Str.ofString "script" = Str.mk (Array.mk [nat_lit 115, nat_lit 99, nat_lit 114, nat_lit 105, nat_lit 112, nat_lit 116]) := rfl
theorem sa343 : Str.ofString "seen" = Str.mk (Array.mk [nat_lit 115, nat_lit 101, nat_lit 101, nat_lit 110]) := rfl
theorem sa344 : Str.ofString "self" = Str.mk (Array.mk [nat_lit 115, nat_lit 101, nat_lit 108, nat_lit 102]) := rfl
theorem sa345 : Str.ofString "shape" = Str.mk (Array.mk [nat_lit 115, nat_lit 104, nat_lit 97, nat_lit 112, nat_lit 101]) := rfl
theorem sa346 : Str.ofString "share" = Str.mk (Array.mk [nat_lit 115, nat_lit 104, nat_lit 97, nat_lit 114, nat_lit 101]) := rfl
theorem sa347 : Str.ofString "shared" = Str.mk (Array.mk [nat_lit 115, nat_lit 104, nat_lit 97, nat_lit 114, nat_lit 101, nat_lit 100]) := rfl
theorem sa348 : Str.ofString "shift" = Str.mk (Array.mk [nat_lit 115, nat_lit 104, nat_lit 105, nat_lit 102, nat_lit 116]) := rfl
theorem sa349 : Str.ofString "side" = Str.mk (Array.mk [nat_lit 115, nat_lit 105, nat_lit 100, nat_lit 101]) := rfl
theorem sa350 : Str.ofString "significant" = Str.mk (Array.mk [nat_lit 115, nat_lit 105, nat_lit 103, nat_lit 110, nat_lit 105, nat_lit 102, nat_lit 105, nat_lit 99, nat_lit 97, nat_lit 110, nat_lit 116]) := rfl
theorem sa351 : Str.ofString "small" = Str.mk (Array.mk [nat_lit 115, nat_lit 109, nat_lit 97, nat_lit 108, nat_lit 108]) := rfl
theorem sa352 : Str.ofString "sorted" = Str.mk (Array.mk [nat_lit 115, nat_lit 111, nat_lit 114, nat_lit 116, nat_lit 101, nat_lit 100]) := rfl
theorem sa353 : Str.ofString "sorted_levels" = Str.mk (Array.mk [nat_lit 115, nat_lit 111, nat_lit 114, nat_lit 116, nat_lit 101, nat_lit 100, nat_lit 95, nat_lit 108, nat_lit 101, nat_lit 118, nat_lit 101, nat_lit 108, nat_lit 115]) := rfl
theorem sa354 : Str.ofString "special_text" = Str.mk (Array.mk [nat_lit 115, nat_lit 112, nat_lit 101, nat_lit 99, nat_lit 105, nat_lit 97, nat_lit 108, nat_lit 95, nat_lit 116, nat_lit 101, nat_lit 120, nat_lit 116]) := rfl
theorem sa355 : Str.ofString "split_by" = Str.mk (Array.mk [nat_lit 115, nat_lit 112, nat_lit 108, nat_lit 105, nat_lit 116, nat_lit 95, nat_lit 98, nat_lit 121]) := rfl
theorem sa356 : Str.ofString "start" = Str.mk (Array.mk [nat_lit 115, nat_lit 116, nat_lit 97, nat_lit 114, nat_lit 116]) := rfl
theorem sa357 : Str.ofString "step" = Str.mk (Array.mk [nat_lit 115, nat_lit 116, nat_lit 101, nat_lit 112]) := rfl
theorem sa358 : Str.ofString "steps" = Str.mk (Array.mk [nat_lit 115, nat_lit 116, nat_lit 101, nat_lit 112, nat_lit 115]) := rfl
theorem sa359 : Str.ofString "str" = Str.mk (Array.mk [nat_lit 115, nat_lit 116, nat_lit 114]) := rfl
theorem sa360 : Str.ofString "stray" = Str.mk (Array.mk [nat_lit 115, nat_lit 116, nat_lit 114, nat_lit 97, nat_lit 121]) := rfl
theorem sa361 : Str.ofString "strides" = Str.mk (Array.mk [nat_lit 115, nat_lit 116, nat_lit 114, nat_lit 105, nat_lit 100, nat_lit 101, nat_lit 115]) := rfl
theorem sa362 : Str.ofString "strip" = Str.mk (Array.mk [nat_lit 115, nat_lit 116, nat_lit 114, nat_lit 105, nat_lit 112]) := rfl
theorem sa363 : Str.ofString "subscript out of bounds" = Str.mk (Array.mk [nat_lit 115, nat_lit 117, nat_lit 98, nat_lit 115, nat_lit 99, nat_lit 114, nat_lit 105, nat_lit 112, nat_lit 116, nat_lit 32, nat_lit 111, nat_lit 117, nat_lit 116, nat_lit 32, nat_lit 111, nat_lit 102, nat_lit 32, nat_lit 98, nat_lit 111, nat_lit 117, nat_lit 110, nat_lit 100, nat_lit 115]) := rfl
theorem sa364 : Str.ofString "subset_any" = Str.mk (Array.mk [nat_lit 115, nat_lit 117, nat_lit 98, nat_lit 115, nat_lit 101, nat_lit 116, nat_lit 95, nat_lit 97, nat_lit 110, nat_lit 121]) := rfl
theorem sa365 : Str.ofString "subset_array" = Str.mk (Array.mk [nat_lit 115, nat_lit 117, nat_lit 98, nat_lit 115, nat_lit 101, nat_lit 116, nat_lit 95, nat_lit 97, nat_lit 114, nat_lit 114, nat_lit 97, nat_lit 121]) := rfl
theorem sa366 : Str.ofString "subset_call" = Str.mk (Array.mk [nat_lit 115, nat_lit 117, nat_lit 98, nat_lit 115, nat_lit 101, nat_lit 116, nat_lit 95, nat_lit 99, nat_lit 97, nat_lit 108, nat_lit 108]) := rfl
theorem sa367 : Str.ofString "subset_factor" = Str.mk (Array.mk [nat_lit 115, nat_lit 117, nat_lit 98, nat_lit 115, nat_lit 101, nat_lit 116, nat_lit 95, nat_lit 102, nat_lit 97, nat_lit 99, nat_lit 116, nat_lit 111, nat_lit 114]) := rfl
theorem sa368 : Str.ofString "subset_row" = Str.mk (Array.mk [nat_lit 115, nat_lit 117, nat_lit 98, nat_lit 115, nat_lit 101, nat_lit 116, nat_lit 95, nat_lit 114, nat_lit 111, nat_lit 119]) := rfl
theorem sa369 : Str.ofString "subset_vector" = Str.mk (Array.mk [nat_lit 115, nat_lit 117, nat_lit 98, nat_lit 115, nat_lit 101, nat_lit 116, nat_lit 95, nat_lit 118, nat_lit 101, nat_lit 99, nat_lit 116, nat_lit 111, nat_lit 114]) := rfl
theorem sa370 : Str.ofString "symbol" = Str.mk (Array.mk [nat_lit 115, nat_lit 121, nat_lit 109, nat_lit 98, nat_lit 111, nat_lit 108]) := rfl
theorem sa371 : Str.ofString "table" = Str.mk (Array.mk [nat_lit 116, nat_lit 97, nat_lit 98, nat_lit 108, nat_lit 101]) := rfl
theorem sa372 : Str.ofString "tag" = Str.mk (Array.mk [nat_lit 116, nat_lit 97, nat_lit 103]) := rfl
theorem sa373 : Str.ofString "tags" = Str.mk (Array.mk [nat_lit 116, nat_lit 97, nat_lit 103, nat_lit 115]) := rfl
theorem sa374 : Str.ofString "target" = Str.mk (Array.mk [nat_lit 116, nat_lit 97, nat_lit 114, nat_lit 103, nat_lit 101, nat_lit 116]) := rfl
theorem sa375 : Str.ofString "text" = Str.mk (Array.mk [nat_lit 116, nat_lit 101, nat_lit 120, nat_lit 116]) := rfl
theorem sa376 : Str.ofString "text_to_double" = Str.mk (Array.mk [nat_lit 116, nat_lit 101, nat_lit 120, nat_lit 116, nat_lit 95, nat_lit 116, nat_lit 111, nat_lit 95, nat_lit 100, nat_lit 111, nat_lit 117, nat_lit 98, nat_lit 108, nat_lit 101]) := rfl
theorem sa377 : Str.ofString "texts" = Str.mk (Array.mk [nat_lit 116, nat_lit 101, nat_lit 120, nat_lit 116, nat_lit 115]) := rfl
theorem sa378 : Str.ofString "to" = Str.mk (Array.mk [nat_lit 116, nat_lit 111]) := rfl
theorem sa379 : Str.ofString "to_double" = Str.mk (Array.mk [nat_lit 116, nat_lit 111, nat_lit 95, nat_lit 100, nat_lit 111, nat_lit 117, nat_lit 98, nat_lit 108, nat_lit 101]) := rfl
theorem sa380 : Str.ofString "to_integer" = Str.mk (Array.mk [nat_lit 116, nat_lit 111, nat_lit 95, nat_lit 105, nat_lit 110, nat_lit 116, nat_lit 101, nat_lit 103, nat_lit 101, nat_lit 114]) := rfl
theorem sa381 : Str.ofString "to_logical" = Str.mk (Array.mk [nat_lit 116, nat_lit 111, nat_lit 95, nat_lit 108, nat_lit 111, nat_lit 103, nat_lit 105, nat_lit 99, nat_lit 97, nat_lit 108]) := rfl
theorem sa382 : Str.ofString "to_text" = Str.mk (Array.mk [nat_lit 116, nat_lit 111, nat_lit 95, nat_lit 116, nat_lit 101, nat_lit 120, nat_lit 116]) := rfl
theorem sa383 : Str.ofString "to_whole" = Str.mk (Array.mk [nat_lit 116, nat_lit 111, nat_lit 95, nat_lit 119, nat_lit 104, nat_lit 111, nat_lit 108, nat_lit 101]) := rfl
theorem sa384 : Str.ofString "told" = Str.mk (Array.mk [nat_lit 116, nat_lit 111, nat_lit 108, nat_lit 100]) := rfl
theorem sa385 : Str.ofString "top" = Str.mk (Array.mk [nat_lit 116, nat_lit 111, nat_lit 112]) := rfl
theorem sa386 : Str.ofString "true" = Str.mk (Array.mk [nat_lit 116, nat_lit 114, nat_lit 117, nat_lit 101]) := rfl
theorem sa387 : Str.ofString "turn_at" = Str.mk (Array.mk [nat_lit 116, nat_lit 117, nat_lit 114, nat_lit 110, nat_lit 95, nat_lit 97, nat_lit 116]) := rfl
theorem sa388 : Str.ofString "unimplemented type '" = Str.mk (Array.mk [nat_lit 117, nat_lit 110, nat_lit 105, nat_lit 109, nat_lit 112, nat_lit 108, nat_lit 101, nat_lit 109, nat_lit 101, nat_lit 110, nat_lit 116, nat_lit 101, nat_lit 100, nat_lit 32, nat_lit 116, nat_lit 121, nat_lit 112, nat_lit 101, nat_lit 32, nat_lit 39]) := rfl
theorem sa389 : Str.ofString "unsigned_number" = Str.mk (Array.mk [nat_lit 117, nat_lit 110, nat_lit 115, nat_lit 105, nat_lit 103, nat_lit 110, nat_lit 101, nat_lit 100, nat_lit 95, nat_lit 110, nat_lit 117, nat_lit 109, nat_lit 98, nat_lit 101, nat_lit 114]) := rfl
theorem sa390 : Str.ofString "used" = Str.mk (Array.mk [nat_lit 117, nat_lit 115, nat_lit 101, nat_lit 100]) := rfl
theorem sa391 : Str.ofString "v" = Str.mk (Array.mk [nat_lit 118]) := rfl
theorem sa392 : Str.ofString "value" = Str.mk (Array.mk [nat_lit 118, nat_lit 97, nat_lit 108, nat_lit 117, nat_lit 101]) := rfl
theorem sa393 : Str.ofString "value_codes" = Str.mk (Array.mk [nat_lit 118, nat_lit 97, nat_lit 108, nat_lit 117, nat_lit 101, nat_lit 95, nat_lit 99, nat_lit 111, nat_lit 100, nat_lit 101, nat_lit 115]) := rfl
theorem sa394 : Str.ofString "value_vector" = Str.mk (Array.mk [nat_lit 118, nat_lit 97, nat_lit 108, nat_lit 117, nat_lit 101, nat_lit 95, nat_lit 118, nat_lit 101, nat_lit 99, nat_lit 116, nat_lit 111, nat_lit 114]) := rfl
theorem sa395 : Str.ofString "vectorcove.attrs" = Str.mk (Array.mk [nat_lit 118, nat_lit 101, nat_lit 99, nat_lit 116, nat_lit 111, nat_lit 114, nat_lit 99, nat_lit 111, nat_lit 118, nat_lit 101, nat_lit 46, nat_lit 97, nat_lit 116, nat_lit 116, nat_lit 114, nat_lit 115]) := rfl
theorem sa396 : Str.ofString "vectorcove.coerce" = Str.mk (Array.mk [nat_lit 118, nat_lit 101, nat_lit 99, nat_lit 116, nat_lit 111, nat_lit 114, nat_lit 99, nat_lit 111, nat_lit 118, nat_lit 101, nat_lit 46, nat_lit 99, nat_lit 111, nat_lit 101, nat_lit 114, nat_lit 99, nat_lit 101]) := rfl
theorem sa397 : Str.ofString "vectorcove.errors" = Str.mk (Array.mk [nat_lit 118, nat_lit 101, nat_lit 99, nat_lit 116, nat_lit 111, nat_lit 114, nat_lit 99, nat_lit 111, nat_lit 118, nat_lit 101, nat_lit 46, nat_lit 101, nat_lit 114, nat_lit 114, nat_lit 111, nat_lit 114, nat_lit 115]) := rfl
theorem sa398 : Str.ofString "vectorcove.factors" = Str.mk (Array.mk [nat_lit 118, nat_lit 101, nat_lit 99, nat_lit 116, nat_lit 111, nat_lit 114, nat_lit 99, nat_lit 111, nat_lit 118, nat_lit 101, nat_lit 46, nat_lit 102, nat_lit 97, nat_lit 99, nat_lit 116, nat_lit 111, nat_lit 114, nat_lit 115]) := rfl
theorem sa399 : Str.ofString "vectorcove.index" = Str.mk (Array.mk [nat_lit 118, nat_lit 101, nat_lit 99, nat_lit 116, nat_lit 111, nat_lit 114, nat_lit 99, nat_lit 111, nat_lit 118, nat_lit 101, nat_lit 46, nat_lit 105, nat_lit 110, nat_lit 100, nat_lit 101, nat_lit 120]) := rfl
theorem sa400 : Str.ofString "vectorcove.numtext" = Str.mk (Array.mk [nat_lit 118, nat_lit 101, nat_lit 99, nat_lit 116, nat_lit 111, nat_lit 114, nat_lit 99, nat_lit 111, nat_lit 118, nat_lit 101, nat_lit 46, nat_lit 110, nat_lit 117, nat_lit 109, nat_lit 116, nat_lit 101, nat_lit 120, nat_lit 116]) := rfl
theorem sa401 : Str.ofString "vectorcove.rational" = Str.mk (Array.mk [nat_lit 118, nat_lit 101, nat_lit 99, nat_lit 116, nat_lit 111, nat_lit 114, nat_lit 99, nat_lit 111, nat_lit 118, nat_lit 101, nat_lit 46, nat_lit 114, nat_lit 97, nat_lit 116, nat_lit 105, nat_lit 111, nat_lit 110, nat_lit 97, nat_lit 108]) := rfl
theorem sa402 : Str.ofString "vectorcove.sorting" = Str.mk (Array.mk [nat_lit 118, nat_lit 101, nat_lit 99, nat_lit 116, nat_lit 111, nat_lit 114, nat_lit 99, nat_lit 111, nat_lit 118, nat_lit 101, nat_lit 46, nat_lit 115, nat_lit 111, nat_lit 114, nat_lit 116, nat_lit 105, nat_lit 110, nat_lit 103]) := rfl
theorem sa403 : Str.ofString "vectorcove.subassign" = Str.mk (Array.mk [nat_lit 118, nat_lit 101, nat_lit 99, nat_lit 116, nat_lit 111, nat_lit 114, nat_lit 99, nat_lit 111, nat_lit 118, nat_lit 101, nat_lit 46, nat_lit 115, nat_lit 117, nat_lit 98, nat_lit 97, nat_lit 115, nat_lit 115, nat_lit 105, nat_lit 103, nat_lit 110]) := rfl
theorem sa404 : Str.ofString "vectorcove.subset" = Str.mk (Array.mk [nat_lit 118, nat_lit 101, nat_lit 99, nat_lit 116, nat_lit 111, nat_lit 114, nat_lit 99, nat_lit 111, nat_lit 118, nat_lit 101, nat_lit 46, nat_lit 115, nat_lit 117, nat_lit 98, nat_lit 115, nat_lit 101, nat_lit 116]) := rfl
theorem sa405 : Str.ofString "vectorcove.values" = Str.mk (Array.mk [nat_lit 118, nat_lit 101, nat_lit 99, nat_lit 116, nat_lit 111, nat_lit 114, nat_lit 99, nat_lit 111, nat_lit 118, nat_lit 101, nat_lit 46, nat_lit 118, nat_lit 97, nat_lit 108, nat_lit 117, nat_lit 101, nat_lit 115]) := rfl
theorem sa406 : Str.ofString "vs" = Str.mk (Array.mk [nat_lit 118, nat_lit 115]) := rfl
theorem sa407 : Str.ofString "wanted" = Str.mk (Array.mk [nat_lit 119, nat_lit 97, nat_lit 110, nat_lit 116, nat_lit 101, nat_lit 100]) := rfl
theorem sa408 : Str.ofString "whole_places" = Str.mk (Array.mk [nat_lit 119, nat_lit 104, nat_lit 111, nat_lit 108, nat_lit 101, nat_lit 95, nat_lit 112, nat_lit 108, nat_lit 97, nat_lit 99, nat_lit 101, nat_lit 115]) := rfl
theorem sa409 : Str.ofString "whole_subscripts" = Str.mk (Array.mk [nat_lit 119, nat_lit 104, nat_lit 111, nat_lit 108, nat_lit 101, nat_lit 95, nat_lit 115, nat_lit 117, nat_lit 98, nat_lit 115, nat_lit 99, nat_lit 114, nat_lit 105, nat_lit 112, nat_lit 116, nat_lit 115]) := rfl
theorem sa410 : Str.ofString "whole_text" = Str.mk (Array.mk [nat_lit 119, nat_lit 104, nat_lit 111, nat_lit 108, nat_lit 101, nat_lit 95, nat_lit 116, nat_lit 101, nat_lit 120, nat_lit 116]) := rfl
theorem sa411 : Str.ofString "wide" = Str.mk (Array.mk [nat_lit 119, nat_lit 105, nat_lit 100, nat_lit 101]) := rfl
theorem sa412 : Str.ofString "wider" = Str.mk (Array.mk [nat_lit 119, nat_lit 105, nat_lit 100, nat_lit 101, nat_lit 114]) := rfl
theorem sa413 : Str.ofString "with_levels" = Str.mk (Array.mk [nat_lit 119, nat_lit 105, nat_lit 116, nat_lit 104, nat_lit 95, nat_lit 108, nat_lit 101, nat_lit 118, nat_lit 101, nat_lit 108, nat_lit 115]) := rfl
theorem sa414 : Str.ofString "with_names" = Str.mk (Array.mk [nat_lit 119, nat_lit 105, nat_lit 116, nat_lit 104, nat_lit 95, nat_lit 110, nat_lit 97, nat_lit 109, nat_lit 101, nat_lit 115]) := rfl
theorem sa415 : Str.ofString "without_tail" = Str.mk (Array.mk [nat_lit 119, nat_lit 105, nat_lit 116, nat_lit 104, nat_lit 111, nat_lit 117, nat_lit 116, nat_lit 95, nat_lit 116, nat_lit 97, nat_lit 105, nat_lit 108]) := rfl
theorem sa416 : Str.ofString "word" = Str.mk (Array.mk [nat_lit 119, nat_lit 111, nat_lit 114, nat_lit 100]) := rfl
theorem sa417 : Str.ofString "words" = Str.mk (Array.mk [nat_lit 119, nat_lit 111, nat_lit 114, nat_lit 100, nat_lit 115]) := rfl
theorem sa418 : Str.ofString "x" = Str.mk (Array.mk [nat_lit 120]) := rfl
theorem sa419 : Str.ofString "xs" = Str.mk (Array.mk [nat_lit 120, nat_lit 115]) := rfl
theorem sa420 : Str.ofString "y" = Str.mk (Array.mk [nat_lit 121]) := rfl
theorem sa421 : Str.ofString "zip" = Str.mk (Array.mk [nat_lit 122, nat_lit 105, nat_lit 112]) := rfl
inductive IsPw : Program → Prop
  | mk {q : Program} (h : PySem.Challenge.pw_ov0095_01 = q) : IsPw q
noncomputable def prog2S : { q : Program // IsPw q } := by
  refine Subtype.mk ?_ (IsPw.mk ?_)
  case refine_2 =>
    dsimp only [PySem.Challenge.pw_ov0095_01, sa0, sa1, sa2, sa3, sa4, sa5, sa6, sa7, sa8, sa9, sa10, sa11, sa12, sa13, sa14, sa15, sa16, sa17, sa18, sa19, sa20, sa21, sa22, sa23, sa24, sa25, sa26, sa27, sa28, sa29, sa30, sa31, sa32, sa33, sa34, sa35, sa36, sa37, sa38, sa39, sa40, sa41, sa42, sa43, sa44, sa45, sa46, sa47, sa48, sa49, sa50, sa51, sa52, sa53, sa54, sa55, sa56, sa57, sa58, sa59, sa60, sa61, sa62, sa63, sa64, sa65, sa66, sa67, sa68, sa69, sa70, sa71, sa72, sa73, sa74, sa75, sa76, sa77, sa78, sa79, sa80, sa81, sa82, sa83, sa84, sa85, sa86, sa87, sa88, sa89, sa90, sa91, sa92, sa93, sa94, sa95, sa96, sa97, sa98, sa99, sa100, sa101, sa102, sa103, sa104, sa105, sa106, sa107, sa108, sa109, sa110, sa111, sa112, sa113, sa114, sa115, sa116, sa117, sa118, sa119, sa120, sa121, sa122, sa123, sa124, sa125, sa126, sa127, sa128, sa129, sa130, sa131, sa132, sa133, sa134, sa135, sa136, sa137, sa138, sa139, sa140, sa141, sa142, sa143, sa144, sa145, sa146, sa147, sa148, sa149, sa150, sa151, sa152, sa153, sa154, sa155, sa156, sa157, sa158, sa159, sa160, sa161, sa162, sa163, sa164, sa165, sa166, sa167, sa168, sa169, sa170, sa171, sa172, sa173, sa174, sa175, sa176, sa177, sa178, sa179, sa180, sa181, sa182, sa183, sa184, sa185, sa186, sa187, sa188, sa189, sa190, sa191, sa192, sa193, sa194, sa195, sa196, sa197, sa198, sa199, sa200, sa201, sa202, sa203, sa204, sa205, sa206, sa207, sa208, sa209, sa210, sa211, sa212, sa213, sa214, sa215, sa216, sa217, sa218, sa219, sa220, sa221, sa222, sa223, sa224, sa225, sa226, sa227, sa228, sa229, sa230, sa231, sa232, sa233, sa234, sa235, sa236, sa237, sa238, sa239, sa240, sa241, sa242, sa243, sa244, sa245, sa246, sa247, sa248, sa249, sa250, sa251, sa252, sa253, sa254, sa255, sa256, sa257, sa258, sa259, sa260, sa261, sa262, sa263, sa264, sa265, sa266, sa267, sa268, sa269, sa270, sa271, sa272, sa273, sa274, sa275, sa276, sa277, sa278, sa279, sa280, sa281, sa282, sa283, sa284, sa285, sa286, sa287, sa288, sa289, sa290, sa291, sa292, sa293, sa294, sa295, sa296, sa297, sa298, sa299, sa300, sa301, sa302, sa303, sa304, sa305, sa306, sa307, sa308, sa309, sa310, sa311, sa312, sa313, sa314, sa315, sa316, sa317, sa318, sa319, sa320, sa321, sa322, sa323, sa324, sa325, sa326, sa327, sa328, sa329, sa330, sa331, sa332, sa333, sa334, sa335, sa336, sa337, sa338, sa339, sa340, sa341, sa342, sa343, sa344, sa345, sa346, sa347, sa348, sa349, sa350, sa351, sa352, sa353, sa354, sa355, sa356, sa357, sa358, sa359, sa360, sa361, sa362, sa363, sa364, sa365, sa366, sa367, sa368, sa369, sa370, sa371, sa372, sa373, sa374, sa375, sa376, sa377, sa378, sa379, sa380, sa381, sa382, sa383, sa384, sa385, sa386, sa387, sa388, sa389, sa390, sa391, sa392, sa393, sa394, sa395, sa396, sa397, sa398, sa399, sa400, sa401, sa402, sa403, sa404, sa405, sa406, sa407, sa408, sa409, sa410, sa411, sa412, sa413, sa414, sa415, sa416, sa417, sa418, sa419, sa420, sa421]
    exact rfl
noncomputable def prog2 : Program := prog2S.1
theorem pw_eq : PySem.Challenge.pw_ov0095_01 = prog2 := match prog2S.2 with
  | .mk h => h

/-! ### what the law's heap shows -/
noncomputable def lookF (K : List (Addr × Obj)) (a : Addr) : Option (Value × Scope × FuncBody × Arguments × List (Str × Addr) × Addr × Addr × Value × Bool) := match K.lookup a with
  | some o => (match o.data with
    | .func fd => some (o.cls, fd.scope, fd.body, fd.params, fd.closure, fd.globals, fd.builtins, fd.defaults, codeIn K fd.code fd.qualname)
    | _ => none)
  | none => none
noncomputable def dfl (K : List (Addr × Obj)) (v : Value) : Option (List Value) := match v with
  | .ref T => (match K.lookup T with
    | some o => (match o.data with
      | .seq xs _ => some xs.toList
      | _ => none)
    | none => none)
  | _ => none
noncomputable def lookD (K : List (Addr × Obj)) (a : Addr) : Option (Value × Scope × FuncBody × Arguments × List (Str × Addr) × Addr × Addr × Option (List Value) × Bool) := match K.lookup a with
  | some o => (match o.data with
    | .func fd => some (o.cls, fd.scope, fd.body, fd.params, fd.closure, fd.globals, fd.builtins, dfl K fd.defaults, codeIn K fd.code fd.qualname)
    | _ => none)
  | none => none
noncomputable def wantF (st : Stmt) : Option (Value × Scope × FuncBody × Arguments × List (Str × Addr) × Addr × Addr × Value × Bool) := some (.type "function", fS st, .stmts (fB st), fP st, [], mainGlobals, builtinsNs, .none, true)
noncomputable def wantD (st : Stmt) : Option (Value × Scope × FuncBody × Arguments × List (Str × Addr) × Addr × Addr × Option (List Value) × Bool) := some (.type "function", fS st, .stmts (fB st), fP st, [], mainGlobals, builtinsNs, some [.none], true)
theorem Fn_of {S0 : Shared} {K : Frag} {a : Addr} {st : Stmt} (X : K.In S0.heap) (e : lookF K a = wantF st) : Fn S0 a (fS st) (fB st) (fP st) false := by
  unfold lookF wantF at e
  split at e
  · rename_i o ho
    split at e
    · rename_i fd hd
      simp only [Option.some.injEq, Prod.mk.injEq] at e
      obtain ⟨e1, e2, e3, e4, e5, e6, e7, e8, e9⟩ := e
      exact ⟨o, fd, X a o ho, e1, hd, e2, e3, e4, e5, e6, e7, e8, codeRec_of X e9⟩
    · cases e
  · cases e
theorem Fn_ofD {S0 : Shared} {K : Frag} {a : Addr} {st : Stmt} (X : K.In S0.heap) (e : lookD K a = wantD st) : Fn S0 a (fS st) (fB st) (fP st) true := by
  unfold lookD wantD at e
  split at e
  · rename_i o ho
    split at e
    · rename_i fd hd
      simp only [Option.some.injEq, Prod.mk.injEq] at e
      obtain ⟨e1, e2, e3, e4, e5, e6, e7, e8, e9⟩ := e
      refine ⟨o, fd, X a o ho, e1, hd, e2, e3, e4, e5, e6, e7, ?_, codeRec_of X e9⟩
      unfold dfl at e8
      split at e8
      · rename_i T hT
        split at e8
        · rename_i oT hoT
          split at e8
          · rename_i xs nn hx
            obtain ⟨l⟩ := xs
            have el : l = [.none] := Option.some.inj e8
            subst el
            exact ⟨T, oT, nn, hT, X T oT hoT, hx⟩
          · cases e8
        · cases e8
      · cases e8
    · cases e
  · cases e
noncomputable def lookN (K : List (Addr × Obj)) (a : Addr) (x : Str) : Option Value := match K.lookup a with
  | some o => (match o.data with
    | .dict es _ => nsFind es x
    | _ => none)
  | none => none
noncomputable def isNsK (K : List (Addr × Obj)) (a : Addr) : Bool := match K.lookup a with
  | some o => (match o.data with
    | .dict es _ => es.toList.all fun e => (match e.key with | .str _ _ => true | _ => false)
    | _ => false)
  | none => false
theorem ns_of {K : Frag} {h : Heap} {a : Addr} (X : K.In h) (e : isNsK K a = true) : h.Ns a (lookN K a) := by
  unfold isNsK at e
  unfold lookN
  split at e
  · rename_i o ho
    split at e
    · rename_i es ep hd
      refine ⟨o, es, ep, X a o ho, hd, fun x hx => ?_, fun y => ?_⟩
      · have := List.all_eq_true.mp e x (Array.mem_toList_iff.mpr hx)
        split at this
        · rename_i n t hk; exact ⟨n, t, hk⟩
        · cases this
      · simp only [ho, hd]
    · cases e
  · cases e
noncomputable def lookC (K : List (Addr × Obj)) : Option (Value × List Value × Addr × Bool × Bool × Bool × Nat × Option (Option Value)) := match K.lookup 311 with
  | some o => (match o.data with
    | .cls c => some (o.cls, c.mro, c.ns, c.hasDict, c.abstract, c.hasDel, o.slots.toList.length, o.slots.toList[4]?)
    | _ => none)
  | none => none
noncomputable def wantC : Option (Value × List Value × Addr × Bool × Bool × Bool × Nat × Option (Option Value)) := some (.type "type", [.ref 311, .type "object"], 310, true, false, false, 6, some (some (.builtin "object.__new__")))
noncomputable def globOf (K : List (Addr × Obj)) (x : Str) : Option V := match lookN K mainGlobals x with
  | some u => some (abs u)
  | none => (bootBuiltins x).map abs
noncomputable def own5 : List Str := [Str.ofString "kind", Str.ofString "items", Str.ofString "attrs", Str.ofString "shared", Str.ofString "loose", Str.ofString "__getattribute__", Str.ofString "__getattr__", Str.ofString "__setattr__"]
noncomputable def topP (p : Program) (i : Nat) : Stmt := p.main.body.getD i (.Pass ⟨0, 0, 0, 0⟩)
noncomputable def obs1 (K : List (Addr × Obj)) := (defs.map (fun d => lookF K d.1), defsD.map (fun d => lookD K d.1), lookD K 301, lookF K 308)
noncomputable def want1 (p : Program) := (defs.map (fun d => wantF (topP p d.2)), defsD.map (fun d => wantD (topP p d.2)), wantD (inCls 0 (topP p 41)), wantF (inCls 1 (topP p 41)))
noncomputable def obs2 (K : List (Addr × Obj)) := (lookC K, (isNsK K 310 && isNsK K mainGlobals && (308 :: cals).all fun a => keepIn K (.ref a)), own5.map (lookN K 310), lookN K 310 (Str.ofString "__init__"), lookN K 310 (Str.ofString "copy"), GG.map (fun p => globOf K p.1))
noncomputable def want2 := (wantC, true, own5.map (fun _ => (none : Option Value)), some (Value.ref 301), some (Value.ref 308), GG.map fun p => some p.2)
/-! ### the top, run in one go -/
noncomputable def topRunT (tb : String → Option Builtin) (p : Program) (w : World) (n₀ : Nat) (ann : Option Value) : Nat → SharedT → Thread → Option SharedT
  | 0, _, _ => none
  | n + 1, s, t => match through t with
    | true => some s
    | false => match stepOk n₀ ann t with
      | false => none
      | true => match stepT (denote tb) p w s t with
        | some (s', t') => topRunT tb p w n₀ ann n s' t'
        | none => none
theorem topRunT_of {tb : String → Option Builtin} {p : Program} {w : World} {n₀ : Nat} {ann : Option Value} : ∀ {n : Nat} {s r : SharedT} {t : Thread}, topRunT tb p w n₀ ann n s t = some r → topRun tb p w n₀ ann n s.abs t = some r.abs
  | 0, _, _, _, h => by cases h
  | n + 1, s, r, t, h => by
    unfold topRunT at h
    unfold topRun
    cases ht : through t with
    | true => rw [ht] at h; cases h; rfl
    | false =>
      rw [ht] at h
      cases ho : stepOk n₀ ann t with
      | false => rw [ho] at h; cases h
      | true =>
        rw [ho] at h
        cases hs : stepT (denote tb) p w s t with
        | none => rw [hs] at h; cases h
        | some x =>
          obtain ⟨s', t'⟩ := x
          rw [hs] at h
          dsimp only at h ⊢
          rw [stepT_spec hs]
          exact topRunT_of h
noncomputable def bootT (P : Params) : BT := ((boot_heap P).objs.toList.zipIdx).foldl (fun t x => t.ins x.2 x.1) .nil
noncomputable def viewP (p : Program) : Program := { p with main := { p.main with body := p.main.body.drop 174 } }
noncomputable def boundBy : Stmt → Option Str
  | .FunctionDef n _ _ _ _ _ _ _ _ _ => some n
  | .ClassDef n _ _ _ _ _ _ _ _ _ _ => some n
  | .Assign [.Name n _] _ _ => if n == Str.ofString "__name__" then none else some n
  | _ => none
noncomputable def looseP (p : Program) : List Str := (p.main.body.take 174).filterMap boundBy
noncomputable def need : List Nat := [3, 294, 300, 301, 307, 308, 310, 311, 357, 358, 364, 365, 371, 372, 373, 377, 378, 384, 385, 391, 392, 398, 399, 405, 406, 412, 413, 419, 420, 440, 441, 452, 453, 457, 458, 464, 465, 469, 470, 476, 477, 550, 551, 557, 558, 672, 673, 684, 685, 712, 713, 733, 734, 749, 753, 754, 760, 761, 767, 768, 781, 782, 788, 789, 802, 803, 880, 881, 887, 888, 894, 895, 901, 902, 908, 909, 922, 923, 929, 930, 936, 937, 950, 951, 957, 958, 983, 984, 990, 991, 997, 998, 1002, 1003, 1007, 1008, 1012, 1013, 1019, 1020, 1026, 1027, 1033, 1034, 1043, 1044, 1050, 1051, 1055, 1056, 1062, 1063, 1067, 1068, 1072, 1073, 1079, 1080, 1086, 1087, 1093, 1094, 1100, 1101, 1105, 1106, 1110, 1111, 1117, 1118, 1124, 1125, 1131, 1132, 1138, 1139, 1145, 1146, 1150, 1151]
noncomputable def frT (t : BT) : List (Addr × Obj) := need.filterMap fun a => (t.get a).map fun o => ((a : Addr), o)
noncomputable def run1 (p : Program) (w : World) (os : OsState) : Option SharedT := topRunT treeTable p w 11 (some (.ref 6)) 7000 ⟨bootT w.params, 11, (boot_heap w.params).life, Array.mk [], boot_drawn, boot_toks, os⟩ (topStub p)
noncomputable def wa (p : Program) (w : World) (os : OsState) := (run1 p w os).map fun s => staticsOk (importedModules p.main.body) (boot_heap w.params) s.abs.heap && namesBound p s.abs.heap && gensDone s.abs && laidKept (boot_heap w.params) s.abs.heap
noncomputable def wb (p : Program) (w : World) (os : OsState) := (run1 p w os).map fun s => openSeen (viewP p) (looseP p) (importedModules p.main.body) (fun _ => true) true s.abs
noncomputable def obs3 (K : List (Addr × Obj)) (s : SharedT) := (obs2 K, K.all fun p => Nat.blt p.1 s.n && !p.2.isFreed, Nat.blt sysModules s.n && ((s.tree.get sysModules).any fun o => !o.isFreed))
noncomputable def wc (p : Program) (w : World) (os : OsState) := (run1 p w os).map fun s => obs1 (frT s.tree)
noncomputable def wd (p : Program) (w : World) (os : OsState) := (run1 p w os).map fun s => obs3 (frT s.tree) s
noncomputable def gb2 (p : Program) := some (openGood (viewP p) (looseP p))
noncomputable def gd2 (_ : Unit) := some (want2, true, true)
theorem prime_wa : (fun _ : (p : Program) → (w : World) → (os : OsState) → _ => true) wa = true := by k_qdec
theorem prime_wb : (fun _ : (p : Program) → (w : World) → (os : OsState) → _ => true) wb = true := by k_qdec
theorem prime_wc : (fun _ : (p : Program) → (w : World) → (os : OsState) → _ => true) wc = true := by k_qdec
theorem prime_wd : (fun _ : (p : Program) → (w : World) → (os : OsState) → _ => true) wd = true := by k_qdec
theorem prime_gb2 : (fun _ : (p : Program) → _ => true) gb2 = true := by k_qdec
theorem prime_gd2 : (fun _ : Unit → _ => true) gd2 = true := by k_qdec
theorem whole_d : ∀ (w : World) (os : OsState), PySem.W.Fast.tw10030584500623512664 prog2 w os = PySem.W.Fast.tw744161694371447153 () := fun w os => by kernel_rfl
theorem whole_a : ∀ (w : World) (os : OsState), PySem.W.Fast.tw88657434543382035 prog2 w os = some true := fun w os => by kernel_rfl
theorem whole_b : ∀ (w : World) (os : OsState), PySem.W.Fast.tw2171096225454540129 prog2 w os = PySem.W.Fast.tw16529798789985849782 prog2 := fun w os => by kernel_rfl
theorem whole_c : ∀ (w : World) (os : OsState), PySem.W.Fast.tw5793314067202188890 prog2 w os = some (want1 prog2) := fun w os => by kernel_rfl
/-! ### the top's end, as it is looked at -/
structure Seen (h : Heap) : Prop where
  ex : ∃ K : Frag, K.In h ∧ obs1 K = want1 prog2 ∧ obs2 K = want2
  mods : (h.get? sysModules).isSome = true
theorem Seen.keeps {h h' : Heap} (x : Seen h) (k : ∀ b o, h.get? b = some o → h'.get? b = some o) : Seen h' :=
  ⟨let ⟨K, a, b⟩ := x.ex; ⟨K, a.keeps k, b⟩, by
    obtain ⟨o, ho⟩ := Option.isSome_iff_exists.mp x.mods
    rw [k _ _ ho]; rfl⟩
theorem mem_lk {a : Addr} {o : Obj} : ∀ {K : Frag}, K.lookup a = some o → (a, o) ∈ K
  | [], h => by cases h
  | (b, x) :: r, h => by
    rw [List.lookup_cons] at h
    by_cases q : (a == b) = true
    · rw [q] at h
      have e1 := beq_iff_eq.mp q
      have e2 := Option.some.inj h
      subst e1; subst e2; exact List.mem_cons_self
    · rw [(Bool.not_eq_true _).mp q] at h
      exact List.mem_cons_of_mem _ (mem_lk h)
theorem tree_get {s : SharedT} {a : Addr} {o : Obj} (h1 : s.tree.get a = some o) (h2 : Nat.blt a s.n = true) (h3 : o.isFreed = false) : s.abs.heap.get? a = some o := by
  refine Heap.get?_some_iff.mpr ⟨?_, h3⟩
  show (absHeap s.tree s.n s.life).objs[a]? = _
  have h4 : a < s.n := Nat.le_of_ble_eq_true h2
  rw [absHeap_at, if_pos h4, h1]; rfl
theorem frT_in {s : SharedT} (e : (frT s.tree).all (fun p => Nat.blt p.1 s.n && !p.2.isFreed) = true) : Frag.In (frT s.tree) s.abs.heap := fun a o h => by
  have hm := mem_lk h
  have hb := List.all_eq_true.mp e (a, o) hm
  obtain ⟨h2, h3⟩ := Bool.and_eq_true_iff.mp hb
  obtain ⟨b, _, hb⟩ := List.mem_filterMap.mp hm
  obtain ⟨x, hx, e2⟩ := Option.map_eq_some_iff.mp hb
  injection e2 with e3 e4
  subst e3; subst e4
  exact tree_get hx h2 (by simpa using h3)
theorem boot_same : ∀ P : Params, absHeap (bootT P) 11 (boot_heap P).life = boot_heap P := fun P => by kernel_rfl
theorem boot_size : ∀ P : Params, ((boot_heap P).isNs mainGlobals && (Array.mk [] : Array GenState).size == 0) = true := fun P => by kernel_rfl
theorem boot_n : ∀ P : Params, (boot_heap P).objs.size = 11 := fun P => by kernel_rfl
theorem boot_ann : ∀ P : Params, (boot_heap P).nsMap mainGlobals "__annotations__" = some (.ref 6) := fun P => by kernel_rfl
theorem opening2 : opening prog2 = plainProg prog2.main.scope.names := by kernel_rfl
theorem fence2 (s : Shared) : fenceModules? prog2 s = some s := by kernel_rfl
theorem left_p (p : Program) (e1 : opening p = plainProg p.main.scope.names) (f1 : ∀ s, fenceModules? p s = some s) (hA : ∀ w os, wa p w os = some true) (hB : ∀ w os, wb p w os = gb2 p) (hC : ∀ w os, wc p w os = some (want1 prog2)) (hD : ∀ w os, wd p w os = gd2 ()) :
    LeftO p (viewP p) (looseP p) (fun _ => true) (fun s => Seen s.heap) (fun _ => True) 7000 := fun w => by
  obtain ⟨⟨h, gs, d, k, os⟩, e, e'⟩ := Option.map_eq_some_iff.mp (boot_open (p := p) (N := 7000) e1 (by decide) f1 w)
  obtain ⟨rfl, rfl, rfl, rfl⟩ : h = boot_heap w.params ∧ gs = Array.mk [] ∧ d = boot_drawn ∧ k = boot_toks := by
    simp only [Prod.mk.injEq] at e'; exact e'
  obtain ⟨r, hr, hA⟩ := Option.map_eq_some_iff.mp (hA w os)
  obtain ⟨r2, hr2, hB⟩ := Option.map_eq_some_iff.mp (hB w os)
  obtain ⟨r3, hr3, hC⟩ := Option.map_eq_some_iff.mp (hC w os)
  obtain ⟨r4, hr4, hD⟩ := Option.map_eq_some_iff.mp (hD w os)
  obtain rfl : r = r2 := Option.some.inj (hr.symm.trans hr2)
  obtain rfl : r = r3 := Option.some.inj (hr.symm.trans hr3)
  obtain rfl : r = r4 := Option.some.inj (hr.symm.trans hr4)
  have R := topRunT_of hr
  have eS : SharedT.abs ⟨bootT w.params, 11, (boot_heap w.params).life, Array.mk [], boot_drawn, boot_toks, os⟩ = ⟨boot_heap w.params, Array.mk [], boot_drawn, boot_toks, os⟩ := by
    show Shared.mk (absHeap (bootT w.params) 11 (boot_heap w.params).life) _ _ _ _ = _
    rw [boot_same]
  rw [eS] at R
  have seen : Seen r.abs.heap := by
    have hD' : (obs2 (frT r.tree), (frT r.tree).all (fun p => Nat.blt p.1 r.n && !p.2.isFreed), Nat.blt sysModules r.n && ((r.tree.get sysModules).any fun o => !o.isFreed)) = (want2, true, true) := hD
    simp only [Prod.mk.injEq] at hD'
    obtain ⟨d1, d2, d3⟩ := hD'
    refine ⟨⟨frT r.tree, frT_in d2, hC, d1⟩, ?_⟩
    obtain ⟨d4, d5⟩ := Bool.and_eq_true_iff.mp d3
    obtain ⟨o, ho, d6⟩ := (Option.any_eq_true _ _).mp d5
    rw [tree_get ho d4 (by simpa using d6)]; rfl
  have t : topFrom treeTable p w 7000 ⟨boot_heap w.params, Array.mk [], boot_drawn, boot_toks, os⟩ = some r.abs := by
    unfold topFrom
    dsimp only
    rw [boot_size, boot_n, boot_ann, R]
    show (match staticsOk (importedModules p.main.body) (boot_heap w.params) r.abs.heap && namesBound p r.abs.heap && gensDone r.abs && laidKept (boot_heap w.params) r.abs.heap with | true => _ | false => _) = _
    rw [hA]
  unfold openEnds
  rw [e]
  show (topFrom treeTable p w 7000 _).map _ = _
  rw [t]
  exact congrArg some (Prod.ext hB (eq_true seen))
theorem left2 : LeftO prog2 (viewP prog2) (looseP prog2) (fun _ => true) (fun s => Seen s.heap) (fun _ => True) 7000 :=
  left_p prog2 opening2 fence2 (fun w os => (congrFun (congrFun (congrFun PySem.W.Fast.te88657434543382035 prog2) w) os).trans (whole_a w os))
    (fun w os => ((congrFun (congrFun (congrFun PySem.W.Fast.te2171096225454540129 prog2) w) os).trans (whole_b w os)).trans (congrFun PySem.W.Fast.te16529798789985849782 prog2).symm)
    (fun w os => (congrFun (congrFun (congrFun PySem.W.Fast.te5793314067202188890 prog2) w) os).trans (whole_c w os))
    (fun w os => ((congrFun (congrFun (congrFun PySem.W.Fast.te10030584500623512664 prog2) w) os).trans (whole_d w os)).trans (congrFun PySem.W.Fast.te744161694371447153 ()).symm)
/-! ### the law's row over the program in figures -/
noncomputable def lawP (p : Program) : OpenLaw := { prog := p, name := Str.ofString "law", about := [Str.ofString "subset_factor"], foot := 6, most := some 63, bound := none, writes := false }
noncomputable def law2 : OpenLaw := lawP prog2
theorem row_eq : PySem.Challenge.rw_ov0095_01 = law2 := congrArg lawP pw_eq
theorem def_some : (defOf (viewP prog2) (Str.ofString "law")).isSome = true := by kernel_rfl
theorem def_name : (defOf (viewP prog2) (Str.ofString "law")).map (fun x => x.1.name) = some (Str.ofString "law") := by kernel_rfl
theorem def_the : prog2.theDef (Str.ofString "law") = (defOf (viewP prog2) (Str.ofString "law")).map (fun x => (x.1.params, x.1.body, x.1.scope)) := by kernel_rfl
theorem def_kw : (defOf (viewP prog2) (Str.ofString "law")).bind (fun x => kwWritten? x.1.params.kwonlyargs x.1.params.kw_defaults) = (defOf (viewP prog2) (Str.ofString "law")).map (fun x => x.2) := by kernel_rfl
theorem ok2 : (chainsOk (viewP prog2) && opensWell law2.row.prog && (frees law2.row.toRowW && law2.row.toRowW.within.isEmpty)) = true := by kernel_rfl
theorem bare2 : law2.row.prog.bare := ⟨rfl, rfl, rfl, rfl, rfl, by decide +kernel⟩
theorem promised2 : law2.row.toRowW.promised := ⟨[.list []], by decide +kernel, by decide +kernel⟩
theorem well2 (h : law2.row.wellSaid = true → law2.row.Holds) : law2.Holds := by
  o_law
  rename_i said
  exact h said
end
theorem mk1 {x : Str} {Gs : List Str} (h : Gs.contains x = true) : x ∈ Gs := List.contains_iff_mem.mp h
theorem mk2 {a : Addr} (h : (308 :: cals).contains a = true) : a ∈ 308 :: cals := List.contains_iff_mem.mp h
theorem len_ok {n : Nat} (h : Nat.ble n lid = true) : n ≤ lid := Nat.le_of_ble_eq_true h
section
variable {prog : Program} {w : World} {S0 : Shared} {K : Frag} {mV : Str → Option Value} {n : Nat} {H : AH} {Q : V → AH → Prop}
theorem e_law {v1 : V} (F : Fa prog w S0 K mV) (h : ∀ L q cd, Glob (mkE (fS (topS 174)) L 1151 q cd) [Str.ofString "_law_dealt", Str.ofString "range", Str.ofString "_law_deal", Str.ofString "make_factor", Str.ofString "Vector", Str.ofString "list", Str.ofString "_law_agrees", Str.ofString "subset_factor", Str.ofString "len", Str.ofString "assign_factor", Str.ofString "drop_levels", Str.ofString "relevelled", Str.ofString "_law_first_come", Str.ofString "split_by", Str.ofString "zip", Str.ofString "sorted"] → Ex prog w S0 n (mkE (fS (topS 174)) L 1151 q cd) ((Str.ofString "script", some v1) :: [(Str.ofString "cards", none), (Str.ofString "words", none), (Str.ofString "names", none), (Str.ofString "ordered", none), (Str.ofString "f", none), (Str.ofString "turn_at", none), (Str.ofString "deed", none), (Str.ofString "before", none), (Str.ofString "picked", none), (Str.ofString "later", none), (Str.ofString "notes", none), (Str.ofString "at", none), (Str.ofString "word", none), (Str.ofString "told", none), (Str.ofString "parts", none), (Str.ofString "met", none), (Str.ofString "name", none), (Str.ofString "part_x", none), (Str.ofString "number_at", none)]) (execs (fB (topS 174)) (mkE (fS (topS 174)) L 1151 q cd)) H (retQ Q)) : Cn prog w S0 (n + 1) (.ref 1151) [v1] H Q :=
  C_fn1 (more := [(Str.ofString "cards", none), (Str.ofString "words", none), (Str.ofString "names", none), (Str.ofString "ordered", none), (Str.ofString "f", none), (Str.ofString "turn_at", none), (Str.ofString "deed", none), (Str.ofString "before", none), (Str.ofString "picked", none), (Str.ofString "later", none), (Str.ofString "notes", none), (Str.ofString "at", none), (Str.ofString "word", none), (Str.ofString "told", none), (Str.ofString "parts", none), (Str.ofString "met", none), (Str.ofString "name", none), (Str.ofString "part_x", none), (Str.ofString "number_at", none)]) F.B (F.fn (1151, 174) (List.mem_of_getElem? (i := 0) rfl)) (by kernel_rfl) rfl (by kernel_rfl) (by intro fd u1 h1 h2; unfold bindArgs; rw [h1, h2]; kernel_rfl) h
theorem e_make_factor {v1 v2 v3 v4 v5 : V} (F : Fa prog w S0 K mV) (h : ∀ L q cd, Glob (mkE (fS (topS 160)) L 1068 q cd) [Str.ofString "item_texts", Str.ofString "check_distinct", Str.ofString "label_list", Str.ofString "distinct_texts", Str.ofString "codes_of", Str.ofString "integer", Str.ofString "named", Str.ofString "names_of", Str.ofString "with_levels"] → Ex prog w S0 n (mkE (fS (topS 160)) L 1068 q cd) ((Str.ofString "v", some v1) :: (Str.ofString "levels", some v2) :: (Str.ofString "labels", some v3) :: (Str.ofString "exclude", some v4) :: (Str.ofString "ordered", some v5) :: [(Str.ofString "texts", none), (Str.ofString "wanted", none), (Str.ofString "called", none), (Str.ofString "names", none), (Str.ofString "joined", none), (Str.ofString "codes", none), (Str.ofString "result", none)]) (execs (fB (topS 160)) (mkE (fS (topS 160)) L 1068 q cd)) H (retQ Q)) : Cn prog w S0 (n + 1) (.ref 1068) [v1, v2, v3, v4, v5] H Q :=
  C_fn5 (more := [(Str.ofString "texts", none), (Str.ofString "wanted", none), (Str.ofString "called", none), (Str.ofString "names", none), (Str.ofString "joined", none), (Str.ofString "codes", none), (Str.ofString "result", none)]) F.B (F.fn (1068, 160) (List.mem_of_getElem? (i := 1) rfl)) (by kernel_rfl) rfl (by kernel_rfl) (by intro fd u1 u2 u3 u4 u5 h1 h2; unfold bindArgs; rw [h1, h2]; kernel_rfl) h
theorem e_subset_factor {v1 v2 v3 : V} (F : Fa prog w S0 K mV) (h : ∀ L q cd, Glob (mkE (fS (topS 163)) L 1087 q cd) [Str.ofString "subset_any", Str.ofString "codes_alone", Str.ofString "with_levels", Str.ofString "level_texts", Str.ofString "is_ordered", Str.ofString "drop_levels"] → Ex prog w S0 n (mkE (fS (topS 163)) L 1087 q cd) ((Str.ofString "f", some v1) :: (Str.ofString "indexes", some v2) :: (Str.ofString "drop", some v3) :: [(Str.ofString "part", none), (Str.ofString "result", none)]) (execs (fB (topS 163)) (mkE (fS (topS 163)) L 1087 q cd)) H (retQ Q)) : Cn prog w S0 (n + 1) (.ref 1087) [v1, v2, v3] H Q :=
  C_fn3 (more := [(Str.ofString "part", none), (Str.ofString "result", none)]) F.B (F.fn (1087, 163) (List.mem_of_getElem? (i := 2) rfl)) (by kernel_rfl) rfl (by kernel_rfl) (by intro fd u1 u2 u3 h1 h2; unfold bindArgs; rw [h1, h2]; kernel_rfl) h
theorem e_assign_factor {v1 v2 v3 v4 : V} (F : Fa prog w S0 K mV) (h : ∀ L q cd, Glob (mkE (fS (topS 165)) L 1101 q cd) [Str.ofString "assign_any", Str.ofString "value_codes"] → Ex prog w S0 n (mkE (fS (topS 165)) L 1101 q cd) ((Str.ofString "f", some v1) :: (Str.ofString "indexes", some v2) :: (Str.ofString "value", some v3) :: (Str.ofString "notes", some v4) :: []) (execs (fB (topS 165)) (mkE (fS (topS 165)) L 1101 q cd)) H (retQ Q)) : Cn prog w S0 (n + 1) (.ref 1101) [v1, v2, v3, v4] H Q :=
  C_fn4 (more := []) F.B (F.fn (1101, 165) (List.mem_of_getElem? (i := 3) rfl)) (by kernel_rfl) rfl (by kernel_rfl) (by intro fd u1 u2 u3 u4 h1 h2; unfold bindArgs; rw [h1, h2]; kernel_rfl) h
theorem e_drop_levels {v1 : V} (F : Fa prog w S0 K mV) (h : ∀ L q cd, Glob (mkE (fS (topS 161)) L 1073 q cd) [Str.ofString "level_texts", Str.ofString "codes_in", Str.ofString "range", Str.ofString "len", Str.ofString "integer", Str.ofString "named", Str.ofString "names_of", Str.ofString "with_levels", Str.ofString "is_ordered"] → Ex prog w S0 n (mkE (fS (topS 161)) L 1073 q cd) ((Str.ofString "f", some v1) :: [(Str.ofString "texts", none), (Str.ofString "codes", none), (Str.ofString "used", none), (Str.ofString "code", none), (Str.ofString "kept", none), (Str.ofString "renewed", none), (Str.ofString "i", none), (Str.ofString "result", none)]) (execs (fB (topS 161)) (mkE (fS (topS 161)) L 1073 q cd)) H (retQ Q)) : Cn prog w S0 (n + 1) (.ref 1073) [v1] H Q :=
  C_fn1 (more := [(Str.ofString "texts", none), (Str.ofString "codes", none), (Str.ofString "used", none), (Str.ofString "code", none), (Str.ofString "kept", none), (Str.ofString "renewed", none), (Str.ofString "i", none), (Str.ofString "result", none)]) F.B (F.fn (1073, 161) (List.mem_of_getElem? (i := 4) rfl)) (by kernel_rfl) rfl (by kernel_rfl) (by intro fd u1 h1 h2; unfold bindArgs; rw [h1, h2]; kernel_rfl) h
theorem e_relevelled {v1 v2 : V} (F : Fa prog w S0 K mV) (h : ∀ L q cd, Glob (mkE (fS (topS 166)) L 1106 q cd) [Str.ofString "len", Str.ofString "level_texts", Str.ofString "distinct_texts", Str.ofString "codes_of", Str.ofString "codes_alone", Str.ofString "codes_in", Str.ofString "with_levels", Str.ofString "is_ordered"] → Ex prog w S0 n (mkE (fS (topS 166)) L 1106 q cd) ((Str.ofString "f", some v1) :: (Str.ofString "texts", some v2) :: [(Str.ofString "count", none), (Str.ofString "names", none), (Str.ofString "joined", none), (Str.ofString "result", none)]) (execs (fB (topS 166)) (mkE (fS (topS 166)) L 1106 q cd)) H (retQ Q)) : Cn prog w S0 (n + 1) (.ref 1106) [v1, v2] H Q :=
  C_fn2 (more := [(Str.ofString "count", none), (Str.ofString "names", none), (Str.ofString "joined", none), (Str.ofString "result", none)]) F.B (F.fn (1106, 166) (List.mem_of_getElem? (i := 5) rfl)) (by kernel_rfl) rfl (by kernel_rfl) (by intro fd u1 u2 h1 h2; unfold bindArgs; rw [h1, h2]; kernel_rfl) h
theorem e_split_by {v1 v2 : V} (F : Fa prog w S0 K mV) (h : ∀ L q cd, Glob (mkE (fS (topS 167)) L 1111 q cd) [Str.ofString "level_texts", Str.ofString "codes_in", Str.ofString "len", Str.ofString "range", Str.ofString "length", Str.ofString "is_factor", Str.ofString "subset_factor", Str.ofString "integer", Str.ofString "subset_any", Str.ofString "list_of"] → Ex prog w S0 n (mkE (fS (topS 167)) L 1111 q cd) ((Str.ofString "v", some v1) :: (Str.ofString "f", some v2) :: [(Str.ofString "groups", none), (Str.ofString "codes", none), (Str.ofString "count", none), (Str.ofString "i", none), (Str.ofString "parts", none), (Str.ofString "places", none)]) (execs (fB (topS 167)) (mkE (fS (topS 167)) L 1111 q cd)) H (retQ Q)) : Cn prog w S0 (n + 1) (.ref 1111) [v1, v2] H Q :=
  C_fn2 (more := [(Str.ofString "groups", none), (Str.ofString "codes", none), (Str.ofString "count", none), (Str.ofString "i", none), (Str.ofString "parts", none), (Str.ofString "places", none)]) F.B (F.fn (1111, 167) (List.mem_of_getElem? (i := 6) rfl)) (by kernel_rfl) rfl (by kernel_rfl) (by intro fd u1 u2 h1 h2; unfold bindArgs; rw [h1, h2]; kernel_rfl) h
theorem e_law_dealt {v1 : V} (F : Fa prog w S0 K mV) (h : ∀ L q cd, Glob (mkE (fS (topS 169)) L 1118 q cd) [Str.ofString "range"] → Ex prog w S0 n (mkE (fS (topS 169)) L 1118 q cd) ((Str.ofString "script", some v1) :: [(Str.ofString "cards", none), (Str.ofString "one", none), (Str.ofString "left", none), (Str.ofString "hop", none)]) (execs (fB (topS 169)) (mkE (fS (topS 169)) L 1118 q cd)) H (retQ Q)) : Cn prog w S0 (n + 1) (.ref 1118) [v1] H Q :=
  C_fn1 (more := [(Str.ofString "cards", none), (Str.ofString "one", none), (Str.ofString "left", none), (Str.ofString "hop", none)]) F.B (F.fn (1118, 169) (List.mem_of_getElem? (i := 7) rfl)) (by kernel_rfl) rfl (by kernel_rfl) (by intro fd u1 h1 h2; unfold bindArgs; rw [h1, h2]; kernel_rfl) h
theorem e_law_deal {v1 v2 : V} (F : Fa prog w S0 K mV) (h : ∀ L q cd, Glob (mkE (fS (topS 170)) L 1125 q cd) [] → Ex prog w S0 n (mkE (fS (topS 170)) L 1125 q cd) ((Str.ofString "cards", some v1) :: (Str.ofString "most", some v2) :: []) (execs (fB (topS 170)) (mkE (fS (topS 170)) L 1125 q cd)) H (retQ Q)) : Cn prog w S0 (n + 1) (.ref 1125) [v1, v2] H Q :=
  C_fn2 (more := []) F.B (F.fn (1125, 170) (List.mem_of_getElem? (i := 8) rfl)) (by kernel_rfl) rfl (by kernel_rfl) (by intro fd u1 u2 h1 h2; unfold bindArgs; rw [h1, h2]; kernel_rfl) h
theorem e_law_told_levels {v1 : V} (F : Fa prog w S0 K mV) (h : ∀ L q cd, Glob (mkE (fS (topS 171)) L 1132 q cd) [Str.ofString "list"] → Ex prog w S0 n (mkE (fS (topS 171)) L 1132 q cd) ((Str.ofString "f", some v1) :: []) (execs (fB (topS 171)) (mkE (fS (topS 171)) L 1132 q cd)) H (retQ Q)) : Cn prog w S0 (n + 1) (.ref 1132) [v1] H Q :=
  C_fn1 (more := []) F.B (F.fn (1132, 171) (List.mem_of_getElem? (i := 9) rfl)) (by kernel_rfl) rfl (by kernel_rfl) (by intro fd u1 h1 h2; unfold bindArgs; rw [h1, h2]; kernel_rfl) h
theorem e_law_agrees {v1 v2 v3 v4 : V} (F : Fa prog w S0 K mV) (h : ∀ L q cd, Glob (mkE (fS (topS 172)) L 1139 q cd) [Str.ofString "factor_texts", Str.ofString "_law_told_levels", Str.ofString "len"] → Ex prog w S0 n (mkE (fS (topS 172)) L 1139 q cd) ((Str.ofString "f", some v1) :: (Str.ofString "words", some v2) :: (Str.ofString "names", some v3) :: (Str.ofString "ordered", some v4) :: []) (execs (fB (topS 172)) (mkE (fS (topS 172)) L 1139 q cd)) H (retQ Q)) : Cn prog w S0 (n + 1) (.ref 1139) [v1, v2, v3, v4] H Q :=
  C_fn4 (more := []) F.B (F.fn (1139, 172) (List.mem_of_getElem? (i := 10) rfl)) (by kernel_rfl) rfl (by kernel_rfl) (by intro fd u1 u2 u3 u4 h1 h2; unfold bindArgs; rw [h1, h2]; kernel_rfl) h
theorem e_law_first_come {v1 : V} (F : Fa prog w S0 K mV) (h : ∀ L q cd, Glob (mkE (fS (topS 173)) L 1146 q cd) [] → Ex prog w S0 n (mkE (fS (topS 173)) L 1146 q cd) ((Str.ofString "names", some v1) :: [(Str.ofString "found", none), (Str.ofString "name", none)]) (execs (fB (topS 173)) (mkE (fS (topS 173)) L 1146 q cd)) H (retQ Q)) : Cn prog w S0 (n + 1) (.ref 1146) [v1] H Q :=
  C_fn1 (more := [(Str.ofString "found", none), (Str.ofString "name", none)]) F.B (F.fn (1146, 173) (List.mem_of_getElem? (i := 11) rfl)) (by kernel_rfl) rfl (by kernel_rfl) (by intro fd u1 h1 h2; unfold bindArgs; rw [h1, h2]; kernel_rfl) h
theorem e_item_texts {v1 : V} (F : Fa prog w S0 K mV) (h : ∀ L q cd, Glob (mkE (fS (topS 157)) L 1051 q cd) [Str.ofString "is_atomic", Str.ofString "label_texts"] → Ex prog w S0 n (mkE (fS (topS 157)) L 1051 q cd) ((Str.ofString "v", some v1) :: []) (execs (fB (topS 157)) (mkE (fS (topS 157)) L 1051 q cd)) H (retQ Q)) : Cn prog w S0 (n + 1) (.ref 1051) [v1] H Q :=
  C_fn1 (more := []) F.B (F.fn (1051, 157) (List.mem_of_getElem? (i := 12) rfl)) (by kernel_rfl) rfl (by kernel_rfl) (by intro fd u1 h1 h2; unfold bindArgs; rw [h1, h2]; kernel_rfl) h
theorem e_is_atomic {v1 : V} (F : Fa prog w S0 K mV) (h : ∀ L q cd, Glob (mkE (fS (topS 51)) L 399 q cd) [] → Ex prog w S0 n (mkE (fS (topS 51)) L 399 q cd) ((Str.ofString "v", some v1) :: []) (execs (fB (topS 51)) (mkE (fS (topS 51)) L 399 q cd)) H (retQ Q)) : Cn prog w S0 (n + 1) (.ref 399) [v1] H Q :=
  C_fn1 (more := []) F.B (F.fn (399, 51) (List.mem_of_getElem? (i := 13) rfl)) (by kernel_rfl) rfl (by kernel_rfl) (by intro fd u1 h1 h2; unfold bindArgs; rw [h1, h2]; kernel_rfl) h
theorem e_label_texts {v1 : V} (F : Fa prog w S0 K mV) (h : ∀ L q cd, Glob (mkE (fS (topS 60)) L 453 q cd) [Str.ofString "get_attr", Str.ofString "class_attr", Str.ofString "is_atomic", Str.ofString "label_texts"] → Ex prog w S0 n (mkE (fS (topS 60)) L 453 q cd) ((Str.ofString "value", some v1) :: [(Str.ofString "levels", none), (Str.ofString "texts", none)]) (execs (fB (topS 60)) (mkE (fS (topS 60)) L 453 q cd)) H (retQ Q)) : Cn prog w S0 (n + 1) (.ref 453) [v1] H Q :=
  C_fn1 (more := [(Str.ofString "levels", none), (Str.ofString "texts", none)]) F.B (F.fn (453, 60) (List.mem_of_getElem? (i := 14) rfl)) (by kernel_rfl) rfl (by kernel_rfl) (by intro fd u1 h1 h2; unfold bindArgs; rw [h1, h2]; kernel_rfl) h
theorem e_get_attr {v1 v2 : V} (F : Fa prog w S0 K mV) (h : ∀ L q cd, Glob (mkE (fS (topS 55)) L 420 q cd) [] → Ex prog w S0 n (mkE (fS (topS 55)) L 420 q cd) ((Str.ofString "v", some v1) :: (Str.ofString "name", some v2) :: []) (execs (fB (topS 55)) (mkE (fS (topS 55)) L 420 q cd)) H (retQ Q)) : Cn prog w S0 (n + 1) (.ref 420) [v1, v2] H Q :=
  C_fn2 (more := []) F.B (F.fn (420, 55) (List.mem_of_getElem? (i := 15) rfl)) (by kernel_rfl) rfl (by kernel_rfl) (by intro fd u1 u2 h1 h2; unfold bindArgs; rw [h1, h2]; kernel_rfl) h
theorem e_label_text {v1 v2 : V} (F : Fa prog w S0 K mV) (h : ∀ L q cd, Glob (mkE (fS (topS 58)) L 441 q cd) [Str.ofString "str"] → Ex prog w S0 n (mkE (fS (topS 58)) L 441 q cd) ((Str.ofString "kind", some v1) :: (Str.ofString "item", some v2) :: []) (execs (fB (topS 58)) (mkE (fS (topS 58)) L 441 q cd)) H (retQ Q)) : Cn prog w S0 (n + 1) (.ref 441) [v1, v2] H Q :=
  C_fn2 (more := []) F.B (F.fn (441, 58) (List.mem_of_getElem? (i := 16) rfl)) (by kernel_rfl) rfl (by kernel_rfl) (by intro fd u1 u2 h1 h2; unfold bindArgs; rw [h1, h2]; kernel_rfl) h
theorem e_check_distinct {v1 : V} (F : Fa prog w S0 K mV) (h : ∀ L q cd, Glob (mkE (fS (topS 159)) L 1063 q cd) [Str.ofString "range", Str.ofString "len"] → Ex prog w S0 n (mkE (fS (topS 159)) L 1063 q cd) ((Str.ofString "levels", some v1) :: [(Str.ofString "seen", none), (Str.ofString "i", none)]) (execs (fB (topS 159)) (mkE (fS (topS 159)) L 1063 q cd)) H (retQ Q)) : Cn prog w S0 (n + 1) (.ref 1063) [v1] H Q :=
  C_fn1 (more := [(Str.ofString "seen", none), (Str.ofString "i", none)]) F.B (F.fn (1063, 159) (List.mem_of_getElem? (i := 17) rfl)) (by kernel_rfl) rfl (by kernel_rfl) (by intro fd u1 h1 h2; unfold bindArgs; rw [h1, h2]; kernel_rfl) h
theorem e_label_list {v1 v2 : V} (F : Fa prog w S0 K mV) (h : ∀ L q cd, Glob (mkE (fS (topS 158)) L 1056 q cd) [Str.ofString "item_texts", Str.ofString "len", Str.ofString "range"] → Ex prog w S0 n (mkE (fS (topS 158)) L 1056 q cd) ((Str.ofString "labels", some v1) :: (Str.ofString "levels", some v2) :: [(Str.ofString "texts", none)]) (execs (fB (topS 158)) (mkE (fS (topS 158)) L 1056 q cd)) H (retQ Q)) : Cn prog w S0 (n + 1) (.ref 1056) [v1, v2] H Q :=
  C_fn2 (more := [(Str.ofString "texts", none)]) F.B (F.fn (1056, 158) (List.mem_of_getElem? (i := 18) rfl)) (by kernel_rfl) rfl (by kernel_rfl) (by intro fd u1 u2 h1 h2; unfold bindArgs; rw [h1, h2]; kernel_rfl) h
theorem e_distinct_texts {v1 : V} (F : Fa prog w S0 K mV) (h : ∀ L q cd, Glob (mkE (fS (topS 154)) L 1034 q cd) [Str.ofString "list"] → Ex prog w S0 n (mkE (fS (topS 154)) L 1034 q cd) ((Str.ofString "texts", some v1) :: [(Str.ofString "found", none), (Str.ofString "one", none)]) (execs (fB (topS 154)) (mkE (fS (topS 154)) L 1034 q cd)) H (retQ Q)) : Cn prog w S0 (n + 1) (.ref 1034) [v1] H Q :=
  C_fn1 (more := [(Str.ofString "found", none), (Str.ofString "one", none)]) F.B (F.fn (1034, 154) (List.mem_of_getElem? (i := 19) rfl)) (by kernel_rfl) rfl (by kernel_rfl) (by intro fd u1 h1 h2; unfold bindArgs; rw [h1, h2]; kernel_rfl) h
theorem e_codes_of {v1 v2 : V} (F : Fa prog w S0 K mV) (h : ∀ L q cd, Glob (mkE (fS (topS 156)) L 1044 q cd) [Str.ofString "range", Str.ofString "len"] → Ex prog w S0 n (mkE (fS (topS 156)) L 1044 q cd) ((Str.ofString "texts", some v1) :: (Str.ofString "levels", some v2) :: [(Str.ofString "places", none), (Str.ofString "i", none)]) (execs (fB (topS 156)) (mkE (fS (topS 156)) L 1044 q cd)) H (retQ Q)) : Cn prog w S0 (n + 1) (.ref 1044) [v1, v2] H Q :=
  C_fn2 (more := [(Str.ofString "places", none), (Str.ofString "i", none)]) F.B (F.fn (1044, 156) (List.mem_of_getElem? (i := 20) rfl)) (by kernel_rfl) rfl (by kernel_rfl) (by intro fd u1 u2 h1 h2; unfold bindArgs; rw [h1, h2]; kernel_rfl) h
theorem e_integer {v1 : V} (F : Fa prog w S0 K mV) (h : ∀ L q cd, Glob (mkE (fS (topS 45)) L 358 q cd) [Str.ofString "Vector", Str.ofString "list"] → Ex prog w S0 n (mkE (fS (topS 45)) L 358 q cd) ((Str.ofString "items", some v1) :: []) (execs (fB (topS 45)) (mkE (fS (topS 45)) L 358 q cd)) H (retQ Q)) : Cn prog w S0 (n + 1) (.ref 358) [v1] H Q :=
  C_fn1 (more := []) F.B (F.fn (358, 45) (List.mem_of_getElem? (i := 21) rfl)) (by kernel_rfl) rfl (by kernel_rfl) (by intro fd u1 h1 h2; unfold bindArgs; rw [h1, h2]; kernel_rfl) h
theorem e_named {v1 v2 : V} (F : Fa prog w S0 K mV) (h : ∀ L q cd, Glob (mkE (fS (topS 47)) L 372 q cd) [Str.ofString "character"] → Ex prog w S0 n (mkE (fS (topS 47)) L 372 q cd) ((Str.ofString "v", some v1) :: (Str.ofString "names", some v2) :: []) (execs (fB (topS 47)) (mkE (fS (topS 47)) L 372 q cd)) H (retQ Q)) : Cn prog w S0 (n + 1) (.ref 372) [v1, v2] H Q :=
  C_fn2 (more := []) F.B (F.fn (372, 47) (List.mem_of_getElem? (i := 22) rfl)) (by kernel_rfl) rfl (by kernel_rfl) (by intro fd u1 u2 h1 h2; unfold bindArgs; rw [h1, h2]; kernel_rfl) h
theorem e_names_of {v1 : V} (F : Fa prog w S0 K mV) (h : ∀ L q cd, Glob (mkE (fS (topS 61)) L 458 q cd) [Str.ofString "sorted", Str.ofString "dim_of", Str.ofString "len", Str.ofString "dimnames_of", Str.ofString "get_attr", Str.ofString "list"] → Ex prog w S0 n (mkE (fS (topS 61)) L 458 q cd) ((Str.ofString "v", some v1) :: [(Str.ofString "tag", none), (Str.ofString "dims", none), (Str.ofString "rows", none), (Str.ofString "names", none)]) (execs (fB (topS 61)) (mkE (fS (topS 61)) L 458 q cd)) H (retQ Q)) : Cn prog w S0 (n + 1) (.ref 458) [v1] H Q :=
  C_fn1 (more := [(Str.ofString "tag", none), (Str.ofString "dims", none), (Str.ofString "rows", none), (Str.ofString "names", none)]) F.B (F.fn (458, 61) (List.mem_of_getElem? (i := 23) rfl)) (by kernel_rfl) rfl (by kernel_rfl) (by intro fd u1 h1 h2; unfold bindArgs; rw [h1, h2]; kernel_rfl) h
theorem e_dim_of {v1 : V} (F : Fa prog w S0 K mV) (h : ∀ L q cd, Glob (mkE (fS (topS 62)) L 465 q cd) [Str.ofString "get_attr", Str.ofString "list"] → Ex prog w S0 n (mkE (fS (topS 62)) L 465 q cd) ((Str.ofString "v", some v1) :: [(Str.ofString "dims", none)]) (execs (fB (topS 62)) (mkE (fS (topS 62)) L 465 q cd)) H (retQ Q)) : Cn prog w S0 (n + 1) (.ref 465) [v1] H Q :=
  C_fn1 (more := [(Str.ofString "dims", none)]) F.B (F.fn (465, 62) (List.mem_of_getElem? (i := 24) rfl)) (by kernel_rfl) rfl (by kernel_rfl) (by intro fd u1 h1 h2; unfold bindArgs; rw [h1, h2]; kernel_rfl) h
theorem e_with_levels {v1 v2 v3 : V} (F : Fa prog w S0 K mV) (h : ∀ L q cd, Glob (mkE (fS (topS 153)) L 1027 q cd) [Str.ofString "character", Str.ofString "factor_class"] → Ex prog w S0 n (mkE (fS (topS 153)) L 1027 q cd) ((Str.ofString "v", some v1) :: (Str.ofString "texts", some v2) :: (Str.ofString "ordered", some v3) :: []) (execs (fB (topS 153)) (mkE (fS (topS 153)) L 1027 q cd)) H (retQ Q)) : Cn prog w S0 (n + 1) (.ref 1027) [v1, v2, v3] H Q :=
  C_fn3 (more := []) F.B (F.fn (1027, 153) (List.mem_of_getElem? (i := 25) rfl)) (by kernel_rfl) rfl (by kernel_rfl) (by intro fd u1 u2 u3 h1 h2; unfold bindArgs; rw [h1, h2]; kernel_rfl) h
theorem e_character {v1 : V} (F : Fa prog w S0 K mV) (h : ∀ L q cd, Glob (mkE (fS (topS 46)) L 365 q cd) [Str.ofString "Vector", Str.ofString "list"] → Ex prog w S0 n (mkE (fS (topS 46)) L 365 q cd) ((Str.ofString "items", some v1) :: []) (execs (fB (topS 46)) (mkE (fS (topS 46)) L 365 q cd)) H (retQ Q)) : Cn prog w S0 (n + 1) (.ref 365) [v1] H Q :=
  C_fn1 (more := []) F.B (F.fn (365, 46) (List.mem_of_getElem? (i := 26) rfl)) (by kernel_rfl) rfl (by kernel_rfl) (by intro fd u1 h1 h2; unfold bindArgs; rw [h1, h2]; kernel_rfl) h
theorem e_factor_class {v1 : V} (F : Fa prog w S0 K mV) (h : ∀ L q cd, Glob (mkE (fS (topS 152)) L 1020 q cd) [Str.ofString "character"] → Ex prog w S0 n (mkE (fS (topS 152)) L 1020 q cd) ((Str.ofString "ordered", some v1) :: []) (execs (fB (topS 152)) (mkE (fS (topS 152)) L 1020 q cd)) H (retQ Q)) : Cn prog w S0 (n + 1) (.ref 1020) [v1] H Q :=
  C_fn1 (more := []) F.B (F.fn (1020, 152) (List.mem_of_getElem? (i := 27) rfl)) (by kernel_rfl) rfl (by kernel_rfl) (by intro fd u1 h1 h2; unfold bindArgs; rw [h1, h2]; kernel_rfl) h
theorem e_factor_texts {v1 : V} (F : Fa prog w S0 K mV) (h : ∀ L q cd, Glob (mkE (fS (topS 151)) L 1013 q cd) [Str.ofString "level_texts", Str.ofString "codes_in"] → Ex prog w S0 n (mkE (fS (topS 151)) L 1013 q cd) ((Str.ofString "f", some v1) :: [(Str.ofString "texts", none)]) (execs (fB (topS 151)) (mkE (fS (topS 151)) L 1013 q cd)) H (retQ Q)) : Cn prog w S0 (n + 1) (.ref 1013) [v1] H Q :=
  C_fn1 (more := [(Str.ofString "texts", none)]) F.B (F.fn (1013, 151) (List.mem_of_getElem? (i := 28) rfl)) (by kernel_rfl) rfl (by kernel_rfl) (by intro fd u1 h1 h2; unfold bindArgs; rw [h1, h2]; kernel_rfl) h
theorem e_level_texts {v1 : V} (F : Fa prog w S0 K mV) (h : ∀ L q cd, Glob (mkE (fS (topS 149)) L 1003 q cd) [Str.ofString "get_attr", Str.ofString "is_atomic", Str.ofString "label_texts"] → Ex prog w S0 n (mkE (fS (topS 149)) L 1003 q cd) ((Str.ofString "f", some v1) :: [(Str.ofString "found", none)]) (execs (fB (topS 149)) (mkE (fS (topS 149)) L 1003 q cd)) H (retQ Q)) : Cn prog w S0 (n + 1) (.ref 1003) [v1] H Q :=
  C_fn1 (more := [(Str.ofString "found", none)]) F.B (F.fn (1003, 149) (List.mem_of_getElem? (i := 29) rfl)) (by kernel_rfl) rfl (by kernel_rfl) (by intro fd u1 h1 h2; unfold bindArgs; rw [h1, h2]; kernel_rfl) h
theorem e_codes_in {v1 : V} (F : Fa prog w S0 K mV) (h : ∀ L q cd, Glob (mkE (fS (topS 150)) L 1008 q cd) [Str.ofString "len", Str.ofString "level_texts"] → Ex prog w S0 n (mkE (fS (topS 150)) L 1008 q cd) ((Str.ofString "f", some v1) :: [(Str.ofString "count", none)]) (execs (fB (topS 150)) (mkE (fS (topS 150)) L 1008 q cd)) H (retQ Q)) : Cn prog w S0 (n + 1) (.ref 1008) [v1] H Q :=
  C_fn1 (more := [(Str.ofString "count", none)]) F.B (F.fn (1008, 150) (List.mem_of_getElem? (i := 30) rfl)) (by kernel_rfl) rfl (by kernel_rfl) (by intro fd u1 h1 h2; unfold bindArgs; rw [h1, h2]; kernel_rfl) h
theorem e_is_factor {v1 : V} (F : Fa prog w S0 K mV) (h : ∀ L q cd, Glob (mkE (fS (topS 147)) L 991 q cd) [Str.ofString "class_attr"] → Ex prog w S0 n (mkE (fS (topS 147)) L 991 q cd) ((Str.ofString "v", some v1) :: []) (execs (fB (topS 147)) (mkE (fS (topS 147)) L 991 q cd)) H (retQ Q)) : Cn prog w S0 (n + 1) (.ref 991) [v1] H Q :=
  C_fn1 (more := []) F.B (F.fn (991, 147) (List.mem_of_getElem? (i := 31) rfl)) (by kernel_rfl) rfl (by kernel_rfl) (by intro fd u1 h1 h2; unfold bindArgs; rw [h1, h2]; kernel_rfl) h
theorem e_class_attr {v1 : V} (F : Fa prog w S0 K mV) (h : ∀ L q cd, Glob (mkE (fS (topS 64)) L 477 q cd) [Str.ofString "get_attr", Str.ofString "list"] → Ex prog w S0 n (mkE (fS (topS 64)) L 477 q cd) ((Str.ofString "v", some v1) :: [(Str.ofString "found", none)]) (execs (fB (topS 64)) (mkE (fS (topS 64)) L 477 q cd)) H (retQ Q)) : Cn prog w S0 (n + 1) (.ref 477) [v1] H Q :=
  C_fn1 (more := [(Str.ofString "found", none)]) F.B (F.fn (477, 64) (List.mem_of_getElem? (i := 32) rfl)) (by kernel_rfl) rfl (by kernel_rfl) (by intro fd u1 h1 h2; unfold bindArgs; rw [h1, h2]; kernel_rfl) h
theorem e_is_ordered {v1 : V} (F : Fa prog w S0 K mV) (h : ∀ L q cd, Glob (mkE (fS (topS 148)) L 998 q cd) [Str.ofString "is_factor", Str.ofString "class_attr"] → Ex prog w S0 n (mkE (fS (topS 148)) L 998 q cd) ((Str.ofString "v", some v1) :: []) (execs (fB (topS 148)) (mkE (fS (topS 148)) L 998 q cd)) H (retQ Q)) : Cn prog w S0 (n + 1) (.ref 998) [v1] H Q :=
  C_fn1 (more := []) F.B (F.fn (998, 148) (List.mem_of_getElem? (i := 33) rfl)) (by kernel_rfl) rfl (by kernel_rfl) (by intro fd u1 h1 h2; unfold bindArgs; rw [h1, h2]; kernel_rfl) h
theorem e_codes_alone {v1 : V} (F : Fa prog w S0 K mV) (h : ∀ L q cd, Glob (mkE (fS (topS 162)) L 1080 q cd) [Str.ofString "integer", Str.ofString "len"] → Ex prog w S0 n (mkE (fS (topS 162)) L 1080 q cd) ((Str.ofString "f", some v1) :: [(Str.ofString "result", none), (Str.ofString "kept", none), (Str.ofString "name", none)]) (execs (fB (topS 162)) (mkE (fS (topS 162)) L 1080 q cd)) H (retQ Q)) : Cn prog w S0 (n + 1) (.ref 1080) [v1] H Q :=
  C_fn1 (more := [(Str.ofString "result", none), (Str.ofString "kept", none), (Str.ofString "name", none)]) F.B (F.fn (1080, 162) (List.mem_of_getElem? (i := 34) rfl)) (by kernel_rfl) rfl (by kernel_rfl) (by intro fd u1 h1 h2; unfold bindArgs; rw [h1, h2]; kernel_rfl) h
theorem e_subset_any {v1 v2 v3 v4 : V} (F : Fa prog w S0 K mV) (h : ∀ L q cd, Glob (mkE (fS (topS 129)) L 881 q cd) [Str.ofString "len", Str.ofString "is_vector", Str.ofString "dim_of", Str.ofString "matrix_index", Str.ofString "dimnames_of", Str.ofString "Vector", Str.ofString "result_kind", Str.ofString "items_at", Str.ofString "subset_vector"] → Ex prog w S0 n (mkE (fS (topS 129)) L 881 q cd) ((Str.ofString "v", some v1) :: (Str.ofString "indexes", some v2) :: (Str.ofString "drop", some v3) :: (Str.ofString "exact", some v4) :: [(Str.ofString "dims", none), (Str.ofString "places", none)]) (execs (fB (topS 129)) (mkE (fS (topS 129)) L 881 q cd)) H (retQ Q)) : Cn prog w S0 (n + 1) (.ref 881) [v1, v2, v3, v4] H Q :=
  C_fn4 (more := [(Str.ofString "dims", none), (Str.ofString "places", none)]) F.B (F.fn (881, 129) (List.mem_of_getElem? (i := 35) rfl)) (by kernel_rfl) rfl (by kernel_rfl) (by intro fd u1 u2 u3 u4 h1 h2; unfold bindArgs; rw [h1, h2]; kernel_rfl) h
theorem e_is_vector {v1 : V} (F : Fa prog w S0 K mV) (h : ∀ L q cd, Glob (mkE (fS (topS 50)) L 392 q cd) [Str.ofString "isinstance", Str.ofString "Vector"] → Ex prog w S0 n (mkE (fS (topS 50)) L 392 q cd) ((Str.ofString "v", some v1) :: []) (execs (fB (topS 50)) (mkE (fS (topS 50)) L 392 q cd)) H (retQ Q)) : Cn prog w S0 (n + 1) (.ref 392) [v1] H Q :=
  C_fn1 (more := []) F.B (F.fn (392, 50) (List.mem_of_getElem? (i := 36) rfl)) (by kernel_rfl) rfl (by kernel_rfl) (by intro fd u1 h1 h2; unfold bindArgs; rw [h1, h2]; kernel_rfl) h
theorem e_dimnames_of {v1 : V} (F : Fa prog w S0 K mV) (h : ∀ L q cd, Glob (mkE (fS (topS 63)) L 470 q cd) [Str.ofString "get_attr"] → Ex prog w S0 n (mkE (fS (topS 63)) L 470 q cd) ((Str.ofString "v", some v1) :: [(Str.ofString "found", none)]) (execs (fB (topS 63)) (mkE (fS (topS 63)) L 470 q cd)) H (retQ Q)) : Cn prog w S0 (n + 1) (.ref 470) [v1] H Q :=
  C_fn1 (more := [(Str.ofString "found", none)]) F.B (F.fn (470, 63) (List.mem_of_getElem? (i := 37) rfl)) (by kernel_rfl) rfl (by kernel_rfl) (by intro fd u1 h1 h2; unfold bindArgs; rw [h1, h2]; kernel_rfl) h
theorem e_is_matrix_index {v1 v2 : V} (F : Fa prog w S0 K mV) (h : ∀ L q cd, Glob (mkE (fS (topS 106)) L 734 q cd) [Str.ofString "dim_of", Str.ofString "len"] → Ex prog w S0 n (mkE (fS (topS 106)) L 734 q cd) ((Str.ofString "ix", some v1) :: (Str.ofString "dims", some v2) :: [(Str.ofString "shape", none)]) (execs (fB (topS 106)) (mkE (fS (topS 106)) L 734 q cd)) H (retQ Q)) : Cn prog w S0 (n + 1) (.ref 734) [v1, v2] H Q :=
  C_fn2 (more := [(Str.ofString "shape", none)]) F.B (F.fn (734, 106) (List.mem_of_getElem? (i := 38) rfl)) (by kernel_rfl) rfl (by kernel_rfl) (by intro fd u1 u2 h1 h2; unfold bindArgs; rw [h1, h2]; kernel_rfl) h
theorem e_subset_vector {v1 v2 : V} (F : Fa prog w S0 K mV) (h : ∀ L q cd, Glob (mkE (fS (topS 117)) L 803 q cd) [Str.ofString "names_of", Str.ofString "positions", Str.ofString "len", Str.ofString "Vector", Str.ofString "result_kind", Str.ofString "items_at", Str.ofString "named"] → Ex prog w S0 n (mkE (fS (topS 117)) L 803 q cd) ((Str.ofString "v", some v1) :: (Str.ofString "ix", some v2) :: [(Str.ofString "names", none), (Str.ofString "places", none), (Str.ofString "result", none)]) (execs (fB (topS 117)) (mkE (fS (topS 117)) L 803 q cd)) H (retQ Q)) : Cn prog w S0 (n + 1) (.ref 803) [v1, v2] H Q :=
  C_fn2 (more := [(Str.ofString "names", none), (Str.ofString "places", none), (Str.ofString "result", none)]) F.B (F.fn (803, 117) (List.mem_of_getElem? (i := 39) rfl)) (by kernel_rfl) rfl (by kernel_rfl) (by intro fd u1 u2 h1 h2; unfold bindArgs; rw [h1, h2]; kernel_rfl) h
theorem e_positions {v1 v2 v3 v4 : V} (F : Fa prog w S0 K mV) (h : ∀ L q cd, Glob (mkE (fS (topS 103)) L 713 q cd) [Str.ofString "list", Str.ofString "range", Str.ofString "whole_places", Str.ofString "whole_subscripts"] → Ex prog w S0 n (mkE (fS (topS 103)) L 713 q cd) ((Str.ofString "ix", some v1) :: (Str.ofString "n", some v2) :: (Str.ofString "names", some v3) :: (Str.ofString "extend", some v4) :: [(Str.ofString "kind", none)]) (execs (fB (topS 103)) (mkE (fS (topS 103)) L 713 q cd)) H (retQ Q)) : Cn prog w S0 (n + 1) (.ref 713) [v1, v2, v3, v4] H Q :=
  C_fn4 (more := [(Str.ofString "kind", none)]) F.B (F.fn (713, 103) (List.mem_of_getElem? (i := 40) rfl)) (by kernel_rfl) rfl (by kernel_rfl) (by intro fd u1 u2 u3 u4 h1 h2; unfold bindArgs; rw [h1, h2]; kernel_rfl) h
theorem e_whole_subscripts {v1 : V} (F : Fa prog w S0 K mV) (h : ∀ L q cd, Glob (mkE (fS (topS 97)) L 673 q cd) [] → Ex prog w S0 n (mkE (fS (topS 97)) L 673 q cd) ((Str.ofString "ix", some v1) :: [(Str.ofString "found", none), (Str.ofString "item", none)]) (execs (fB (topS 97)) (mkE (fS (topS 97)) L 673 q cd)) H (retQ Q)) : Cn prog w S0 (n + 1) (.ref 673) [v1] H Q :=
  C_fn1 (more := [(Str.ofString "found", none), (Str.ofString "item", none)]) F.B (F.fn (673, 97) (List.mem_of_getElem? (i := 41) rfl)) (by kernel_rfl) rfl (by kernel_rfl) (by intro fd u1 h1 h2; unfold bindArgs; rw [h1, h2]; kernel_rfl) h
theorem e_whole_places {v1 v2 : V} (F : Fa prog w S0 K mV) (h : ∀ L q cd, Glob (mkE (fS (topS 99)) L 685 q cd) [Str.ofString "len", Str.ofString "range"] → Ex prog w S0 n (mkE (fS (topS 99)) L 685 q cd) ((Str.ofString "items", some v1) :: (Str.ofString "n", some v2) :: [(Str.ofString "places", none), (Str.ofString "left_out", none), (Str.ofString "lacks", none), (Str.ofString "item", none)]) (execs (fB (topS 99)) (mkE (fS (topS 99)) L 685 q cd)) H (retQ Q)) : Cn prog w S0 (n + 1) (.ref 685) [v1, v2] H Q :=
  C_fn2 (more := [(Str.ofString "places", none), (Str.ofString "left_out", none), (Str.ofString "lacks", none), (Str.ofString "item", none)]) F.B (F.fn (685, 99) (List.mem_of_getElem? (i := 42) rfl)) (by kernel_rfl) rfl (by kernel_rfl) (by intro fd u1 u2 h1 h2; unfold bindArgs; rw [h1, h2]; kernel_rfl) h
theorem e_items_at {v1 v2 : V} (F : Fa prog w S0 K mV) (h : ∀ L q cd, Glob (mkE (fS (topS 115)) L 789 q cd) [Str.ofString "len", Str.ofString "lacking_item"] → Ex prog w S0 n (mkE (fS (topS 115)) L 789 q cd) ((Str.ofString "v", some v1) :: (Str.ofString "places", some v2) :: [(Str.ofString "found", none), (Str.ofString "n", none), (Str.ofString "place", none)]) (execs (fB (topS 115)) (mkE (fS (topS 115)) L 789 q cd)) H (retQ Q)) : Cn prog w S0 (n + 1) (.ref 789) [v1, v2] H Q :=
  C_fn2 (more := [(Str.ofString "found", none), (Str.ofString "n", none), (Str.ofString "place", none)]) F.B (F.fn (789, 115) (List.mem_of_getElem? (i := 43) rfl)) (by kernel_rfl) rfl (by kernel_rfl) (by intro fd u1 u2 h1 h2; unfold bindArgs; rw [h1, h2]; kernel_rfl) h
theorem e_lacking_item {v1 : V} (F : Fa prog w S0 K mV) (h : ∀ L q cd, Glob (mkE (fS (topS 111)) L 761 q cd) [] → Ex prog w S0 n (mkE (fS (topS 111)) L 761 q cd) ((Str.ofString "kind", some v1) :: []) (execs (fB (topS 111)) (mkE (fS (topS 111)) L 761 q cd)) H (retQ Q)) : Cn prog w S0 (n + 1) (.ref 761) [v1] H Q :=
  C_fn1 (more := []) F.B (F.fn (761, 111) (List.mem_of_getElem? (i := 44) rfl)) (by kernel_rfl) rfl (by kernel_rfl) (by intro fd u1 h1 h2; unfold bindArgs; rw [h1, h2]; kernel_rfl) h
theorem e_result_kind {v1 : V} (F : Fa prog w S0 K mV) (h : ∀ L q cd, Glob (mkE (fS (topS 114)) L 782 q cd) [] → Ex prog w S0 n (mkE (fS (topS 114)) L 782 q cd) ((Str.ofString "kind", some v1) :: []) (execs (fB (topS 114)) (mkE (fS (topS 114)) L 782 q cd)) H (retQ Q)) : Cn prog w S0 (n + 1) (.ref 782) [v1] H Q :=
  C_fn1 (more := []) F.B (F.fn (782, 114) (List.mem_of_getElem? (i := 45) rfl)) (by kernel_rfl) rfl (by kernel_rfl) (by intro fd u1 h1 h2; unfold bindArgs; rw [h1, h2]; kernel_rfl) h
theorem e_value_codes {v1 v2 v3 : V} (F : Fa prog w S0 K mV) (h : ∀ L q cd, Glob (mkE (fS (topS 164)) L 1094 q cd) [Str.ofString "item_texts", Str.ofString "codes_of", Str.ofString "level_texts", Str.ofString "range", Str.ofString "len", Str.ofString "integer"] → Ex prog w S0 n (mkE (fS (topS 164)) L 1094 q cd) ((Str.ofString "f", some v1) :: (Str.ofString "value", some v2) :: (Str.ofString "notes", some v3) :: [(Str.ofString "texts", none), (Str.ofString "codes", none), (Str.ofString "i", none)]) (execs (fB (topS 164)) (mkE (fS (topS 164)) L 1094 q cd)) H (retQ Q)) : Cn prog w S0 (n + 1) (.ref 1094) [v1, v2, v3] H Q :=
  C_fn3 (more := [(Str.ofString "texts", none), (Str.ofString "codes", none), (Str.ofString "i", none)]) F.B (F.fn (1094, 164) (List.mem_of_getElem? (i := 46) rfl)) (by kernel_rfl) rfl (by kernel_rfl) (by intro fd u1 u2 u3 h1 h2; unfold bindArgs; rw [h1, h2]; kernel_rfl) h
theorem e_assign_any {v1 v2 v3 v4 : V} (F : Fa prog w S0 K mV) (h : ∀ L q cd, Glob (mkE (fS (topS 145)) L 984 q cd) [Str.ofString "assign_any", Str.ofString "is_vector", Str.ofString "len", Str.ofString "assign_vector", Str.ofString "dim_of", Str.ofString "matrix_index", Str.ofString "dimnames_of", Str.ofString "assign_places"] → Ex prog w S0 n (mkE (fS (topS 145)) L 984 q cd) ((Str.ofString "v", some v1) :: (Str.ofString "indexes", some v2) :: (Str.ofString "value", some v3) :: (Str.ofString "notes", some v4) :: [(Str.ofString "dims", none), (Str.ofString "places", none)]) (execs (fB (topS 145)) (mkE (fS (topS 145)) L 984 q cd)) H (retQ Q)) : Cn prog w S0 (n + 1) (.ref 984) [v1, v2, v3, v4] H Q :=
  C_fn4 (more := [(Str.ofString "dims", none), (Str.ofString "places", none)]) F.B (F.fn (984, 145) (List.mem_of_getElem? (i := 47) rfl)) (by kernel_rfl) rfl (by kernel_rfl) (by intro fd u1 u2 u3 u4 h1 h2; unfold bindArgs; rw [h1, h2]; kernel_rfl) h
theorem e_assign_vector {v1 v2 v3 v4 : V} (F : Fa prog w S0 K mV) (h : ∀ L q cd, Glob (mkE (fS (topS 141)) L 958 q cd) [Str.ofString "length", Str.ofString "is_vector", Str.ofString "result_kind", Str.ofString "Vector", Str.ofString "positions", Str.ofString "len", Str.ofString "names_of", Str.ofString "is_list_kind", Str.ofString "assign_places"] → Ex prog w S0 n (mkE (fS (topS 141)) L 958 q cd) ((Str.ofString "v", some v1) :: (Str.ofString "ix", some v2) :: (Str.ofString "value", some v3) :: (Str.ofString "notes", some v4) :: [(Str.ofString "kind", none), (Str.ofString "places", none), (Str.ofString "added", none)]) (execs (fB (topS 141)) (mkE (fS (topS 141)) L 958 q cd)) H (retQ Q)) : Cn prog w S0 (n + 1) (.ref 958) [v1, v2, v3, v4] H Q :=
  C_fn4 (more := [(Str.ofString "kind", none), (Str.ofString "places", none), (Str.ofString "added", none)]) F.B (F.fn (958, 141) (List.mem_of_getElem? (i := 48) rfl)) (by kernel_rfl) rfl (by kernel_rfl) (by intro fd u1 u2 u3 u4 h1 h2; unfold bindArgs; rw [h1, h2]; kernel_rfl) h
theorem e_assign_places {v1 v2 v3 v4 v5 : V} (F : Fa prog w S0 K mV) (h : ∀ L q cd, Glob (mkE (fS (topS 140)) L 951 q cd) [Str.ofString "names_of", Str.ofString "value_vector", Str.ofString "check_places", Str.ofString "assigned_kind", Str.ofString "len", Str.ofString "raised", Str.ofString "converted_items", Str.ofString "first_count", Str.ofString "put_items"] → Ex prog w S0 n (mkE (fS (topS 140)) L 951 q cd) ((Str.ofString "v", some v1) :: (Str.ofString "places", some v2) :: (Str.ofString "added", some v3) :: (Str.ofString "value", some v4) :: (Str.ofString "notes", some v5) :: [(Str.ofString "names", none), (Str.ofString "kind", none), (Str.ofString "result", none), (Str.ofString "items", none), (Str.ofString "count", none)]) (execs (fB (topS 140)) (mkE (fS (topS 140)) L 951 q cd)) H (retQ Q)) : Cn prog w S0 (n + 1) (.ref 951) [v1, v2, v3, v4, v5] H Q :=
  C_fn5 (more := [(Str.ofString "names", none), (Str.ofString "kind", none), (Str.ofString "result", none), (Str.ofString "items", none), (Str.ofString "count", none)]) F.B (F.fn (951, 140) (List.mem_of_getElem? (i := 49) rfl)) (by kernel_rfl) rfl (by kernel_rfl) (by intro fd u1 u2 u3 u4 u5 h1 h2; unfold bindArgs; rw [h1, h2]; kernel_rfl) h
theorem e_value_vector {v1 v2 : V} (F : Fa prog w S0 K mV) (h : ∀ L q cd, Glob (mkE (fS (topS 133)) L 902 q cd) [Str.ofString "is_vector", Str.ofString "is_list_kind", Str.ofString "Vector"] → Ex prog w S0 n (mkE (fS (topS 133)) L 902 q cd) ((Str.ofString "value", some v1) :: (Str.ofString "target", some v2) :: []) (execs (fB (topS 133)) (mkE (fS (topS 133)) L 902 q cd)) H (retQ Q)) : Cn prog w S0 (n + 1) (.ref 902) [v1, v2] H Q :=
  C_fn2 (more := []) F.B (F.fn (902, 133) (List.mem_of_getElem? (i := 50) rfl)) (by kernel_rfl) rfl (by kernel_rfl) (by intro fd u1 u2 h1 h2; unfold bindArgs; rw [h1, h2]; kernel_rfl) h
theorem e_check_places {v1 v2 : V} (F : Fa prog w S0 K mV) (h : ∀ L q cd, Glob (mkE (fS (topS 137)) L 930 q cd) [Str.ofString "len"] → Ex prog w S0 n (mkE (fS (topS 137)) L 930 q cd) ((Str.ofString "places", some v1) :: (Str.ofString "value", some v2) :: [(Str.ofString "place", none)]) (execs (fB (topS 137)) (mkE (fS (topS 137)) L 930 q cd)) H (retQ Q)) : Cn prog w S0 (n + 1) (.ref 930) [v1, v2] H Q :=
  C_fn2 (more := [(Str.ofString "place", none)]) F.B (F.fn (930, 137) (List.mem_of_getElem? (i := 51) rfl)) (by kernel_rfl) rfl (by kernel_rfl) (by intro fd u1 u2 h1 h2; unfold bindArgs; rw [h1, h2]; kernel_rfl) h
theorem e_assigned_kind {v1 v2 : V} (F : Fa prog w S0 K mV) (h : ∀ L q cd, Glob (mkE (fS (topS 134)) L 909 q cd) [Str.ofString "common_kind", Str.ofString "result_kind"] → Ex prog w S0 n (mkE (fS (topS 134)) L 909 q cd) ((Str.ofString "v", some v1) :: (Str.ofString "value", some v2) :: []) (execs (fB (topS 134)) (mkE (fS (topS 134)) L 909 q cd)) H (retQ Q)) : Cn prog w S0 (n + 1) (.ref 909) [v1, v2] H Q :=
  C_fn2 (more := []) F.B (F.fn (909, 134) (List.mem_of_getElem? (i := 52) rfl)) (by kernel_rfl) rfl (by kernel_rfl) (by intro fd u1 u2 h1 h2; unfold bindArgs; rw [h1, h2]; kernel_rfl) h
theorem e_common_kind {v1 : V} (F : Fa prog w S0 K mV) (h : ∀ L q cd, Glob (mkE (fS (topS 79)) L 558 q cd) [Str.ofString "max", Str.ofString "kind_order"] → Ex prog w S0 n (mkE (fS (topS 79)) L 558 q cd) ((Str.ofString "kinds", some v1) :: [(Str.ofString "names", none), (Str.ofString "most", none), (Str.ofString "kind", none)]) (execs (fB (topS 79)) (mkE (fS (topS 79)) L 558 q cd)) H (retQ Q)) : Cn prog w S0 (n + 1) (.ref 558) [v1] H Q :=
  C_fn1 (more := [(Str.ofString "names", none), (Str.ofString "most", none), (Str.ofString "kind", none)]) F.B (F.fn (558, 79) (List.mem_of_getElem? (i := 53) rfl)) (by kernel_rfl) rfl (by kernel_rfl) (by intro fd u1 h1 h2; unfold bindArgs; rw [h1, h2]; kernel_rfl) h
theorem e_kind_order {v1 : V} (F : Fa prog w S0 K mV) (h : ∀ L q cd, Glob (mkE (fS (topS 78)) L 551 q cd) [] → Ex prog w S0 n (mkE (fS (topS 78)) L 551 q cd) ((Str.ofString "kind", some v1) :: [(Str.ofString "kinds", none)]) (execs (fB (topS 78)) (mkE (fS (topS 78)) L 551 q cd)) H (retQ Q)) : Cn prog w S0 (n + 1) (.ref 551) [v1] H Q :=
  C_fn1 (more := [(Str.ofString "kinds", none)]) F.B (F.fn (551, 78) (List.mem_of_getElem? (i := 54) rfl)) (by kernel_rfl) rfl (by kernel_rfl) (by intro fd u1 h1 h2; unfold bindArgs; rw [h1, h2]; kernel_rfl) h
theorem e_raised {v1 v2 v3 : V} (F : Fa prog w S0 K mV) (h : ∀ L q cd, Glob (mkE (fS (topS 132)) L 895 q cd) [Str.ofString "own", Str.ofString "dict", Str.ofString "Vector", Str.ofString "list", Str.ofString "converted_items"] → Ex prog w S0 n (mkE (fS (topS 132)) L 895 q cd) ((Str.ofString "v", some v1) :: (Str.ofString "kind", some v2) :: (Str.ofString "notes", some v3) :: [(Str.ofString "attrs", none)]) (execs (fB (topS 132)) (mkE (fS (topS 132)) L 895 q cd)) H (retQ Q)) : Cn prog w S0 (n + 1) (.ref 895) [v1, v2, v3] H Q :=
  C_fn3 (more := [(Str.ofString "attrs", none)]) F.B (F.fn (895, 132) (List.mem_of_getElem? (i := 55) rfl)) (by kernel_rfl) rfl (by kernel_rfl) (by intro fd u1 u2 u3 h1 h2; unfold bindArgs; rw [h1, h2]; kernel_rfl) h
theorem e_own {v1 : V} (F : Fa prog w S0 K mV) (h : ∀ L q cd, Glob (mkE (fS (topS 52)) L 406 q cd) [] → Ex prog w S0 n (mkE (fS (topS 52)) L 406 q cd) ((Str.ofString "v", some v1) :: []) (execs (fB (topS 52)) (mkE (fS (topS 52)) L 406 q cd)) H (retQ Q)) : Cn prog w S0 (n + 1) (.ref 406) [v1] H Q :=
  C_fn1 (more := []) F.B (F.fn (406, 52) (List.mem_of_getElem? (i := 56) rfl)) (by kernel_rfl) rfl (by kernel_rfl) (by intro fd u1 h1 h2; unfold bindArgs; rw [h1, h2]; kernel_rfl) h
theorem e_converted_items {v1 v2 v3 : V} (F : Fa prog w S0 K mV) (h : ∀ L q cd, Glob (mkE (fS (topS 131)) L 888 q cd) [Str.ofString "is_list_kind"] → Ex prog w S0 n (mkE (fS (topS 131)) L 888 q cd) ((Str.ofString "v", some v1) :: (Str.ofString "kind", some v2) :: (Str.ofString "notes", some v3) :: []) (execs (fB (topS 131)) (mkE (fS (topS 131)) L 888 q cd)) H (retQ Q)) : Cn prog w S0 (n + 1) (.ref 888) [v1, v2, v3] H Q :=
  C_fn3 (more := []) F.B (F.fn (888, 131) (List.mem_of_getElem? (i := 57) rfl)) (by kernel_rfl) rfl (by kernel_rfl) (by intro fd u1 u2 u3 h1 h2; unfold bindArgs; rw [h1, h2]; kernel_rfl) h
theorem e_first_count {v1 : V} (F : Fa prog w S0 K mV) (h : ∀ L q cd, Glob (mkE (fS (topS 138)) L 937 q cd) [] → Ex prog w S0 n (mkE (fS (topS 138)) L 937 q cd) ((Str.ofString "places", some v1) :: [(Str.ofString "count", none), (Str.ofString "place", none)]) (execs (fB (topS 138)) (mkE (fS (topS 138)) L 937 q cd)) H (retQ Q)) : Cn prog w S0 (n + 1) (.ref 937) [v1] H Q :=
  C_fn1 (more := [(Str.ofString "count", none), (Str.ofString "place", none)]) F.B (F.fn (937, 138) (List.mem_of_getElem? (i := 58) rfl)) (by kernel_rfl) rfl (by kernel_rfl) (by intro fd u1 h1 h2; unfold bindArgs; rw [h1, h2]; kernel_rfl) h
theorem e_put_items {v1 v2 v3 : V} (F : Fa prog w S0 K mV) (h : ∀ L q cd, Glob (mkE (fS (topS 136)) L 923 q cd) [Str.ofString "len", Str.ofString "is_list_kind", Str.ofString "range", Str.ofString "share"] → Ex prog w S0 n (mkE (fS (topS 136)) L 923 q cd) ((Str.ofString "v", some v1) :: (Str.ofString "places", some v2) :: (Str.ofString "items", some v3) :: [(Str.ofString "count", none), (Str.ofString "listed", none), (Str.ofString "i", none), (Str.ofString "item", none)]) (execs (fB (topS 136)) (mkE (fS (topS 136)) L 923 q cd)) H (retQ Q)) : Cn prog w S0 (n + 1) (.ref 923) [v1, v2, v3] H Q :=
  C_fn3 (more := [(Str.ofString "count", none), (Str.ofString "listed", none), (Str.ofString "i", none), (Str.ofString "item", none)]) F.B (F.fn (923, 136) (List.mem_of_getElem? (i := 59) rfl)) (by kernel_rfl) rfl (by kernel_rfl) (by intro fd u1 u2 u3 h1 h2; unfold bindArgs; rw [h1, h2]; kernel_rfl) h
theorem e_is_list_kind {v1 : V} (F : Fa prog w S0 K mV) (h : ∀ L q cd, Glob (mkE (fS (topS 112)) L 768 q cd) [] → Ex prog w S0 n (mkE (fS (topS 112)) L 768 q cd) ((Str.ofString "kind", some v1) :: []) (execs (fB (topS 112)) (mkE (fS (topS 112)) L 768 q cd)) H (retQ Q)) : Cn prog w S0 (n + 1) (.ref 768) [v1] H Q :=
  C_fn1 (more := []) F.B (F.fn (768, 112) (List.mem_of_getElem? (i := 60) rfl)) (by kernel_rfl) rfl (by kernel_rfl) (by intro fd u1 h1 h2; unfold bindArgs; rw [h1, h2]; kernel_rfl) h
theorem e_length {v1 : V} (F : Fa prog w S0 K mV) (h : ∀ L q cd, Glob (mkE (fS (topS 49)) L 385 q cd) [Str.ofString "isinstance", Str.ofString "Vector", Str.ofString "len"] → Ex prog w S0 n (mkE (fS (topS 49)) L 385 q cd) ((Str.ofString "v", some v1) :: [(Str.ofString "kind", none)]) (execs (fB (topS 49)) (mkE (fS (topS 49)) L 385 q cd)) H (retQ Q)) : Cn prog w S0 (n + 1) (.ref 385) [v1] H Q :=
  C_fn1 (more := [(Str.ofString "kind", none)]) F.B (F.fn (385, 49) (List.mem_of_getElem? (i := 61) rfl)) (by kernel_rfl) rfl (by kernel_rfl) (by intro fd u1 h1 h2; unfold bindArgs; rw [h1, h2]; kernel_rfl) h
theorem e_share {v1 : V} (F : Fa prog w S0 K mV) (h : ∀ L q cd, Glob (mkE (fS (topS 53)) L 413 q cd) [Str.ofString "isinstance", Str.ofString "Vector"] → Ex prog w S0 n (mkE (fS (topS 53)) L 413 q cd) ((Str.ofString "v", some v1) :: []) (execs (fB (topS 53)) (mkE (fS (topS 53)) L 413 q cd)) H (retQ Q)) : Cn prog w S0 (n + 1) (.ref 413) [v1] H Q :=
  C_fn1 (more := []) F.B (F.fn (413, 53) (List.mem_of_getElem? (i := 62) rfl)) (by kernel_rfl) rfl (by kernel_rfl) (by intro fd u1 h1 h2; unfold bindArgs; rw [h1, h2]; kernel_rfl) h
end
section
variable {prog : Program} {w : World} {S0 : Shared} {K : Frag} {G : List (Str × V)} {n : Nat} {env : Env} {ρ : Rho} {H : AH}
variable {scope : Scope} {x : Str} {elt c : Expr} {ρc : Rho} {Gs : List Str} {Q : List V → AH → Prop} {v : V} {xs : List V} {Inv : AH → Prop}

theorem take_succ_map (f : V → V) (xs : List V) (i : Nat) (y : V) (h : xs[i]? = some y) : (xs.take i).map f ++ [f y] = (xs.take (i + 1)).map f := by
  rw [List.take_add_one, h]; simp
theorem Comp_map (f : V → V) (hit : It prog w S0 n v H xs Inv) (hinv : Inv H) (hl : xs.length ≤ lid)
    (turn : ∀ (i : Nat) (y : V) (C : Addr), xs[i]? = some y → Glob (cE scope C env) Gs → EvV prog w S0 n (cE scope C env) ((x, some y) :: ρc) elt H fun z H'' => z = f y ∧ H'' = H) (fin : Q (xs.map f) H) : CompW prog w S0 n env ρc Gs scope x [] elt Q v H :=
  ⟨xs, Inv, fun i ys H' => H' = H ∧ ys = (xs.take i).map f, hit, hl, ⟨rfl, rfl⟩, fun _ _ _ h => h.1 ▸ hinv, fun i y ys H' C hy ⟨h1, h2⟩ gb => by
    subst h1
    show EvV prog w S0 n (cE scope C env) _ elt _ fun z H'' => H'' = H' ∧ ys ++ [z] = (xs.take (i + 1)).map f
    exact (turn i y C hy gb).mono fun z H'' e => ⟨e.2, by rw [h2, e.1, take_succ_map f xs i y hy]⟩, fun ys H' ⟨h1, h2⟩ => by
    rw [h1, h2, List.take_length]; exact fin⟩
theorem take_succ_filter (p : V → Bool) (f : V → V) (xs : List V) (i : Nat) (y : V) (h : xs[i]? = some y) : ((xs.take (i + 1)).filter p).map f = ((xs.take i).filter p).map f ++ if p y then [f y] else [] := by
  rw [List.take_add_one, h]
  simp only [Option.toList_some, List.filter_append, List.map_append]
  congr 1
  cases q : p y <;> simp [q]
theorem Comp_filter (p : V → Bool) (f : V → V) (hit : It prog w S0 n v H xs Inv) (hinv : Inv H) (hl : xs.length ≤ lid)
    (turn : ∀ (i : Nat) (y : V) (C : Addr), xs[i]? = some y → Glob (cE scope C env) Gs → EvT prog w S0 n (cE scope C env) ((x, some y) :: ρc) c H fun b H' => b = p y ∧ H' = H ∧ (p y = true → EvV prog w S0 n (cE scope C env) ((x, some y) :: ρc) elt H fun z H'' => z = f y ∧ H'' = H)) (fin : Q ((xs.filter p).map f) H) :
    CompW prog w S0 n env ρc Gs scope x [c] elt Q v H :=
  ⟨xs, Inv, fun i ys H' => H' = H ∧ ys = ((xs.take i).filter p).map f, hit, hl, ⟨rfl, rfl⟩, fun _ _ _ h => h.1 ▸ hinv, fun i y ys H' C hy ⟨h1, h2⟩ gb => by
    subst h1
    show EvT prog w S0 n (cE scope C env) _ c _ fun b H₁ => if b = true then EvV prog w S0 n (cE scope C env) _ elt H₁ fun z H'' => H'' = H' ∧ ys ++ [z] = ((xs.take (i + 1)).filter p).map f else H₁ = H' ∧ ys = ((xs.take (i + 1)).filter p).map f
    refine (turn i y C hy gb).mono fun b H₁ e => ?_
    obtain ⟨e1, e2, e3⟩ := e
    subst e2
    cases q : p y with
    | true =>
      rw [e1, q, if_pos rfl]
      exact (e3 q).mono fun z H'' e => ⟨e.2, by rw [h2, e.1, take_succ_filter p f xs i y hy, q, if_pos rfl]⟩
    | false =>
      rw [e1, q, if_neg (by decide)]
      exact ⟨rfl, by rw [h2, take_succ_filter p f xs i y hy, q, if_neg (by decide), List.append_nil]⟩, fun ys H' ⟨h1, h2⟩ => by
    rw [h1, h2, List.take_length]; exact fin⟩
theorem Comp_ix (zs : List V) (hz : zs.length = xs.length) (hit : It prog w S0 n v H xs Inv) (hinv : Inv H) (hl : xs.length ≤ lid)
    (turn : ∀ (i : Nat) (y : V) (C : Addr), xs[i]? = some y → Glob (cE scope C env) Gs → EvV prog w S0 n (cE scope C env) ((x, some y) :: ρc) elt H fun z H'' => zs[i]? = some z ∧ H'' = H) (fin : Q zs H) : CompW prog w S0 n env ρc Gs scope x [] elt Q v H :=
  ⟨xs, Inv, fun i ys H' => H' = H ∧ ys = zs.take i, hit, hl, ⟨rfl, rfl⟩, fun _ _ _ h => h.1 ▸ hinv, fun i y ys H' C hy ⟨h1, h2⟩ gb => by
    subst h1
    show EvV prog w S0 n (cE scope C env) _ elt _ fun z H'' => H'' = H' ∧ ys ++ [z] = zs.take (i + 1)
    exact (turn i y C hy gb).mono fun z H'' e => ⟨e.2, by rw [h2, List.take_add_one, e.1]; rfl⟩, fun ys H' ⟨h1, h2⟩ => by
    rw [h1, h2, ← hz, List.take_length]; exact fin⟩
end
theorem AH.set_set (H : AH) (a : Addr) (o o' : O) : (H.set a o).set a o' = H.set a o' := by
  funext b; unfold AH.set; split <;> rfl
theorem AH.set_get {H : AH} {a : Addr} {o : O} (h : H a = some o) : H.set a o = H := by
  funext b; unfold AH.set; split
  · rename_i e; rw [e, h]
  · rfl
theorem AH.set_comm (H : AH) {a b : Addr} (h : a ≠ b) (o o' : O) : (H.set a o).set b o' = (H.set b o').set a o := by
  funext c; unfold AH.set
  by_cases h1 : c = b
  · subst h1; simp [Ne.symm h]
  · simp [h1]
/-- without the object at a -/
noncomputable def AH.del (H : AH) (a : Addr) : AH := fun b => if b = a then none else H b
theorem AH.del_le (H : AH) (a : Addr) : (H.del a).le H := fun b o e => by
  unfold AH.del at e; split at e
  · cases e
  · exact e
theorem AH.del_same (H : AH) (a : Addr) : H.del a a = none := by simp [AH.del]
theorem AH.del_ne (H : AH) {a b : Addr} (h : b ≠ a) : H.del a b = H b := by simp [AH.del, h]
theorem AH.del_set {H : AH} {a : Addr} {o : O} (h : H a = some o) : (H.del a).set a o = H := by
  funext b; unfold AH.set AH.del; split
  · rename_i e; rw [e, h]
  · rfl
section
variable {prog : Program} {w : World} {S0 : Shared} {K : Frag} {G : List (Str × V)} {n : Nat} {env : Env} {ρ : Rho} {H : AH}

/-- a loop over the keys of a dict that stays as it is -/
theorem X_forD {x : Str} {p pos : Pos} {iter : Expr} {body : List Stmt} {Q : Flow → Rho → AH → Prop} (B : Bs prog w S0 K G) (hs : ∀ y, foldedSetIterable iter env y = pure y)
    (h : EvV prog w S0 n env ρ iter H fun v H₁ => ∃ d kvs J, v = .ref d ∧ H₁ d = some (.sdict kvs) ∧ J 0 ρ (H₁.del d) ∧
      (∀ (i : Nat) (y : Str × V) ρ' H', kvs[i]? = some y → J i ρ' H' → ∃ ρ'', Up x (.str y.1) ρ' ρ'' ∧ Ex prog w S0 n env ρ'' (execs body env) H' (turnQ J i fun _ _ _ => False)) ∧ (∀ ρ' H', J kvs.length ρ' H' → Q .next ρ' (H'.set d (.sdict kvs)))) :
    Ex prog w S0 n env ρ (exec (.For (.Name x p) iter body [] pos) env) H Q := .mk <| fun A F s hr o f => by
  refine wpAny_For (bot (h.run A F s hr f) fun u s₁ ⟨H₁, f₀, d, kvs, J, hv, hd, hJ0, turn, fin⟩ => ?_) hs
  rw [abs_ref hv]
  obtain ⟨od, hod, r, hdict, hr1, hr2⟩ := f₀.st.obj hd
  obtain ⟨ep, hat⟩ := (Heap.dictOf_iff.mpr ⟨od, hod, hdict⟩ : s₁.heap.DictOf (PySem.strKind prog w) d r).dictAt
  have dF : F d = none := (f₀.st.hp d _ hd).1
  have dL : d ≠ env.locals := fun e => by have := f₀.loH; rw [← e, hd] at this; cases this
  have dC : ∀ y c, env.cells.lookup y = some c → d ≠ c := fun y c hc e => by have := (f₀.ce y c hc).1; rw [← e, hd] at this; cases this
  have f₁ := f₀.drop (AH.del_le H₁ d)
  with_reducible refine wpAny_pyIter_dict (f₀.st.mods B hd) hat ?_
  have new := size_none s₁.heap (Nat.le_refl _)
  have hdI : d ≠ s₁.heap.objs.size := Nat.ne_of_lt (Heap.lt_size hod)
  have hgrow : ∀ b o, s₁.heap.get? b = some o → (s₁.heap.push { cls := .type "dict_keyiterator", data := .fields #[.ref d, .int 0 0, .int r.length 0, .int ep 0] }).get? b = some o := fun b o e => Heap.get?_push_of_some _ e
  have f₂ := f₁.grow (tk := s₁.toks) hgrow
  generalize hI : s₁.heap.objs.size = I at *
  have hit : (s₁.heap.push { cls := .type "dict_keyiterator", data := .fields #[.ref d, .int 0 0, .int r.length 0, .int ep 0] }).IsKeyIter I d 0 r.length ep := ⟨_, hI ▸ Heap.get?_push_size _ rfl, rfl, rfl⟩
  have hod₂ := hgrow d od hod
  clear hgrow
  generalize hh₂ : s₁.heap.push { cls := .type "dict_keyiterator", data := .fields #[.ref d, .int 0 0, .int r.length 0, .int ep 0] } = h₂ at *
  have iF : F I = none := by
    cases q : F I with
    | none => rfl
    | some z => have := f₀.st.fr _ _ q; rw [new] at this; cases this
  have iH : (H₁.del d) I = none := by
    cases q : (H₁.del d) I with
    | none => rfl
    | some z => obtain ⟨y, hy, _⟩ := f₁.st.obj q; rw [new] at hy; cases hy
  have iL : I ≠ env.locals := fun e => by
    obtain ⟨m, ⟨oL, _, _, hL, _⟩, _⟩ := f₀.ns
    rw [← e, new] at hL; cases hL
  have iC : ∀ y c, env.cells.lookup y = some c → I ≠ c := fun y c hc e => by
    obtain ⟨_, vo, oc, hoc, _⟩ := f₀.ce y c hc
    rw [← e, new] at hoc; cases hoc
  have mem2 : ∀ b, b ∈ [I, d] → b = I ∨ b = d := fun b hb => by simpa using hb
  have apF : ∀ b ∈ [I, d], F b = none := fun b hb => by rcases mem2 b hb with rfl | rfl; exact iF; exact dF
  have apC : ∀ b ∈ [I, d], ∀ y c, env.cells.lookup y = some c → b ≠ c := fun b hb => by rcases mem2 b hb with rfl | rfl; exact iC; exact dC
  have ap : ∀ (H' : AH), (∀ b ∈ [I, d], H' b = none) → ∀ b ∈ [I, d], F b = none ∧ H' b = none ∧ b ≠ env.locals ∧ ∀ x c, env.cells.lookup x = some c → b ≠ c := fun H' hH b hb =>
    ⟨apF b hb, hH b hb, by rcases mem2 b hb with rfl | rfl; exact iL; exact dL, apC b hb⟩
  have start : ∀ b ∈ [I, d], (H₁.del d) b = none := fun b hb => by rcases mem2 b hb with rfl | rfl; exact iH; exact AH.del_same _ _
  have hrk : ∀ i : Nat, (kvs[i]?).map (·.1) = (r[i]?).map (·.1) := fun i => by rw [← hr1, List.getElem?_map]; cases r[i]? <;> rfl
  have hlen : kvs.length = r.length := by rw [← hr1]; simp
  refine codeAny_forLoop_any (fun k s' => ∃ i ρ' H', k = kvs.length + 1 - i ∧ i ≤ kvs.length ∧ Fm prog w S0 env ρ' F H' s' ∧ (s'.heap.IsKeyIter I d i r.length ep ∧ s'.heap.get? d = some od) ∧ J i ρ' H' ∧ ∀ b ∈ [I, d], H' b = none) ?_ (kvs.length + 1) ⟨0, ρ, H₁.del d, rfl, Nat.zero_le _, f₂, ⟨hit, hod₂⟩, hJ0, start⟩
  rintro k s' ⟨i, ρ', H', rfl, hi, f', ⟨hit', hod'⟩, hJ, hH'⟩
  obtain ⟨es, ep', hcls, hdat, hk1, hk2, hk3⟩ := id hdict
  obtain ⟨oo, es', ho', hcls', hdat', hks, hps, hnd⟩ := hat
  obtain rfl : od = oo := Option.some.inj (hod.symm.trans ho')
  have hat' : s'.heap.DictAt (PySem.strKind prog w) d r ep := ⟨od, es', hod', hcls', hdat', hks, hps, hnd⟩
  by_cases hlt : i < kvs.length
  · obtain ⟨y, hy⟩ : ∃ y, kvs[i]? = some y := ⟨kvs[i], List.getElem?_eq_getElem hlt⟩
    obtain ⟨kx, hp⟩ : ∃ p, r[i]? = some p := ⟨r[i]'(by omega), List.getElem?_eq_getElem (by omega)⟩
    have hkey : y.1 = kx.1 := by have := hrk i; rw [hy, hp] at this; exact Option.some.inj this
    refine wpAny_pyNext_dict_item (k := kx.1) (v := kx.2) hit' hat' hp fun key h₃ hkk hit₃ hs₃ => ?_
    have hk₃ : ∀ b o, b ∉ [I, d] → s'.heap.get? b = some o → h₃.get? b = some o := fun b o hb e => hs₃.extBut b o (fun q => hb (by simp [q])) e
    have hod₃ : h₃.get? d = some od := hs₃.extBut d od hdI hod'
    have f₃ := f'.walk (tk := s'.toks) (ap H' hH') hk₃
    have hlet : letOwnedTupleGo (.Name x p) (.ref I) key = pure () := rfl
    dsimp only
    rw [hlet]
    have fp := f₃.plus (ap H' hH')
    obtain ⟨ρ₂, hup, hturn⟩ := turn i y ρ' H' hy hJ
    have hka : abs key = .str y.1 := by rw [hkey]; exact (dkS prog w).back _ _ hkk
    refine wpAny_pure (wpAny_assign_Name (fp.store (o.plus apC) (hka.symm ▸ hup) fun s₄ f₄ => ?_))
    refine wpAny_mono (hturn.run A _ s₄ hr (o.plus apC) f₄) (fun fl s₅ ⟨ρ'', H'', f₅, q⟩ => ?_) fun _ _ z => z.elim
    have f₆ := f₅.minus apF f'.st.base f'.loF
    have kept : ∀ b ∈ [I, d], ∀ z, h₃.get? b = some z → s₅.heap.get? b = some z := fun b hb z hz => f₅.st.fr b z (by unfold Mine.plus; rw [if_pos hb]; exact hz)
    have hH₅ : ∀ b ∈ [I, d], H'' b = none := fun b hb => by
      obtain ⟨z, hz⟩ : ∃ z, h₃.get? b = some z := by
        rcases mem2 b hb with rfl | rfl
        · obtain ⟨z, hz, _⟩ := hit₃; exact ⟨z, hz⟩
        · exact ⟨od, hod₃⟩
      have hF : Mine.plus F [I, d] h₃ b = some z := by unfold Mine.plus; rw [if_pos hb]; exact hz
      cases q : H'' b with
      | none => rfl
      | some z' => rw [(f₅.st.hp _ _ q).1] at hF; cases hF
    have hS₅ : s₅.heap.IsKeyIter I d (i + 1) r.length ep ∧ s₅.heap.get? d = some od := by
      obtain ⟨z, hz, r'⟩ := hit₃
      exact ⟨⟨z, kept I (by simp) z hz, r'⟩, kept d (by simp) _ hod₃⟩
    cases fl with
    | next => exact ⟨kvs.length + 1 - (i + 1), by omega, i + 1, ρ'', H'', rfl, hlt, f₆, hS₅, q, hH₅⟩
    | cont => exact ⟨kvs.length + 1 - (i + 1), by omega, i + 1, ρ'', H'', rfl, hlt, f₆, hS₅, q, hH₅⟩
    | brk => exact q.elim
    | ret v => exact q.elim
  · have hin : i = kvs.length := Nat.le_antisymm hi (Nat.not_lt.mp hlt)
    subst hin
    refine wpAny_pyNext_dict_end hr.2.2 hit' hat' (by rw [hlen]; simp) fun h₃ he => ?_
    have hod₃ : h₃.get? d = some od := he d od hdI hod'
    have f₃ := f'.walk (tk := s'.toks) (ap H' hH') fun b o hb e => he b o (fun q => hb (by simp [q])) e
    have hm : OM prog w (.sdict kvs) od := ⟨r, hdict, hr1, hr2⟩
    exact wpAny_execs_nil ⟨ρ', _, f₃.adopt (hH' d (by simp)) dF hod₃ hm dL dC, fin _ _ hJ⟩

/-- what a turn made is forgotten -/
theorem Ex.fgt {t : Sem Flow} {Q : Flow → Rho → AH → Prop} (h : Ex prog w S0 n env ρ t H fun f ρ' H' => H.le H' ∧ Q f ρ' H) : Ex prog w S0 n env ρ t H Q := .mk <| fun A F s hr o x =>
  bot (h.run A F s hr o x) fun _ _ ⟨ρ', H', f, l, q⟩ => ⟨ρ', H, f.drop l, q⟩
end
/-- tuple.index where the third item is the first hit -/
theorem tuple_index2 (t : Addr) (a0 a1 a2 a3 a4 a5 a6 x : Value) (n : Nat) (dd : Option Addr) (sl : Array (Option Value)) :
    Meets (Builtin.«tuple.index» ⟨[.ref t, x], []⟩)
      (fun A R s => s.heap.get? t = some { cls := .type "tuple", dict := dd, data := .seq #[a0, a1, a2, a3, a4, a5, a6] n, slots := sl } ∧ SeqAt.EqAt A.in1 s a0 x false ∧ SeqAt.EqAt A.in1 s a1 x false ∧ SeqAt.EqAt A.in1 s a2 x true ∧ R (.ok (.ret (.int 2 s.toks))) { s with toks := s.toks + 1 }) :=
  .of_wp fun prog w A R s h => by
    obtain ⟨hp, g, d, tk, os⟩ := s; obtain ⟨hl, h0, h1, h2, h⟩ := h
    have f2 := AutoSeq1.sub_tuple_tuple
    unfold Builtin.«tuple.index»
    simp only [Std.Legacy.Range.forIn_eq_forIn_range']
    wp_walk using wpAny_loadPart' hl
    have e : List.range' 0 ([:min #[a0, a1, a2, a3, a4, a5, a6].size #[a0, a1, a2, a3, a4, a5, a6].size] : Std.Legacy.Range).size = [0, 1, 2, 3, 4, 5, 6] := by
      simp [Std.Legacy.Range.size, List.range'_succ]
    simp only [e, List.forIn'.loop]
    refine wpAny_bind (wpAny_bind (h0 prog w _ _ ?_))
    refine wpAny_pure ?_
    refine wpAny_bind (wpAny_bind (h1 prog w _ _ ?_))
    refine wpAny_pure ?_
    refine wpAny_bind (wpAny_bind (h2 prog w _ _ ?_))
    wp_walk
    exact ⟨_, rfl, h⟩

section
variable {prog : Program} {w : World} {S0 : Shared} {K : Frag} {G : List (Str × V)} {n : Nat} {env : Env} {ρ : Rho} {H : AH}
theorem M_tup {x : Addr} {xs : List V} {name : Str} {id : String} {pl : Sem Bool} (hx : H x = some (.tup xs)) (slot : Slot "tuple" name id) (hty : typeOf (.builtin id) = pure (.type "method_descriptor")) :
    Op prog w S0 n (getMethod (.ref x) name pl) H fun p H₂ => p = (.builtin id, [.ref x]) ∧ H₂ = H := .mk <| fun A F s _ f => by
  obtain ⟨o, ho, hc, hd, _⟩ := f.obj hx
  have hT : s.TypeIs (.ref x) "tuple" := ⟨_, ho, hc⟩
  with_reducible refine getMethod_builtin hT PySem.F.plainAttrs_tuple slot hty (fun a e => by cases e; exact ⟨_, ho, hd⟩) ?_
  exact ⟨H, f, rfl, rfl⟩
/-- xs.index(v) of a tuple of seven, where the third is the first hit -/
theorem E_indexT {o e : Expr} {apos pos : Pos} {Q : V → AH → Prop} (hb : attributeBase o (Str.ofString "index") env (eval o env) = eval o env) (hline : (apos.endLine == pos.line) = true) (hs : notStar e = true)
    (h : EvV prog w S0 n env ρ o H fun a H₁ => ∃ x y0 y1 y2 y3 y4 y5 y6, a = .ref x ∧ H₁ x = some (.tup [y0, y1, y2, y3, y4, y5, y6]) ∧ EvV prog w S0 n env ρ e H₁ fun v H₂ => H₂ x = some (.tup [y0, y1, y2, y3, y4, y5, y6]) ∧ isSc v = true ∧ isSc y0 = true ∧ isSc y1 = true ∧ isSc y2 = true ∧ veq y0 v = false ∧ veq y1 v = false ∧ veq y2 v = true ∧ Q (.int 2) H₂) :
    EvV prog w S0 n env ρ (.Call (.Attribute o (Str.ofString "index") apos) [e] [] pos) H Q := by
  have hst : [e].all notStar = true := by simp [hs]
  refine E_meth hb (few_star hst (by simp)) hline (any_star hst) (h.mono fun a H₁ ⟨x, y0, y1, y2, y3, y4, y5, y6, ha, hx, h₁⟩ => ⟨_, x, ha, fun pl => M_tup hx PySem.F.slot_tuple_index PySem.F.type_tuple_index, keeps_builtin _, ?_⟩)
  refine A_one hs (h₁.mono fun v H₂ ⟨hx₂, a1, a2, a3, a4, b1, b2, b3, q⟩ => A_nil fun us hu => .mk <| fun A F s hr f => ?_)
  obtain ⟨u, z, rfl, h1, h2⟩ := map_two hu
  subst h2
  rw [abs_ref h1]
  obtain ⟨ob, ho, hc, hd, vs, nn, hdat, hxs, hl⟩ := f.obj hx₂
  obtain ⟨c1, c2, c3, c4⟩ := ob
  simp only at hc hd hdat
  subst hc hd hdat
  obtain ⟨vl⟩ := vs
  obtain ⟨z0, z1, z2, z3, z4, z5, z6, rfl, rfl, rfl, rfl, rfl, rfl, rfl, rfl⟩ := map_seven (us := vl) hxs
  · skip
    refine @call_meets prog w A _ s _ _ _ _ _ _ _ _ PySem.F.slot_tuple_index ⟨_, ho, rfl⟩ PySem.F.entry_tuple_index (PySem.F.args_tuple_index_2 _ _) (tuple_index2 x z0 z1 z2 z3 z4 z5 z6 z nn none c4) ⟨ho, ?_, ?_, ?_, ⟨H₂, f.toks _, q⟩⟩
    · exact @eqAt_as A.in1 s _ _ _ _ (@eqAt_sc A.in1 s z0 z a2 a1) b1
    · exact @eqAt_as A.in1 s _ _ _ _ (@eqAt_sc A.in1 s z1 z a3 a1) b2
    · exact @eqAt_as A.in1 s _ _ _ _ (@eqAt_sc A.in1 s z2 z a4 a1) b3

theorem Fm.newA {F : CH} {s : Shared} {D : Addr} (f : Fm prog w S0 env ρ F H s) (hn : s.heap.get? D = none) : F D = none ∧ H D = none ∧ D ≠ env.locals ∧ ∀ x c, env.cells.lookup x = some c → D ≠ c := by
  obtain ⟨a, b⟩ := f.st.new hn
  refine ⟨a, b, fun e => ?_, fun z c hc e => ?_⟩
  · obtain ⟨m, ⟨oL, _, _, hL, _⟩, _⟩ := f.ns
    rw [← e, hn] at hL; cases hL
  · obtain ⟨_, vo, oc, hoc, _⟩ := f.ce z c hc
    rw [← e, hn] at hoc; cases hoc
/-- a, b = e -/
theorem X_asg2 {x y : Str} {px py tp pos : Pos} {k : Nat} {e : Expr} {Q : Flow → Rho → AH → Prop} (hs : swapsWithSole [.Tuple [.Name x px, .Name y py] k tp] e pos.line env = pure false) (hw : swappedStores [.Tuple [.Name x px, .Name y py] k tp] e env = pure none)
    (h : EvV prog w S0 n env ρ e H fun v H₁ => ∃ t a b ρ₁ ρ₂, v = .ref t ∧ H₁ t = some (.tup [a, b]) ∧ Up x a ρ ρ₁ ∧ Up y b ρ₁ ρ₂ ∧ Q .next ρ₂ H₁) : Ex prog w S0 n env ρ (exec (.Assign [.Tuple [.Name x px, .Name y py] k tp] e pos) env) H Q := .mk <| fun A F s hr o f => by
  refine PyProof.Rows.Assign_Tuple (bot (h.run A F s hr f) fun u s₁ ⟨H₁, f₁, t, a, b, ρ₁, ρ₂, hv, ht, u1, u2, q⟩ => ?_) hs hw
  rw [abs_ref hv]
  obtain ⟨vs, l1, m1, _, _⟩ := f₁.st.isTup ht
  obtain ⟨vl⟩ := vs
  obtain ⟨z0, z1, rfl, rfl, rfl⟩ := map_two (us := vl) m1
  · skip
    have hh : A.handled = none := hr.2.2
    refine wpAny_assign_Tuple hh l1 rfl rfl fun h' he => ?_
    have f₂ := f₁.walk (own := [s₁.heap.objs.size]) (h' := h') (tk := s₁.toks) (fun c hc => ?_) fun c oo hc e => he c oo (fun q => hc (List.mem_singleton.mpr q)) e
    · show wpAny _ A (assignInOrder [assign (.Name x px) env, assign (.Name y py) env] [z0, z1]) _ _ _
      unfold assignInOrder
      refine wpAny_bind (wpAny_holding (wpAny_assign_Name (f₂.store o u1 fun s₃ f₃ => ?_)))
      show wpAny _ A (do holding [] (assign (.Name y py) env z1); assignInOrder [] []) _ _ _
      exact wpAny_bind (wpAny_holding (wpAny_assign_Name (f₃.store o u2 fun s₄ f₄ => wpAny_pure ⟨_, _, f₄, q⟩)))
    · rw [List.mem_singleton.mp hc]
      exact f₁.newA (size_none _ (Nat.le_refl _))
end
section
variable {prog : Program} {w : World} {S0 : Shared} {K : Frag} {G : List (Str × V)} {n : Nat} {env : Env} {ρ : Rho} {H : AH}

/-- list + list -/
theorem B_addL {a b : Addr} {xs ys : List V} {Q : V → AH → Prop} (ha : H a = some (.list xs)) (hb : H b = some (.list ys)) (hl : xs.length + ys.length ≤ lid) (h : ∀ D, H D = none → Q (.ref D) (H.set D (.list (xs ++ ys)))) : Bin prog w S0 n (binaryOp .Add) (.ref a) (.ref b) H Q := fun u v hu hv => .mk <| fun A F s hr f => by
  rw [abs_ref hu, abs_ref hv]
  obtain ⟨vs, n1, o1, m1, z1, _⟩ := f.isL ha
  obtain ⟨us, n2, o2, m2, z2, _⟩ := f.isL hb
  have hsz : vs.size + us.size ≤ sizeLine := Nat.le_trans (by omega) lid_le
  with_reducible refine P.add_list (hsz := hsz) o1 o2 ?_
  have hn := size_none s.heap (Nat.le_refl _)
  refine ⟨_, f.make (tk := s.toks) hn (fun b o e => Heap.get?_push_of_some _ e) (Heap.get?_push_size _ rfl) (OM_l (xs := xs ++ ys) ?_ ?_), h _ (f.new hn).2⟩
  · rw [Array.toList_append, List.map_append, m1, m2]
  · rw [Array.size_append]; omega

/-- xs[:b] -/
theorem pick_upto (items : Array Value) (b : Nat) : (slicePick items none (some (b : Int)) none).toList = items.toList.take b := by
  by_cases hb : b ≤ items.size
  · rw [slicePick_upto items b hb]
  · have e : sliceBounds none (some (b : Int)) none items.size = sliceBounds none (some (items.size : Int)) none items.size := by
      unfold sliceBounds
      simp only [Option.getD_none]
      have h1 : ¬ ((b : Int) < 0) := by omega
      have h2 : ¬ ((items.size : Int) < 0) := by omega
      simp only [h1, h2, if_false]
      have : min (b : Int) (items.size : Int) = min (items.size : Int) (items.size : Int) := by omega
      simp only [this, show (1 : Int) > 0 by decide, if_true]
    have : slicePick items none (some (b : Int)) none = slicePick items none (some (items.size : Int)) none := by unfold slicePick; rw [e]
    rw [this, slicePick_upto items items.size (Nat.le_refl _)]
    simp; omega

theorem slice_le (items : Array Value) (lo hi : Option Int) (h : items.size ≤ lid) : (slicePick items lo hi none).size ≤ lid := Nat.le_trans (slicePick_size_le items lo hi none) h
theorem E_upto {value u : Expr} {p pos : Pos} {Q : V → AH → Prop} (hval : ∀ o r, letTemporaryGo value o r = Pure.pure ())
    (h : EvV prog w S0 n env ρ value H fun a H₁ => EvV prog w S0 n env ρ u H₁ fun b H₂ => ∃ x xs, ∃ k : Nat, a = .ref x ∧ b = .int (k : Int) ∧ H₂ x = some (.list xs) ∧ ∀ D, H₂ D = none → Q (.ref D) (H₂.set D (.list (xs.take k)))) :
    EvV prog w S0 n env ρ (.Subscript value (.Slice none (some u) none p) pos) H Q := .mk <| fun A F s hr f => by
  refine wpAny_Subscript_list_slice (bot (h.run A F s hr f) fun o s₁ ⟨H₁, f₁, h₁⟩ => wpAny_pure (bot (h₁.run A F s₁ hr f₁) fun vu s₂ ⟨H₂, f₂, x, xs, k, e1, e2, hx, hQ⟩ => ?_)) hval
  obtain ⟨vs, l1, m1, z1, z2⟩ := f₂.st.isList hx
  obtain ⟨t, rfl⟩ := abs_int e2
  rw [abs_ref e1]
  refine ⟨x, vs, none, some (k : Int), rfl, l1, Nat.le_trans z2 lid_le, .none, .int _ _, ?_⟩
  have hn := size_none s₂.heap (Nat.le_succ s₂.heap.objs.size)
  have e3 := Heap.get?_push_size (s₂.heap.push { cls := .type "slice", data := .fields #[Value.none, Value.int (k : Int) t, .none] }) (o := { cls := .type "list", data := .seq (slicePick vs none (some (k : Int)) none) }) rfl
  rw [Heap.size_push] at e3
  obtain ⟨a, b⟩ := f₂.make (tk := s₂.toks) hn (fun b o e => Heap.get?_push_of_some _ (Heap.get?_push_of_some _ e)) e3 (OM_l (xs := xs.take k) (by rw [pick_upto, List.map_take, m1]) (slice_le _ _ _ z2))
  exact ⟨_, b, hQ _ a⟩

theorem E_from {value u : Expr} {p pos : Pos} {Q : V → AH → Prop} (hval : ∀ o r, letTemporaryGo value o r = Pure.pure ())
    (h : EvV prog w S0 n env ρ value H fun a H₁ => EvV prog w S0 n env ρ u H₁ fun b H₂ => ∃ x xs, ∃ k : Nat, a = .ref x ∧ b = .int (k : Int) ∧ k ≤ xs.length ∧ H₂ x = some (.list xs) ∧ ∀ D, H₂ D = none → Q (.ref D) (H₂.set D (.list (xs.drop k)))) :
    EvV prog w S0 n env ρ (.Subscript value (.Slice (some u) none none p) pos) H Q := .mk <| fun A F s hr f => by
  refine wpAny_Subscript_list_slice (bot (h.run A F s hr f) fun o s₁ ⟨H₁, f₁, h₁⟩ => bot (h₁.run A F s₁ hr f₁) fun vu s₂ ⟨H₂, f₂, x, xs, k, e1, e2, hk, hx, hQ⟩ => wpAny_pure ?_) hval
  obtain ⟨vs, l1, m1, z1, z2⟩ := f₂.st.isList hx
  obtain ⟨t, rfl⟩ := abs_int e2
  rw [abs_ref e1]
  refine ⟨x, vs, some (k : Int), none, rfl, l1, Nat.le_trans z2 lid_le, .int _ _, .none, ?_⟩
  have hn := size_none s₂.heap (Nat.le_succ s₂.heap.objs.size)
  have e3 := Heap.get?_push_size (s₂.heap.push { cls := .type "slice", data := .fields #[Value.int (k : Int) t, Value.none, .none] }) (o := { cls := .type "list", data := .seq (slicePick vs (some (k : Int)) none none) }) rfl
  rw [Heap.size_push] at e3
  obtain ⟨a, b⟩ := f₂.make (tk := s₂.toks) hn (fun b o e => Heap.get?_push_of_some _ (Heap.get?_push_of_some _ e)) e3 (OM_l (xs := xs.drop k) (by rw [slicePick_from vs k (by omega), ← m1, List.map_drop]) (slice_le _ _ _ z2))
  exact ⟨_, b, hQ _ a⟩
end
section
variable {prog : Program} {w : World} {S0 : Shared} {K : Frag} {G : List (Str × V)} {n : Nat} {env : Env} {ρ : Rho} {H : AH}

theorem B_fdiv {a b : Int} {Q : V → AH → Prop} (hb : b ≠ 0) (hs : b.natAbs < 1073741824) (h : Q (.int (a.fdiv b)) H) : Bin prog w S0 n (binaryOp .FloorDiv) (.int a) (.int b) H Q := fun u v hu hv => .mk <| fun A F s _ f => by
  obtain ⟨t, rfl⟩ := abs_int hu; obtain ⟨t', rfl⟩ := abs_int hv
  with_reducible refine floordiv_int hb ?_ (.inl (PyProof.noPylong_small hs))
  exact ⟨H, f.toks _, h⟩

theorem ints_are {vs : List Value} {ns : List Int} (h : vs.map abs = ns.map V.int) : IntsAre vs ns := by
  induction vs generalizing ns with
  | nil => cases ns with
    | nil => exact .nil
    | cons => cases h
  | cons v r ih => cases ns with
    | nil => cases h
    | cons k t =>
      simp only [List.map_cons, List.cons.injEq] at h
      obtain ⟨t', rfl⟩ := abs_int h.1
      exact .cons _ _ (ih h.2)
theorem ints_abs {vs : List Value} {ns : List Int} (h : IntsAre vs ns) : vs.map abs = ns.map V.int := by
  induction vs generalizing ns with
  | nil => cases ns with
    | nil => rfl
    | cons => cases h
  | cons v r ih => cases ns with
    | nil => cases h
    | cons k t =>
      cases h with
      | cons _ _ h2 => simp only [List.map_cons, ih h2]; rfl

theorem Cn_sorted {a : Addr} {ns : List Int} {Q : V → AH → Prop} (ha : H a = some (.list (ns.map V.int))) (h64 : ns.length < 64) (h : ∀ (D : Addr) (ms : List Int), ms.Perm ns → ms.Pairwise (· ≤ ·) → H D = none → Q (.ref D) (H.set D (.list (ms.map V.int)))) :
    Cn prog w S0 n (.builtin "sorted") [.ref a] H Q := fun us hu => .mk <| fun A F s hr f => by
  obtain ⟨u, rfl, h1⟩ := map_one hu
  rw [abs_ref h1]
  obtain ⟨vs, l1, m1, z1, z2⟩ := f.isList ha
  obtain ⟨vl⟩ := vs
  rw [List.length_map] at z1
  have z1' : vl.length = ns.length := z1
  refine sorted_ints l1 (ints_are m1) (by omega) fun out ms hI hp hs => ?_
  obtain ⟨e, he⟩ := sortedAll_at s.heap vl out
  have hn := size_none s.heap (Nat.le_succ s.heap.objs.size)
  have hm := ints_abs hI
  have hlen : out.size ≤ lid := by
    have h1 := congrArg List.length hm
    have h2 := hp.length_eq
    simp only [List.length_map, Array.length_toList] at h1
    have : vl.length ≤ lid := z2
    omega
  exact ⟨_, f.make (tk := s.toks) hn (fun b o e => sortedAll_old e) he (OM_l (xs := ms.map V.int) hm hlen), h _ ms hp hs (f.new hn).2⟩

/-- {'k': v} -/
theorem E_dict1 {x : Str} {j : Nat} {p pos : Pos} {v : Expr} {Q : V → AH → Prop} (h : EvV prog w S0 n env ρ v H fun b H₁ => ∀ D, H₁ D = none → Q (.ref D) (H₁.set D (.sdict [(x, b)]))) : EvV prog w S0 n env ρ (.Dict [some (.Constant (.str x) j p)] [v] pos) H Q := .mk <| fun A F s hr f => by
  have hn := size_none s.heap (Nat.le_refl s.heap.objs.size)
  have hge := Heap.get?_push_size s.heap (o := { cls := .type "dict", data := .dict #[] }) rfl
  have f0 := f.grow (tk := s.toks) (h' := s.heap.push { cls := .type "dict", data := .dict #[] }) fun b o e => Heap.get?_push_of_some _ e
  obtain ⟨n1, n2, n3, n4⟩ := f.newA hn
  refine wpAny_Dict_walk (knd := PySem.strKind prog w) rfl rfl (by simp) (by simp) ?_
  refine pairTrees_cons_walk (Constant_str ?_)
  have own : ∀ b ∈ [s.heap.objs.size], F b = none ∧ H b = none ∧ b ≠ env.locals ∧ ∀ z c, env.cells.lookup z = some c → b ≠ c := fun b hb => by rw [List.mem_singleton.mp hb]; exact ⟨n1, n2, n3, n4⟩
  refine bot ((h.run A _ _ hr ((f0.toks _).plus own))) fun u s₂ ⟨H₂, f₂, q⟩ => ?_
  refine pairTrees_nil_walk ?_
  have hD : s₂.heap.get? s.heap.objs.size = some { cls := .type "dict", data := .dict #[] } := f₂.st.fr _ _ (by unfold Mine.plus; rw [if_pos (List.mem_singleton.mpr rfl)]; exact hge)
  have hdict : s₂.heap.DictOf (PySem.strKind prog w) s.heap.objs.size [] := Heap.dictOf_iff.mpr (by
    obtain ⟨o', ho', ho2⟩ := Heap.dictOf_iff.mp (Heap.DictOf.new (knd := PySem.strKind prog w) s.heap)
    rw [hge] at ho'; cases ho'
    exact ⟨_, hD, ho2⟩)
  refine ⟨[(x, u)], ⟨by simp [PySem.strKind, Value.isStrOf], rfl, trivial⟩, hdict, fun h' hd' hs' => ?_⟩
  have f₃ := f₂.minus (fun b hb => by rw [List.mem_singleton.mp hb]; exact n1) f.st.base f.loF
  have hH₂ : H₂ s.heap.objs.size = none := by
    cases q : H₂ s.heap.objs.size with
    | none => rfl
    | some z =>
      have := (f₂.st.hp _ _ q).1
      unfold Mine.plus at this
      rw [if_pos (List.mem_singleton.mpr rfl)] at this
      rw [show ({ s with heap := s.heap.push { cls := .type "dict", data := .dict #[] } } : Shared).heap.get? s.heap.objs.size = _ from hge] at this
      cases this
  obtain ⟨o', ho', ho2⟩ := Heap.dictOf_iff.mp hd'
  have f₄ := (f₃.off hH₂ n1 n3 n4 hs').adopt (D := s.heap.objs.size) (y := .sdict [(x, abs u)]) hH₂ n1 ho' ⟨_, ho2, rfl, by simp [merged, stored, lid]⟩ n3 n4
  exact ⟨_, f₄.toks _, q _ hH₂⟩

/-- xs[:b] where xs lies in the kept part -/
theorem E_uptoB {value u : Expr} {p pos : Pos} {Q : V → AH → Prop} (hval : ∀ o r, letTemporaryGo value o r = Pure.pure ())
    (h : EvV prog w S0 n env ρ value H fun a H₁ => EvV prog w S0 n env ρ u H₁ fun b H₂ => ∃ x vs, ∃ k : Nat, a = .ref x ∧ b = .int (k : Int) ∧ S0.heap.IsList x vs ∧ vs.size ≤ lid ∧ ∀ D, H₂ D = none → Q (.ref D) (H₂.set D (.list ((vs.toList.map abs).take k)))) :
    EvV prog w S0 n env ρ (.Subscript value (.Slice none (some u) none p) pos) H Q := .mk <| fun A F s hr f => by
  refine wpAny_Subscript_list_slice (bot (h.run A F s hr f) fun o s₁ ⟨H₁, f₁, h₁⟩ => wpAny_pure (bot (h₁.run A F s₁ hr f₁) fun vu s₂ ⟨H₂, f₂, x, vs, k, e1, e2, hx, z2, hQ⟩ => ?_)) hval
  have l1 : s₂.heap.IsList x vs := hx.at fun o e => f₂.st.old e
  obtain ⟨t, rfl⟩ := abs_int e2
  rw [abs_ref e1]
  refine ⟨x, vs, none, some (k : Int), rfl, l1, Nat.le_trans z2 lid_le, .none, .int _ _, ?_⟩
  have hn := size_none s₂.heap (Nat.le_succ s₂.heap.objs.size)
  have e3 := Heap.get?_push_size (s₂.heap.push { cls := .type "slice", data := .fields #[Value.none, Value.int (k : Int) t, .none] }) (o := { cls := .type "list", data := .seq (slicePick vs none (some (k : Int)) none) }) rfl
  rw [Heap.size_push] at e3
  obtain ⟨a, b⟩ := f₂.make (tk := s₂.toks) hn (fun b o e => Heap.get?_push_of_some _ (Heap.get?_push_of_some _ e)) e3 (OM_l (xs := (vs.toList.map abs).take k) (by rw [pick_upto, List.map_take]) (slice_le _ _ _ z2))
  exact ⟨_, b, hQ _ a⟩

/-- for x, y in zip(l1, l2) -/
theorem X_zip {x y z0 : Str} {px py tp p cp pos : Pos} {k : Nat} {ea eb : Expr} {body : List Stmt} {Gs : List Str} {Q : Flow → Rho → AH → Prop} (B : Bs prog w S0 K G) (hg : (z0, V.oth (.type "zip")) ∈ G) (gb : Glob env Gs) (hx : z0 ∈ Gs)
    (hs : [ea, eb].all notStar = true) (hfold : ∀ v, foldedSetIterable (.Call (.Name z0 p) [ea, eb] [] cp) env v = Pure.pure v)
    (h : EvA prog w S0 n env ρ [ea, eb] cp H fun vs H₁ => ∃ l1 l2 xs ys, ∃ J : Nat → Rho → AH → Prop, vs = [.ref l1, .ref l2] ∧ J 0 ρ H₁ ∧ (∀ i ρ' H', J i ρ' H' → H' l1 = some (.list xs) ∧ H' l2 = some (.list ys)) ∧ xs.length = ys.length ∧
      (∀ i a b ρ' H', xs[i]? = some a → ys[i]? = some b → J i ρ' H' → ∃ ρ₁ ρ₂, Up x a ρ' ρ₁ ∧ Up y b ρ₁ ρ₂ ∧ Ex prog w S0 n env ρ₂ (execs body env) H' (turnQ J i Q)) ∧ (∀ ρ' H', J xs.length ρ' H' → Q .next ρ' H')) :
    Ex prog w S0 n env ρ (exec (.For (.Tuple [.Name x px, .Name y py] k tp) (.Call (.Name z0 p) [ea, eb] [] cp) body [] pos) env) H Q := .mk <| fun A F s hr o f => by
  have hh : A.handled = none := hr.2.2
  refine wpAny_For (Call_ (bot ((E_glob (n := n) (Q := fun v H' => v = V.oth (.type "zip") ∧ H' = H) B hg (gb z0 hx).1 (gb z0 hx).2 ⟨rfl, rfl⟩).run A F s hr f) fun u s₁ ⟨H₁', f₁, e, eH⟩ => ?_) rfl) hfold
  subst eH
  rw [abs_oth e]
  refine callWith_any (any_star hs) (bot (h.run A F s₁ hr f₁) fun us s₁ ⟨H₁, f₁, l1, l2, xs, ys, J, hvs, hJ0, hinv, hlen, turn, fin⟩ => ⟨keeps_type _ A F _ _ f₁.st, ?_⟩)
  obtain ⟨u1, u2, rfl, h1, h2⟩ := map_two hvs
  show wpAny _ A (call (.type "zip") [u1, u2]) _ _ _
  rw [abs_ref h1, abs_ref h2]
  obtain ⟨i1, i2⟩ := hinv _ _ _ hJ0
  obtain ⟨vs1, a1, b1, c1, d1⟩ := f₁.st.isList i1
  obtain ⟨vs2, a2, b2, c2, d2⟩ := f₁.st.isList i2
  have lt1 : l1 < s₁.heap.objs.size := by obtain ⟨o, e, _⟩ := a1; exact Heap.lt_size e
  have lt2 : l2 < s₁.heap.objs.size := by obtain ⟨o, e, _⟩ := a2; exact Heap.lt_size e
  have D : ZipApart (s₁.heap.objs.size + 4) (s₁.heap.objs.size + 2) (s₁.heap.objs.size + 3) s₁.heap.objs.size (s₁.heap.objs.size + 1) l1 l2 := zipApart_new lt1 lt2
  refine call_zip_2 a1 a2 fun h₂ hz hTI hTO hi1 hi2 hsz hk₂ => wpAny_pyIter_zip hz ?_
  have hnew : ∀ b ∈ [s₁.heap.objs.size + 4, s₁.heap.objs.size + 2, s₁.heap.objs.size + 3, s₁.heap.objs.size, s₁.heap.objs.size + 1], s₁.heap.get? b = none := fun b hb => by
    refine size_none s₁.heap ?_
    rcases List.mem_cons.mp hb with rfl | hb
    · exact Nat.le_add_right _ _
    rcases List.mem_cons.mp hb with rfl | hb
    · exact Nat.le_add_right _ _
    rcases List.mem_cons.mp hb with rfl | hb
    · exact Nat.le_add_right _ _
    rcases List.mem_cons.mp hb with rfl | hb
    · exact Nat.le_refl _
    rw [List.mem_singleton.mp hb]
    exact Nat.le_add_right _ _
  generalize s₁.heap.objs.size + 4 = z at *
  generalize s₁.heap.objs.size + 2 = TI at *
  generalize s₁.heap.objs.size + 3 = TO at *
  generalize s₁.heap.objs.size + 1 = I2 at *
  generalize s₁.heap.objs.size = I1 at *
  have mz : z ∈ [z, TI, TO, I1, I2] := .head _
  have mTI : TI ∈ [z, TI, TO, I1, I2] := .tail _ (.head _)
  have mTO : TO ∈ [z, TI, TO, I1, I2] := .tail _ (.tail _ (.head _))
  have mI1 : I1 ∈ [z, TI, TO, I1, I2] := .tail _ (.tail _ (.tail _ (.head _)))
  have mI2 : I2 ∈ [z, TI, TO, I1, I2] := .tail _ (.tail _ (.tail _ (.tail _ (.head _))))
  have inv : ∀ b ∈ [z, TI, TO, I1, I2], b = z ∨ b = TI ∨ b = TO ∨ b = I1 ∨ b = I2 := fun b hb => by
    rcases List.mem_cons.mp hb with h | hb
    · exact .inl h
    rcases List.mem_cons.mp hb with h | hb
    · exact .inr (.inl h)
    rcases List.mem_cons.mp hb with h | hb
    · exact .inr (.inr (.inl h))
    rcases List.mem_cons.mp hb with h | hb
    · exact .inr (.inr (.inr (.inl h)))
    exact .inr (.inr (.inr (.inr (List.mem_singleton.mp hb))))
  generalize [z, TI, TO, I1, I2] = own at *
  let S : Nat → Heap → Prop := fun i h => IsZip h z TI TO .none ∧ IsPair h TI (.ref I1) (.ref I2) ∧ (∃ a b, IsPair h TO a b) ∧ h.IsListIter I1 l1 i ∧ h.IsListIter I2 l2 i
  have f₂ := f₁.grow (tk := s₁.toks) hk₂
  have hfr := fun {b : Addr} (hb : s₁.heap.get? b = none) => f₁.newA hb
  have ap : ∀ (H' : AH), (∀ b ∈ own, H' b = none) → ∀ b ∈ own, F b = none ∧ H' b = none ∧ b ≠ env.locals ∧ ∀ x c, env.cells.lookup x = some c → b ≠ c := fun H' hH b hb =>
    ⟨(hfr (hnew b hb)).1, hH b hb, (hfr (hnew b hb)).2.2.1, (hfr (hnew b hb)).2.2.2⟩
  have apF : ∀ b ∈ own, F b = none := fun b hb => (hfr (hnew b hb)).1
  have apC : ∀ b ∈ own, ∀ y c, env.cells.lookup y = some c → b ≠ c := fun b hb => (hfr (hnew b hb)).2.2.2
  refine codeAny_forLoop_any (fun k s' => ∃ i ρ' H', k = xs.length + 1 - i ∧ i ≤ xs.length ∧ Fm prog w S0 env ρ' F H' s' ∧ S i s'.heap ∧ J i ρ' H' ∧ ∀ b ∈ own, H' b = none) ?_ (xs.length + 1)
    ⟨0, ρ, H₁, rfl, Nat.zero_le _, f₂, ⟨hz, hTI, ⟨_, _, hTO⟩, hi1, hi2⟩, hJ0, fun b hb => (hfr (hnew b hb)).2.1⟩
  rintro k s' ⟨i, ρ', H', rfl, hi, f', ⟨gz, gTI, ⟨ga, gb', gTO⟩, g1, g2⟩, hJ, hH'⟩
  obtain ⟨j1, j2⟩ := hinv _ _ _ hJ
  obtain ⟨ws1, a1, b1, c1, d1⟩ := f'.st.isList j1
  obtain ⟨ws2, a2, b2, c2, d2⟩ := f'.st.isList j2
  by_cases hlt : i < xs.length
  · have hx1 : ws1[i]? = some (ws1[i]'(by omega)) := Array.getElem?_eq_getElem _
    have hy1 : ws2[i]? = some (ws2[i]'(by omega)) := Array.getElem?_eq_getElem _
    generalize ws1[i]'(by omega) = va at hx1
    generalize ws2[i]'(by omega) = vb at hy1
    have hxa : xs[i]? = some (abs va) := by rw [← b1, List.getElem?_map, Array.getElem?_toList, hx1]; rfl
    have hyb : ys[i]? = some (abs vb) := by rw [← b2, List.getElem?_map, Array.getElem?_toList, hy1]; rfl
    refine wpAny_pyNext_zip_item D gz gTI gTO g1 g2 a1 a2 hx1 hy1 fun h₃ e1 e2 e3 e4 e5 e6 hk₃ => ?_
    dsimp only
    refine wpAny_letOwnedTupleGo_zip e1 fun h₄ hz₄ hs₄ => ?_
    have ne : ∀ {c o}, s'.heap.get? c = some o → s'.heap.objs.size ≠ c := fun e => Nat.ne_of_gt (Heap.lt_size e)
    have hT₄ : IsPair h₄ s'.heap.objs.size va vb := hs₄.extBut _ _ (ne gz) e5
    have hTt : h₄.IsTuple s'.heap.objs.size #[va, vb] := ⟨_, hT₄, rfl, _, rfl⟩
    refine wpAny_assign_Tuple hh hTt rfl rfl fun h₅ he₅ => ?_
    have up4 : ∀ b o, b ≠ z → h₃.get? b = some o → h₅.get? b = some o := fun b o hb e => by
      have := hs₄.extBut b o hb e
      exact he₅ b o (Nat.ne_of_lt (Heap.lt_size this)) this
    have hz5 : IsZip h₅ z TI TO .none := he₅ _ _ (Nat.ne_of_lt (Heap.lt_size hz₄)) hz₄
    have hS₅ : S (i + 1) h₅ := ⟨hz5, up4 _ _ D.TIz (hk₃ _ _ D.TIz D.TITO D.TIi1 D.TIi2 gTI), ⟨_, _, up4 _ _ D.TOz e2⟩, e3.at fun o e => up4 _ o D.i1z e, e4.at fun o e => up4 _ o D.i2z e⟩
    have f₃ := f'.walk (tk := s'.toks) (h' := h₅) (ap H' hH') fun b o hb e => up4 b o (fun q => hb (q ▸ mz)) (hk₃ b o (fun q => hb (q ▸ mz)) (fun q => hb (q ▸ mTO)) (fun q => hb (q ▸ mI1)) (fun q => hb (q ▸ mI2)) e)
    have fp := f₃.plus (ap H' hH')
    obtain ⟨ρ₁, ρ₂, u1, u2, hturn⟩ := turn i _ _ ρ' H' hxa hyb hJ
    show wpAny _ A (assignInOrder [assign (.Name x px) env, assign (.Name y py) env] [va, vb]) _ _ _
    unfold assignInOrder
    refine wpAny_bind (wpAny_holding (wpAny_assign_Name (fp.store (o.plus apC) u1 fun s₃ f₃ => ?_)))
    show wpAny _ A (do holding [] (assign (.Name y py) env vb); assignInOrder [] []) _ _ _
    refine wpAny_bind (wpAny_holding (wpAny_assign_Name (f₃.store (o.plus apC) u2 fun s₄ f₄ => wpAny_pure ?_)))
    refine wpAny_mono (hturn.run A _ s₄ hr (o.plus apC) f₄) (fun fl s₅ ⟨ρ'', H'', f₅, q⟩ => ?_) fun _ _ z => z.elim
    have f₆ := f₅.minus apF f'.st.base f'.loF
    have kept : ∀ b ∈ own, ∀ v, h₅.get? b = some v → s₅.heap.get? b = some v := fun b hb v hv => f₅.st.fr b v (by unfold Mine.plus; rw [if_pos hb]; exact hv)
    obtain ⟨k1, k2, ⟨ka, kb, k3⟩, k4, k5⟩ := hS₅
    have hS₆ : S (i + 1) s₅.heap := ⟨kept _ mz _ k1, kept _ mTI _ k2, ⟨ka, kb, kept _ mTO _ k3⟩, k4.at fun o e => kept _ mI1 o e, k5.at fun o e => kept _ mI2 o e⟩
    have hH₅ : ∀ b ∈ own, H'' b = none := fun b hb => by
      obtain ⟨v, hv⟩ : ∃ v, h₅.get? b = some v := by
        rcases inv b hb with rfl | rfl | rfl | rfl | rfl
        · exact ⟨_, k1⟩
        · exact ⟨_, k2⟩
        · exact ⟨_, k3⟩
        · obtain ⟨v, hv, _⟩ := k4; exact ⟨v, hv⟩
        · obtain ⟨v, hv, _⟩ := k5; exact ⟨v, hv⟩
      have hF : Mine.plus F own h₅ b = some v := by unfold Mine.plus; rw [if_pos hb]; exact hv
      cases q : H'' b with
      | none => rfl
      | some z' => rw [(f₅.st.hp _ _ q).1] at hF; cases hF
    cases fl with
    | next => exact ⟨xs.length + 1 - (i + 1), by omega, i + 1, ρ'', H'', rfl, hlt, f₆, hS₆, q, hH₅⟩
    | cont => exact ⟨xs.length + 1 - (i + 1), by omega, i + 1, ρ'', H'', rfl, hlt, f₆, hS₆, q, hH₅⟩
    | brk => exact ⟨ρ'', H'', f₆, q⟩
    | ret v => exact ⟨ρ'', H'', f₆, q⟩
  · have hin : i = xs.length := Nat.le_antisymm hi (Nat.not_lt.mp hlt)
    subst hin
    refine wpAny_pyNext_zip_end hh D gz gTI gTO g1 g2 a1 a2 (.inl (Array.getElem?_eq_none (by omega))) fun h₃ hk₃ => ?_
    exact wpAny_execs_nil ⟨ρ', H', f'.walk (tk := s'.toks) (ap H' hH') fun b o hb e => hk₃ b o (fun q => hb (q ▸ mz)) (fun q => hb (q ▸ mTO)) (fun q => hb (q ▸ mI1)) (fun q => hb (q ▸ mI2)) e, fin _ _ hJ⟩
end
section
variable {prog : Program} {w : World} {S0 : Shared} {K : Frag} {G : List (Str × V)} {n : Nat} {env : Env} {ρ : Rho} {B : AH} {o : O} {a : Addr}

theorem AH.del_new {B : AH} {a : Addr} (o : O) (h : B a = none) : (B.set a o).del a = B := by
  funext b; unfold AH.del AH.set; split
  · rename_i e; rw [e, h]
  · rfl

/-! ### what is not looked at stays as it is -/
theorem le_new {B : AH} {a : Addr} {o : O} (h : B a = none) : B.le (B.set a o) := AH.le_set o h
theorem OpV.frame {t : Sem Value} {Q : V → AH → Prop} (hB : B a = none) (h : OpV prog w S0 n t B fun v B' => B' a = none → Q v (B'.set a o)) : OpV prog w S0 n t (B.set a o) Q := .mk <| fun A F s hr f => by
  have ho := AH.set_same B a o
  obtain ⟨z, hz, hm⟩ := f.obj ho
  have hF := (f.hp _ _ ho).1
  have f₀ := f.drop (le_new hB)
  have fp : St prog w S0 (Mine.plus F [a] s.heap) B s := f₀.more (fun b y e => by
      unfold Mine.plus; split
      · rename_i q; rw [List.mem_singleton.mp q] at e; rw [hF] at e; cases e
      · exact e) (fun b y e => by
      unfold Mine.plus at e; split at e
      · exact e
      · exact f.fr b y e) (fun b y e => by
      unfold Mine.plus; split
      · rename_i q; rw [List.mem_singleton.mp q, hB] at e; cases e
      · exact (f₀.hp b y e).1)
  refine bot (h.run A _ s hr fp) fun v s' ⟨B', f', q⟩ => ?_
  have hz' : s'.heap.get? a = some z := f'.fr _ _ (by unfold Mine.plus; rw [if_pos (List.mem_singleton.mpr rfl)]; exact hz)
  have hn : B' a = none := by
    cases q' : B' a with
    | none => rfl
    | some y =>
      have := (f'.hp _ _ q').1
      unfold Mine.plus at this
      rw [if_pos (List.mem_singleton.mpr rfl), hz] at this; cases this
  have f₂ : St prog w S0 F B' s' := f'.less (fun b y e => by
      unfold Mine.plus; split
      · rename_i q; rw [List.mem_singleton.mp q, hF] at e; cases e
      · exact e) f.base
  refine ⟨_, ⟨f₂.same, f₂.base, f₂.fr, fun b y e => ?_⟩, q hn⟩
  by_cases q : b = a
  · subst q; rw [AH.set_same] at e; cases e; exact ⟨hF, z, hz', hm⟩
  · rw [AH.set_ne _ _ q] at e; exact f₂.hp b y e
theorem Cn.frame {g : Value} {vs : List V} {Q : V → AH → Prop} (hB : B a = none) (h : Cn prog w S0 n g vs B fun v B' => B' a = none → Q v (B'.set a o)) : Cn prog w S0 n g vs (B.set a o) Q := fun us hu => OpV.frame hB (h us hu)
theorem Ev.frame {α : Type} {t : Sem α} {Q : α → AH → Prop} (hB : B a = none) (h : Ev prog w S0 n env ρ t B fun v B' => B' a = none → Q v (B'.set a o)) : Ev prog w S0 n env ρ t (B.set a o) Q := .mk <| fun A F s hr f => by
  have ho := AH.set_same B a o
  obtain ⟨z, hz, hm⟩ := f.st.obj ho
  have hF := (f.st.hp _ _ ho).1
  have hl : a ≠ env.locals := by rintro rfl; rw [f.loH] at ho; cases ho
  have hc : ∀ y c, env.cells.lookup y = some c → a ≠ c := fun y c hy => by rintro rfl; rw [(f.ce _ _ hy).1] at ho; cases ho
  have f₀ := f.drop (le_new hB)
  have fp := f₀.plus (own := [a]) fun b hb => by rw [List.mem_singleton.mp hb]; exact ⟨hF, hB, hl, hc⟩
  refine bot (h.run A _ s hr fp) fun v s' ⟨B', f', q⟩ => ?_
  have hz' : s'.heap.get? a = some z := f'.st.fr _ _ (by unfold Mine.plus; rw [if_pos (List.mem_singleton.mpr rfl)]; exact hz)
  have hn : B' a = none := by
    cases q' : B' a with
    | none => rfl
    | some y =>
      have := (f'.st.hp _ _ q').1
      unfold Mine.plus at this
      rw [if_pos (List.mem_singleton.mpr rfl), hz] at this; cases this
  have f₂ := f'.minus (fun b hb => by rw [List.mem_singleton.mp hb]; exact hF) f.st.base f.loF
  exact ⟨_, f₂.adopt hn hF hz' hm hl hc, q hn⟩
theorem Ex.frame {t : Sem Flow} {Q : Flow → Rho → AH → Prop} (hB : B a = none) (h : Ex prog w S0 n env ρ t B fun v ρ' B' => B' a = none → Q v ρ' (B'.set a o)) : Ex prog w S0 n env ρ t (B.set a o) Q := .mk <| fun A F s hr ow f => by
  have ho := AH.set_same B a o
  obtain ⟨z, hz, hm⟩ := f.st.obj ho
  have hF := (f.st.hp _ _ ho).1
  have hl : a ≠ env.locals := by rintro rfl; rw [f.loH] at ho; cases ho
  have hc : ∀ y c, env.cells.lookup y = some c → a ≠ c := fun y c hy => by rintro rfl; rw [(f.ce _ _ hy).1] at ho; cases ho
  have f₀ := f.drop (le_new hB)
  have fp := f₀.plus (own := [a]) fun b hb => by rw [List.mem_singleton.mp hb]; exact ⟨hF, hB, hl, hc⟩
  refine bot (h.run A _ s hr (ow.plus fun b hb y c hy => by rw [List.mem_singleton.mp hb]; exact hc y c hy) fp) fun v s' ⟨ρ', B', f', q⟩ => ?_
  have hz' : s'.heap.get? a = some z := f'.st.fr _ _ (by unfold Mine.plus; rw [if_pos (List.mem_singleton.mpr rfl)]; exact hz)
  have hn : B' a = none := by
    cases q' : B' a with
    | none => rfl
    | some y =>
      have := (f'.st.hp _ _ q').1
      unfold Mine.plus at this
      rw [if_pos (List.mem_singleton.mpr rfl), hz] at this; cases this
  have f₂ := f'.minus (fun b hb => by rw [List.mem_singleton.mp hb]; exact hF) f.st.base f.loF
  exact ⟨_, _, f₂.adopt hn hF hz' hm hl hc, q hn⟩
theorem EvV.frame {e : Expr} {Q : V → AH → Prop} (hB : B a = none) (h : EvV prog w S0 n env ρ e B fun v B' => B' a = none → Q v (B'.set a o)) : EvV prog w S0 n env ρ e (B.set a o) Q := Ev.frame hB h
theorem EvT.frame {e : Expr} {Q : Bool → AH → Prop} (hB : B a = none) (h : EvT prog w S0 n env ρ e B fun v B' => B' a = none → Q v (B'.set a o)) : EvT prog w S0 n env ρ e (B.set a o) Q := Ev.frame hB h
/-- names that are asked no more are dropped -/
theorem Fm.sub {F : CH} {s : Shared} {H : AH} {ρ₀ : Rho} (hs : ρ₀.Sublist ρ) (f : Fm prog w S0 env ρ F H s) : Fm prog w S0 env ρ₀ F H s :=
  ⟨f.st, f.ok, f.ns.imp fun _ x => ⟨x.1, fun y v hy => x.2 y v (hs.subset hy)⟩, f.loF, f.loH, f.ce, fun y v hy => f.cv y v (hs.subset hy), fun p hp => f.kn p (hs.subset hp), f.nd.sublist (hs.map _)⟩
theorem Ex.sub {t : Sem Flow} {H : AH} {Q : Flow → Rho → AH → Prop} {ρ₀ : Rho} (hs : ρ₀.Sublist ρ) (h : Ex prog w S0 n env ρ₀ t H Q) : Ex prog w S0 n env ρ t H Q := .mk fun A F s hr ow f => h.run A F s hr ow (f.sub hs)
end
/-! ### what a vector shows -/
structure Vec (H : AH) (x : Addr) (kind : Str) (it : Addr) (items : List V) (av : V) : Prop where
  ex : ∃ dx fs, H x = some (.inst 311 dx) ∧ H dx = some (.ns fs) ∧ fs.lookup (Str.ofString "kind") = some (.str kind) ∧ fs.lookup (Str.ofString "items") = some (.ref it) ∧ fs.lookup (Str.ofString "attrs") = some av ∧
    fs.lookup (Str.ofString "loose") = some (.bool false) ∧ fs.lookup (Str.ofString "copy") = none ∧ fs.length ≤ 20 ∧ isPlain av
  its : H it = some (.list items)
/-- the attributes of a vector -/
def Att (H : AH) (av : V) (kvs : List (Str × V)) : Prop := (av = .none ∧ kvs = []) ∨ ∃ d, av = .ref d ∧ H d = some (.sdict kvs)
theorem Vec.le {H H' : AH} {x it : Addr} {kind : Str} {items : List V} {av : V} (v : Vec H x kind it items av) (h : H.le H') : Vec H' x kind it items av :=
  ⟨let ⟨dx, fs, a, b, r⟩ := v.ex; ⟨dx, fs, h _ _ a, h _ _ b, r⟩, h _ _ v.its⟩
theorem Att.le {H H' : AH} {av : V} {kvs : List (Str × V)} (v : Att H av kvs) (h : H.le H') : Att H' av kvs := v.imp id fun ⟨d, a, b⟩ => ⟨d, a, h _ _ b⟩

section
variable {prog : Program} {w : World} {S0 : Shared} {K : Frag} {mV : Str → Option Value} {n : Nat} {env : Env} {ρ : Rho} {H : AH} {Q : V → AH → Prop}

theorem U_kind {x it : Addr} {kind : Str} {items : List V} {av : V} (F : Fa prog w S0 K mV) (v : Vec H x kind it items av) (h : Q (.str kind) H) : UnaV prog w S0 n (fun u => getAttr u (Str.ofString "kind") true) (.ref x) H Q := by
  obtain ⟨dx, fs, a, b, c, d, e, _⟩ := v.ex
  exact U_get F.cls (F.free _ (.head _)) a b c trivial h
theorem U_items {x it : Addr} {kind : Str} {items : List V} {av : V} (F : Fa prog w S0 K mV) (v : Vec H x kind it items av) (h : Q (.ref it) H) : UnaV prog w S0 n (fun u => getAttr u (Str.ofString "items") true) (.ref x) H Q := by
  obtain ⟨dx, fs, a, b, c, d, e, _⟩ := v.ex
  exact U_get F.cls (F.free _ (.tail _ (.head _))) a b d trivial h
theorem U_attrs {x it : Addr} {kind : Str} {items : List V} {av : V} (F : Fa prog w S0 K mV) (v : Vec H x kind it items av) (h : Q av H) : UnaV prog w S0 n (fun u => getAttr u (Str.ofString "attrs") true) (.ref x) H Q := by
  obtain ⟨dx, fs, a, b, c, d, e, _, _, _, p⟩ := v.ex
  exact U_get F.cls (F.free _ (.tail _ (.tail _ (.head _)))) a b e p h
theorem U_loose {x it : Addr} {kind : Str} {items : List V} {av : V} (F : Fa prog w S0 K mV) (v : Vec H x kind it items av) (h : Q (.bool false) H) : UnaV prog w S0 n (fun u => getAttr u (Str.ofString "loose") true) (.ref x) H Q := by
  obtain ⟨dx, fs, a, b, c, d, e, l, _, _, p⟩ := v.ex
  exact U_get F.cls (F.free _ (.tail _ (.tail _ (.tail _ (.tail _ (.head _)))))) a b l trivial h
end
section
local macro_rules
  | `(tactic| contradiction) => `(tactic| first
    | with_reducible refine X_cons ?_
    | with_reducible refine X_nil ?_
    | with_reducible refine X_if ?_
    | with_reducible refine X_ret ?_
    | with_reducible refine X_ret0 ?_
    | with_reducible refine X_break ?_
    | with_reducible refine X_continue ?_
    | ((with_reducible refine X_asg ?hc ?hs ?_); (case hc => rfl); (case hs => kernel_rfl))
    | ((with_reducible refine X_assignAttr ?hs ?_); (case hs => kernel_rfl))
    | ((with_reducible refine X_assignSub ?hs ?_); (case hs => kernel_rfl))
    | ((with_reducible refine X_expr ?hi ?hs ?_); (case hi => kernel_rfl); (case hs => kernel_rfl))
    | ((with_reducible refine T_cmp ?hm ?_); (case hm => rfl))
    | ((with_reducible refine T_cmp2 ?hm ?_); (case hm => rfl))
    | with_reducible refine T_not ?_
    | with_reducible refine T_and_nil ?_
    | with_reducible refine T_or_nil ?_
    | with_reducible refine T_and ?_
    | with_reducible refine T_or ?_
    | with_reducible refine T_name ?_
    | with_reducible refine T_call ?_
    | with_reducible refine T_attr ?_
    | ((with_reducible refine' E_name ?hv ?h); (case hv => (repeat (first | with_reducible exact List.mem_cons_self | with_reducible refine List.mem_cons_of_mem _ ?_))))
    | with_reducible refine E_int ?_
    | with_reducible refine E_str ?_
    | with_reducible refine E_none ?_
    | with_reducible refine E_bool ?_
    | ((with_reducible refine E_cmp ?hm ?_); (case hm => rfl))
    | with_reducible refine E_bin ?_
    | with_reducible refine E_ifexp ?_
    | with_reducible refine E_one ?_
    | with_reducible refine E_and ?_
    | with_reducible refine E_or ?_
    | with_reducible refine E_not ?_
    | ((with_reducible refine E_attr ?hb ?_); (case hb => rfl))
    | with_reducible refine E_list ?_
    | with_reducible refine E_tup ?_
    | with_reducible refine A_nil ?_
    | ((with_reducible refine A_one ?he ?_); (case he => rfl))
    | with_reducible refine seq_next ?_
    | with_reducible refine seq_ret ?_
    | with_reducible refine seq_brk ?_
    | with_reducible refine seq_cont ?_
    | with_reducible refine ret_next ?_
    | with_reducible refine ret_none ?_
    | with_reducible refine turn_next ?_
    | with_reducible refine turn_cont ?_
    | with_reducible refine turn_brk ?_
    | ((with_reducible refine' asg ?hu ?h); (case hu => (repeat (first | with_reducible exact Up.head | with_reducible apply Up.tail))))
    | with_reducible refine if_t ?_
    | with_reducible refine if_f ?_
    | with_reducible refine fin0 ?_
    | with_reducible refine finS ?_
    | with_reducible refine finT ?_
    | with_reducible refine res ?_
    | with_reducible refine U_truthy ?_
    | with_reducible refine U_kind ‹Fa _ _ _ _ _› (by assumption) ?_
    | with_reducible refine U_items ‹Fa _ _ _ _ _› (by assumption) ?_
    | with_reducible refine U_attrs ‹Fa _ _ _ _ _› (by assumption) ?_
    | with_reducible refine U_loose ‹Fa _ _ _ _ _› (by assumption) ?_
    | with_reducible refine B_isN_none ?_
    | with_reducible refine B_isN_ref ?_
    | with_reducible refine B_isN_int ?_
    | with_reducible refine B_isN_str ?_
    | with_reducible refine B_isNot_none ?_
    | with_reducible refine B_isNot_ref ?_
    | with_reducible refine B_isNot_int ?_
    | with_reducible refine B_isNot_str ?_
    | ((with_reducible refine B_isN ?hn ?_); (case hn => first | rfl | assumption))
    | ((with_reducible refine B_isNot ?hn ?_); (case hn => first | rfl | assumption))
    | ((with_reducible refine B_eq ?hn ?hm ?_); (case hn => first | rfl | assumption); (case hm => first | rfl | assumption))
    | ((with_reducible refine B_ne ?hn ?hm ?_); (case hn => first | rfl | assumption); (case hm => first | rfl | assumption))
    | with_reducible refine B_add ?_
    | with_reducible refine B_sub ?_
    | with_reducible refine B_lt ?_
    | with_reducible refine B_gt ?_
    | with_reducible refine B_le ?_
    | with_reducible refine B_ge ?_)

section
variable {prog : Program} {w : World} {S0 : Shared} {K : Frag} {mV : Str → Option Value} {n : Nat} {env : Env} {ρ : Rho} {H : AH} {Q : V → AH → Prop}
theorem Cn.forget {f : Value} {args : List V} (h : Cn prog w S0 n f args H fun v H' => H.le H' ∧ Q v H) : Cn prog w S0 n f args H Q := fun us hu => Op.forget (h us hu)
theorem keeps_F {a : Addr} (F : Fa prog w S0 K mV) (ha : a ∈ 308 :: cals) : Keeps1 prog w S0 (.ref a) := keeps_K F.B (F.keep a ha)

/-! ### get_attr -/
theorem c_get_attr {x it : Addr} {kind name : Str} {items : List V} {av : V} {kvs : List (Str × V)} (F : Fa prog w S0 K mV) (v : Vec H x kind it items av) (ha : Att H av kvs) (h : Q ((look kvs name).getD .none) H) : Cn prog w S0 (n + 1) (.ref 420) [.ref x, .str name] H Q := by
  refine e_get_attr F fun L q cd gb => ?_
  refine X_cons ?_
  rcases ha with ⟨rfl, rfl⟩ | ⟨d, rfl, hd⟩
  · repeat' contradiction
    exact h
  · repeat' contradiction
    refine E_dget F.B rfl rfl rfl ?_
    repeat' contradiction
    refine ⟨_, _, rfl, hd, ?_⟩
    repeat' contradiction
    refine ⟨_, rfl, hd, ?_⟩
    repeat' contradiction
    exact h

/-! ### is_atomic -/
theorem c_is_atomic {x it : Addr} {items : List V} {av : V} (F : Fa prog w S0 K mV) (v : Vec H x (Str.ofString "character") it items av) (h : Q (.bool true) H) : Cn prog w S0 (n + 1) (.ref 399) [.ref x] H Q := by
  refine Cn.forget (e_is_atomic F fun L q cd gb => ?_)
  refine X_cons ?_
  repeat' contradiction
  refine ⟨by decide, fun D hD => ?_⟩
  refine B_inT (AH.set_same ..) rfl rfl ?_
  repeat' contradiction
  refine ⟨AH.le_set _ hD, ?_⟩
  exact h

theorem c_get_none {x it : Addr} {kind name : Str} {items : List V} {av : V} {kvs : List (Str × V)} (F : Fa prog w S0 K mV) (v : Vec H x kind it items av) (ha : Att H av kvs) (hk : look kvs name = none) (h : Q .none H) : Cn prog w S0 (n + 1) (.ref 420) [.ref x, .str name] H Q :=
  c_get_attr F v ha (by rw [hk]; exact h)
theorem c_get_some {x it : Addr} {kind name : Str} {items : List V} {av r : V} {kvs : List (Str × V)} (F : Fa prog w S0 K mV) (v : Vec H x kind it items av) (ha : Att H av kvs) (hk : look kvs name = some r) (h : Q r H) : Cn prog w S0 (n + 1) (.ref 420) [.ref x, .str name] H Q :=
  c_get_attr F v ha (by rw [hk]; exact h)
theorem E_fn {x : Str} {a : Addr} {p pos : Pos} {es : List Expr} {Gs : List Str} (F : Fa prog w S0 K mV) (hg : (x, V.ref a) ∈ GG) (gb : Glob env Gs) (hx : x ∈ Gs) (ha : a ∈ 308 :: cals) (hs : es.all notStar = true)
    (h : EvA prog w S0 n env ρ es pos H fun vs H₁ => Cn prog w S0 n (.ref a) vs H₁ Q) : EvV prog w S0 n env ρ (.Call (.Name x p) es [] pos) H Q :=
  E_callG F.B hg rfl gb hx (keeps_F F ha) hs h
theorem E_bi {x : Str} {id : String} {p pos : Pos} {es : List Expr} {Gs : List Str} (F : Fa prog w S0 K mV) (hg : (x, V.oth (.builtin id)) ∈ GG) (gb : Glob env Gs) (hx : x ∈ Gs) (hs : es.all notStar = true)
    (h : EvA prog w S0 n env ρ es pos H fun vs H₁ => Cn prog w S0 n (.builtin id) vs H₁ Q) : EvV prog w S0 n env ρ (.Call (.Name x p) es [] pos) H Q :=
  E_callG F.B hg rfl gb hx (keeps_builtin id) hs h
theorem E_ty {x : Str} {id : String} {p pos : Pos} {es : List Expr} {Gs : List Str} (F : Fa prog w S0 K mV) (hg : (x, V.oth (.type id)) ∈ GG) (gb : Glob env Gs) (hx : x ∈ Gs) (hs : es.all notStar = true)
    (h : EvA prog w S0 n env ρ es pos H fun vs H₁ => Cn prog w S0 n (.type id) vs H₁ Q) : EvV prog w S0 n env ρ (.Call (.Name x p) es [] pos) H Q :=
  E_callG F.B hg rfl gb hx (keeps_type id) hs h

end
section
variable {prog : Program} {w : World} {S0 : Shared} {K : Frag} {mV : Str → Option Value} {n : Nat} {env : Env} {ρ : Rho} {H : AH} {Q : V → AH → Prop}
theorem c_label_text {item : V} (F : Fa prog w S0 K mV) (hs : item = .none ∨ ∃ t, item = .str t) (h : Q item H) : Cn prog w S0 (n + 1) (.ref 441) [.str (Str.ofString "character"), item] H Q := by
  refine e_label_text F fun L q cd gb => ?_
  refine X_cons ?_
  rcases hs with rfl | ⟨t, rfl⟩
  · repeat' contradiction
    exact h
  · repeat' contradiction
    refine if_by_t (by kernel_rfl) ?_
    repeat' contradiction
    exact h

theorem c_class_attr_none {x it : Addr} {kind : Str} {items : List V} {av : V} {kvs : List (Str × V)} (F : Fa prog w S0 K mV) (v : Vec H x kind it items av) (ha : Att H av kvs) (hk : look kvs (Str.ofString "class") = none)
    (h : ∀ D, H D = none → Q (.ref D) (H.set D (.list []))) : Cn prog w S0 (n + 2) (.ref 477) [.ref x] H Q := by
  refine e_class_attr F fun L q cd gb => ?_
  refine X_cons ?_
  repeat' contradiction
  refine E_fn F g_get_attr gb (mk1 (by kernel_rfl)) (mk2 (by kernel_rfl)) rfl ?_
  repeat' contradiction
  refine c_get_none F v ha hk ?_
  repeat' contradiction
  refine ⟨by decide, fun D hD => ?_⟩
  repeat' contradiction
  exact h D hD

theorem c_class_attr_some {x it cl clit : Addr} {kind kind' : Str} {items citems : List V} {av cav : V} {kvs : List (Str × V)} (F : Fa prog w S0 K mV) (v : Vec H x kind it items av) (ha : Att H av kvs) (hk : look kvs (Str.ofString "class") = some (.ref cl)) (hc : Vec H cl kind' clit citems cav)
    (h : ∀ D, H D = none → Q (.ref D) (H.set D (.list citems))) : Cn prog w S0 (n + 2) (.ref 477) [.ref x] H Q := by
  refine e_class_attr F fun L q cd gb => ?_
  refine X_cons ?_
  repeat' contradiction
  refine E_fn F g_get_attr gb (mk1 (by kernel_rfl)) (mk2 (by kernel_rfl)) rfl ?_
  repeat' contradiction
  refine c_get_some F v ha hk ?_
  repeat' contradiction
  refine E_ty F g_list gb (mk1 (by kernel_rfl)) rfl ?_
  repeat' contradiction
  refine Cn_listL hc.its fun D hD => ?_
  repeat' contradiction
  exact h D hD

end
section
variable {prog : Program} {w : World} {S0 : Shared} {K : Frag} {mV : Str → Option Value} {n : Nat} {env : Env} {ρ : Rho} {H : AH} {Q : V → AH → Prop}
/-! ### new vectors -/
/-- x is a vector made between H and H' -/
def New (H H' : AH) (x : Addr) : Prop := ∃ dx, H x = none ∧ H dx = none ∧ dx ≠ x ∧ H' x = some (.inst 311 dx)
/-- nothing but x's own names is changed -/
def Ch (x : Addr) (H H' : AH) : Prop := ∀ dx, H x = some (.inst 311 dx) → ∀ a o, a ≠ dx → H a = some o → H' a = some o
theorem AH.none_of {H H' : AH} {a : Addr} (h : H.le H') (ha : H' a = none) : H a = none := by
  cases q : H a with
  | none => rfl
  | some o => rw [h a o q] at ha; cases ha
theorem New.le {H₀ H H' H'' : AH} {x : Addr} (a : H₀.le H) (v : New H H' x) (b : H'.le H'') : New H₀ H'' x :=
  let ⟨dx, h1, h2, h3, h4⟩ := v; ⟨dx, AH.none_of a h1, AH.none_of a h2, h3, b _ _ h4⟩
theorem Ch.le {H₀ H H' : AH} {x : Addr} (v : New H₀ H x) (a : H₀.le H) (c : Ch x H H') : H₀.le H' := fun b o hb => by
  obtain ⟨dx, h1, h2, h3, h4⟩ := v
  exact c dx h4 b o (by rintro rfl; rw [h2] at hb; cases hb) (a b o hb)
theorem Ch.new {H₀ H H' : AH} {x : Addr} (v : New H₀ H x) (c : Ch x H H') : New H₀ H' x := by
  obtain ⟨dx, h1, h2, h3, h4⟩ := v
  exact ⟨dx, h1, h2, h3, c dx h4 x _ (Ne.symm h3) h4⟩
theorem Ch.refl (x : Addr) (H : AH) : Ch x H H := fun _ _ _ _ _ e => e

/-- self.name = v -/
theorem U_set {x dx : Addr} {fs : List (Str × V)} {name : Str} {v : V} {P : AH → Prop} (F : Fa prog w S0 K mV) (fr : Free mV name) (hx : H x = some (.inst 311 dx)) (hd : H dx = some (.ns fs)) (hl : fs.length < 1000) (h : P (H.set dx (.ns ((name, v) :: fs)))) :
    ∀ u y, abs u = v → abs y = .ref x → Op prog w S0 n (setAttr y name u) H fun _ H' => P H' := fun u y hu hy => by
  rw [abs_ref hy]
  refine O_set F.cls fr hx hd (fs' := (name, v) :: fs) (fun z => ?_) (by simp; omega) h
  rw [List.lookup_cons, hu]
  by_cases e : z = name
  · simp [e]
  · simp [e, beq_eq_false_iff_ne.mpr e]

noncomputable def vfs (kind : Str) (it : Addr) (av : V) : List (Str × V) := [(Str.ofString "loose", .bool false), (Str.ofString "shared", .bool false), (Str.ofString "attrs", av), (Str.ofString "items", .ref it), (Str.ofString "kind", .str kind)]

theorem x_init {x dx it : Addr} {kind : Str} {av : V} {L : Addr} {q : Str} {cd : Value} {P : AH → Prop} (F : Fa prog w S0 K mV) (hx : H x = some (.inst 311 dx)) (hd : H dx = some (.ns []))
    (h : ∀ H', (∀ a, a ≠ dx → H' a = H a) → H' dx = some (.ns (vfs kind it av)) → P H') :
    Ex prog w S0 n (mkE (fS (inCls 0 (topS 41))) L 301 q cd) [(Str.ofString "self", some (.ref x)), (Str.ofString "kind", some (.str kind)), (Str.ofString "items", some (.ref it)), (Str.ofString "attrs", some av)] (execs (fB (inCls 0 (topS 41))) (mkE (fS (inCls 0 (topS 41))) L 301 q cd)) H (retQ fun r H' => r = .none ∧ P H') := by
  have hne : x ≠ dx := by rintro rfl; rw [hx] at hd; cases hd
  refine X_cons ?_
  repeat' contradiction
  refine U_set F (F.free _ (.head _)) hx hd (by simp) ?_
  have hx1 := fun o => (AH.set_ne H o hne).trans hx
  repeat' contradiction
  refine U_set F (F.free _ (.tail _ (.head _))) (hx1 _) (AH.set_same ..) (by simp) ?_
  have hx2 := fun o o' => (AH.set_ne (H.set dx o) o' hne).trans (hx1 o)
  repeat' contradiction
  refine U_set F (F.free _ (.tail _ (.tail _ (.head _)))) (hx2 _ _) (AH.set_same ..) (by simp) ?_
  have hx3 := fun o o' o'' => (AH.set_ne ((H.set dx o).set dx o') o'' hne).trans (hx2 o o')
  repeat' contradiction
  refine U_set F (F.free _ (.tail _ (.tail _ (.tail _ (.head _))))) (hx3 _ _ _) (AH.set_same ..) (by simp) ?_
  have hx4 := fun o o' o'' o₃ => (AH.set_ne (((H.set dx o).set dx o').set dx o'') o₃ hne).trans (hx3 o o' o'')
  repeat' contradiction
  refine U_set F (F.free _ (.tail _ (.tail _ (.tail _ (.tail _ (.head _)))))) (hx4 _ _ _ _) (AH.set_same ..) (by simp) ?_
  repeat' contradiction
  refine ⟨rfl, h _ (fun a ha => ?_) (AH.set_same ..)⟩
  rw [AH.set_ne _ _ ha, AH.set_ne _ _ ha, AH.set_ne _ _ ha, AH.set_ne _ _ ha, AH.set_ne _ _ ha]

theorem okInit : okF (fS (inCls 0 (topS 41))) [Str.ofString "self", Str.ofString "kind", Str.ofString "items", Str.ofString "attrs"] [] = true := by kernel_rfl
theorem c_vec {kind : Str} {it : Addr} {av : V} {rest : List V} (F : Fa prog w S0 K mV) (hr : rest = [av] ∨ (rest = [] ∧ av = .none)) (hp : isPlain av) {items : List V} (hi : H it = some (.list items))
    (h : ∀ x H', H.le H' → New H H' x → Vec H' x kind it items av → Q (.ref x) H') : Cn prog w S0 (n + 2) (.ref 311) (.str kind :: .ref it :: rest) H Q := fun us hu => by
  obtain ⟨o, fd, ho, hcls, _⟩ := F.init.at_
  refine O_make F.cls F.mInit ho hcls fun x dx H₁ hx hdx hle hx₁ hd₁ => ?_
  have hne : dx ≠ x := by rintro rfl; rw [hx₁] at hd₁; cases hd₁
  have fin : ∀ H', (∀ a, a ≠ dx → H' a = H₁ a) → H' dx = some (.ns (vfs kind it av)) → Q (.ref x) H' := fun H' h1 h2 => by
    have hle' : H.le H' := fun a o e => by
      rw [h1 a (by rintro rfl; rw [hdx] at e; cases e)]; exact hle a o e
    refine h x H' hle' ⟨dx, hx, hdx, hne, by rw [h1 x (Ne.symm hne)]; exact hx₁⟩ ⟨⟨dx, vfs kind it av, by rw [h1 x (Ne.symm hne)]; exact hx₁, h2, ?_, ?_, ?_, ?_, ?_, by simp [vfs], hp⟩, hle' _ _ hi⟩ <;> kernel_rfl
  have run : ∀ L q cd, Ex prog w S0 n (mkE (fS (inCls 0 (topS 41))) L 301 q cd) [(Str.ofString "self", some (.ref x)), (Str.ofString "kind", some (.str kind)), (Str.ofString "items", some (.ref it)), (Str.ofString "attrs", some av)] (execs (fB (inCls 0 (topS 41))) (mkE (fS (inCls 0 (topS 41))) L 301 q cd)) H₁ (retQ fun r H' => r = .none ∧ Q (.ref x) H') :=
    fun L q cd => x_init F hx₁ hd₁ fin
  have hsub : ∀ (u1 u2 u3 : Value), abs u1 = .str kind → abs u2 = .ref it → abs u3 = av → ∀ y v, (y, some v) ∈ [(Str.ofString "self", some (V.ref x)), (Str.ofString "kind", some (.str kind)), (Str.ofString "items", some (.ref it)), (Str.ofString "attrs", some av)] →
      ∃ u, (y, u) ∈ [(Str.ofString "self", Value.ref x), (Str.ofString "kind", u1), (Str.ofString "items", u2), (Str.ofString "attrs", u3)] ∧ abs u = v := fun u1 u2 u3 e1 e2 e3 y v hv => by
    simp only [List.mem_cons, Prod.mk.injEq, Option.some.injEq, List.not_mem_nil, or_false] at hv
    rcases hv with ⟨rfl, rfl⟩ | ⟨rfl, rfl⟩ | ⟨rfl, rfl⟩ | ⟨rfl, rfl⟩
    · exact ⟨_, .head _, rfl⟩
    · exact ⟨_, .tail _ (.head _), e1⟩
    · exact ⟨_, .tail _ (.tail _ (.head _)), e2⟩
    · exact ⟨_, .tail _ (.tail _ (.tail _ (.head _))), e3⟩
  rcases hr with rfl | ⟨rfl, rfl⟩
  · obtain ⟨u1, u2, u3, rfl, e1, e2, e3⟩ := map_three hu
    refine C_core (ρ₀ := [(Str.ofString "self", some (V.ref x)), (Str.ofString "kind", some (.str kind)), (Str.ofString "items", some (.ref it)), (Str.ofString "attrs", some av)]) (binds := [(Str.ofString "self", .ref x), (Str.ofString "kind", u1), (Str.ofString "items", u2), (Str.ofString "attrs", u3)]) (Gs := []) F.B F.init (by kernel_rfl) (fun s fd hk h1 ⟨T, o, nn, d1, d2, d3⟩ => ?_) okInit (okF_nd okInit) (fun p hp => ?_) (hsub u1 u2 u3 e1 e2 e3) fun L q cd _ => run L q cd
    · obtain ⟨fa1, fa2, fa3, fa4, fa5, fa6, fa7, fa8, fa9, fa10⟩ := fd
      simp only at h1 d1
      subst h1
      exact .of_defaults d1 (hk T o d2) d3 rfl (by kernel_rfl)
    · exact List.mem_map_of_mem (f := (·.1)) hp
  · obtain ⟨u1, u2, rfl, e1, e2⟩ := map_two hu
    refine C_core (ρ₀ := [(Str.ofString "self", some (V.ref x)), (Str.ofString "kind", some (.str kind)), (Str.ofString "items", some (.ref it)), (Str.ofString "attrs", some .none)]) (binds := [(Str.ofString "self", .ref x), (Str.ofString "kind", u1), (Str.ofString "items", u2), (Str.ofString "attrs", .none)]) (Gs := []) F.B F.init (by kernel_rfl) (fun s fd hk h1 ⟨T, o, nn, d1, d2, d3⟩ => ?_) okInit (okF_nd okInit) (fun p hp => ?_) (hsub u1 u2 .none e1 e2 rfl) fun L q cd _ => run L q cd
    · obtain ⟨fa1, fa2, fa3, fa4, fa5, fa6, fa7, fa8, fa9, fa10⟩ := fd
      simp only at h1 d1
      subst h1
      exact .of_defaults d1 (hk T o d2) d3 rfl (by kernel_rfl)
    · exact List.mem_map_of_mem (f := (·.1)) hp

/-! ### integer, character, factor_class -/
theorem c_integer {a : Addr} {xs : List V} (F : Fa prog w S0 K mV) (ha : H a = some (.list xs)) (h : ∀ x it H', H.le H' → New H H' x → H it = none → Vec H' x (Str.ofString "integer") it xs .none → Q (.ref x) H') : Cn prog w S0 (n + 3) (.ref 358) [.ref a] H Q := by
  refine e_integer F fun L q cd gb => ?_
  refine X_cons ?_
  repeat' contradiction
  refine E_fn F g_Vector gb (mk1 (by kernel_rfl)) (mk2 (by kernel_rfl)) rfl ?_
  repeat' contradiction
  refine E_ty F g_list gb (mk1 (by kernel_rfl)) rfl ?_
  repeat' contradiction
  refine Cn_listL ha fun D hD => ?_
  repeat' contradiction
  have hle := AH.le_set (.list xs) hD
  refine c_vec F (.inr ⟨rfl, rfl⟩) trivial (AH.set_same ..) fun x H' l nw v => ?_
  repeat' contradiction
  exact h x D H' (AH.le_trans hle l) (nw.le hle (AH.le_refl _)) hD v
theorem c_character {a : Addr} {xs : List V} (F : Fa prog w S0 K mV) (ha : H a = some (.list xs)) (h : ∀ x it H', H.le H' → New H H' x → H it = none → Vec H' x (Str.ofString "character") it xs .none → Q (.ref x) H') : Cn prog w S0 (n + 3) (.ref 365) [.ref a] H Q := by
  refine e_character F fun L q cd gb => ?_
  refine X_cons ?_
  repeat' contradiction
  refine E_fn F g_Vector gb (mk1 (by kernel_rfl)) (mk2 (by kernel_rfl)) rfl ?_
  repeat' contradiction
  refine E_ty F g_list gb (mk1 (by kernel_rfl)) rfl ?_
  repeat' contradiction
  refine Cn_listL ha fun D hD => ?_
  repeat' contradiction
  have hle := AH.le_set (.list xs) hD
  refine c_vec F (.inr ⟨rfl, rfl⟩) trivial (AH.set_same ..) fun x H' l nw v => ?_
  repeat' contradiction
  exact h x D H' (AH.le_trans hle l) (nw.le hle (AH.le_refl _)) hD v

noncomputable def clsV (o : Bool) : List V := if o then [.str (Str.ofString "ordered"), .str (Str.ofString "factor")] else [.str (Str.ofString "factor")]
theorem c_factor_class {o : Bool} (F : Fa prog w S0 K mV) (h : ∀ x it H', H.le H' → New H H' x → H it = none → Vec H' x (Str.ofString "character") it (clsV o) .none → Q (.ref x) H') : Cn prog w S0 (n + 4) (.ref 1020) [.bool o] H Q := by
  refine e_factor_class F fun L q cd gb => ?_
  refine X_cons ?_
  cases o with
  | true =>
    repeat' contradiction
    refine E_fn F g_character gb (mk1 (by kernel_rfl)) (mk2 (by kernel_rfl)) rfl ?_
    repeat' contradiction
    refine ⟨(by first | exact len_ok rfl | simp [lid]), fun D hD => ?_⟩
    repeat' contradiction
    have hle := AH.le_set (.list [.str (Str.ofString "ordered"), .str (Str.ofString "factor")]) hD
    refine c_character F (AH.set_same ..) fun x it H' l nw hi v => ?_
    repeat' contradiction
    exact h x it H' (AH.le_trans hle l) (nw.le hle (AH.le_refl _)) (AH.none_of hle hi) v
  | false =>
    repeat' contradiction
    refine E_fn F g_character gb (mk1 (by kernel_rfl)) (mk2 (by kernel_rfl)) rfl ?_
    repeat' contradiction
    refine ⟨(by first | exact len_ok rfl | simp [lid]), fun D hD => ?_⟩
    repeat' contradiction
    have hle := AH.le_set (.list [.str (Str.ofString "factor")]) hD
    refine c_character F (AH.set_same ..) fun x it H' l nw hi v => ?_
    repeat' contradiction
    exact h x it H' (AH.le_trans hle l) (nw.le hle (AH.le_refl _)) (AH.none_of hle hi) v

end
section
variable {prog : Program} {w : World} {S0 : Shared} {K : Frag} {mV : Str → Option Value} {n : Nat} {env : Env} {ρ : Rho} {H : AH} {Q : V → AH → Prop}
/-! ### plain words -/
noncomputable def ov : Option Str → V
  | none => .none
  | some t => .str t
theorem ov_sc (o : Option Str) : isSc (ov o) = true := by cases o <;> rfl
theorem ov_cases (o : Option Str) : ov o = .none ∨ ∃ t, ov o = .str t := by
  cases o with
  | none => exact .inl rfl
  | some t => exact .inr ⟨t, rfl⟩
def Words (xs : List V) : Prop := ∀ x ∈ xs, x = .none ∨ ∃ t, x = .str t
theorem words_of (ws : List (Option Str)) : Words (ws.map ov) := fun x hx => by
  obtain ⟨o, _, rfl⟩ := List.mem_map.mp hx
  exact ov_cases o
theorem words_str (ws : List Str) : Words (ws.map V.str) := fun x hx => by
  obtain ⟨o, _, rfl⟩ := List.mem_map.mp hx
  exact .inr ⟨o, rfl⟩

/-! ### label_texts of a plain character vector -/
theorem c_label_texts {x it : Addr} {items : List V} (F : Fa prog w S0 K mV) (v : Vec H x (Str.ofString "character") it items .none) (hw : Words items) (hl : items.length ≤ lid) (h : ∀ D, H D = none → Q (.ref D) (H.set D (.list items))) : Cn prog w S0 (n + 2) (.ref 453) [.ref x] H Q := by
  refine e_label_texts F fun L q cd gb => ?_
  refine X_cons ?_
  repeat' contradiction
  refine E_fn F g_get_attr gb (mk1 (by kernel_rfl)) (mk2 (by kernel_rfl)) rfl ?_
  repeat' contradiction
  refine c_get_none F v (.inl ⟨rfl, rfl⟩) rfl ?_
  repeat' contradiction
  refine E_comp (caps := [Str.ofString "value"]) (Gs := [Str.ofString "label_text"]) (ρc := [(Str.ofString "value", some (.ref x))]) (fun _ => rfl) (by kernel_rfl) (.cons List.mem_cons_self .nil) ?_
  repeat' contradiction
  refine Comp_map id (It_list v.its) v.its hl (fun i y C hy gb' => ?_) ?_
  · refine E_fn F g_label_text gb' (mk1 (by kernel_rfl)) (mk2 (by kernel_rfl)) rfl ?_
    repeat' contradiction
    exact c_label_text F (hw y (List.mem_of_getElem? hy)) ⟨rfl, rfl⟩
  · intro D hD
    repeat' contradiction
    rw [List.map_id]
    exact h D hD

end
section
variable {prog : Program} {w : World} {S0 : Shared} {K : Frag} {mV : Str → Option Value} {n : Nat} {env : Env} {ρ : Rho} {H : AH} {Q : V → AH → Prop}
/-! ### factors -/
noncomputable def cv : Option Nat → V
  | none => .none
  | some k => .int k
noncomputable def wdo (levels : List Str) : Option Nat → Option Str
  | none => none
  | some k => levels[k - 1]?
noncomputable def fkv (lv cl : Addr) : List (Str × V) := [(Str.ofString "levels", .ref lv), (Str.ofString "class", .ref cl)]
structure Fac (H : AH) (x it : Addr) (codes : List (Option Nat)) (levels : List Str) (o : Bool) : Prop where
  ex : ∃ d lv lvit cl clit, Vec H x (Str.ofString "integer") it (codes.map cv) (.ref d) ∧ H d = some (.sdict (fkv lv cl)) ∧ Vec H lv (Str.ofString "character") lvit (levels.map V.str) .none ∧ Vec H cl (Str.ofString "character") clit (clsV o) .none
  ok : ∀ k, some k ∈ codes → 1 ≤ k ∧ k ≤ levels.length
  len : codes.length ≤ 100 ∧ levels.length ≤ 100
theorem Fac.le {H H' : AH} {x it : Addr} {codes : List (Option Nat)} {levels : List Str} {o : Bool} (f : Fac H x it codes levels o) (h : H.le H') : Fac H' x it codes levels o :=
  ⟨let ⟨d, lv, lvit, cl, clit, a, b, c, e⟩ := f.ex; ⟨d, lv, lvit, cl, clit, a.le h, h _ _ b, c.le h, e.le h⟩, f.ok, f.len⟩
theorem fkv_levels (lv cl : Addr) : look (fkv lv cl) (Str.ofString "levels") = some (.ref lv) := by kernel_rfl
theorem fkv_class (lv cl : Addr) : look (fkv lv cl) (Str.ofString "class") = some (.ref cl) := by kernel_rfl
theorem fkv_dim (lv cl : Addr) : look (fkv lv cl) (Str.ofString "dim") = none := by kernel_rfl
theorem fkv_names (lv cl : Addr) : look (fkv lv cl) (Str.ofString "names") = none := by kernel_rfl
theorem fkv_dimnames (lv cl : Addr) : look (fkv lv cl) (Str.ofString "dimnames") = none := by kernel_rfl

theorem c_level_texts {x it : Addr} {codes : List (Option Nat)} {levels : List Str} {o : Bool} (F : Fa prog w S0 K mV) (f : Fac H x it codes levels o) (h : ∀ D H', H.le H' → H D = none → H' D = some (.list (levels.map V.str)) → Q (.ref D) H') : Cn prog w S0 (n + 3) (.ref 1003) [.ref x] H Q := by
  obtain ⟨d, lv, lvit, cl, clit, v, hd, vl, vc⟩ := f.ex
  refine e_level_texts F fun L q cd gb => ?_
  refine X_cons ?_
  repeat' contradiction
  refine E_fn F g_get_attr gb (mk1 (by kernel_rfl)) (mk2 (by kernel_rfl)) rfl ?_
  repeat' contradiction
  refine c_get_some F v (.inr ⟨d, rfl, hd⟩) (fkv_levels lv cl) ?_
  repeat' contradiction
  refine E_fn F g_is_atomic gb (mk1 (by kernel_rfl)) (mk2 (by kernel_rfl)) rfl ?_
  repeat' contradiction
  refine c_is_atomic F vl ?_
  repeat' contradiction
  refine if_by_f rfl ?_
  repeat' contradiction
  refine E_comp (caps := []) (Gs := []) (ρc := []) (fun _ => rfl) (by kernel_rfl) .nil ?_
  refine E_fn F g_label_texts gb (mk1 (by kernel_rfl)) (mk2 (by kernel_rfl)) rfl ?_
  repeat' contradiction
  refine c_label_texts F vl (words_str _) (by have := f.len.2; simp [lid]; omega) fun D hD => ?_
  repeat' contradiction
  refine Comp_map id (It_list (AH.set_same ..)) (AH.set_same ..) (by have := f.len.2; simp [lid]; omega) (fun i y C hy gb' => ?_) ?_
  · obtain ⟨t, _, rfl⟩ := List.mem_map.mp (List.mem_of_getElem? hy)
    repeat' contradiction
    exact ⟨rfl, rfl⟩
  · intro D' hD'
    repeat' contradiction
    rw [List.map_id]
    exact h D' _ (AH.le_trans (AH.le_set _ hD) (AH.le_set _ hD')) (AH.none_of (AH.le_set _ hD) hD') (AH.set_same ..)

end
section
variable {prog : Program} {w : World} {S0 : Shared} {K : Frag} {mV : Str → Option Value} {n : Nat} {env : Env} {ρ : Rho} {H : AH} {Q : V → AH → Prop}
theorem c_is_factor_yes {x it : Addr} {codes : List (Option Nat)} {levels : List Str} {o : Bool} (F : Fa prog w S0 K mV) (f : Fac H x it codes levels o) (h : Q (.bool true) H) : Cn prog w S0 (n + 3) (.ref 991) [.ref x] H Q := by
  obtain ⟨d, lv, lvit, cl, clit, v, hd, vl, vc⟩ := f.ex
  refine Cn.forget (e_is_factor F fun L q cd gb => ?_)
  refine X_cons ?_
  repeat' contradiction
  refine if_by_t (by kernel_rfl) ?_
  repeat' contradiction
  refine E_fn F g_class_attr gb (mk1 (by kernel_rfl)) (mk2 (by kernel_rfl)) rfl ?_
  repeat' contradiction
  refine c_class_attr_some F v (.inr ⟨d, rfl, hd⟩) (fkv_class lv cl) vc fun D hD => ?_
  repeat' contradiction
  refine B_inL (AH.set_same ..) rfl (by cases o <;> rfl) ?_
  repeat' contradiction
  have e : (clsV o).any (veq · (.str (Str.ofString "factor"))) = true := by cases o <;> kernel_rfl
  rw [e]
  exact ⟨AH.le_set _ hD, h⟩
theorem c_is_factor_no {x it : Addr} {items : List V} (F : Fa prog w S0 K mV) (v : Vec H x (Str.ofString "integer") it items .none) (h : Q (.bool false) H) : Cn prog w S0 (n + 3) (.ref 991) [.ref x] H Q := by
  refine Cn.forget (e_is_factor F fun L q cd gb => ?_)
  refine X_cons ?_
  repeat' contradiction
  refine if_by_t (by kernel_rfl) ?_
  repeat' contradiction
  refine E_fn F g_class_attr gb (mk1 (by kernel_rfl)) (mk2 (by kernel_rfl)) rfl ?_
  repeat' contradiction
  refine c_class_attr_none F v (.inl ⟨rfl, rfl⟩) rfl fun D hD => ?_
  repeat' contradiction
  refine B_inL (AH.set_same ..) rfl rfl ?_
  repeat' contradiction
  exact ⟨AH.le_set _ hD, h⟩
theorem c_is_ordered {x it : Addr} {codes : List (Option Nat)} {levels : List Str} {o : Bool} (F : Fa prog w S0 K mV) (f : Fac H x it codes levels o) (h : Q (.bool o) H) : Cn prog w S0 (n + 4) (.ref 998) [.ref x] H Q := by
  obtain ⟨d, lv, lvit, cl, clit, v, hd, vl, vc⟩ := f.ex
  refine Cn.forget (e_is_ordered F fun L q cd gb => ?_)
  refine X_cons ?_
  repeat' contradiction
  refine E_fn F g_is_factor gb (mk1 (by kernel_rfl)) (mk2 (by kernel_rfl)) rfl ?_
  repeat' contradiction
  refine c_is_factor_yes F f ?_
  repeat' contradiction
  refine E_fn F g_class_attr gb (mk1 (by kernel_rfl)) (mk2 (by kernel_rfl)) rfl ?_
  repeat' contradiction
  refine c_class_attr_some F v (.inr ⟨d, rfl, hd⟩) (fkv_class lv cl) vc fun D hD => ?_
  repeat' contradiction
  refine B_inL (AH.set_same ..) rfl (by cases o <;> rfl) ?_
  repeat' contradiction
  have e : (clsV o).any (veq · (.str (Str.ofString "ordered"))) = o := by cases o <;> kernel_rfl
  rw [e]
  exact ⟨AH.le_set _ hD, h⟩

/-! ### codes_in, factor_texts -/
theorem cv_get {codes : List (Option Nat)} {i : Nat} {y : V} (h : (codes.map cv)[i]? = some y) : ∃ c, codes[i]? = some c ∧ y = cv c := by
  rw [List.getElem?_map] at h
  obtain ⟨c, hc, e⟩ := Option.map_eq_some_iff.mp h
  exact ⟨c, hc, e.symm⟩
theorem c_codes_in {x it : Addr} {codes : List (Option Nat)} {levels : List Str} {o : Bool} (F : Fa prog w S0 K mV) (f : Fac H x it codes levels o) (h : ∀ D H', H.le H' → H D = none → H' D = some (.list (codes.map cv)) → Q (.ref D) H') : Cn prog w S0 (n + 4) (.ref 1008) [.ref x] H Q := by
  obtain ⟨d, lv, lvit, cl, clit, v, hd, vl, vc⟩ := f.ex
  have hlen : (codes.map cv).length ≤ lid := by have := f.len.1; simp [lid]; omega
  refine e_codes_in F fun L q cd gb => ?_
  refine X_cons ?_
  repeat' contradiction
  refine E_bi F g_len gb (mk1 (by kernel_rfl)) rfl ?_
  repeat' contradiction
  refine E_fn F g_level_texts gb (mk1 (by kernel_rfl)) (mk2 (by kernel_rfl)) rfl ?_
  repeat' contradiction
  refine c_level_texts F f fun D H₁ l₁ hD hl => ?_
  repeat' contradiction
  refine Cn_lenL hl ?_
  rw [List.length_map]
  have v₁ := v.le l₁
  repeat' contradiction
  refine E_comp (caps := [Str.ofString "count"]) (Gs := []) (ρc := [(Str.ofString "count", some (.int levels.length))]) (fun _ => rfl) (by kernel_rfl) (.cons (.tail _ (.head _)) .nil) ?_
  repeat' contradiction
  refine Comp_ix (codes.map cv) rfl (It_list v₁.its) v₁.its hlen (fun i y C hy gb' => ?_) ?_
  · rw [hy]
    obtain ⟨c, hc, rfl⟩ := cv_get hy
    cases c with
    | none =>
      show EvV prog w S0 (n + 3) _ ((Str.ofString "code", some .none) :: _) _ _ _
      repeat' contradiction
      exact ⟨rfl, rfl⟩
    | some k =>
      obtain ⟨a, b⟩ := f.ok k (List.mem_of_getElem? hc)
      show EvV prog w S0 (n + 3) _ ((Str.ofString "code", some (.int k)) :: _) _ _ _
      repeat' contradiction
      refine if_by_t (by simp; omega) ?_
      repeat' contradiction
      refine if_by_t (by simp; omega) ?_
      repeat' contradiction
      exact ⟨rfl, rfl⟩
  · intro D' hD'
    repeat' contradiction
    exact h D' _ (AH.le_trans l₁ (AH.le_set _ hD')) (AH.none_of l₁ hD') (AH.set_same ..)

theorem wdo_get {codes : List (Option Nat)} {levels : List Str} {i : Nat} {c : Option Nat} (h : codes[i]? = some c) : ((codes.map (wdo levels)).map ov)[i]? = some (ov (wdo levels c)) := by
  rw [List.getElem?_map, List.getElem?_map, h]; rfl
theorem c_factor_texts {x it : Addr} {codes : List (Option Nat)} {levels : List Str} {o : Bool} (F : Fa prog w S0 K mV) (f : Fac H x it codes levels o) (h : ∀ D H', H.le H' → H D = none → H' D = some (.list ((codes.map (wdo levels)).map ov)) → Q (.ref D) H') : Cn prog w S0 (n + 5) (.ref 1013) [.ref x] H Q := by
  have hlen : (codes.map cv).length ≤ lid := by have := f.len.1; simp [lid]; omega
  refine e_factor_texts F fun L q cd gb => ?_
  refine X_cons ?_
  repeat' contradiction
  refine E_fn F g_level_texts gb (mk1 (by kernel_rfl)) (mk2 (by kernel_rfl)) rfl ?_
  repeat' contradiction
  refine c_level_texts F f fun D H₁ l₁ hD hl => ?_
  repeat' contradiction
  refine E_comp (caps := [Str.ofString "texts"]) (Gs := []) (ρc := [(Str.ofString "texts", some (.ref D))]) (fun _ => rfl) (by kernel_rfl) (.cons (.tail _ (.head _)) .nil) ?_
  refine E_fn F g_codes_in gb (mk1 (by kernel_rfl)) (mk2 (by kernel_rfl)) rfl ?_
  repeat' contradiction
  refine c_codes_in F (f.le l₁) fun D₂ H₂ l₂ hD₂ hc => ?_
  repeat' contradiction
  have hl₂ := l₂ _ _ hl
  refine Comp_ix ((codes.map (wdo levels)).map ov) (by simp) (It_list hc) hc hlen (fun i y C hy gb' => ?_) ?_
  · obtain ⟨c, hc', rfl⟩ := cv_get hy
    rw [wdo_get hc']
    cases c with
    | none =>
      show EvV prog w S0 (n + 4) _ ((Str.ofString "code", some .none) :: _) _ _ _
      repeat' contradiction
      exact ⟨rfl, rfl⟩
    | some k =>
      obtain ⟨a, b⟩ := f.ok k (List.mem_of_getElem? hc')
      show EvV prog w S0 (n + 4) _ ((Str.ofString "code", some (.int k)) :: _) _ _ _
      repeat' contradiction
      refine E_subL rfl ?_
      repeat' contradiction
      have e : levels[k - 1]? = some levels[k - 1] := List.getElem?_eq_getElem (by omega)
      refine ⟨_, _, _, .str levels[k - 1], rfl, rfl, hl₂, by omega, ?_, ?_, rfl⟩
      · rw [List.getElem?_map, show ((k : Int) - 1).toNat = k - 1 by omega, e]; rfl
      · show some (ov (levels[k - 1]?)) = _
        rw [e]; rfl
  · intro D' hD'
    repeat' contradiction
    have l := AH.le_trans (AH.le_trans l₁ l₂) (AH.le_set (.list ((codes.map (wdo levels)).map ov)) hD')
    exact h D' _ l (AH.none_of (AH.le_trans l₁ l₂) hD') (AH.set_same ..)

end
section
variable {prog : Program} {w : World} {S0 : Shared} {K : Frag} {mV : Str → Option Value} {n : Nat} {env : Env} {ρ : Rho} {H : AH} {Q : V → AH → Prop}
/-! ### what is asked of any vector -/
theorem Cn_isi {x dx : Addr} (F : Fa prog w S0 K mV) (hx : H x = some (.inst 311 dx)) (h : Q (.bool true) H) : Cn prog w S0 n (.builtin "isinstance") [.ref x, .ref 311] H Q := fun us hu => .mk <| fun A F' s hr f => by
  obtain ⟨u, y, rfl, h1, h2⟩ := map_two hu
  rw [abs_ref h1, abs_ref h2]
  obtain ⟨o, ho, hc, _⟩ := f.obj hx
  have hT : ∀ M, Looks M s.heap (typeOf (.ref x)) (.ref 311) := fun M A Q E s' hk hq => by
    unfold typeOf
    refine wpAny_bind (wpAny_load (hk x o ho) ?_)
    rw [hc]
    exact wpAny_pure hq
  refine isi_call (f.frag F.B) hT F.isi (by intro e; cases e) ⟨H, f, h⟩

def knd2 (k : Str) : Prop := k = Str.ofString "integer" ∨ k = Str.ofString "character"
theorem c_dim_of {x it : Addr} {kind : Str} {items : List V} {av : V} {kvs : List (Str × V)} (F : Fa prog w S0 K mV) (v : Vec H x kind it items av) (ha : Att H av kvs) (hk : look kvs (Str.ofString "dim") = none) (h : Q .none H) : Cn prog w S0 (n + 2) (.ref 465) [.ref x] H Q := by
  refine e_dim_of F fun L q cd gb => ?_
  refine X_cons ?_
  repeat' contradiction
  refine E_fn F g_get_attr gb (mk1 (by kernel_rfl)) (mk2 (by kernel_rfl)) rfl ?_
  repeat' contradiction
  refine c_get_none F v ha hk ?_
  repeat' contradiction
  exact h
theorem c_dimnames_of {x it : Addr} {kind : Str} {items : List V} {av : V} {kvs : List (Str × V)} (F : Fa prog w S0 K mV) (v : Vec H x kind it items av) (ha : Att H av kvs) (hk : look kvs (Str.ofString "dimnames") = none) (h : Q .none H) : Cn prog w S0 (n + 2) (.ref 470) [.ref x] H Q := by
  refine e_dimnames_of F fun L q cd gb => ?_
  refine X_cons ?_
  repeat' contradiction
  refine E_fn F g_get_attr gb (mk1 (by kernel_rfl)) (mk2 (by kernel_rfl)) rfl ?_
  repeat' contradiction
  refine c_get_none F v ha hk ?_
  repeat' contradiction
  exact h
theorem c_names_of {x it : Addr} {kind : Str} {items : List V} {av : V} {kvs : List (Str × V)} (F : Fa prog w S0 K mV) (hkd : knd2 kind) (v : Vec H x kind it items av) (ha : Att H av kvs) (hd : look kvs (Str.ofString "dim") = none) (hn : look kvs (Str.ofString "names") = none) (h : Q .none H) : Cn prog w S0 (n + 3) (.ref 458) [.ref x] H Q := by
  refine e_names_of F fun L q cd gb => ?_
  refine X_cons ?_
  repeat' contradiction
  refine if_by_f (by rcases hkd with rfl | rfl <;> kernel_rfl) ?_
  repeat' contradiction
  refine if_by_f (by rcases hkd with rfl | rfl <;> kernel_rfl) ?_
  repeat' contradiction
  refine E_fn F g_dim_of gb (mk1 (by kernel_rfl)) (mk2 (by kernel_rfl)) rfl ?_
  repeat' contradiction
  refine c_dim_of F v ha hd ?_
  repeat' contradiction
  refine E_fn F g_get_attr gb (mk1 (by kernel_rfl)) (mk2 (by kernel_rfl)) rfl ?_
  repeat' contradiction
  refine c_get_none F v ha hn ?_
  repeat' contradiction
  exact h
theorem c_is_vector {x it : Addr} {kind : Str} {items : List V} {av : V} (F : Fa prog w S0 K mV) (v : Vec H x kind it items av) (h : Q (.bool true) H) : Cn prog w S0 (n + 1) (.ref 392) [.ref x] H Q := by
  obtain ⟨dx, fs, hx, _⟩ := v.ex
  refine e_is_vector F fun L q cd gb => ?_
  refine X_cons ?_
  repeat' contradiction
  refine E_bi F g_isinstance gb (mk1 (by kernel_rfl)) rfl ?_
  repeat' contradiction
  refine E_glob F.B g_Vector (gb _ (mk1 (by kernel_rfl))).1 (gb _ (mk1 (by kernel_rfl))).2 ?_
  repeat' contradiction
  refine Cn_isi F hx ?_
  repeat' contradiction
  exact h
theorem c_length {x it : Addr} {kind : Str} {items : List V} {av : V} (F : Fa prog w S0 K mV) (hkd : knd2 kind) (v : Vec H x kind it items av) (h : Q (.int items.length) H) : Cn prog w S0 (n + 1) (.ref 385) [.ref x] H Q := by
  obtain ⟨dx, fs, hx, _⟩ := v.ex
  refine e_length F fun L q cd gb => ?_
  refine X_cons ?_
  repeat' contradiction
  refine if_by_f (by rcases hkd with rfl | rfl <;> kernel_rfl) ?_
  repeat' contradiction
  refine E_bi F g_isinstance gb (mk1 (by kernel_rfl)) rfl ?_
  repeat' contradiction
  refine E_glob F.B g_Vector (gb _ (mk1 (by kernel_rfl))).1 (gb _ (mk1 (by kernel_rfl))).2 ?_
  repeat' contradiction
  refine Cn_isi F hx ?_
  repeat' contradiction
  refine E_bi F g_len gb (mk1 (by kernel_rfl)) rfl ?_
  repeat' contradiction
  refine Cn_lenL v.its ?_
  repeat' contradiction
  exact h
theorem c_result_kind {kind : Str} (F : Fa prog w S0 K mV) (hkd : knd2 kind) (h : Q (.str kind) H) : Cn prog w S0 (n + 1) (.ref 782) [.str kind] H Q := by
  refine e_result_kind F fun L q cd gb => ?_
  refine X_cons ?_
  repeat' contradiction
  refine if_by_f (by rcases hkd with rfl | rfl <;> kernel_rfl) ?_
  repeat' contradiction
  exact h
theorem c_is_list_kind {kind : Str} (F : Fa prog w S0 K mV) (hkd : knd2 kind) (h : Q (.bool false) H) : Cn prog w S0 (n + 1) (.ref 768) [.str kind] H Q := by
  refine Cn.forget (e_is_list_kind F fun L q cd gb => ?_)
  refine X_cons ?_
  repeat' contradiction
  refine ⟨(by first | exact len_ok rfl | simp [lid]), fun D hD => ?_⟩
  refine B_inT (AH.set_same ..) rfl rfl ?_
  repeat' contradiction
  have e : ([V.str (Str.ofString "list"), .str (Str.ofString "expression"), .str (Str.ofString "pairlist")].any (veq · (.str kind))) = false := by rcases hkd with rfl | rfl <;> kernel_rfl
  exact ⟨AH.le_set _ hD, by rw [e]; exact h⟩
theorem c_lacking_item {kind : Str} (F : Fa prog w S0 K mV) (hkd : knd2 kind) (h : Q .none H) : Cn prog w S0 (n + 1) (.ref 761) [.str kind] H Q := by
  refine Cn.forget (e_lacking_item F fun L q cd gb => ?_)
  refine X_cons ?_
  repeat' contradiction
  refine ⟨(by first | exact len_ok rfl | simp [lid]), fun D hD => ?_⟩
  refine B_inT (AH.set_same ..) rfl rfl ?_
  have e : ([V.str (Str.ofString "list"), .str (Str.ofString "expression"), .str (Str.ofString "pairlist")].any (veq · (.str kind))) = false := by rcases hkd with rfl | rfl <;> kernel_rfl
  rw [e]
  repeat' contradiction
  exact ⟨AH.le_set _ hD, h⟩
theorem c_named_none {v : V} (F : Fa prog w S0 K mV) (h : Q v H) : Cn prog w S0 (n + 1) (.ref 372) [v, .none] H Q := by
  refine e_named F fun L q cd gb => ?_
  refine X_cons ?_
  repeat' contradiction
  exact h
theorem c_whole_subscripts {x it : Addr} {items : List V} {av : V} (F : Fa prog w S0 K mV) (v : Vec H x (Str.ofString "integer") it items av) (h : Q (.ref it) H) : Cn prog w S0 (n + 1) (.ref 673) [.ref x] H Q := by
  refine e_whole_subscripts F fun L q cd gb => ?_
  refine X_cons ?_
  repeat' contradiction
  refine if_by_t (by kernel_rfl) ?_
  repeat' contradiction
  exact h
theorem c_is_matrix_index {ix : V} (F : Fa prog w S0 K mV) (h : Q (.bool false) H) : Cn prog w S0 (n + 1) (.ref 734) [ix, .none] H Q := by
  refine e_is_matrix_index F fun L q cd gb => ?_
  refine X_cons ?_
  repeat' contradiction
  exact h

end
section
variable {prog : Program} {w : World} {S0 : Shared} {K : Frag} {mV : Str → Option Value} {n : Nat} {env : Env} {ρ : Rho} {H : AH} {Q : V → AH → Prop}
/-! ### defs with a default that are called whole -/
theorem e_matrix_index {v1 v2 v3 : V} (F : Fa prog w S0 K mV) (h : ∀ L q cd, Glob (mkE (fS (topS 109)) L 754 q cd) [Str.ofString "is_matrix_index"] → Ex prog w S0 n (mkE (fS (topS 109)) L 754 q cd) ((Str.ofString "ix", some v1) :: (Str.ofString "dims", some v2) :: (Str.ofString "dimnames", some v3) :: []) (execs (fB (topS 109)) (mkE (fS (topS 109)) L 754 q cd)) H (retQ Q)) : Cn prog w S0 (n + 1) (.ref 754) [v1, v2, v3] H Q := fun us hu => by
  obtain ⟨u1, u2, u3, rfl, rfl, rfl, rfl⟩ := map_three hu
  refine C_all (xs := [Str.ofString "ix", Str.ofString "dims", Str.ofString "dimnames"]) (more := []) (Gs := [Str.ofString "is_matrix_index"]) F.B (F.fnD (754, 109) (List.mem_of_getElem? (i := 0) rfl)) (by kernel_rfl) rfl (fun s fd hk h1 ⟨T, o, nn, d1, d2, d3⟩ => ?_) (by kernel_rfl) h
  obtain ⟨fa1, fa2, fa3, fa4, fa5, fa6, fa7, fa8, fa9, fa10⟩ := fd
  simp only at h1 d1
  subst h1
  exact .of_defaults d1 (hk T o d2) d3 rfl (by kernel_rfl)
theorem e_list_of {v1 v2 : V} (F : Fa prog w S0 K mV) (h : ∀ L q cd, Glob (mkE (fS (topS 48)) L 378 q cd) [Str.ofString "named", Str.ofString "Vector"] → Ex prog w S0 n (mkE (fS (topS 48)) L 378 q cd) ((Str.ofString "items", some v1) :: (Str.ofString "names", some v2) :: []) (execs (fB (topS 48)) (mkE (fS (topS 48)) L 378 q cd)) H (retQ Q)) : Cn prog w S0 (n + 1) (.ref 378) [v1, v2] H Q := fun us hu => by
  obtain ⟨u1, u2, rfl, rfl, rfl⟩ := map_two hu
  refine C_all (xs := [Str.ofString "items", Str.ofString "names"]) (more := []) (Gs := [Str.ofString "named", Str.ofString "Vector"]) F.B (F.fnD (378, 48) (List.mem_of_getElem? (i := 1) rfl)) (by kernel_rfl) rfl (fun s fd hk h1 ⟨T, o, nn, d1, d2, d3⟩ => ?_) (by kernel_rfl) h
  obtain ⟨fa1, fa2, fa3, fa4, fa5, fa6, fa7, fa8, fa9, fa10⟩ := fd
  simp only at h1 d1
  subst h1
  exact .of_defaults d1 (hk T o d2) d3 rfl (by kernel_rfl)

theorem c_matrix_index {ix dn : V} (F : Fa prog w S0 K mV) (h : Q .none H) : Cn prog w S0 (n + 2) (.ref 754) [ix, .none, dn] H Q := by
  refine e_matrix_index F fun L q cd gb => ?_
  refine X_cons ?_
  repeat' contradiction
  refine E_fn F g_is_matrix_index gb (mk1 (by kernel_rfl)) (mk2 (by kernel_rfl)) rfl ?_
  repeat' contradiction
  refine c_is_matrix_index F ?_
  repeat' contradiction
  refine if_by_t rfl ?_
  repeat' contradiction
  exact h

/-! ### places -/
noncomputable def pl (ks : List Nat) : List V := ks.map fun k : Nat => V.int (k : Int)
noncomputable def pl1 (ks : List Nat) : List V := ks.map fun k : Nat => V.int ((k : Int) + 1)
theorem pl_length (ks : List Nat) : (pl ks).length = ks.length := by simp [pl]
theorem pl1_length (ks : List Nat) : (pl1 ks).length = ks.length := by simp [pl1]
theorem pl_take (ks : List Nat) {i k : Nat} (h : ks[i]? = some k) : (pl ks).take i ++ [V.int (k : Int)] = (pl ks).take (i + 1) := by
  rw [List.take_add_one]; simp [pl, h]
theorem c_whole_places {a : Addr} {ks : List Nat} {nv : V} (F : Fa prog w S0 K mV) (ha : H a = some (.list (pl1 ks))) (hl : ks.length ≤ 100) (h : ∀ D H', H.le H' → H D = none → H' D = some (.list (pl ks)) → Q (.ref D) H') : Cn prog w S0 (n + 1) (.ref 685) [.ref a, nv] H Q := by
  refine e_whole_places F fun L q cd gb => ?_
  refine X_cons ?_
  repeat' contradiction
  refine ⟨(by first | exact len_ok rfl | simp [lid]), fun P hP => ?_⟩
  repeat' contradiction
  refine E_dict0 (dkI prog w) fun D hD => ?_
  repeat' contradiction
  have lP := AH.le_set (.list []) hP
  have lD := AH.le_set (.idict []) hD
  have hPD : P ≠ D := by rintro rfl; rw [AH.set_same] at hD; cases hD
  have hD0 : H D = none := AH.none_of lP hD
  refine X_for (fun _ => rfl) ?_
  repeat' contradiction
  have haP : a ≠ P := by rintro rfl; rw [hP] at ha; cases ha
  have haD : a ≠ D := by rintro rfl; rw [hD0] at ha; cases ha
  have key : ∀ xs, ((H.set P (.list xs)).set D (.idict [])) a = some (.list (pl1 ks)) := fun xs => by rw [AH.set_ne _ _ haD, AH.set_ne _ _ haP]; exact ha
  refine ⟨pl1 ks, fun H' => H' a = some (.list (pl1 ks)), fun i ρ' H' => ∃ o, ρ' = [(Str.ofString "items", some (.ref a)), (Str.ofString "n", some nv), (Str.ofString "places", some (.ref P)), (Str.ofString "left_out", some (.ref D)), (Str.ofString "lacks", some (.bool false)), (Str.ofString "item", o)] ∧ H' = (H.set P (.list ((pl ks).take i))).set D (.idict []),
    It_list (key _), ⟨_, rfl, rfl⟩, ?_, ?_, ?_⟩
  · rintro i ρ' H' ⟨o, rfl, rfl⟩
    exact key _
  · rintro i y ρ' H' hy ⟨o, rfl, rfl⟩
    obtain ⟨k, hk, rfl⟩ : ∃ k, ks[i]? = some k ∧ y = .int ((k : Int) + 1) := by
      rw [pl1, List.getElem?_map] at hy
      obtain ⟨k, hk, e⟩ := Option.map_eq_some_iff.mp hy
      exact ⟨k, hk, e.symm⟩
    refine ⟨_, .tail (.tail (.tail (.tail (.tail .head)))), ?_⟩
    repeat' contradiction
    refine if_by_t (decide_eq_true (by omega)) ?_
    repeat' contradiction
    refine E_append rfl rfl rfl ?_
    repeat' contradiction
    have hPl : ((H.set P (.list ((pl ks).take i))).set D (.idict [])) P = some (.list ((pl ks).take i)) := by rw [AH.set_ne _ _ hPD, AH.set_same]
    refine ⟨_, _, rfl, hPl, ?_⟩
    repeat' contradiction
    refine ⟨hPl, by simp [pl, lid]; omega, ?_⟩
    repeat' contradiction
    refine ⟨_, rfl, ?_⟩
    rw [AH.set_comm _ (Ne.symm hPD), AH.set_set, show ((k : Int) + 1 - 1) = k by omega, pl_take ks hk]
  · rintro ρ' H' ⟨o, rfl, rfl⟩
    repeat' contradiction
    refine E_bi F g_len gb (mk1 (by kernel_rfl)) rfl ?_
    repeat' contradiction
    refine Cn_lenD F.B (dkI prog w) (AH.set_same ..) ?_
    repeat' contradiction
    refine if_by_t rfl ?_
    repeat' contradiction
    have e : (pl ks).take (pl1 ks).length = pl ks := by rw [pl1_length, ← pl_length, List.take_length]
    rw [e]
    have lP' := AH.le_set (.list (pl ks)) hP
    have lD' := AH.le_set_of (.idict []) lP' hD0
    exact h P _ lD' hP (by rw [AH.set_ne _ _ hPD, AH.set_same])

end
section
variable {prog : Program} {w : World} {S0 : Shared} {K : Frag} {mV : Str → Option Value} {n : Nat} {env : Env} {ρ : Rho} {H : AH} {Q : V → AH → Prop}
theorem le1 {H : AH} {a : Addr} {o : O} (h : H a = none) : H.le (H.set a o) := AH.le_set o h
theorem c_positions {x it : Addr} {ks : List Nat} {av nv nm : V} {b : Bool} (F : Fa prog w S0 K mV) (v : Vec H x (Str.ofString "integer") it (pl1 ks) av) (hl : ks.length ≤ 100) (h : ∀ T D H', H.le H' → H D = none → H T = none → T ≠ D → H' D = some (.list (pl ks)) → H' T = some (.tup [.ref D, .none]) → Q (.ref T) H') : Cn prog w S0 (n + 2) (.ref 713) [.ref x, nv, nm, .bool b] H Q := by
  refine e_positions F fun L q cd gb => ?_
  refine X_cons ?_
  repeat' contradiction
  refine if_by_f (by kernel_rfl) ?_
  repeat' contradiction
  refine if_by_f (by kernel_rfl) ?_
  repeat' contradiction
  refine if_by_f (by kernel_rfl) ?_
  repeat' contradiction
  refine if_by_t (by kernel_rfl) ?_
  repeat' contradiction
  refine E_fn F g_whole_places gb (mk1 (by kernel_rfl)) (mk2 (by kernel_rfl)) rfl ?_
  repeat' contradiction
  refine E_fn F g_whole_subscripts gb (mk1 (by kernel_rfl)) (mk2 (by kernel_rfl)) rfl ?_
  repeat' contradiction
  refine c_whole_subscripts F v ?_
  repeat' contradiction
  refine c_whole_places F v.its hl fun D H' l hD hd => ?_
  repeat' contradiction
  refine ⟨(by first | exact len_ok rfl | simp [lid]), fun T hT => ?_⟩
  repeat' contradiction
  exact h T D _ (AH.le_trans l (le1 hT)) hD (AH.none_of l hT) (by rintro rfl; rw [hd] at hT; cases hT) (AH.le_set _ hT _ _ hd) (AH.set_same ..)

/-- the items at the places -/
noncomputable def at_ (items : List V) (ks : List Nat) : List V := ks.map fun k => items.getD k .none
theorem at_take (items : List V) (ks : List Nat) {i k : Nat} (h : ks[i]? = some k) : (at_ items ks).take i ++ [items.getD k .none] = (at_ items ks).take (i + 1) := by
  rw [List.take_add_one]; simp [at_, h]
theorem c_items_at {x it pa : Addr} {kind : Str} {items : List V} {av : V} {ks : List Nat} (F : Fa prog w S0 K mV) (v : Vec H x kind it items av) (hp : H pa = some (.list (pl ks))) (hk : ∀ k ∈ ks, k < items.length) (hl : ks.length ≤ 100) (h : ∀ D H', H.le H' → H D = none → H' D = some (.list (at_ items ks)) → Q (.ref D) H') : Cn prog w S0 (n + 2) (.ref 789) [.ref x, .ref pa] H Q := by
  refine e_items_at F fun L q cd gb => ?_
  refine X_cons ?_
  repeat' contradiction
  refine ⟨(by first | exact len_ok rfl | simp [lid]), fun P hP => ?_⟩
  repeat' contradiction
  have v₁ := v.le (le1 (o := .list []) hP)
  refine E_bi F g_len gb (mk1 (by kernel_rfl)) rfl ?_
  repeat' contradiction
  refine Cn_lenL v₁.its ?_
  repeat' contradiction
  refine X_for (fun _ => rfl) ?_
  repeat' contradiction
  have hPp : pa ≠ P := by rintro rfl; rw [hP] at hp; cases hp
  have key : ∀ xs, (H.set P (.list xs)) pa = some (.list (pl ks)) := fun xs => by rw [AH.set_ne _ _ hPp]; exact hp
  refine ⟨pl ks, fun H' => H' pa = some (.list (pl ks)), fun i ρ' H' => ∃ o, ρ' = [(Str.ofString "v", some (.ref x)), (Str.ofString "places", some (.ref pa)), (Str.ofString "found", some (.ref P)), (Str.ofString "n", some (.int items.length)), (Str.ofString "place", o)] ∧ H' = H.set P (.list ((at_ items ks).take i)),
    It_list (key _), ⟨_, rfl, rfl⟩, ?_, ?_, ?_⟩
  · rintro i ρ' H' ⟨o, rfl, rfl⟩
    exact key _
  · rintro i y ρ' H' hy ⟨o, rfl, rfl⟩
    obtain ⟨k, hk', rfl⟩ : ∃ k, ks[i]? = some k ∧ y = .int (k : Int) := by
      rw [pl, List.getElem?_map] at hy
      obtain ⟨k, hk, e⟩ := Option.map_eq_some_iff.mp hy
      exact ⟨k, hk, e.symm⟩
    have hlt := hk k (List.mem_of_getElem? hk')
    have v₂ := v.le (le1 (o := .list ((at_ items ks).take i)) hP)
    refine ⟨_, .tail (.tail (.tail (.tail .head))), ?_⟩
    repeat' contradiction
    refine if_by_f (decide_eq_false (by omega)) ?_
    repeat' contradiction
    refine E_append rfl rfl rfl ?_
    repeat' contradiction
    refine ⟨_, _, rfl, AH.set_same .., ?_⟩
    refine E_subL rfl ?_
    repeat' contradiction
    refine ⟨_, _, _, items.getD k .none, rfl, rfl, v₂.its, by omega, ?_, AH.set_same .., by simp [at_, lid]; omega, ?_⟩
    · rw [show ((k : Int)).toNat = k by omega, List.getD_eq_getElem?_getD, List.getElem?_eq_getElem hlt]; rfl
    repeat' contradiction
    refine ⟨_, rfl, ?_⟩
    rw [AH.set_set, at_take items ks hk']
  · rintro ρ' H' ⟨o, rfl, rfl⟩
    repeat' contradiction
    have e : (at_ items ks).take (pl ks).length = at_ items ks := by rw [pl_length]; exact List.take_of_length_le (by simp [at_])
    rw [e]
    exact h P _ (le1 hP) hP (AH.set_same ..)

theorem c_subset_vector {x it ix xit : Addr} {kind : Str} {items : List V} {av av' : V} {kvs : List (Str × V)} {ks : List Nat} (F : Fa prog w S0 K mV) (hkd : knd2 kind) (v : Vec H x kind it items av) (ha : Att H av kvs) (hd : look kvs (Str.ofString "dim") = none) (hn : look kvs (Str.ofString "names") = none)
    (vi : Vec H ix (Str.ofString "integer") xit (pl1 ks) av') (hk : ∀ k ∈ ks, k < items.length) (hl : ks.length ≤ 100) (h : ∀ y yit H', H.le H' → New H H' y → H yit = none → Vec H' y kind yit (at_ items ks) .none → Q (.ref y) H') : Cn prog w S0 (n + 4) (.ref 803) [.ref x, .ref ix] H Q := by
  refine e_subset_vector F fun L q cd gb => ?_
  refine X_cons ?_
  repeat' contradiction
  refine E_fn F g_names_of gb (mk1 (by kernel_rfl)) (mk2 (by kernel_rfl)) rfl ?_
  repeat' contradiction
  refine c_names_of F hkd v ha hd hn ?_
  repeat' contradiction
  refine E_subT rfl ?_
  refine E_fn F g_positions gb (mk1 (by kernel_rfl)) (mk2 (by kernel_rfl)) rfl ?_
  repeat' contradiction
  refine E_bi F g_len gb (mk1 (by kernel_rfl)) rfl ?_
  repeat' contradiction
  refine Cn_lenL v.its ?_
  repeat' contradiction
  refine c_positions F vi hl fun T D H₁ l₁ hD hT _ hd₁ ht₁ => ?_
  repeat' contradiction
  refine ⟨_, _, _, .ref D, rfl, rfl, ht₁, by omega, rfl, ?_⟩
  repeat' contradiction
  have v₁ := v.le l₁
  refine E_fn F g_Vector gb (mk1 (by kernel_rfl)) (mk2 (by kernel_rfl)) rfl ?_
  repeat' contradiction
  refine E_fn F g_result_kind gb (mk1 (by kernel_rfl)) (mk2 (by kernel_rfl)) rfl ?_
  repeat' contradiction
  refine c_result_kind F hkd ?_
  repeat' contradiction
  refine E_fn F g_items_at gb (mk1 (by kernel_rfl)) (mk2 (by kernel_rfl)) rfl ?_
  repeat' contradiction
  refine c_items_at F v₁ hd₁ hk hl fun E H₂ l₂ hE he => ?_
  repeat' contradiction
  refine c_vec F (.inr ⟨rfl, rfl⟩) trivial he fun y H₃ l₃ nw v₃ => ?_
  repeat' contradiction
  exact h y E H₃ (AH.le_trans (AH.le_trans l₁ l₂) l₃) (nw.le (AH.le_trans l₁ l₂) (AH.le_refl _)) (AH.none_of l₁ hE) v₃

end
section
variable {prog : Program} {w : World} {S0 : Shared} {K : Frag} {mV : Str → Option Value} {n : Nat} {env : Env} {ρ : Rho} {H : AH} {Q : V → AH → Prop}
theorem c_subset_any {x it ix xit il : Addr} {kind : Str} {items : List V} {av av' : V} {kvs : List (Str × V)} {ks : List Nat} (F : Fa prog w S0 K mV) (hkd : knd2 kind) (v : Vec H x kind it items av) (ha : Att H av kvs) (hd : look kvs (Str.ofString "dim") = none) (hn : look kvs (Str.ofString "names") = none) (hdn : look kvs (Str.ofString "dimnames") = none)
    (hil : H il = some (.list [.ref ix])) (vi : Vec H ix (Str.ofString "integer") xit (pl1 ks) av') (hk : ∀ k ∈ ks, k < items.length) (hl : ks.length ≤ 100) (h : ∀ y yit H', H.le H' → New H H' y → H yit = none → Vec H' y kind yit (at_ items ks) .none → Q (.ref y) H') : Cn prog w S0 (n + 5) (.ref 881) [.ref x, .ref il, .bool true, .bool true] H Q := by
  refine e_subset_any F fun L q cd gb => ?_
  refine X_cons ?_
  repeat' contradiction
  refine if_by_f (by rcases hkd with rfl | rfl <;> kernel_rfl) ?_
  repeat' contradiction
  refine E_bi F g_len gb (mk1 (by kernel_rfl)) rfl ?_
  repeat' contradiction
  refine Cn_lenL hil ?_
  repeat' contradiction
  refine if_by_f rfl ?_
  repeat' contradiction
  refine E_bi F g_len gb (mk1 (by kernel_rfl)) rfl ?_
  repeat' contradiction
  refine Cn_lenL hil ?_
  repeat' contradiction
  refine if_by_t rfl ?_
  repeat' contradiction
  refine E_subL rfl ?_
  repeat' contradiction
  refine ⟨_, _, _, .ref ix, rfl, rfl, hil, by omega, rfl, ?_⟩
  repeat' contradiction
  refine if_by_f (by kernel_rfl) ?_
  repeat' contradiction
  refine if_by_f (by rcases hkd with rfl | rfl <;> kernel_rfl) ?_
  repeat' contradiction
  refine E_fn F g_is_vector gb (mk1 (by kernel_rfl)) (mk2 (by kernel_rfl)) rfl ?_
  repeat' contradiction
  refine c_is_vector F v ?_
  repeat' contradiction
  refine if_by_f rfl ?_
  repeat' contradiction
  refine E_fn F g_dim_of gb (mk1 (by kernel_rfl)) (mk2 (by kernel_rfl)) rfl ?_
  repeat' contradiction
  refine c_dim_of F v ha hd ?_
  repeat' contradiction
  refine E_bi F g_len gb (mk1 (by kernel_rfl)) rfl ?_
  repeat' contradiction
  refine Cn_lenL hil ?_
  repeat' contradiction
  refine if_by_t rfl ?_
  repeat' contradiction
  refine E_fn F g_matrix_index gb (mk1 (by kernel_rfl)) (mk2 (by kernel_rfl)) rfl ?_
  repeat' contradiction
  refine E_subL rfl ?_
  repeat' contradiction
  refine ⟨_, _, _, .ref ix, rfl, rfl, hil, by omega, rfl, ?_⟩
  repeat' contradiction
  refine E_fn F g_dimnames_of gb (mk1 (by kernel_rfl)) (mk2 (by kernel_rfl)) rfl ?_
  repeat' contradiction
  refine c_dimnames_of F v ha hdn ?_
  repeat' contradiction
  refine c_matrix_index F ?_
  repeat' contradiction
  refine E_fn F g_subset_vector gb (mk1 (by kernel_rfl)) (mk2 (by kernel_rfl)) rfl ?_
  repeat' contradiction
  refine E_subL rfl ?_
  repeat' contradiction
  refine ⟨_, _, _, .ref ix, rfl, rfl, hil, by omega, rfl, ?_⟩
  repeat' contradiction
  refine c_subset_vector F hkd v ha hd hn vi hk hl fun y yit H' l nw hy vy => ?_
  repeat' contradiction
  exact h y yit H' l nw hy vy

/-! ### codes_alone -/
theorem c_codes_alone {x it : Addr} {codes : List (Option Nat)} {levels : List Str} {o : Bool} (F : Fa prog w S0 K mV) (f : Fac H x it codes levels o) (h : ∀ y yit H', H.le H' → New H H' y → H yit = none → Vec H' y (Str.ofString "integer") yit (codes.map cv) .none → Q (.ref y) H') : Cn prog w S0 (n + 4) (.ref 1080) [.ref x] H Q := by
  obtain ⟨d, lv, lvit, cl, clit, v, hd, vl, vc⟩ := f.ex
  refine e_codes_alone F fun L q cd gb => ?_
  refine X_cons ?_
  repeat' contradiction
  refine E_fn F g_integer gb (mk1 (by kernel_rfl)) (mk2 (by kernel_rfl)) rfl ?_
  repeat' contradiction
  refine c_integer F v.its fun y yit H₁ l₁ nw hyit vy => ?_
  repeat' contradiction
  have v₁ := v.le l₁
  repeat' contradiction
  refine E_dict0 (dkS prog w) fun D hD => ?_
  repeat' contradiction
  have lD := le1 (o := .sdict []) hD
  have v₂ := v₁.le lD
  have hd₂ := lD _ _ (l₁ _ _ hd)
  have hdD : D ≠ d := by rintro rfl; rw [l₁ _ _ hd] at hD; cases hD
  refine X_forD F.B (fun _ => rfl) ?_
  repeat' contradiction
  refine ⟨d, _, fun i ρ' H' => ∃ o, ρ' = [(Str.ofString "f", some (.ref x)), (Str.ofString "result", some (.ref y)), (Str.ofString "kept", some (.ref D)), (Str.ofString "name", o)] ∧ H' = (H₁.set D (.sdict [])).del d, rfl, hd₂, ⟨_, rfl, rfl⟩, ?_, ?_⟩
  · rintro i p ρ' H' hy ⟨o, rfl, rfl⟩
    refine ⟨_, .tail (.tail (.tail .head)), ?_⟩
    refine Ex.forget ?_ (AH.le_refl _)
    have hp : p.1 = Str.ofString "levels" ∨ p.1 = Str.ofString "class" := by
      have := List.mem_of_getElem? hy
      simp only [fkv, List.mem_cons, List.not_mem_nil, or_false] at this
      rcases this with rfl | rfl
      · exact .inl rfl
      · exact .inr rfl
    refine Ex.fgt ?_
    repeat' contradiction
    refine ⟨(by first | exact len_ok rfl | simp [lid]), fun T hT => ?_⟩
    refine B_notInT (AH.set_same ..) rfl rfl ?_
    have e : (!([V.str (Str.ofString "levels"), .str (Str.ofString "class")].any (veq · (.str p.1)))) = false := by rcases hp with e | e <;> rw [e] <;> kernel_rfl
    rw [e]
    repeat' contradiction
    exact ⟨le1 hT, _, rfl, rfl⟩
  · rintro ρ' H' ⟨o, rfl, rfl⟩
    rw [AH.del_set hd₂]
    repeat' contradiction
    refine E_bi F g_len gb (mk1 (by kernel_rfl)) rfl ?_
    repeat' contradiction
    refine Cn_lenD F.B (dkS prog w) (AH.set_same ..) ?_
    repeat' contradiction
    refine if_by_f rfl ?_
    repeat' contradiction
    exact h y yit _ (AH.le_trans l₁ lD) (nw.le (AH.le_refl _) lD) hyit (vy.le lD)

end
section
variable {prog : Program} {w : World} {S0 : Shared} {K : Frag} {mV : Str → Option Value} {n : Nat} {env : Env} {ρ : Rho} {H : AH} {Q : V → AH → Prop}
/-! ### one name of a vector is set anew -/
noncomputable def upd (fs : List (Str × V)) (name : Str) (v : V) : List (Str × V) := (name, v) :: fs.filter fun p => p.1 != name
theorem upd_lookup (name : Str) (v : V) (y : Str) : ∀ fs : List (Str × V), (upd fs name v).lookup y = if y = name then some v else fs.lookup y := fun fs => by
  unfold upd
  rw [List.lookup_cons]
  by_cases e : y = name
  · simp [e]
  · rw [beq_eq_false_iff_ne.mpr e, if_neg e]
    induction fs with
    | nil => rfl
    | cons p r ih =>
      obtain ⟨z, u⟩ := p
      rw [List.filter_cons]
      by_cases h : z = name
      · subst h
        simp only [bne_self_eq_false, Bool.false_eq_true, if_false]
        rw [List.lookup_cons, beq_eq_false_iff_ne.mpr e]; exact ih
      · rw [if_pos (by simpa using h), List.lookup_cons, List.lookup_cons]
        cases y == z
        · exact ih
        · rfl
theorem filter_length (name : Str) : ∀ (fs : List (Str × V)) (u : V), fs.lookup name = some u → (fs.filter fun p => p.1 != name).length < fs.length
  | [], _, h => by cases h
  | (z, x) :: r, u, h => by
    rw [List.lookup_cons] at h
    rw [List.filter_cons]
    by_cases e : name = z
    · subst e
      simp only [bne_self_eq_false, Bool.false_eq_true, if_false, List.length_cons]
      exact Nat.lt_succ_of_le (List.length_filter_le _ _)
    · rw [beq_eq_false_iff_ne.mpr e] at h
      rw [if_pos (by simpa using Ne.symm e), List.length_cons, List.length_cons]
      exact Nat.succ_lt_succ (filter_length name r u h)
theorem upd_length {name : Str} {v u : V} {fs : List (Str × V)} (h : fs.lookup name = some u) : (upd fs name v).length ≤ fs.length := by
  have := filter_length name fs u h
  unfold upd; rw [List.length_cons]; omega

theorem U_upd {x dx : Addr} {fs : List (Str × V)} {name : Str} {v u₀ : V} {P : AH → Prop} (F : Fa prog w S0 K mV) (fr : Free mV name) (hx : H x = some (.inst 311 dx)) (hd : H dx = some (.ns fs)) (hu : fs.lookup name = some u₀) (hl : fs.length ≤ 20) (h : P (H.set dx (.ns (upd fs name v)))) :
    ∀ u y, abs u = v → abs y = .ref x → Op prog w S0 n (setAttr y name u) H fun _ H' => P H' := fun u y hu' hy => by
  rw [abs_ref hy]
  refine O_set F.cls fr hx hd (fs' := upd fs name v) (fun z => ?_) (Nat.le_trans (upd_length hu) (by omega)) h
  rw [upd_lookup, hu']

theorem str_ne {a b : String} (h : (Str.ofString a == Str.ofString b) = false) : Str.ofString a ≠ Str.ofString b := fun e => by rw [e, beq_self_eq_true] at h; cases h
theorem n1 : Str.ofString "kind" ≠ Str.ofString "attrs" := str_ne (by kernel_rfl)
theorem n2 : Str.ofString "items" ≠ Str.ofString "attrs" := str_ne (by kernel_rfl)
theorem n3 : Str.ofString "loose" ≠ Str.ofString "attrs" := str_ne (by kernel_rfl)
theorem n4 : Str.ofString "copy" ≠ Str.ofString "attrs" := str_ne (by kernel_rfl)
theorem m1 : Str.ofString "kind" ≠ Str.ofString "items" := str_ne (by kernel_rfl)
theorem m2 : Str.ofString "attrs" ≠ Str.ofString "items" := str_ne (by kernel_rfl)
theorem m3 : Str.ofString "loose" ≠ Str.ofString "items" := str_ne (by kernel_rfl)
theorem m4 : Str.ofString "copy" ≠ Str.ofString "items" := str_ne (by kernel_rfl)

/-- v.attrs = av -/
theorem A_attrs {x it : Addr} {kind : Str} {items : List V} {av v : V} {P : AH → Prop} (F : Fa prog w S0 K mV) (vx : Vec H x kind it items av) (hp : isPlain v) (h : ∀ H', Ch x H H' → (∀ a, H' a = none → H a = none) → Vec H' x kind it items v → P H') :
    ∀ u y, abs u = v → abs y = .ref x → Op prog w S0 n (setAttr y (Str.ofString "attrs") u) H fun _ H' => P H' := by
  obtain ⟨dx, fs, hx, hd, e1, e2, e3, e4, e5, hl, _⟩ := vx.ex
  have hne : x ≠ dx := by rintro rfl; rw [hx] at hd; cases hd
  have hni : it ≠ dx := by rintro rfl; rw [vx.its] at hd; cases hd
  refine U_upd F (F.free _ (.tail _ (.tail _ (.head _)))) hx hd e3 hl (h _ (fun dx' hx' a o ha e => ?_) (fun a ha => ?_) ⟨⟨dx, _, by rw [AH.set_ne _ _ hne]; exact hx, AH.set_same .., ?_, ?_, ?_, ?_, ?_, Nat.le_trans (upd_length e3) hl, hp⟩, by rw [AH.set_ne _ _ hni]; exact vx.its⟩)
  · rw [hx] at hx'; cases hx'
    rw [AH.set_ne _ _ ha]; exact e
  · by_cases q : a = dx
    · subst q; rw [AH.set_same] at ha; cases ha
    · rw [AH.set_ne _ _ q] at ha; exact ha
  · rw [upd_lookup, if_neg n1]; exact e1
  · rw [upd_lookup, if_neg n2]; exact e2
  · rw [upd_lookup, if_pos rfl]
  · rw [upd_lookup, if_neg n3]; exact e4
  · rw [upd_lookup, if_neg n4]; exact e5
/-- v.items = xs -/
theorem A_items {x it it' : Addr} {kind : Str} {items items' : List V} {av : V} {P : AH → Prop} (F : Fa prog w S0 K mV) (vx : Vec H x kind it items av) (hi : H it' = some (.list items')) (h : ∀ H', Ch x H H' → (∀ a, H' a = none → H a = none) → Vec H' x kind it' items' av → P H') :
    ∀ u y, abs u = .ref it' → abs y = .ref x → Op prog w S0 n (setAttr y (Str.ofString "items") u) H fun _ H' => P H' := by
  obtain ⟨dx, fs, hx, hd, e1, e2, e3, e4, e5, hl, hp⟩ := vx.ex
  have hne : x ≠ dx := by rintro rfl; rw [hx] at hd; cases hd
  have hni : it' ≠ dx := by rintro rfl; rw [hi] at hd; cases hd
  refine U_upd F (F.free _ (.tail _ (.head _))) hx hd e2 hl (h _ (fun dx' hx' a o ha e => ?_) (fun a ha => ?_) ⟨⟨dx, _, by rw [AH.set_ne _ _ hne]; exact hx, AH.set_same .., ?_, ?_, ?_, ?_, ?_, Nat.le_trans (upd_length e2) hl, hp⟩, by rw [AH.set_ne _ _ hni]; exact hi⟩)
  · rw [hx] at hx'; cases hx'
    rw [AH.set_ne _ _ ha]; exact e
  · by_cases q : a = dx
    · subst q; rw [AH.set_same] at ha; cases ha
    · rw [AH.set_ne _ _ q] at ha; exact ha
  · rw [upd_lookup, if_neg m1]; exact e1
  · rw [upd_lookup, if_pos rfl]
  · rw [upd_lookup, if_neg m2]; exact e3
  · rw [upd_lookup, if_neg m3]; exact e4
  · rw [upd_lookup, if_neg m4]; exact e5

theorem Ch.off {H H' : AH} {x : Addr} {a : Addr} {o : O} (c : Ch x H H') (ha : H a = some o) (hn : ∀ dx, H x = some (.inst 311 dx) → a ≠ dx) (hex : ∃ dx, H x = some (.inst 311 dx)) : H' a = some o := by
  obtain ⟨dx, hx⟩ := hex
  exact c dx hx a o (hn dx hx) ha

theorem Vec.keep {H H' : AH} {x it a : Addr} {kind : Str} {items : List V} {av : V} {o : O} (vx : Vec H x kind it items av) (c : Ch x H H') (ha : H a = some o) (hn : ∀ fs, o ≠ .ns fs) : H' a = some o := by
  obtain ⟨dx, fs, hx, hd, _⟩ := vx.ex
  exact c dx hx a o (by rintro rfl; rw [hd] at ha; exact hn fs (Option.some.inj ha).symm) ha
theorem Vec.setD {H : AH} {x it D : Addr} {kind : Str} {items : List V} {av : V} {k k' : List (Str × V)} (v : Vec H x kind it items av) (hD : H D = some (.sdict k)) : Vec (H.set D (.sdict k')) x kind it items av := by
  obtain ⟨dx, fs, hx, hd, r⟩ := v.ex
  have h1 : x ≠ D := by rintro rfl; rw [hx] at hD; cases hD
  have h2 : dx ≠ D := by rintro rfl; rw [hd] at hD; cases hD
  have h3 : it ≠ D := by rintro rfl; rw [v.its] at hD; cases hD
  exact ⟨⟨dx, fs, by rw [AH.set_ne _ _ h1]; exact hx, by rw [AH.set_ne _ _ h2]; exact hd, r⟩, by rw [AH.set_ne _ _ h3]; exact v.its⟩
theorem New.setD {H H' : AH} {x D : Addr} {k k' : List (Str × V)} (v : New H H' x) (hD : H' D = some (.sdict k)) : New H (H'.set D (.sdict k')) x := by
  obtain ⟨dx, h1, h2, h3, h4⟩ := v
  exact ⟨dx, h1, h2, h3, by rw [AH.set_ne _ _ (by rintro rfl; rw [h4] at hD; cases hD)]; exact h4⟩
theorem put0 (k : Str) (v : V) : put [] k v = [(k, v)] := rfl
theorem put_fkv (lv cl : Addr) : put [(Str.ofString "levels", V.ref lv)] (Str.ofString "class") (.ref cl) = fkv lv cl := by kernel_rfl

/-! ### with_levels -/
theorem c_with_levels {H₀ : AH} {x it tl : Addr} {codes : List (Option Nat)} {levels : List Str} {o : Bool} (F : Fa prog w S0 K mV) (v : Vec H x (Str.ofString "integer") it (codes.map cv) .none) (ht : H tl = some (.list (levels.map V.str))) (hok : ∀ k, some k ∈ codes → 1 ≤ k ∧ k ≤ levels.length) (hlen : codes.length ≤ 100 ∧ levels.length ≤ 100)
    (h₀ : H₀.le H) (nw : New H₀ H x) (h : ∀ H', H₀.le H' → New H₀ H' x → Fac H' x it codes levels o → Q (.ref x) H') : Cn prog w S0 (n + 5) (.ref 1027) [.ref x, .ref tl, .bool o] H Q := by
  refine e_with_levels F fun L q cd gb => ?_
  refine X_cons ?_
  repeat' contradiction
  refine E_dict0 (dkS prog w) fun D hD => ?_
  repeat' contradiction
  have lD := le1 (o := .sdict []) hD
  refine A_attrs F (v.le lD) trivial fun H₁ c₁ b₁ v₁ => ?_
  repeat' contradiction
  have hD₁ : H₁ D = some (.sdict []) := (v.le lD).keep c₁ (AH.set_same ..) (fun _ e => by cases e)
  have ht₁ : H₁ tl = some (.list (levels.map V.str)) := (v.le lD).keep c₁ (lD _ _ ht) (fun _ e => by cases e)
  have g₁ : H₀.le H₁ := Ch.le (nw.le (AH.le_refl _) lD) (AH.le_trans h₀ lD) c₁
  have w₁ : New H₀ H₁ x := Ch.new (nw.le (AH.le_refl _) lD) c₁
  have hD₀ : H₀ D = none := AH.none_of h₀ hD
  refine E_fn F g_character gb (mk1 (by kernel_rfl)) (mk2 (by kernel_rfl)) rfl ?_
  repeat' contradiction
  refine c_character F ht₁ fun lv lvit H₂ l₂ nw₂ _ vl => ?_
  have v₂ := v₁.le l₂
  repeat' contradiction
  refine U_setItem (dkS prog w) (l₂ _ _ hD₁) (by simp [lid]) ?_
  rw [put0]
  have hD₂ := l₂ _ _ hD₁
  have v₃ := v₂.setD (k' := [(Str.ofString "levels", .ref lv)]) hD₂
  have vl₃ := vl.setD (k' := [(Str.ofString "levels", .ref lv)]) hD₂
  have w₃ := (w₁.le (AH.le_refl _) l₂).setD (k' := [(Str.ofString "levels", .ref lv)]) hD₂
  have g₃ := AH.le_set_of (.sdict [(Str.ofString "levels", .ref lv)]) (AH.le_trans g₁ l₂) hD₀
  repeat' contradiction
  refine E_fn F g_factor_class gb (mk1 (by kernel_rfl)) (mk2 (by kernel_rfl)) rfl ?_
  repeat' contradiction
  refine c_factor_class F fun cl clit H₄ l₄ nw₄ _ vc => ?_
  have v₄ := v₃.le l₄
  repeat' contradiction
  have hD₄ := l₄ _ _ (AH.set_same H₂ D (.sdict [(Str.ofString "levels", .ref lv)]))
  refine U_setItem (dkS prog w) hD₄ (by simp [lid]) ?_
  rw [put_fkv]
  repeat' contradiction
  exact h _ (AH.le_set_of _ (AH.le_trans g₃ l₄) hD₀) ((w₃.le (AH.le_refl _) l₄).setD hD₄) ⟨⟨D, lv, lvit, cl, clit, v₄.setD hD₄, AH.set_same .., (vl₃.le l₄).setD hD₄, vc.setD hD₄⟩, hok, hlen⟩

/-! ### Vector.copy -/
theorem e_copy {v1 : V} (F : Fa prog w S0 K mV) (h : ∀ L q cd, Glob (mkE (fS (inCls 1 (topS 41))) L 308 q cd) [Str.ofString "dict", Str.ofString "Vector", Str.ofString "list"] → Ex prog w S0 n (mkE (fS (inCls 1 (topS 41))) L 308 q cd) ((Str.ofString "self", some v1) :: [(Str.ofString "attrs", none)]) (execs (fB (inCls 1 (topS 41))) (mkE (fS (inCls 1 (topS 41))) L 308 q cd)) H (retQ Q)) : Cn prog w S0 (n + 1) (.ref 308) [v1] H Q :=
  C_fn1 (more := [(Str.ofString "attrs", none)]) F.B F.copy (by kernel_rfl) rfl (by kernel_rfl) (by intro fd u1 h1 h2; unfold bindArgs; rw [h1, h2]; kernel_rfl) h
theorem c_copy_none {x it : Addr} {kind : Str} {items : List V} (F : Fa prog w S0 K mV) (v : Vec H x kind it items .none) (h : ∀ y yit H', H.le H' → New H H' y → H yit = none → Vec H' y kind yit items .none → Q (.ref y) H') : Cn prog w S0 (n + 3) (.ref 308) [.ref x] H Q := by
  refine e_copy F fun L q cd gb => ?_
  refine X_cons ?_
  repeat' contradiction
  refine E_fn F g_Vector gb (mk1 (by kernel_rfl)) (mk2 (by kernel_rfl)) rfl ?_
  repeat' contradiction
  refine E_ty F g_list gb (mk1 (by kernel_rfl)) rfl ?_
  repeat' contradiction
  refine Cn_listL v.its fun D hD => ?_
  repeat' contradiction
  refine c_vec F (.inl rfl) trivial (AH.set_same ..) fun y H' l nw vy => ?_
  repeat' contradiction
  exact h y D H' (AH.le_trans (le1 hD) l) (nw.le (le1 hD) (AH.le_refl _)) hD vy
theorem c_copy_fac {x it : Addr} {codes : List (Option Nat)} {levels : List Str} {o : Bool} (F : Fa prog w S0 K mV) (f : Fac H x it codes levels o) (h : ∀ y yit H', H.le H' → New H H' y → H yit = none → Fac H' y yit codes levels o → Q (.ref y) H') : Cn prog w S0 (n + 3) (.ref 308) [.ref x] H Q := by
  obtain ⟨d, lv, lvit, cl, clit, v, hd, vl, vc⟩ := f.ex
  refine e_copy F fun L q cd gb => ?_
  refine X_cons ?_
  repeat' contradiction
  refine E_ty F g_dict gb (mk1 (by kernel_rfl)) rfl ?_
  repeat' contradiction
  refine Cn_dict F.B (dkS prog w) hd fun D hD => ?_
  have lD := le1 (o := .sdict (fkv lv cl)) hD
  have v₁ := v.le lD
  repeat' contradiction
  refine E_fn F g_Vector gb (mk1 (by kernel_rfl)) (mk2 (by kernel_rfl)) rfl ?_
  repeat' contradiction
  refine E_ty F g_list gb (mk1 (by kernel_rfl)) rfl ?_
  repeat' contradiction
  refine Cn_listL v₁.its fun E hE => ?_
  repeat' contradiction
  have lE := le1 (o := .list (codes.map cv)) hE
  refine c_vec F (.inl rfl) trivial (AH.set_same ..) fun y H' l nw vy => ?_
  repeat' contradiction
  have ll := AH.le_trans lD (AH.le_trans lE l)
  exact h y E H' ll (nw.le (AH.le_trans lD lE) (AH.le_refl _)) (AH.none_of lD hE) ⟨⟨D, lv, lvit, cl, clit, vy, l _ _ (lE _ _ (AH.set_same ..)), vl.le ll, vc.le ll⟩, f.ok, f.len⟩
theorem E_copy {e : Expr} {apos pos : Pos} (F : Fa prog w S0 K mV) (hb : attributeBase e (Str.ofString "copy") env (eval e env) = eval e env) (hline : (apos.endLine == pos.line) = true)
    (h : EvV prog w S0 n env ρ e H fun a H₁ => ∃ x kind it items av, a = .ref x ∧ Vec H₁ x kind it items av ∧ Cn prog w S0 n (.ref 308) [.ref x] H₁ Q) : EvV prog w S0 n env ρ (.Call (.Attribute e (Str.ofString "copy") apos) [] [] pos) H Q := by
  obtain ⟨of, fd, hof, hfc, _⟩ := F.copy.at_
  refine E_meth hb rfl hline rfl (h.mono fun a H₁ ⟨x, kind, it, items, av, ha, v, hc⟩ => ?_)
  obtain ⟨dx, fs, hx, hd, _, _, _, _, e5, _⟩ := v.ex
  exact ⟨.ref 308, x, ha, fun pl => O_meth F.cls F.mCopy hof hfc F.oCopy hx hd e5 ⟨rfl, rfl⟩, keeps_F F (.head _), A_nil hc⟩

end
theorem rev_ind {α : Type} {P : List α → Prop} (h0 : P []) (h1 : ∀ l a, P l → P (l ++ [a])) (l : List α) : P l := by
  rw [← l.reverse_reverse]
  induction l.reverse with
  | nil => exact h0
  | cons a r ih => rw [List.reverse_cons]; exact h1 _ _ ih
theorem nodup_map {α β : Type} {f : α → β} (hf : ∀ a b, f a = f b → a = b) {l : List α} (h : l.Nodup) : (l.map f).Nodup := by
  unfold List.Nodup at h ⊢
  rw [List.pairwise_map]
  exact h.imp fun q e => q (hf _ _ e)
/-! ### drop_levels in plain words -/
noncomputable def uf (cs : List (Option Nat)) : List (Int × V) := cs.foldl (fun kvs c => match c with | none => kvs | some k => put kvs (k : Int) (.bool true)) []
theorem uf_snoc (cs : List (Option Nat)) (c : Option Nat) : uf (cs ++ [c]) = match c with | none => uf cs | some k => put (uf cs) (k : Int) (.bool true) := by
  unfold uf; rw [List.foldl_append]; rfl
theorem uf_length (cs : List (Option Nat)) : (uf cs).length ≤ cs.length := by
  refine rev_ind (P := fun cs => (uf cs).length ≤ cs.length) (Nat.zero_le _) (fun l c ih => ?_) cs
  · rw [uf_snoc]
    cases c with
    | none => simp; omega
    | some k =>
      have := put_length (uf l) (k : Int) (.bool true)
      simp; omega
theorem uf_look (cs : List (Option Nat)) (k : Nat) : (look (uf cs) (k : Int)).isSome = cs.contains (some k) := by
  refine rev_ind (P := fun cs => (look (uf cs) (k : Int)).isSome = cs.contains (some k)) rfl (fun l c ih => ?_) cs
  · rw [uf_snoc]
    cases c with
    | none =>
      rw [ih]
      simp [List.contains_eq_any_beq]
    | some j =>
      show (look (put (uf l) (j : Int) (.bool true)) (k : Int)).isSome = _
      rw [look_put]
      by_cases e : k = j
      · subst e; simp [List.contains_eq_any_beq]
      · have : ¬ ((k : Int) = j) := by omega
        rw [if_neg this, ih]
        have : ¬ j = k := fun h => e h.symm
        simp [List.contains_eq_any_beq, e, this]
noncomputable def keptOf (cs : List (Option Nat)) (n : Nat) : List Nat := ((List.range n).filter fun i => cs.contains (some (i + 1))).map (· + 1)
theorem keptOf_mem {cs : List (Option Nat)} {n k : Nat} : k ∈ keptOf cs n ↔ 1 ≤ k ∧ k ≤ n ∧ some k ∈ cs := by
  unfold keptOf
  simp only [List.mem_map, List.mem_filter, List.mem_range, List.contains_iff_mem]
  constructor
  · rintro ⟨i, ⟨h1, h2⟩, rfl⟩; exact ⟨by omega, by omega, h2⟩
  · rintro ⟨h1, h2, h3⟩; exact ⟨k - 1, ⟨by omega, by rw [show k - 1 + 1 = k by omega]; exact h3⟩, by omega⟩
theorem keptOf_nodup (cs : List (Option Nat)) (n : Nat) : (keptOf cs n).Nodup := by
  unfold keptOf
  refine nodup_map (fun a b h => by simpa using h) ?_
  exact List.Pairwise.filter _ List.nodup_range
theorem keptOf_length (cs : List (Option Nat)) (n : Nat) : (keptOf cs n).length ≤ n := by
  unfold keptOf
  rw [List.length_map]
  exact Nat.le_trans (List.length_filter_le _ _) (by simp)
/-- the places within the kept -/
noncomputable def rf (ks : List Nat) (i : Nat) : List (Int × V) := ((ks.take i).zipIdx).foldl (fun kvs p => put kvs (p.1 : Int) (.int ((p.2 : Int) + 1))) []
theorem rf_succ {ks : List Nat} {i k : Nat} (h : ks[i]? = some k) : rf ks (i + 1) = put (rf ks i) (k : Int) (.int ((i : Int) + 1)) := by
  have hi := (List.getElem?_eq_some_iff.mp h).1
  unfold rf
  rw [List.take_add_one, h]
  simp only [Option.toList_some]
  rw [List.zipIdx_append, List.foldl_append]
  have : (ks.take i).length = i := by simp; omega
  simp [this]
theorem rf_length (ks : List Nat) (i : Nat) : (rf ks i).length ≤ i := by
  induction i with
  | zero => simp [rf]
  | succ i ih =>
    cases h : ks[i]? with
    | none =>
      have : ks.take (i + 1) = ks.take i := by rw [List.take_add_one, h]; simp
      unfold rf at ih ⊢
      rw [this]; omega
    | some k =>
      rw [rf_succ h]
      have := put_length (rf ks i) (k : Int) (.int ((i : Int) + 1))
      omega
theorem rf_look {ks : List Nat} (nd : ks.Nodup) : ∀ (i j k : Nat), j < i → ks[j]? = some k → look (rf ks i) (k : Int) = some (.int ((j : Int) + 1))
  | 0, j, k, h, _ => by omega
  | i + 1, j, k, h, hk => by
    cases hi : ks[i]? with
    | none =>
      have h1 := List.getElem?_eq_none_iff.mp hi
      have h2 := (List.getElem?_eq_some_iff.mp hk).1
      have : ks.take (i + 1) = ks.take i := by rw [List.take_add_one, hi]; simp
      have : rf ks (i + 1) = rf ks i := by unfold rf; rw [this]
      rw [this]
      exact rf_look nd i j k (by omega) hk
    | some m =>
      rw [rf_succ hi, look_put]
      by_cases e : j = i
      · subst e
        rw [hk] at hi; cases hi
        rw [if_pos rfl]
      · have hne : ¬ ((k : Int) = m) := by
          intro q
          have q' : k = m := by omega
          subst q'
          obtain ⟨l1, e1⟩ := List.getElem?_eq_some_iff.mp hk
          obtain ⟨l2, e2⟩ := List.getElem?_eq_some_iff.mp hi
          exact e ((List.getElem_inj nd).mp (e1.trans e2.symm))
        rw [if_neg hne]
        exact rf_look nd i j k (by omega) hk
noncomputable def newC (ks : List Nat) : Option Nat → Option Nat
  | none => none
  | some k => some (ks.idxOf k + 1)
section
variable {prog : Program} {w : World} {S0 : Shared} {K : Frag} {mV : Str → Option Value} {n : Nat} {env : Env} {ρ : Rho} {H : AH} {Q : V → AH → Prop}
theorem mem_map_cv {codes : List (Option Nat)} {i : Nat} {y : V} (h : (codes.map cv)[i]? = some y) : ∃ c, codes[i]? = some c ∧ y = cv c := cv_get h
noncomputable def lv' (ks : List Nat) (levels : List Str) : List Str := ks.map fun k => levels.getD (k - 1) (Str.ofString "")
theorem c_drop_levels {x it : Addr} {codes : List (Option Nat)} {levels : List Str} {o : Bool} (F : Fa prog w S0 K mV) (f : Fac H x it codes levels o) (h : ∀ y yit H', H.le H' → New H H' y → Fac H' y yit (codes.map (newC (keptOf codes levels.length))) (lv' (keptOf codes levels.length) levels) o → Q (.ref y) H') : Cn prog w S0 (n + 6) (.ref 1073) [.ref x] H Q := by
  obtain ⟨d, lv, lvit, cl, clit, v, hd, vl, vc⟩ := f.ex
  obtain ⟨len1, len2⟩ := f.len
  generalize hks : keptOf codes levels.length = ks at h
  have ksl : ks.length ≤ levels.length := hks ▸ keptOf_length codes levels.length
  have ksn : ks.Nodup := hks ▸ keptOf_nodup codes levels.length
  have ksm : ∀ k, k ∈ ks ↔ 1 ≤ k ∧ k ≤ levels.length ∧ some k ∈ codes := fun k => hks ▸ keptOf_mem
  refine e_drop_levels F fun L q cd gb => ?_
  refine X_cons ?_
  repeat' contradiction
  refine E_fn F g_level_texts gb (mk1 (by kernel_rfl)) (mk2 (by kernel_rfl)) rfl ?_
  repeat' contradiction
  refine c_level_texts F f fun T H₁ l₁ hT ht => ?_
  repeat' contradiction
  refine E_fn F g_codes_in gb (mk1 (by kernel_rfl)) (mk2 (by kernel_rfl)) rfl ?_
  repeat' contradiction
  refine c_codes_in F (f.le l₁) fun CC H₂ l₂ hCC hc => ?_
  repeat' contradiction
  refine E_dict0 (dkI prog w) fun D hD => ?_
  repeat' contradiction
  have lD := le1 (o := .idict []) hD
  have hTD : T ≠ D := by rintro rfl; rw [l₂ _ _ ht] at hD; cases hD
  have hCD : CC ≠ D := by rintro rfl; rw [hc] at hD; cases hD
  have keyC : ∀ kv, (H₂.set D (.idict kv)) CC = some (.list (codes.map cv)) := fun kv => by rw [AH.set_ne _ _ hCD]; exact hc
  refine X_for (fun _ => rfl) ?_
  repeat' contradiction
  refine ⟨codes.map cv, fun H' => H' CC = some (.list (codes.map cv)), fun i ρ' H' => ∃ o, ρ' = [(Str.ofString "f", some (.ref x)), (Str.ofString "texts", some (.ref T)), (Str.ofString "codes", some (.ref CC)), (Str.ofString "used", some (.ref D)), (Str.ofString "code", o), (Str.ofString "kept", none), (Str.ofString "renewed", none), (Str.ofString "i", none), (Str.ofString "result", none)] ∧ H' = H₂.set D (.idict (uf (codes.take i))),
    It_list (keyC _), ⟨_, rfl, rfl⟩, ?_, ?_, ?_⟩
  · rintro i ρ' H' ⟨o, rfl, rfl⟩
    exact keyC _
  · rintro i y ρ' H' hy ⟨o, rfl, rfl⟩
    obtain ⟨c, hc', rfl⟩ := cv_get hy
    have hi := (List.getElem?_eq_some_iff.mp hc').1
    have e : codes.take (i + 1) = codes.take i ++ [c] := by rw [List.take_add_one, hc']; rfl
    refine ⟨_, .tail (.tail (.tail (.tail .head))), ?_⟩
    cases c with
    | none =>
      show Ex prog w S0 _ _ [_, _, _, _, (_, some .none), _, _, _, _] _ _ _
      repeat' contradiction
      refine ⟨_, rfl, ?_⟩
      rw [e, uf_snoc]
    | some k =>
      show Ex prog w S0 _ _ [_, _, _, _, (_, some (.int k)), _, _, _, _] _ _ _
      repeat' contradiction
      refine U_setItem (dkI prog w) (AH.set_same ..) ?_ ?_
      · have := uf_length (codes.take i); rw [List.length_take] at this; simp [lid]; omega
      repeat' contradiction
      refine ⟨_, rfl, ?_⟩
      rw [AH.set_set, e, uf_snoc]
  · rintro ρ' H' ⟨o₁, rfl, rfl⟩
    rw [List.length_map, List.take_length]
    have lU := le1 (o := .idict (uf codes)) hD
    have keyT := lU _ _ (l₂ _ _ ht)
    repeat' contradiction
    refine X_asgComp (caps := [Str.ofString "used"]) (Gs := []) (ρc := [(Str.ofString "used", some (.ref D))]) (by kernel_rfl) (fun _ => rfl) (by kernel_rfl) (.cons (.tail _ (.tail _ (.tail _ (.head _)))) .nil) ?_
    refine E_ty F g_range gb (mk1 (by kernel_rfl)) rfl ?_
    repeat' contradiction
    refine E_bi F g_len gb (mk1 (by kernel_rfl)) rfl ?_
    repeat' contradiction
    refine Cn_lenL keyT ?_
    rw [List.length_map]
    repeat' contradiction
    refine Cn_range fun R hR => ?_
    repeat' contradiction
    have lR := le1 (o := .rng levels.length) hR
    refine Comp_filter (fun v => match v with | .int i => (look (uf codes) (i + 1)).isSome | _ => false) (fun v => match v with | .int i => .int (i + 1) | _ => .none) (It_rng (AH.set_same ..) (by simp [lid]; omega)) trivial (by simp [nums, lid]; omega) (fun i y C hy gb' => ?_) ?_
    · obtain rfl : y = .int (i : Int) := by
        have := (List.getElem?_eq_some_iff.mp hy).1
        rw [nums_length] at this
        rw [nums_get this] at hy; exact (Option.some.inj hy).symm
      repeat' contradiction
      refine B_inD F.B (dkI prog w) (lR _ _ (AH.set_same ..)) ?_
      repeat' contradiction
      refine ⟨rfl, rfl, fun _ => ?_⟩
      repeat' contradiction
      exact ⟨rfl, rfl⟩
    have hkept : ((nums levels.length).filter fun v => match v with | .int i => (look (uf codes) (i + 1)).isSome | _ => false).map (fun v => match v with | .int i => .int (i + 1) | _ => .none) = pl ks := by
      rw [← hks]
      unfold nums keptOf pl
      rw [List.filter_map, List.map_map, List.map_map]
      have : ((fun v : V => match v with | .int i => (look (uf codes) (i + 1)).isSome | _ => false) ∘ fun i : Nat => V.int (i : Int)) = fun i => codes.contains (some (i + 1)) := by
        funext i
        exact uf_look codes (i + 1)
      rw [this]
      rfl
    rw [hkept]
    intro KK hKK
    repeat' contradiction
    have lK := le1 (o := .list (pl ks)) hKK
    have lRK := AH.le_trans lU (AH.le_trans lR lK)
    generalize hG : ((H₂.set D (.idict (uf codes))).set R (.rng levels.length)).set KK (.list (pl ks)) = H₃ at *
    have hKK₃ : H₃ KK = some (.list (pl ks)) := by rw [← hG]; exact AH.set_same ..
    have ht₃ := lRK _ _ (l₂ _ _ ht)
    have hc₃ := lRK _ _ hc
    have l₃ : H.le H₃ := AH.le_trans l₁ (AH.le_trans l₂ lRK)
    refine E_dict0 (dkI prog w) fun E hE => ?_
    repeat' contradiction
    have lE := le1 (o := .idict []) hE
    refine X_for (fun _ => rfl) ?_
    refine E_ty F g_range gb (mk1 (by kernel_rfl)) rfl ?_
    repeat' contradiction
    refine E_bi F g_len gb (mk1 (by kernel_rfl)) rfl ?_
    repeat' contradiction
    refine Cn_lenL (lE _ _ hKK₃) ?_
    rw [pl_length]
    repeat' contradiction
    refine Cn_range fun R₂ hR₂ => ?_
    repeat' contradiction
    have hKE : KK ≠ E := by rintro rfl; rw [hKK₃] at hE; cases hE
    have hR₂E : R₂ ≠ E := by rintro rfl; rw [AH.set_same] at hR₂; cases hR₂
    have hR₂3 : H₃ R₂ = none := AH.none_of lE hR₂
    have hKR : KK ≠ R₂ := by rintro rfl; rw [hKK₃] at hR₂3; cases hR₂3
    have keyK : ∀ kv, ((H₃.set R₂ (.rng ks.length)).set E (.idict kv)) KK = some (.list (pl ks)) := fun kv => by rw [AH.set_ne _ _ hKE, AH.set_ne _ _ hKR]; exact hKK₃
    refine ⟨nums ks.length, fun _ => True, fun i ρ' H' => ∃ o, ρ' = [(Str.ofString "f", some (.ref x)), (Str.ofString "texts", some (.ref T)), (Str.ofString "codes", some (.ref CC)), (Str.ofString "used", some (.ref D)), (Str.ofString "code", o₁), (Str.ofString "kept", some (.ref KK)), (Str.ofString "renewed", some (.ref E)), (Str.ofString "i", o), (Str.ofString "result", none)] ∧ H' = (H₃.set R₂ (.rng ks.length)).set E (.idict (rf ks i)),
      It_rng (AH.set_same ..) (by simp [lid]; omega), ⟨_, rfl, AH.set_comm _ hR₂E.symm _ _⟩, fun _ _ _ _ => trivial, ?_, ?_⟩
    · rintro i y ρ' H' hy ⟨o, rfl, rfl⟩
      have hi := (List.getElem?_eq_some_iff.mp hy).1
      rw [nums_length] at hi
      rw [nums_get hi] at hy
      obtain rfl := Option.some.inj hy
      obtain ⟨k, hk⟩ : ∃ k, ks[i]? = some k := ⟨ks[i], List.getElem?_eq_getElem hi⟩
      refine ⟨_, .tail (.tail (.tail (.tail (.tail (.tail (.tail .head)))))), ?_⟩
      repeat' contradiction
      refine E_subL rfl ?_
      repeat' contradiction
      refine ⟨_, _, _, .int (k : Int), rfl, rfl, keyK _, by omega, ?_, ?_⟩
      · rw [pl, List.getElem?_map, show ((i : Int)).toNat = i by omega, hk]; rfl
      refine U_setItem (dkI prog w) (AH.set_same ..) ?_ ?_
      · have := rf_length ks i; simp [lid]; omega
      repeat' contradiction
      refine ⟨_, rfl, ?_⟩
      rw [AH.set_set, rf_succ hk]
    · rintro ρ' H' ⟨o₂, rfl, rfl⟩
      rw [nums_length]
      have hE₃ : H₃ E = none := hE
      have l₄ : H₃.le ((H₃.set R₂ (.rng ks.length)).set E (.idict (rf ks ks.length))) := AH.le_set_of _ (AH.le_set _ hR₂3) hE₃
      generalize hG' : (H₃.set R₂ (.rng ks.length)).set E (.idict (rf ks ks.length)) = H₄ at *
      have hE₄ : H₄ E = some (.idict (rf ks ks.length)) := by rw [← hG']; exact AH.set_same ..
      have hl₄ := AH.le_trans l₃ l₄
      repeat' contradiction
      refine E_fn F g_integer gb (mk1 (by kernel_rfl)) (mk2 (by kernel_rfl)) rfl ?_
      repeat' contradiction
      refine E_comp (caps := [Str.ofString "renewed"]) (Gs := []) (ρc := [(Str.ofString "renewed", some (.ref E))]) (fun _ => rfl) (by kernel_rfl) (.cons (.tail _ (.tail _ (.tail _ (.tail _ (.tail _ (.tail _ (.head _))))))) .nil) ?_
      repeat' contradiction
      refine Comp_ix ((codes.map (newC ks)).map cv) (by simp) (It_list (l₄ _ _ hc₃)) (l₄ _ _ hc₃) (by simp [lid]; omega) (fun i y C hy gb' => ?_) ?_
      · obtain ⟨c, hc', rfl⟩ := cv_get hy
        have hz : ((codes.map (newC ks)).map cv)[i]? = some (cv (newC ks c)) := by rw [List.getElem?_map, List.getElem?_map, hc']; rfl
        rw [hz]
        cases c with
        | none =>
          show EvV prog w S0 _ _ ((Str.ofString "code", some .none) :: _) _ _ _
          repeat' contradiction
          exact ⟨rfl, rfl⟩
        | some k =>
          obtain ⟨k1, k2⟩ := f.ok k (List.mem_of_getElem? hc')
          have hm : k ∈ ks := (ksm k).mpr ⟨k1, k2, List.mem_of_getElem? hc'⟩
          show EvV prog w S0 _ _ ((Str.ofString "code", some (.int (k : Int))) :: _) _ _ _
          repeat' contradiction
          refine E_subI rfl ?_
          repeat' contradiction
          refine ⟨_, _, _, _, rfl, rfl, hE₄, rf_look ksn ks.length (ks.idxOf k) k (List.idxOf_lt_length_of_mem hm) (by rw [List.getElem?_eq_getElem (List.idxOf_lt_length_of_mem hm), List.getElem_idxOf]), ?_, rfl⟩
          show some (V.int ((ks.idxOf k + 1 : Nat) : Int)) = _
          simp
      intro CL hCL
      repeat' contradiction
      refine c_integer F (AH.set_same ..) fun y yit H₅ l₅ nw₅ hy₅ vy => ?_
      repeat' contradiction
      have l₄₅ := AH.le_trans (le1 (o := .list ((codes.map (newC ks)).map cv)) hCL) l₅
      have v₅ := v.le (AH.le_trans hl₄ l₄₅)
      refine E_fn F g_named gb (mk1 (by kernel_rfl)) (mk2 (by kernel_rfl)) rfl ?_
      repeat' contradiction
      refine E_fn F g_names_of gb (mk1 (by kernel_rfl)) (mk2 (by kernel_rfl)) rfl ?_
      repeat' contradiction
      refine c_names_of F (.inl rfl) v₅ (.inr ⟨d, rfl, l₄₅ _ _ (hl₄ _ _ hd)⟩) (fkv_dim lv cl) (fkv_names lv cl) ?_
      repeat' contradiction
      refine c_named_none F ?_
      repeat' contradiction
      refine E_fn F g_with_levels gb (mk1 (by kernel_rfl)) (mk2 (by kernel_rfl)) rfl ?_
      repeat' contradiction
      refine E_comp (caps := [Str.ofString "texts"]) (Gs := []) (ρc := [(Str.ofString "texts", some (.ref T))]) (fun _ => rfl) (by kernel_rfl) (.cons (.tail _ (.head _)) .nil) ?_
      repeat' contradiction
      have hK₅ := l₄₅ _ _ (l₄ _ _ hKK₃)
      have ht₅ := l₄₅ _ _ (l₄ _ _ ht₃)
      refine Comp_ix ((lv' ks levels).map V.str) (by simp [lv', pl]) (It_list hK₅) hK₅ (by simp [pl, lid]; omega) (fun i y C hy gb' => ?_) ?_
      · obtain ⟨k, hk, rfl⟩ : ∃ k, ks[i]? = some k ∧ y = .int (k : Int) := by
          rw [pl, List.getElem?_map] at hy
          obtain ⟨k, hk, e⟩ := Option.map_eq_some_iff.mp hy
          exact ⟨k, hk, e.symm⟩
        obtain ⟨k1, k2, k3⟩ := (ksm k).mp (List.mem_of_getElem? hk)
        repeat' contradiction
        refine E_subL rfl ?_
        repeat' contradiction
        have e : levels[k - 1]? = some levels[k - 1] := List.getElem?_eq_getElem (by omega)
        refine ⟨_, _, _, .str levels[k - 1], rfl, rfl, ht₅, by omega, ?_, ?_, rfl⟩
        · rw [List.getElem?_map, show ((k : Int) - 1).toNat = k - 1 by omega, e]; rfl
        · rw [lv', List.getElem?_map, List.getElem?_map, hk]
          simp [List.getD_eq_getElem?_getD, e]
      intro LL hLL
      repeat' contradiction
      have l₆ := le1 (o := .list ((lv' ks levels).map V.str)) hLL
      refine E_fn F g_is_ordered gb (mk1 (by kernel_rfl)) (mk2 (by kernel_rfl)) rfl ?_
      repeat' contradiction
      refine c_is_ordered F (f.le (AH.le_trans hl₄ (AH.le_trans l₄₅ l₆))) ?_
      repeat' contradiction
      have hH := AH.le_trans hl₄ (AH.le_trans l₄₅ l₆)
      refine c_with_levels (H₀ := H) F (vy.le l₆) (AH.set_same ..) ?_ ?_ hH (nw₅.le (AH.le_trans hl₄ (le1 hCL)) l₆) fun H₇ a b c => ?_
      · intro k hk
        obtain ⟨c, hc', e⟩ := List.mem_map.mp hk
        cases c with
        | none => cases e
        | some j =>
          cases e
          obtain ⟨k1, k2⟩ := f.ok j hc'
          have hm : j ∈ ks := (ksm j).mpr ⟨k1, k2, hc'⟩
          have := List.idxOf_lt_length_of_mem hm
          simp [lv']; omega
      · simp [lv']; omega
      repeat' contradiction
      exact h y yit H₇ a b c

end
section
variable {prog : Program} {w : World} {S0 : Shared} {K : Frag} {mV : Str → Option Value} {n : Nat} {env : Env} {ρ : Rho} {H : AH} {Q : V → AH → Prop}
theorem at_cv (codes : List (Option Nat)) (ks : List Nat) (hk : ∀ k ∈ ks, k < codes.length) : at_ (codes.map cv) ks = (ks.map fun k => codes.getD k none).map cv := by
  unfold at_
  rw [List.map_map]
  refine List.map_congr_left fun k hk' => ?_
  have := hk k hk'
  simp [List.getD_eq_getElem?_getD, this]
theorem c_subset_factor {x it ix xit il : Addr} {codes : List (Option Nat)} {levels : List Str} {o drop : Bool} {av' : V} {ks : List Nat} (F : Fa prog w S0 K mV) (f : Fac H x it codes levels o) (hil : H il = some (.list [.ref ix])) (vi : Vec H ix (Str.ofString "integer") xit (pl1 ks) av') (hk : ∀ k ∈ ks, k < codes.length) (hl : ks.length ≤ 100)
    (h : ∀ y yit H', H.le H' → New H H' y → (drop = false → Fac H' y yit (ks.map fun k => codes.getD k none) levels o) →
      (drop = true → Fac H' y yit ((ks.map fun k => codes.getD k none).map (newC (keptOf (ks.map fun k => codes.getD k none) levels.length))) (lv' (keptOf (ks.map fun k => codes.getD k none) levels.length) levels) o) → Q (.ref y) H') : Cn prog w S0 (n + 7) (.ref 1087) [.ref x, .ref il, .bool drop] H Q := by
  refine e_subset_factor F fun L q cd gb => ?_
  refine X_cons ?_
  repeat' contradiction
  refine E_copy F rfl rfl ?_
  refine E_fn F g_subset_any gb (mk1 (by kernel_rfl)) (mk2 (by kernel_rfl)) rfl ?_
  repeat' contradiction
  refine E_fn F g_codes_alone gb (mk1 (by kernel_rfl)) (mk2 (by kernel_rfl)) rfl ?_
  repeat' contradiction
  refine c_codes_alone F f fun y yit H₁ l₁ nw₁ _ v₁ => ?_
  repeat' contradiction
  refine c_subset_any F (.inl rfl) v₁ (.inl ⟨rfl, rfl⟩) rfl rfl rfl (l₁ _ _ hil) (vi.le l₁) (by rw [List.length_map]; exact hk) hl fun z zit H₂ l₂ nw₂ _ v₂ => ?_
  refine ⟨z, _, zit, _, _, rfl, v₂, ?_⟩
  refine c_copy_none F v₂ fun p pit H₃ l₃ nw₃ _ v₃ => ?_
  rw [at_cv codes ks hk] at v₃
  have l₁₂ := AH.le_trans l₁ l₂
  have l := AH.le_trans l₁₂ l₃
  repeat' contradiction
  refine E_fn F g_with_levels gb (mk1 (by kernel_rfl)) (mk2 (by kernel_rfl)) rfl ?_
  repeat' contradiction
  refine E_fn F g_level_texts gb (mk1 (by kernel_rfl)) (mk2 (by kernel_rfl)) rfl ?_
  repeat' contradiction
  refine c_level_texts F (f.le l) fun T H₄ l₄ hT ht => ?_
  repeat' contradiction
  refine E_fn F g_is_ordered gb (mk1 (by kernel_rfl)) (mk2 (by kernel_rfl)) rfl ?_
  repeat' contradiction
  refine c_is_ordered F (f.le (AH.le_trans l l₄)) ?_
  repeat' contradiction
  refine c_with_levels (H₀ := H) F (v₃.le l₄) ht ?_ ⟨by simp; omega, f.len.2⟩ (AH.le_trans l l₄) (nw₃.le l₁₂ l₄) fun H₅ a b c => ?_
  · intro k hk'
    obtain ⟨j, hj, e⟩ := List.mem_map.mp hk'
    refine f.ok k ?_
    have hlt := hk j hj
    rw [List.getD_eq_getElem?_getD, List.getElem?_eq_getElem hlt] at e
    rw [← e]; exact List.getElem_mem hlt
  repeat' contradiction
  cases drop with
  | false =>
    repeat' contradiction
    exact h p pit H₅ a b (fun _ => c) (fun e => by cases e)
  | true =>
    repeat' contradiction
    refine E_fn F g_drop_levels gb (mk1 (by kernel_rfl)) (mk2 (by kernel_rfl)) rfl ?_
    repeat' contradiction
    refine c_drop_levels F c fun y' yit' H₆ l₆ nw₆ f₆ => ?_
    repeat' contradiction
    exact h y' yit' H₆ (AH.le_trans a l₆) (nw₆.le a (AH.le_refl _)) (fun e => by cases e) (fun _ => f₆)

end
/-! ### distinct_texts -/
noncomputable def df (ws : List (Option Str)) : List (Str × V) := ws.foldl (fun kvs o => match o with | none => kvs | some t => put kvs t (.bool true)) []
noncomputable def dk (ws : List (Option Str)) : List Str := ws.foldl (fun acc o => match o with | none => acc | some t => if acc.contains t then acc else acc ++ [t]) []
theorem df_snoc (ws : List (Option Str)) (o : Option Str) : df (ws ++ [o]) = match o with | none => df ws | some t => put (df ws) t (.bool true) := by
  unfold df; rw [List.foldl_append]; rfl
theorem dk_snoc (ws : List (Option Str)) (o : Option Str) : dk (ws ++ [o]) = match o with | none => dk ws | some t => if (dk ws).contains t then dk ws else dk ws ++ [t] := by
  unfold dk; rw [List.foldl_append]; rfl
theorem df_length (ws : List (Option Str)) : (df ws).length ≤ ws.length := by
  refine rev_ind (P := fun ws => (df ws).length ≤ ws.length) (Nat.zero_le _) (fun l o ih => ?_) ws
  rw [df_snoc]
  cases o with
  | none => simp; omega
  | some t =>
    have := put_length (df l) t (.bool true)
    simp; omega
theorem put_keys (kvs : List (Str × V)) (k : Str) (v : V) : (put kvs k v).map (·.1) = if (kvs.map (·.1)).contains k then kvs.map (·.1) else kvs.map (·.1) ++ [k] := by
  have e : kvs.any (fun p => decide (p.1 = k)) = (kvs.map (·.1)).contains k := by
    induction kvs with
    | nil => rfl
    | cons p r ih =>
      rw [List.any_cons, List.map_cons, List.contains_cons, ih]
      congr 1
      by_cases q : p.1 = k
      · simp [q]
      · have : ¬ k = p.1 := fun z => q z.symm
        simp [q, this]
  unfold put
  rw [e]
  split
  · rw [List.map_map]
    refine List.map_congr_left fun p _ => ?_
    simp only [Function.comp]
    split <;> rfl
  · simp
theorem df_keys (ws : List (Option Str)) : (df ws).map (·.1) = dk ws := by
  refine rev_ind (P := fun ws => (df ws).map (·.1) = dk ws) rfl (fun l o ih => ?_) ws
  rw [df_snoc, dk_snoc]
  cases o with
  | none => exact ih
  | some t =>
    show (put (df l) t (.bool true)).map (·.1) = _
    rw [put_keys, ih]
theorem dk_mem (ws : List (Option Str)) (t : Str) : t ∈ dk ws ↔ some t ∈ ws := by
  refine rev_ind (P := fun ws => t ∈ dk ws ↔ some t ∈ ws) (by simp [dk]) (fun l o ih => ?_) ws
  rw [dk_snoc]
  cases o with
  | none => simpa using ih
  | some u =>
    show t ∈ (if (dk l).contains u then dk l else dk l ++ [u]) ↔ _
    split
    · rename_i h
      rw [List.contains_iff_mem] at h
      constructor
      · intro q; exact List.mem_append.mpr (.inl (ih.mp q))
      · intro q
        rcases List.mem_append.mp q with q | q
        · exact ih.mpr q
        · have : t = u := by simpa using q
          subst this; exact h
    · rw [List.mem_append, ih, List.mem_append, List.mem_singleton, List.mem_singleton]
      simp
theorem dk_nodup (ws : List (Option Str)) : (dk ws).Nodup := by
  refine rev_ind (P := fun ws => (dk ws).Nodup) List.nodup_nil (fun l o ih => ?_) ws
  rw [dk_snoc]
  cases o with
  | none => exact ih
  | some u =>
    show (if (dk l).contains u then dk l else dk l ++ [u]).Nodup
    split
    · exact ih
    · rename_i h
      rw [List.nodup_append]
      refine ⟨ih, by simp, fun a ha b hb => ?_⟩
      rw [List.mem_singleton] at hb
      subst hb
      rintro rfl
      exact h (List.contains_iff_mem.mpr ha)
theorem dk_length (ws : List (Option Str)) : (dk ws).length ≤ ws.length := by rw [← df_keys, List.length_map]; exact df_length ws
theorem dk_id {ns : List Str} (nd : ns.Nodup) : dk (ns.map some) = ns := by
  have : ∀ (l : List Str), l.Nodup → dk (l.map some) = l := by
    intro l
    refine rev_ind (P := fun l => l.Nodup → dk (l.map some) = l) (fun _ => rfl) (fun r a ih nd => ?_) l
    rw [List.nodup_append] at nd
    rw [List.map_append]
    show dk (r.map some ++ [some a]) = _
    rw [dk_snoc]
    show (if (dk (r.map some)).contains a then _ else _) = _
    rw [ih nd.1, if_neg]
    rw [List.contains_iff_mem]
    intro h
    exact nd.2.2 a h a (by simp) rfl
  exact this ns nd

/-! ### codes_of -/
noncomputable def cof (levels : List Str) : Option Str → Option Nat
  | none => none
  | some t => if levels.contains t then some (levels.idxOf t + 1) else none
/-- the places of the levels told so far -/
noncomputable def pf (ls : List Str) : List (Str × V) := (ls.zipIdx).foldl (fun kvs p => if (look kvs p.1).isSome then kvs else put kvs p.1 (.int ((p.2 : Int) + 1))) []
theorem pf_snoc (ls : List Str) (t : Str) : pf (ls ++ [t]) = if (look (pf ls) t).isSome then pf ls else put (pf ls) t (.int ((ls.length : Int) + 1)) := by
  unfold pf
  rw [List.zipIdx_append, List.foldl_append]
  simp
theorem pf_length (ls : List Str) : (pf ls).length ≤ ls.length := by
  refine rev_ind (P := fun ls => (pf ls).length ≤ ls.length) (Nat.zero_le _) (fun l t ih => ?_) ls
  rw [pf_snoc]
  have := put_length (pf l) t (.int ((l.length : Int) + 1))
  split <;> simp <;> omega
theorem pf_look (ls : List Str) (t : Str) : look (pf ls) t = if ls.contains t then some (.int ((ls.idxOf t : Int) + 1)) else none := by
  refine rev_ind (P := fun ls => look (pf ls) t = if ls.contains t then some (.int ((ls.idxOf t : Int) + 1)) else none) rfl (fun l u ih => ?_) ls
  rw [pf_snoc]
  by_cases hl : l.contains t = true
  · rw [if_pos hl] at ih
    have hm := List.contains_iff_mem.mp hl
    have h2 : (l ++ [u]).contains t = true := by rw [List.contains_iff_mem]; simp [hm]
    rw [if_pos h2, List.idxOf_append, if_pos hm]
    split
    · exact ih
    · rename_i hu
      have hne : ¬ t = u := by
        rintro rfl
        rw [ih] at hu
        exact hu rfl
      rw [look_put, if_neg hne]; exact ih
  · rw [if_neg hl] at ih
    have hm : t ∉ l := fun h => hl (List.contains_iff_mem.mpr h)
    by_cases e : t = u
    · subst e
      rw [ih, if_neg (by simp), look_put, if_pos rfl]
      have h2 : (l ++ [t]).contains t = true := by rw [List.contains_iff_mem]; simp
      rw [if_pos h2, List.idxOf_append, if_neg hm]
      simp
    · have h2 : ¬ (l ++ [u]).contains t = true := by rw [List.contains_iff_mem]; simp [hm, e]
      rw [if_neg h2]
      split
      · exact ih
      · rw [look_put, if_neg e]; exact ih
section
variable {prog : Program} {w : World} {S0 : Shared} {K : Frag} {mV : Str → Option Value} {n : Nat} {env : Env} {ρ : Rho} {H : AH} {Q : V → AH → Prop}
/-! ### item_texts, distinct_texts, codes_of -/
theorem c_item_texts {x it : Addr} {items : List V} (F : Fa prog w S0 K mV) (v : Vec H x (Str.ofString "character") it items .none) (hw : Words items) (hl : items.length ≤ lid) (h : ∀ D, H D = none → Q (.ref D) (H.set D (.list items))) : Cn prog w S0 (n + 3) (.ref 1051) [.ref x] H Q := by
  refine e_item_texts F fun L q cd gb => ?_
  refine X_cons ?_
  repeat' contradiction
  refine if_by_f (by kernel_rfl) ?_
  repeat' contradiction
  refine E_fn F g_is_atomic gb (mk1 (by kernel_rfl)) (mk2 (by kernel_rfl)) rfl ?_
  repeat' contradiction
  refine c_is_atomic F v ?_
  repeat' contradiction
  refine if_by_f rfl ?_
  repeat' contradiction
  refine E_fn F g_label_texts gb (mk1 (by kernel_rfl)) (mk2 (by kernel_rfl)) rfl ?_
  repeat' contradiction
  refine c_label_texts F v hw hl fun D hD => ?_
  repeat' contradiction
  exact h D hD

theorem ov_get {ws : List (Option Str)} {i : Nat} {y : V} (h : (ws.map ov)[i]? = some y) : ∃ o, ws[i]? = some o ∧ y = ov o := by
  rw [List.getElem?_map] at h
  obtain ⟨c, hc, e⟩ := Option.map_eq_some_iff.mp h
  exact ⟨c, hc, e.symm⟩
theorem c_distinct_texts {a : Addr} {ws : List (Option Str)} (F : Fa prog w S0 K mV) (ha : H a = some (.list (ws.map ov))) (hl : ws.length ≤ 100) (h : ∀ D H', H.le H' → H D = none → H' D = some (.list ((dk ws).map V.str)) → Q (.ref D) H') : Cn prog w S0 (n + 1) (.ref 1034) [.ref a] H Q := by
  refine e_distinct_texts F fun L q cd gb => ?_
  refine X_cons ?_
  repeat' contradiction
  refine E_dict0 (dkS prog w) fun D hD => ?_
  repeat' contradiction
  have haD : a ≠ D := by rintro rfl; rw [hD] at ha; cases ha
  have key : ∀ kv, (H.set D (.sdict kv)) a = some (.list (ws.map ov)) := fun kv => by rw [AH.set_ne _ _ haD]; exact ha
  refine X_for (fun _ => rfl) ?_
  repeat' contradiction
  refine ⟨ws.map ov, fun H' => H' a = some (.list (ws.map ov)), fun i ρ' H' => ∃ o, ρ' = [(Str.ofString "texts", some (.ref a)), (Str.ofString "found", some (.ref D)), (Str.ofString "one", o)] ∧ H' = H.set D (.sdict (df (ws.take i))),
    It_list (key _), ⟨_, rfl, rfl⟩, ?_, ?_, ?_⟩
  · rintro i ρ' H' ⟨o, rfl, rfl⟩
    exact key _
  · rintro i y ρ' H' hy ⟨o, rfl, rfl⟩
    obtain ⟨c, hc, rfl⟩ := ov_get hy
    have e : ws.take (i + 1) = ws.take i ++ [c] := by rw [List.take_add_one, hc]; rfl
    refine ⟨_, .tail (.tail .head), ?_⟩
    cases c with
    | none =>
      show Ex prog w S0 _ _ [_, _, (_, some .none)] _ _ _
      repeat' contradiction
      refine ⟨_, rfl, ?_⟩
      rw [e, df_snoc]
    | some t =>
      show Ex prog w S0 _ _ [_, _, (_, some (.str t))] _ _ _
      repeat' contradiction
      refine U_setItem (dkS prog w) (AH.set_same ..) ?_ ?_
      · have := df_length (ws.take i); rw [List.length_take] at this; simp [lid]; omega
      repeat' contradiction
      refine ⟨_, rfl, ?_⟩
      rw [AH.set_set, e, df_snoc]
  · rintro ρ' H' ⟨o, rfl, rfl⟩
    rw [List.length_map, List.take_length]
    repeat' contradiction
    refine E_ty F g_list gb (mk1 (by kernel_rfl)) rfl ?_
    repeat' contradiction
    refine Cn_listD F.B (dkS prog w) (AH.set_same ..) fun E hE => ?_
    repeat' contradiction
    have e : (df ws).map (fun p => V.str p.1) = (dk ws).map V.str := by rw [← df_keys, List.map_map]; rfl
    rw [e]
    exact h E _ (AH.le_trans (le1 hD) (le1 hE)) (AH.none_of (le1 (o := .sdict (df ws)) hD) hE) (AH.set_same ..)

theorem cv_cof (ls : List Str) (t : Str) : (look (pf ls) t).getD V.none = cv (cof ls (some t)) := by
  rw [pf_look]
  show _ = cv (if ls.contains t = true then some (ls.idxOf t + 1) else none)
  by_cases h : ls.contains t = true
  · rw [if_pos h, if_pos h]; rfl
  · rw [if_neg h, if_neg h]; rfl
theorem c_codes_of {a b : Addr} {ws : List (Option Str)} {ls : List Str} (F : Fa prog w S0 K mV) (ha : H a = some (.list (ws.map ov))) (hb : H b = some (.list (ls.map V.str))) (hl : ws.length ≤ 100) (hl' : ls.length ≤ 100) (h : ∀ D H', H.le H' → H D = none → H' D = some (.list ((ws.map (cof ls)).map cv)) → Q (.ref D) H') : Cn prog w S0 (n + 1) (.ref 1044) [.ref a, .ref b] H Q := by
  refine e_codes_of F fun L q cd gb => ?_
  refine X_cons ?_
  repeat' contradiction
  refine E_dict0 (dkS prog w) fun D hD => ?_
  repeat' contradiction
  have lD := le1 (o := .sdict []) hD
  refine X_for (fun _ => rfl) ?_
  refine E_ty F g_range gb (mk1 (by kernel_rfl)) rfl ?_
  repeat' contradiction
  refine E_bi F g_len gb (mk1 (by kernel_rfl)) rfl ?_
  repeat' contradiction
  refine Cn_lenL (lD _ _ hb) ?_
  rw [List.length_map]
  repeat' contradiction
  refine Cn_range fun R hR => ?_
  repeat' contradiction
  have hRD : R ≠ D := by rintro rfl; rw [AH.set_same] at hR; cases hR
  have hR0 : H R = none := AH.none_of lD hR
  have lall : ∀ kv, H.le ((H.set R (.rng ls.length)).set D (.sdict kv)) := fun kv => AH.le_set_of _ (AH.le_set _ hR0) hD
  refine ⟨nums ls.length, fun _ => True, fun i ρ' H' => ∃ o, ρ' = [(Str.ofString "texts", some (.ref a)), (Str.ofString "levels", some (.ref b)), (Str.ofString "places", some (.ref D)), (Str.ofString "i", o)] ∧ H' = (H.set R (.rng ls.length)).set D (.sdict (pf (ls.take i))),
    It_rng (AH.set_same ..) (by simp [lid]; omega), ⟨_, rfl, AH.set_comm _ hRD.symm _ _⟩, fun _ _ _ _ => trivial, ?_, ?_⟩
  · rintro i y ρ' H' hy ⟨o, rfl, rfl⟩
    have hi := (List.getElem?_eq_some_iff.mp hy).1
    rw [nums_length] at hi
    rw [nums_get hi] at hy
    obtain rfl := Option.some.inj hy
    obtain ⟨t, ht⟩ : ∃ t, ls[i]? = some t := ⟨ls[i], List.getElem?_eq_getElem hi⟩
    have e : ls.take (i + 1) = ls.take i ++ [t] := by rw [List.take_add_one, ht]; rfl
    have hg : (ls.map V.str)[((i : Int)).toNat]? = some (.str t) := by rw [List.getElem?_map, show ((i : Int)).toNat = i by omega, ht]; rfl
    have hb' := lall (pf (ls.take i)) _ _ hb
    have hlen : (ls.take i).length = i := by rw [List.length_take]; omega
    refine ⟨_, .tail (.tail (.tail .head)), ?_⟩
    repeat' contradiction
    refine E_subL rfl ?_
    repeat' contradiction
    refine ⟨_, _, _, .str t, rfl, rfl, hb', by omega, hg, ?_⟩
    repeat' contradiction
    refine E_subL rfl ?_
    repeat' contradiction
    refine ⟨_, _, _, .str t, rfl, rfl, hb', by omega, hg, ?_⟩
    repeat' contradiction
    refine B_notInD F.B (dkS prog w) (AH.set_same ..) ?_
    repeat' contradiction
    refine if_any (fun q => ?_) fun q => ?_
    · repeat' contradiction
      refine E_subL rfl ?_
      repeat' contradiction
      refine ⟨_, _, _, .str t, rfl, rfl, hb', by omega, hg, ?_⟩
      refine U_setItem (dkS prog w) (AH.set_same ..) ?_ ?_
      · have := pf_length (ls.take i); rw [hlen] at this; simp [lid]; omega
      repeat' contradiction
      refine ⟨_, rfl, ?_⟩
      rw [AH.set_set, e, pf_snoc, if_neg (by simpa using q), hlen]
    · repeat' contradiction
      refine ⟨_, rfl, ?_⟩
      rw [e, pf_snoc, if_pos (by simpa using q)]
  · rintro ρ' H' ⟨o, rfl, rfl⟩
    rw [nums_length, List.take_length]
    have l₁ := lall (pf ls)
    generalize hG : (H.set R (.rng ls.length)).set D (.sdict (pf ls)) = H₁ at *
    have hD₁ : H₁ D = some (.sdict (pf ls)) := by rw [← hG]; exact AH.set_same ..
    repeat' contradiction
    refine E_comp (caps := [Str.ofString "places"]) (Gs := []) (ρc := [(Str.ofString "places", some (.ref D))]) (fun _ => rfl) (by kernel_rfl) (.cons (.tail _ (.tail _ (.head _))) .nil) ?_
    repeat' contradiction
    refine Comp_ix ((ws.map (cof ls)).map cv) (by simp) (It_list (l₁ _ _ ha)) (l₁ _ _ ha) (by simp [lid]; omega) (fun i y C hy gb' => ?_) ?_
    · obtain ⟨c, hc, rfl⟩ := ov_get hy
      have hz : ((ws.map (cof ls)).map cv)[i]? = some (cv (cof ls c)) := by rw [List.getElem?_map, List.getElem?_map, hc]; rfl
      rw [hz]
      cases c with
      | none =>
        show EvV prog w S0 _ _ ((Str.ofString "one", some .none) :: _) _ _ _
        repeat' contradiction
        exact ⟨rfl, rfl⟩
      | some t =>
        show EvV prog w S0 _ _ ((Str.ofString "one", some (.str t)) :: _) _ _ _
        repeat' contradiction
        refine E_dget F.B rfl rfl rfl ?_
        repeat' contradiction
        refine ⟨_, _, rfl, hD₁, ?_⟩
        repeat' contradiction
        exact ⟨_, rfl, hD₁, congrArg some (cv_cof ls t).symm, rfl⟩
    intro E hE
    repeat' contradiction
    exact h E _ (AH.le_trans l₁ (le1 hE)) (AH.none_of l₁ hE) (AH.set_same ..)

end
section
variable {prog : Program} {w : World} {S0 : Shared} {K : Frag} {mV : Str → Option Value} {n : Nat} {env : Env} {ρ : Rho} {H : AH} {Q : V → AH → Prop}
theorem c_label_list {tl : Addr} (F : Fa prog w S0 K mV) (h : Q (.ref tl) H) : Cn prog w S0 (n + 1) (.ref 1056) [.none, .ref tl] H Q := by
  refine e_label_list F fun L q cd gb => ?_
  refine X_cons ?_
  repeat' contradiction
  exact h
theorem df_some (ls : List Str) (t : Str) : (look (df (ls.map some)) t).isSome = ls.contains t := by
  refine rev_ind (P := fun ls => (look (df (ls.map some)) t).isSome = ls.contains t) rfl (fun l u ih => ?_) ls
  rw [List.map_append]
  show (look (df (l.map some ++ [some u])) t).isSome = _
  rw [df_snoc]
  show (look (put (df (l.map some)) u (.bool true)) t).isSome = _
  rw [look_put]
  by_cases e : t = u
  · subst e
    have : (l ++ [t]).contains t = true := by rw [List.contains_iff_mem]; simp
    rw [if_pos rfl, this]; rfl
  · rw [if_neg e, ih]
    by_cases hm : t ∈ l
    · have h1 : l.contains t = true := List.contains_iff_mem.mpr hm
      have h2 : (l ++ [u]).contains t = true := by rw [List.contains_iff_mem]; simp [hm]
      rw [h1, h2]
    · have h1 : l.contains t = false := by
        cases q : l.contains t with
        | false => rfl
        | true => exact absurd (List.contains_iff_mem.mp q) hm
      have h2 : (l ++ [u]).contains t = false := by
        cases q : (l ++ [u]).contains t with
        | false => rfl
        | true => have := List.contains_iff_mem.mp q; simp [hm, e] at this
      rw [h1, h2]
theorem c_check_distinct {tl : Addr} {ls : List Str} (F : Fa prog w S0 K mV) (ht : H tl = some (.list (ls.map V.str))) (nd : ls.Nodup) (hl : ls.length ≤ 100) (h : Q .none H) : Cn prog w S0 (n + 1) (.ref 1063) [.ref tl] H Q := by
  refine Cn.forget (e_check_distinct F fun L q cd gb => ?_)
  refine X_cons ?_
  repeat' contradiction
  refine E_dict0 (dkS prog w) fun D hD => ?_
  repeat' contradiction
  have lD := le1 (o := .sdict []) hD
  refine X_for (fun _ => rfl) ?_
  refine E_ty F g_range gb (mk1 (by kernel_rfl)) rfl ?_
  repeat' contradiction
  refine E_bi F g_len gb (mk1 (by kernel_rfl)) rfl ?_
  repeat' contradiction
  refine Cn_lenL (lD _ _ ht) ?_
  rw [List.length_map]
  repeat' contradiction
  refine Cn_range fun R hR => ?_
  repeat' contradiction
  have hRD : R ≠ D := by rintro rfl; rw [AH.set_same] at hR; cases hR
  have hR0 : H R = none := AH.none_of lD hR
  have lall : ∀ kv, H.le ((H.set R (.rng ls.length)).set D (.sdict kv)) := fun kv => AH.le_set_of _ (AH.le_set _ hR0) hD
  refine ⟨nums ls.length, fun _ => True, fun i ρ' H' => ∃ o, ρ' = [(Str.ofString "levels", some (.ref tl)), (Str.ofString "seen", some (.ref D)), (Str.ofString "i", o)] ∧ H' = (H.set R (.rng ls.length)).set D (.sdict (df ((ls.take i).map some))),
    It_rng (AH.set_same ..) (by simp [lid]; omega), ⟨_, rfl, AH.set_comm _ hRD.symm _ _⟩, fun _ _ _ _ => trivial, ?_, ?_⟩
  · rintro i y ρ' H' hy ⟨o, rfl, rfl⟩
    have hi := (List.getElem?_eq_some_iff.mp hy).1
    rw [nums_length] at hi
    rw [nums_get hi] at hy
    obtain rfl := Option.some.inj hy
    obtain ⟨t, ht'⟩ : ∃ t, ls[i]? = some t := ⟨ls[i], List.getElem?_eq_getElem hi⟩
    have e : ls.take (i + 1) = ls.take i ++ [t] := by rw [List.take_add_one, ht']; rfl
    have hg : (ls.map V.str)[((i : Int)).toNat]? = some (.str t) := by rw [List.getElem?_map, show ((i : Int)).toNat = i by omega, ht']; rfl
    have hb' := lall (df ((ls.take i).map some)) _ _ ht
    have hnot : (ls.take i).contains t = false := by
      cases q : (ls.take i).contains t with
      | false => rfl
      | true =>
        have hm := List.contains_iff_mem.mp q
        have : (ls.take i ++ [t]).Nodup := by rw [← e]; exact (List.take_sublist _ _).nodup nd
        exact absurd rfl ((List.nodup_append.mp this).2.2 t hm t (by simp))
    refine ⟨_, .tail (.tail .head), ?_⟩
    repeat' contradiction
    refine E_subL rfl ?_
    repeat' contradiction
    refine ⟨_, _, _, .str t, rfl, rfl, hb', by omega, hg, ?_⟩
    repeat' contradiction
    refine B_inD F.B (dkS prog w) (AH.set_same ..) ?_
    rw [df_some, hnot]
    repeat' contradiction
    refine E_subL rfl ?_
    repeat' contradiction
    refine ⟨_, _, _, .str t, rfl, rfl, hb', by omega, hg, ?_⟩
    refine U_setItem (dkS prog w) (AH.set_same ..) ?_ ?_
    · have := df_length ((ls.take i).map some); rw [List.length_map, List.length_take] at this; unfold lid; omega
    repeat' contradiction
    refine ⟨_, rfl, ?_⟩
    rw [AH.set_set, e, List.map_append]
    show _ = AH.set _ D (.sdict (df ((ls.take i).map some ++ [some t])))
    rw [df_snoc]
  · rintro ρ' H' ⟨o, rfl, rfl⟩
    repeat' contradiction
    exact ⟨lall _, h⟩

theorem filter_str (ls : List Str) : (ls.map V.str).filter (fun v => !isN v) = ls.map V.str := by
  rw [List.filter_eq_self]
  intro v hv
  obtain ⟨t, _, rfl⟩ := List.mem_map.mp hv
  rfl
theorem cof_self {ls : List Str} (nd : ls.Nodup) {i : Nat} {t : Str} (h : ls[i]? = some t) : cof ls (some t) = some (i + 1) := by
  obtain ⟨hi, e⟩ := List.getElem?_eq_some_iff.mp h
  have hm : t ∈ ls := by rw [← e]; exact List.getElem_mem hi
  have : ls.idxOf t = i := by
    have h2 := List.idxOf_lt_length_of_mem hm
    exact (List.getElem_inj nd).mp ((List.getElem_idxOf h2).trans e.symm)
  show (if ls.contains t = true then some (ls.idxOf t + 1) else none) = _
  rw [if_pos (List.contains_iff_mem.mpr hm), this]
theorem cof_ok {ls : List Str} {ws : List (Option Str)} : ∀ k, some k ∈ ws.map (cof ls) → 1 ≤ k ∧ k ≤ ls.length := fun k hk => by
  obtain ⟨o, _, e⟩ := List.mem_map.mp hk
  cases o with
  | none => cases e
  | some t =>
    have e' : (if ls.contains t = true then some (ls.idxOf t + 1) else none) = some k := e
    split at e'
    · rename_i h
      have := List.idxOf_lt_length_of_mem (List.contains_iff_mem.mp h)
      cases e'; omega
    · cases e'

theorem c_make_factor {x it lx lit ex : Addr} {ws : List (Option Str)} {ns : List Str} {o : Bool} (F : Fa prog w S0 K mV) (v : Vec H x (Str.ofString "character") it (ws.map ov) .none) (vl : Vec H lx (Str.ofString "character") lit (ns.map V.str) .none) (he : H ex = some (.list [])) (nd : ns.Nodup) (hw : ws.length ≤ 100) (hn : ns.length ≤ 100)
    (h : ∀ y yit H', H.le H' → New H H' y → Fac H' y yit (ws.map (cof ns)) ns o → Q (.ref y) H') : Cn prog w S0 (n + 6) (.ref 1068) [.ref x, .ref lx, .none, .ref ex, .bool o] H Q := by
  refine e_make_factor F fun L q cd gb => ?_
  refine X_cons ?_
  repeat' contradiction
  refine E_fn F g_item_texts gb (mk1 (by kernel_rfl)) (mk2 (by kernel_rfl)) rfl ?_
  repeat' contradiction
  refine c_item_texts F v (words_of _) (by simp [lid]; omega) fun T hT => ?_
  repeat' contradiction
  have lT := le1 (o := .list (ws.map ov)) hT
  refine X_asgComp (caps := []) (Gs := []) (ρc := []) (by kernel_rfl) (fun _ => rfl) (by kernel_rfl) .nil ?_
  refine E_fn F g_item_texts gb (mk1 (by kernel_rfl)) (mk2 (by kernel_rfl)) rfl ?_
  repeat' contradiction
  refine c_item_texts F (vl.le lT) (words_str _) (by simp [lid]; omega) fun T₂ hT₂ => ?_
  repeat' contradiction
  have lT₂ := le1 (o := .list (ns.map V.str)) hT₂
  refine Comp_filter (fun v => !isN v) id (It_list (AH.set_same ..)) (AH.set_same ..) (by simp [lid]; omega) (fun i y C hy gb' => ?_) ?_
  · obtain ⟨t, _, rfl⟩ := List.mem_map.mp (List.mem_of_getElem? hy)
    repeat' contradiction
    refine ⟨rfl, rfl, fun _ => ?_⟩
    repeat' contradiction
    exact ⟨rfl, rfl⟩
  rw [List.map_id, filter_str]
  intro W hW
  repeat' contradiction
  have lW := AH.le_trans lT (AH.le_trans lT₂ (le1 (o := .list (ns.map V.str)) hW))
  generalize hG : ((H.set T (.list (ws.map ov))).set T₂ (.list (ns.map V.str))).set W (.list (ns.map V.str)) = H₁ at *
  have hT₁ : H₁ T = some (.list (ws.map ov)) := by
    rw [← hG]; exact (AH.le_trans lT₂ (le1 hW)) _ _ (AH.set_same ..)
  have hW₁ : H₁ W = some (.list (ns.map V.str)) := by rw [← hG]; exact AH.set_same ..
  have he₁ := lW _ _ he
  refine X_asgComp (caps := [Str.ofString "exclude"]) (Gs := []) (ρc := [(Str.ofString "exclude", some (.ref ex))]) (by kernel_rfl) (fun _ => rfl) (by kernel_rfl) (.cons (.tail _ (.tail _ (.tail _ (.head _)))) .nil) ?_
  repeat' contradiction
  refine Comp_filter (fun v => true) id (It_list hW₁) hW₁ (by simp [lid]; omega) (fun i y C hy gb' => ?_) ?_
  · obtain ⟨t, _, rfl⟩ := List.mem_map.mp (List.mem_of_getElem? hy)
    repeat' contradiction
    refine B_notInL he₁ rfl rfl ?_
    repeat' contradiction
    refine ⟨rfl, rfl, fun _ => ?_⟩
    repeat' contradiction
    exact ⟨rfl, rfl⟩
  rw [List.map_id, show ∀ l : List V, l.filter (fun _ => true) = l from fun l => by simp]
  intro W₂ hW₂
  repeat' contradiction
  have l₂ := le1 (o := .list (ns.map V.str)) hW₂
  have hW₂' := AH.set_same H₁ W₂ (.list (ns.map V.str))
  generalize H₁.set W₂ (.list (ns.map V.str)) = H₂ at *
  refine E_fn F g_check_distinct gb (mk1 (by kernel_rfl)) (mk2 (by kernel_rfl)) rfl ?_
  repeat' contradiction
  refine c_check_distinct F hW₂' nd hn ?_
  repeat' contradiction
  refine E_fn F g_label_list gb (mk1 (by kernel_rfl)) (mk2 (by kernel_rfl)) rfl ?_
  repeat' contradiction
  refine c_label_list F ?_
  repeat' contradiction
  refine E_fn F g_distinct_texts gb (mk1 (by kernel_rfl)) (mk2 (by kernel_rfl)) rfl ?_
  repeat' contradiction
  have e1 : ns.map V.str = (ns.map some).map ov := by rw [List.map_map]; rfl
  refine c_distinct_texts F (ws := ns.map some) (by rw [← e1]; exact hW₂') (by simpa using hn) fun N H₃ l₃ hN hN₃ => ?_
  rw [dk_id nd] at hN₃
  repeat' contradiction
  refine E_fn F g_codes_of gb (mk1 (by kernel_rfl)) (mk2 (by kernel_rfl)) rfl ?_
  repeat' contradiction
  refine c_codes_of F (ws := ns.map some) (ls := ns) (by rw [← e1]; exact l₃ _ _ hW₂') hN₃ (by simpa using hn) hn fun J H₄ l₄ hJ hJ₄ => ?_
  repeat' contradiction
  refine X_asgComp (caps := [Str.ofString "joined"]) (Gs := []) (ρc := [(Str.ofString "joined", some (.ref J))]) (by kernel_rfl) (fun _ => rfl) (by kernel_rfl) (.cons (.tail _ (.tail _ (.tail _ (.tail _ (.tail _ (.tail _ (.tail _ (.tail _ (.tail _ (.head _)))))))))) .nil) ?_
  refine E_fn F g_codes_of gb (mk1 (by kernel_rfl)) (mk2 (by kernel_rfl)) rfl ?_
  repeat' contradiction
  have l₁₄ := AH.le_trans l₂ (AH.le_trans l₃ l₄)
  refine c_codes_of F (l₁₄ _ _ hT₁) (AH.le_trans l₃ l₄ _ _ hW₂') hw hn fun CC H₅ l₅ hCC hC₅ => ?_
  repeat' contradiction
  refine Comp_ix ((ws.map (cof ns)).map cv) rfl (It_list hC₅) hC₅ (by simp [lid]; omega) (fun i y C hy gb' => ?_) ?_
  · rw [hy]
    obtain ⟨c, hc, rfl⟩ := cv_get hy
    cases c with
    | none =>
      show EvV prog w S0 _ _ ((Str.ofString "code", some .none) :: _) _ _ _
      repeat' contradiction
      exact ⟨rfl, rfl⟩
    | some k =>
      obtain ⟨k1, k2⟩ := cof_ok k (List.mem_of_getElem? hc)
      show EvV prog w S0 _ _ ((Str.ofString "code", some (.int (k : Int))) :: _) _ _ _
      repeat' contradiction
      refine E_subL rfl ?_
      repeat' contradiction
      refine ⟨_, _, _, .int (k : Int), rfl, rfl, l₅ _ _ hJ₄, by omega, ?_, rfl, rfl⟩
      rw [show ((k : Int) - 1).toNat = k - 1 by omega, List.getElem?_map, List.getElem?_map, List.getElem?_map, List.getElem?_eq_getElem (show k - 1 < ns.length by omega)]
      show some (cv (cof ns (some ns[k - 1]))) = _
      rw [cof_self nd (List.getElem?_eq_getElem (by omega)), show k - 1 + 1 = k by omega]
      rfl
  intro CL hCL
  repeat' contradiction
  refine E_fn F g_integer gb (mk1 (by kernel_rfl)) (mk2 (by kernel_rfl)) rfl ?_
  repeat' contradiction
  refine c_integer F (AH.set_same ..) fun y yit H₆ l₆ nw₆ _ vy => ?_
  repeat' contradiction
  have lall := AH.le_trans lW (AH.le_trans l₁₄ (AH.le_trans l₅ (AH.le_trans (le1 hCL) l₆)))
  have v₆ := v.le lall
  repeat' contradiction
  refine if_by_t (by kernel_rfl) ?_
  repeat' contradiction
  refine E_fn F g_named gb (mk1 (by kernel_rfl)) (mk2 (by kernel_rfl)) rfl ?_
  repeat' contradiction
  refine E_fn F g_names_of gb (mk1 (by kernel_rfl)) (mk2 (by kernel_rfl)) rfl ?_
  repeat' contradiction
  refine c_names_of F (.inr rfl) v₆ (.inl ⟨rfl, rfl⟩) rfl rfl ?_
  repeat' contradiction
  refine c_named_none F ?_
  repeat' contradiction
  refine E_fn F g_with_levels gb (mk1 (by kernel_rfl)) (mk2 (by kernel_rfl)) rfl ?_
  repeat' contradiction
  refine c_with_levels (H₀ := H) F vy (AH.le_trans l₄ (AH.le_trans l₅ (AH.le_trans (le1 hCL) l₆)) _ _ hN₃) cof_ok ⟨by simpa using hw, hn⟩ lall (nw₆.le (AH.le_trans lW (AH.le_trans l₁₄ (AH.le_trans l₅ (le1 hCL)))) (AH.le_refl _)) fun H₇ a b c => ?_
  repeat' contradiction
  exact h y yit H₇ a b c

end
section
variable {prog : Program} {w : World} {S0 : Shared} {K : Frag} {mV : Str → Option Value} {n : Nat} {env : Env} {ρ : Rho} {H : AH} {Q : V → AH → Prop}
noncomputable def rl (ts : List (Option Str)) : Option Nat → Option Nat
  | none => none
  | some k => cof (dk ts) (ts.getD (k - 1) none)
theorem rl_ok {ts : List (Option Str)} {codes : List (Option Nat)} : ∀ k, some k ∈ codes.map (rl ts) → 1 ≤ k ∧ k ≤ (dk ts).length := fun k hk => by
  obtain ⟨c, _, e⟩ := List.mem_map.mp hk
  cases c with
  | none => cases e
  | some j => exact cof_ok (ws := [ts.getD (j - 1) none]) k (by rw [List.map_cons]; exact (e ▸ List.mem_cons_self))
theorem c_relevelled {x it tl : Addr} {codes : List (Option Nat)} {levels : List Str} {o : Bool} {ts : List (Option Str)} (F : Fa prog w S0 K mV) (f : Fac H x it codes levels o) (ht : H tl = some (.list (ts.map ov))) (hl : ts.length = levels.length)
    (h : ∀ y yit H', H.le H' → New H H' y → Fac H' y yit (codes.map (rl ts)) (dk ts) o → Q (.ref y) H') : Cn prog w S0 (n + 6) (.ref 1106) [.ref x, .ref tl] H Q := by
  obtain ⟨len1, len2⟩ := f.len
  refine e_relevelled F fun L q cd gb => ?_
  refine X_cons ?_
  repeat' contradiction
  refine E_bi F g_len gb (mk1 (by kernel_rfl)) rfl ?_
  repeat' contradiction
  refine E_fn F g_level_texts gb (mk1 (by kernel_rfl)) (mk2 (by kernel_rfl)) rfl ?_
  repeat' contradiction
  refine c_level_texts F f fun T H₁ l₁ hT ht₁ => ?_
  repeat' contradiction
  refine Cn_lenL ht₁ ?_
  rw [List.length_map]
  repeat' contradiction
  refine E_bi F g_len gb (mk1 (by kernel_rfl)) rfl ?_
  repeat' contradiction
  refine Cn_lenL (l₁ _ _ ht) ?_
  rw [List.length_map]
  repeat' contradiction
  refine if_by_f (decide_eq_false (by omega)) ?_
  repeat' contradiction
  refine E_fn F g_distinct_texts gb (mk1 (by kernel_rfl)) (mk2 (by kernel_rfl)) rfl ?_
  repeat' contradiction
  refine c_distinct_texts F (l₁ _ _ ht) (by omega) fun N H₂ l₂ hN hN₂ => ?_
  repeat' contradiction
  have dl := dk_length ts
  refine E_fn F g_codes_of gb (mk1 (by kernel_rfl)) (mk2 (by kernel_rfl)) rfl ?_
  repeat' contradiction
  refine c_codes_of F (l₂ _ _ (l₁ _ _ ht)) hN₂ (by omega) (by omega) fun J H₃ l₃ hJ hJ₃ => ?_
  repeat' contradiction
  have l₁₃ := AH.le_trans l₁ (AH.le_trans l₂ l₃)
  refine E_fn F g_codes_alone gb (mk1 (by kernel_rfl)) (mk2 (by kernel_rfl)) rfl ?_
  repeat' contradiction
  refine c_codes_alone F (f.le l₁₃) fun y yit H₄ l₄ nw₄ _ vy => ?_
  repeat' contradiction
  refine E_comp (caps := [Str.ofString "joined"]) (Gs := []) (ρc := [(Str.ofString "joined", some (.ref J))]) (fun _ => rfl) (by kernel_rfl) (.cons (.tail _ (.tail _ (.tail _ (.tail _ (.head _))))) .nil) ?_
  refine E_fn F g_codes_in gb (mk1 (by kernel_rfl)) (mk2 (by kernel_rfl)) rfl ?_
  repeat' contradiction
  have l₁₄ := AH.le_trans l₁₃ l₄
  refine c_codes_in F (f.le l₁₄) fun CC H₅ l₅ hCC hC₅ => ?_
  repeat' contradiction
  refine Comp_ix ((codes.map (rl ts)).map cv) (by simp) (It_list hC₅) hC₅ (by simp [lid]; omega) (fun i y C hy gb' => ?_) ?_
  · obtain ⟨c, hc, rfl⟩ := cv_get hy
    have hz : ((codes.map (rl ts)).map cv)[i]? = some (cv (rl ts c)) := by rw [List.getElem?_map, List.getElem?_map, hc]; rfl
    rw [hz]
    cases c with
    | none =>
      show EvV prog w S0 _ _ ((Str.ofString "code", some .none) :: _) _ _ _
      repeat' contradiction
      exact ⟨rfl, rfl⟩
    | some k =>
      obtain ⟨k1, k2⟩ := f.ok k (List.mem_of_getElem? hc)
      show EvV prog w S0 _ _ ((Str.ofString "code", some (.int (k : Int))) :: _) _ _ _
      repeat' contradiction
      refine E_subL rfl ?_
      repeat' contradiction
      refine ⟨_, _, _, cv (rl ts (some k)), rfl, rfl, l₅ _ _ (l₄ _ _ hJ₃), by omega, ?_, rfl, rfl⟩
      rw [show ((k : Int) - 1).toNat = k - 1 by omega, List.getElem?_map, List.getElem?_map, List.getElem?_eq_getElem (show k - 1 < ts.length by omega)]
      simp [rl, List.getD_eq_getElem?_getD, List.getElem?_eq_getElem (show k - 1 < ts.length by omega)]
  intro CL hCL
  repeat' contradiction
  have l₆ := AH.le_trans l₅ (le1 (o := .list ((codes.map (rl ts)).map cv)) hCL)
  have hCL' := AH.set_same H₅ CL (.list ((codes.map (rl ts)).map cv))
  generalize H₅.set CL (.list ((codes.map (rl ts)).map cv)) = H₆ at *
  refine A_items F (vy.le l₆) hCL' fun H₇ c₇ b₇ v₇ => ?_
  have nw₆ := nw₄.le l₁₃ l₆
  have g₇ := Ch.le nw₆ (AH.le_trans l₁₄ l₆) c₇
  have nw₇ := Ch.new nw₆ c₇
  have hN₇ := (vy.le l₆).keep c₇ (l₆ _ _ (l₄ _ _ (l₃ _ _ hN₂))) (fun _ e => by cases e)
  repeat' contradiction
  refine E_fn F g_with_levels gb (mk1 (by kernel_rfl)) (mk2 (by kernel_rfl)) rfl ?_
  repeat' contradiction
  refine E_fn F g_is_ordered gb (mk1 (by kernel_rfl)) (mk2 (by kernel_rfl)) rfl ?_
  repeat' contradiction
  refine c_is_ordered F (f.le g₇) ?_
  repeat' contradiction
  refine c_with_levels (H₀ := H) F v₇ hN₇ rl_ok ⟨by simpa using len1, by omega⟩ g₇ nw₇ fun H₈ a b c => ?_
  repeat' contradiction
  exact h y CL H₈ a b c

end
section
variable {prog : Program} {w : World} {S0 : Shared} {K : Frag} {mV : Str → Option Value} {n : Nat} {env : Env} {ρ : Rho} {H : AH} {Q : V → AH → Prop}
/-! ### small ones of the assignment -/
theorem c_kind_order {Q : V → AH → Prop} (F : Fa prog w S0 K mV) (h : Q (.int 2) H) : Cn prog w S0 (n + 1) (.ref 551) [.str (Str.ofString "integer")] H Q := by
  refine Cn.forget (e_kind_order F fun L q cd gb => ?_)
  refine X_cons ?_
  repeat' contradiction
  refine ⟨(by first | exact len_ok rfl | simp [lid]), fun T hT => ?_⟩
  repeat' contradiction
  refine B_inT (AH.set_same ..) rfl rfl ?_
  repeat' contradiction
  refine if_by_t (by kernel_rfl) ?_
  repeat' contradiction
  refine E_indexT rfl rfl rfl ?_
  repeat' contradiction
  refine ⟨_, _, _, _, _, _, _, _, rfl, AH.set_same .., ?_⟩
  repeat' contradiction
  refine ⟨AH.set_same .., rfl, rfl, rfl, rfl, by kernel_rfl, by kernel_rfl, by kernel_rfl, ?_⟩
  repeat' contradiction
  exact ⟨le1 hT, h⟩
theorem c_common_kind {a : Addr} {Q : V → AH → Prop} (F : Fa prog w S0 K mV) (ha : H a = some (.list [.str (Str.ofString "integer"), .str (Str.ofString "integer")])) (h : Q (.str (Str.ofString "integer")) H) : Cn prog w S0 (n + 2) (.ref 558) [.ref a] H Q := by
  refine Cn.forget (e_common_kind F fun L q cd gb => ?_)
  refine X_cons ?_
  repeat' contradiction
  refine ⟨(by first | exact len_ok rfl | simp [lid]), fun T hT => ?_⟩
  repeat' contradiction
  have lT := le1 (o := .tup [V.str (Str.ofString "NULL"), .str (Str.ofString "logical"), .str (Str.ofString "integer"), .str (Str.ofString "double"), .str (Str.ofString "character"), .str (Str.ofString "list"), .str (Str.ofString "expression")]) hT
  refine X_for (fun _ => rfl) ?_
  repeat' contradiction
  refine ⟨_, fun H' => H' a = some (.list [.str (Str.ofString "integer"), .str (Str.ofString "integer")]), fun i ρ' H' => ∃ o, ρ' = [(Str.ofString "kinds", some (.ref a)), (Str.ofString "names", some (.ref T)), (Str.ofString "most", some (.int (if i = 0 then 0 else 2))), (Str.ofString "kind", o)] ∧ H' = H.set T (.tup [V.str (Str.ofString "NULL"), .str (Str.ofString "logical"), .str (Str.ofString "integer"), .str (Str.ofString "double"), .str (Str.ofString "character"), .str (Str.ofString "list"), .str (Str.ofString "expression")]),
    It_list (lT _ _ ha), ⟨_, rfl, rfl⟩, ?_, ?_, ?_⟩
  · rintro i ρ' H' ⟨o, rfl, rfl⟩
    exact lT _ _ ha
  · rintro i y ρ' H' hy ⟨o, rfl, rfl⟩
    have hy' : y = .str (Str.ofString "integer") := by
      have := List.mem_of_getElem? hy
      simpa using this
    subst hy'
    refine ⟨_, .tail (.tail (.tail .head)), ?_⟩
    repeat' contradiction
    refine E_bi F g_max gb (mk1 (by kernel_rfl)) rfl ?_
    repeat' contradiction
    refine E_fn F g_kind_order gb (mk1 (by kernel_rfl)) (mk2 (by kernel_rfl)) rfl ?_
    repeat' contradiction
    refine c_kind_order F ?_
    repeat' contradiction
    refine Cn_max ?_
    have e : max (if i = 0 then (0 : Int) else 2) 2 = if i + 1 = 0 then 0 else 2 := by split <;> (simp; try rfl)
    rw [e]
    repeat' contradiction
    exact ⟨_, rfl, rfl⟩
  · rintro ρ' H' ⟨o, rfl, rfl⟩
    repeat' contradiction
    refine E_subT rfl ?_
    repeat' contradiction
    refine ⟨_, _, _, _, rfl, rfl, AH.set_same .., by decide, rfl, ?_⟩
    repeat' contradiction
    exact ⟨lT, h⟩

end
section
variable {prog : Program} {w : World} {S0 : Shared} {K : Frag} {mV : Str → Option Value} {n : Nat} {env : Env} {ρ : Rho} {H : AH} {Q : V → AH → Prop}
theorem c_assigned_kind {x it y yit : Addr} {items items' : List V} {av av' : V} (F : Fa prog w S0 K mV) (v : Vec H x (Str.ofString "integer") it items av) (v' : Vec H y (Str.ofString "integer") yit items' av') (h : Q (.str (Str.ofString "integer")) H) : Cn prog w S0 (n + 3) (.ref 909) [.ref x, .ref y] H Q := by
  refine Cn.forget (e_assigned_kind F fun L q cd gb => ?_)
  refine X_cons ?_
  repeat' contradiction
  refine E_fn F g_common_kind gb (mk1 (by kernel_rfl)) (mk2 (by kernel_rfl)) rfl ?_
  repeat' contradiction
  refine E_fn F g_result_kind gb (mk1 (by kernel_rfl)) (mk2 (by kernel_rfl)) rfl ?_
  repeat' contradiction
  refine c_result_kind F (.inl rfl) ?_
  repeat' contradiction
  refine E_fn F g_result_kind gb (mk1 (by kernel_rfl)) (mk2 (by kernel_rfl)) rfl ?_
  repeat' contradiction
  refine c_result_kind F (.inl rfl) ?_
  repeat' contradiction
  refine ⟨(by first | exact len_ok rfl | simp [lid]), fun T hT => ?_⟩
  repeat' contradiction
  refine c_common_kind F (AH.set_same ..) ?_
  repeat' contradiction
  exact ⟨le1 hT, h⟩
theorem c_value_vector {x it : Addr} {kind : Str} {items : List V} {av tv : V} (F : Fa prog w S0 K mV) (v : Vec H x kind it items av) (h : Q (.ref x) H) : Cn prog w S0 (n + 2) (.ref 902) [.ref x, tv] H Q := by
  refine e_value_vector F fun L q cd gb => ?_
  refine X_cons ?_
  repeat' contradiction
  refine E_fn F g_is_vector gb (mk1 (by kernel_rfl)) (mk2 (by kernel_rfl)) rfl ?_
  repeat' contradiction
  refine c_is_vector F v ?_
  repeat' contradiction
  exact h
theorem c_check_places {x it : Addr} {kind : Str} {item : V} {av pv : V} (F : Fa prog w S0 K mV) (v : Vec H x kind it [item] av) (h : Q .none H) : Cn prog w S0 (n + 1) (.ref 930) [pv, .ref x] H Q := by
  refine e_check_places F fun L q cd gb => ?_
  refine X_cons ?_
  repeat' contradiction
  refine E_bi F g_len gb (mk1 (by kernel_rfl)) rfl ?_
  repeat' contradiction
  refine Cn_lenL v.its ?_
  repeat' contradiction
  refine if_by_f rfl ?_
  repeat' contradiction
  exact h
theorem c_own_fac {x it : Addr} {codes : List (Option Nat)} {levels : List Str} {o : Bool} (F : Fa prog w S0 K mV) (f : Fac H x it codes levels o) (h : ∀ y yit H', H.le H' → New H H' y → H yit = none → Fac H' y yit codes levels o → Q (.ref y) H') : Cn prog w S0 (n + 4) (.ref 406) [.ref x] H Q := by
  obtain ⟨d, lv, lvit, cl, clit, v, hd, vl, vc⟩ := f.ex
  refine e_own F fun L q cd gb => ?_
  refine X_cons ?_
  repeat' contradiction
  refine E_copy F rfl rfl ?_
  repeat' contradiction
  refine ⟨x, _, it, _, _, rfl, v, ?_⟩
  refine c_copy_fac F f fun y yit H' l nw hy fy => ?_
  repeat' contradiction
  exact h y yit H' l nw hy fy
theorem c_raised {x it : Addr} {codes : List (Option Nat)} {levels : List Str} {o : Bool} {nv : V} (F : Fa prog w S0 K mV) (f : Fac H x it codes levels o) (h : ∀ y yit H', H.le H' → New H H' y → H yit = none → Fac H' y yit codes levels o → Q (.ref y) H') : Cn prog w S0 (n + 5) (.ref 895) [.ref x, .str (Str.ofString "integer"), nv] H Q := by
  obtain ⟨d, lv, lvit, cl, clit, v, hd, vl, vc⟩ := f.ex
  refine e_raised F fun L q cd gb => ?_
  refine X_cons ?_
  repeat' contradiction
  refine if_by_t (by kernel_rfl) ?_
  repeat' contradiction
  refine E_fn F g_own gb (mk1 (by kernel_rfl)) (mk2 (by kernel_rfl)) rfl ?_
  repeat' contradiction
  refine c_own_fac F f fun y yit H' l nw hy fy => ?_
  repeat' contradiction
  exact h y yit H' l nw hy fy
theorem c_converted_items {x it : Addr} {items : List V} {av nv : V} (F : Fa prog w S0 K mV) (v : Vec H x (Str.ofString "integer") it items av) (h : Q (.ref it) H) : Cn prog w S0 (n + 1) (.ref 888) [.ref x, .str (Str.ofString "integer"), nv] H Q := by
  refine e_converted_items F fun L q cd gb => ?_
  refine X_cons ?_
  repeat' contradiction
  refine if_by_t (by kernel_rfl) ?_
  repeat' contradiction
  exact h
theorem c_first_count {a : Addr} {k : Nat} (F : Fa prog w S0 K mV) (ha : H a = some (.list (pl [k]))) (h : Q (.int ((k : Int) + 1)) H) : Cn prog w S0 (n + 1) (.ref 937) [.ref a] H Q := by
  refine e_first_count F fun L q cd gb => ?_
  refine X_cons ?_
  repeat' contradiction
  refine X_for (fun _ => rfl) ?_
  repeat' contradiction
  refine ⟨_, fun H' => H' a = some (.list (pl [k])), fun i ρ' H' => ∃ o, ρ' = [(Str.ofString "places", some (.ref a)), (Str.ofString "count", some (.int (if i = 0 then 0 else (k : Int) + 1))), (Str.ofString "place", o)] ∧ H' = H, It_list ha, ⟨_, rfl, rfl⟩, ?_, ?_, ?_⟩
  · rintro i ρ' H' ⟨o, rfl, rfl⟩
    exact ha
  · rintro i y ρ' H' hy ⟨o, rfl, rfl⟩
    have hi : i = 0 := by have := (List.getElem?_eq_some_iff.mp hy).1; simp [pl] at this; omega
    subst hi
    have hy' : y = .int (k : Int) := by simpa [pl] using hy.symm
    subst hy'
    refine ⟨_, .tail (.tail .head), ?_⟩
    show Ex prog w S0 _ _ [_, (_, some (.int 0)), _] _ _ _
    repeat' contradiction
    refine if_by_t (decide_eq_true (by omega)) ?_
    repeat' contradiction
    exact ⟨_, rfl, rfl⟩
  · rintro ρ' H' ⟨o, rfl, rfl⟩
    repeat' contradiction
    exact h

end
section
variable {prog : Program} {w : World} {S0 : Shared} {K : Frag} {mV : Str → Option Value} {n : Nat} {env : Env} {ρ : Rho} {H : AH} {Q : V → AH → Prop}
theorem c_put_items {y yit pa ia : Addr} {items : List V} {av item : V} {k : Nat} (F : Fa prog w S0 K mV) (v : Vec H y (Str.ofString "integer") yit items av) (hp : H pa = some (.list (pl [k]))) (hi : H ia = some (.list [item])) (hk : k < items.length) (hn1 : pa ≠ yit) (hn2 : ia ≠ yit)
    (h : ∀ H', (∀ a o, a ≠ yit → H a = some o → H' a = some o) → H' yit = some (.list (items.set k item)) → Q .none H') : Cn prog w S0 (n + 2) (.ref 923) [.ref y, .ref pa, .ref ia] H Q := by
  refine e_put_items F fun L q cd gb => ?_
  refine X_cons ?_
  repeat' contradiction
  refine E_bi F g_len gb (mk1 (by kernel_rfl)) rfl ?_
  repeat' contradiction
  refine Cn_lenL hi ?_
  repeat' contradiction
  refine E_fn F g_is_list_kind gb (mk1 (by kernel_rfl)) (mk2 (by kernel_rfl)) rfl ?_
  repeat' contradiction
  refine c_is_list_kind F (.inl rfl) ?_
  repeat' contradiction
  refine X_for (fun _ => rfl) ?_
  refine E_ty F g_range gb (mk1 (by kernel_rfl)) rfl ?_
  repeat' contradiction
  refine E_bi F g_len gb (mk1 (by kernel_rfl)) rfl ?_
  repeat' contradiction
  refine Cn_lenL hp ?_
  repeat' contradiction
  refine Cn_range fun R hR => ?_
  repeat' contradiction
  have lR := le1 (o := .rng ((pl [k]).length : Nat)) hR
  have hRy : R ≠ yit := by rintro rfl; rw [v.its] at hR; cases hR
  refine ⟨nums 1, fun _ => True, fun i ρ' H' => ∃ o o', ρ' = [(Str.ofString "v", some (.ref y)), (Str.ofString "places", some (.ref pa)), (Str.ofString "items", some (.ref ia)), (Str.ofString "count", some (.int 1)), (Str.ofString "listed", some (.bool false)), (Str.ofString "i", o), (Str.ofString "item", o')] ∧ H' = (H.set R (.rng ((pl [k]).length : Nat))).set yit (.list (if i = 0 then items else items.set k item)),
    It_rng (AH.set_same ..) (by simp [lid]), ⟨_, _, rfl, (AH.set_get (lR _ _ v.its)).symm⟩, fun _ _ _ _ => trivial, ?_, ?_⟩
  · rintro i y' ρ' H' hy ⟨o, o', rfl, rfl⟩
    have hi0 : i = 0 := by have := (List.getElem?_eq_some_iff.mp hy).1; simp [nums] at this; omega
    subst hi0
    rw [nums_get (by omega)] at hy
    obtain rfl := Option.some.inj hy
    show ∃ ρ'', _ ∧ Ex prog w S0 _ _ _ _ ((H.set R (.rng ((pl [k]).length : Nat))).set yit (.list items)) _
    rw [AH.set_get (lR _ _ v.its)]
    refine ⟨_, .tail (.tail (.tail (.tail (.tail .head)))), ?_⟩
    have v₁ := v.le lR
    repeat' contradiction
    refine E_subL rfl ?_
    repeat' contradiction
    refine ⟨_, _, _, .int (k : Int), rfl, rfl, lR _ _ hp, by decide, rfl, ?_⟩
    repeat' contradiction
    refine E_subL rfl ?_
    repeat' contradiction
    refine B_mod (by decide) ?_
    refine ⟨_, _, _, item, rfl, rfl, lR _ _ hi, by decide, rfl, ?_⟩
    repeat' contradiction
    refine E_subL rfl ?_
    repeat' contradiction
    refine ⟨_, _, _, .int (k : Int), rfl, rfl, lR _ _ hp, by decide, rfl, ?_⟩
    refine U_setItemL v₁.its (by omega) (by omega) ?_
    repeat' contradiction
    refine ⟨_, _, rfl, ?_⟩
    rw [show ((k : Int)).toNat = k by omega]
    rfl
  · rintro ρ' H' ⟨o, o', rfl, rfl⟩
    repeat' contradiction
    refine h _ (fun a oo ha e => ?_) (AH.set_same ..)
    rw [AH.set_ne _ _ ha]; exact lR _ _ e

theorem Vec.but {H H' : AH} {x it yit : Addr} {kind : Str} {items L : List V} {av : V} (v : Vec H x kind it items av) (hb : ∀ a o, a ≠ yit → H a = some o → H' a = some o) (hy : H yit = some (.list L)) (hne : items ≠ L) : Vec H' x kind it items av := by
  obtain ⟨dx, fs, hx, hd, r⟩ := v.ex
  refine ⟨⟨dx, fs, hb _ _ ?_ hx, hb _ _ ?_ hd, r⟩, hb _ _ ?_ v.its⟩
  · rintro rfl; rw [hx] at hy; cases hy
  · rintro rfl; rw [hd] at hy; cases hy
  · rintro rfl; rw [v.its] at hy; cases hy; exact hne rfl
theorem strs_ne {ls : List Str} {codes : List (Option Nat)} (h : codes ≠ []) : ls.map V.str ≠ codes.map cv := fun e => by
  cases codes with
  | nil => exact h rfl
  | cons c r =>
    cases ls with
    | nil => cases e
    | cons t u =>
      rw [List.map_cons, List.map_cons] at e
      have := (List.cons.inj e).1
      cases c <;> cases this
theorem clsV_eq (o : Bool) : ∃ ls : List Str, clsV o = ls.map V.str := by
  cases o
  · exact ⟨[Str.ofString "factor"], rfl⟩
  · exact ⟨[Str.ofString "ordered", Str.ofString "factor"], rfl⟩
theorem c_assign_places {x it vx vit pa : Addr} {codes : List (Option Nat)} {levels : List Str} {o : Bool} {c : Option Nat} {k : Nat} {nv adv : V} (F : Fa prog w S0 K mV) (f : Fac H x it codes levels o) (hp : H pa = some (.list (pl [k]))) (vv : Vec H vx (Str.ofString "integer") vit [cv c] .none) (hk : k < codes.length) (hc : ∀ j, c = some j → 1 ≤ j ∧ j ≤ levels.length)
    (h : ∀ y yit H', H.le H' → New H H' y → Fac H' y yit (codes.set k c) levels o → Q (.ref y) H') : Cn prog w S0 (n + 6) (.ref 951) [.ref x, .ref pa, adv, .ref vx, nv] H Q := by
  obtain ⟨d, lv, lvit, cl, clit, v, hd, vl, vc⟩ := f.ex
  refine e_assign_places F fun L q cd gb => ?_
  refine X_cons ?_
  repeat' contradiction
  refine E_fn F g_names_of gb (mk1 (by kernel_rfl)) (mk2 (by kernel_rfl)) rfl ?_
  repeat' contradiction
  refine c_names_of F (.inl rfl) v (.inr ⟨d, rfl, hd⟩) (fkv_dim lv cl) (fkv_names lv cl) ?_
  repeat' contradiction
  refine E_fn F g_value_vector gb (mk1 (by kernel_rfl)) (mk2 (by kernel_rfl)) rfl ?_
  repeat' contradiction
  refine c_value_vector F vv ?_
  repeat' contradiction
  refine E_fn F g_check_places gb (mk1 (by kernel_rfl)) (mk2 (by kernel_rfl)) rfl ?_
  repeat' contradiction
  refine c_check_places F vv ?_
  repeat' contradiction
  refine E_fn F g_assigned_kind gb (mk1 (by kernel_rfl)) (mk2 (by kernel_rfl)) rfl ?_
  repeat' contradiction
  refine c_assigned_kind F v vv ?_
  repeat' contradiction
  refine E_bi F g_len gb (mk1 (by kernel_rfl)) rfl ?_
  repeat' contradiction
  refine Cn_lenL hp ?_
  repeat' contradiction
  refine if_by_t rfl ?_
  repeat' contradiction
  refine E_bi F g_len gb (mk1 (by kernel_rfl)) rfl ?_
  repeat' contradiction
  refine Cn_lenL vv.its ?_
  repeat' contradiction
  refine if_by_f rfl ?_
  repeat' contradiction
  refine E_fn F g_raised gb (mk1 (by kernel_rfl)) (mk2 (by kernel_rfl)) rfl ?_
  repeat' contradiction
  refine c_raised F f fun y yit H₁ l₁ nw₁ hy₁ fy => ?_
  repeat' contradiction
  refine E_bi F g_len gb (mk1 (by kernel_rfl)) rfl ?_
  repeat' contradiction
  refine Cn_lenL (l₁ _ _ hp) ?_
  repeat' contradiction
  refine if_by_f rfl ?_
  repeat' contradiction
  have vv₁ := vv.le l₁
  refine E_bi F g_len gb (mk1 (by kernel_rfl)) rfl ?_
  repeat' contradiction
  refine Cn_lenL (l₁ _ _ hp) ?_
  repeat' contradiction
  refine E_bi F g_len gb (mk1 (by kernel_rfl)) rfl ?_
  repeat' contradiction
  refine Cn_lenL vv₁.its ?_
  refine B_mod (show ((1 : Nat) : Int) ≠ 0 by decide) ?_
  repeat' contradiction
  refine if_by_f (show (!veq (V.int (Int.fmod ((1 : Nat) : Int) ((1 : Nat) : Int))) (V.int 0)) = false by decide) ?_
  repeat' contradiction
  refine E_fn F g_converted_items gb (mk1 (by kernel_rfl)) (mk2 (by kernel_rfl)) rfl ?_
  repeat' contradiction
  refine c_converted_items F vv₁ ?_
  repeat' contradiction
  refine E_fn F g_first_count gb (mk1 (by kernel_rfl)) (mk2 (by kernel_rfl)) rfl ?_
  repeat' contradiction
  refine c_first_count F (l₁ _ _ hp) ?_
  repeat' contradiction
  obtain ⟨d', lw, lwit, cw, cwit, vy, hd', vlw, vcw⟩ := fy.ex
  refine E_bi F g_len gb (mk1 (by kernel_rfl)) rfl ?_
  repeat' contradiction
  refine Cn_lenL vy.its ?_
  rw [List.length_map]
  repeat' contradiction
  refine if_by_f (decide_eq_false (by omega)) ?_
  repeat' contradiction
  refine E_fn F g_put_items gb (mk1 (by kernel_rfl)) (mk2 (by kernel_rfl)) rfl ?_
  repeat' contradiction
  have hpy : pa ≠ yit := by rintro rfl; rw [hy₁] at hp; cases hp
  have hvy : vit ≠ yit := by rintro rfl; rw [vv.its] at hy₁; cases hy₁
  refine c_put_items F vy (l₁ _ _ hp) vv₁.its (by rw [List.length_map]; exact hk) hpy hvy fun H₂ hb hy₂ => ?_
  repeat' contradiction
  have hcn : codes ≠ [] := by rintro rfl; exact absurd hk (Nat.not_lt_zero _)
  have l₂ : H.le H₂ := fun a oo e => hb a oo (by rintro rfl; rw [hy₁] at e; cases e) (l₁ a oo e)
  obtain ⟨dy, fsy, hy3, hdy, ry⟩ := vy.ex
  obtain ⟨cls, ecls⟩ := clsV_eq o
  refine h y yit H₂ l₂ ?_ ⟨⟨d', lw, lwit, cw, cwit, ⟨⟨dy, fsy, hb _ _ ?_ hy3, hb _ _ ?_ hdy, ry⟩, ?_⟩, hb _ _ ?_ hd', vlw.but hb vy.its (strs_ne hcn), vcw.but hb vy.its (by rw [ecls]; exact strs_ne hcn)⟩, ?_, ?_⟩
  · obtain ⟨dx, h1, h2, h3, h4⟩ := nw₁
    exact ⟨dx, h1, h2, h3, hb _ _ (by rintro rfl; rw [vy.its] at h4; cases h4) h4⟩
  · rintro rfl; rw [vy.its] at hy3; cases hy3
  · rintro rfl; rw [vy.its] at hdy; cases hdy
  · rw [hy₂, List.map_set]
  · rintro rfl; rw [vy.its] at hd'; cases hd'
  · intro j hj
    rcases List.mem_or_eq_of_mem_set hj with q | q
    · exact f.ok j q
    · exact hc j q.symm
  · rw [List.length_set]; exact f.len

end
section
variable {prog : Program} {w : World} {S0 : Shared} {K : Frag} {mV : Str → Option Value} {n : Nat} {env : Env} {ρ : Rho} {H : AH} {Q : V → AH → Prop}
theorem c_assign_vector {x it ix xit vx vit : Addr} {codes : List (Option Nat)} {levels : List Str} {o : Bool} {c : Option Nat} {k : Nat} {nv av' : V} (F : Fa prog w S0 K mV) (f : Fac H x it codes levels o) (vi : Vec H ix (Str.ofString "integer") xit (pl1 [k]) av') (vv : Vec H vx (Str.ofString "integer") vit [cv c] .none) (hk : k < codes.length) (hc : ∀ j, c = some j → 1 ≤ j ∧ j ≤ levels.length)
    (h : ∀ y yit H', H.le H' → New H H' y → Fac H' y yit (codes.set k c) levels o → Q (.ref y) H') : Cn prog w S0 (n + 7) (.ref 958) [.ref x, .ref ix, .ref vx, nv] H Q := by
  obtain ⟨d, lv, lvit, cl, clit, v, hd, vl, vc⟩ := f.ex
  refine e_assign_vector F fun L q cd gb => ?_
  refine X_cons ?_
  repeat' contradiction
  refine if_by_f (by kernel_rfl) ?_
  repeat' contradiction
  refine X_asg2 (by kernel_rfl) (by kernel_rfl) ?_
  refine E_fn F g_positions gb (mk1 (by kernel_rfl)) (mk2 (by kernel_rfl)) rfl ?_
  repeat' contradiction
  refine E_bi F g_len gb (mk1 (by kernel_rfl)) rfl ?_
  repeat' contradiction
  refine Cn_lenL v.its ?_
  repeat' contradiction
  refine E_fn F g_names_of gb (mk1 (by kernel_rfl)) (mk2 (by kernel_rfl)) rfl ?_
  repeat' contradiction
  refine c_names_of F (.inl rfl) v (.inr ⟨d, rfl, hd⟩) (fkv_dim lv cl) (fkv_names lv cl) ?_
  repeat' contradiction
  refine c_positions F vi (by simp) fun T D H₁ l₁ hD hT _ hd₁ ht₁ => ?_
  refine ⟨T, .ref D, .none, _, _, rfl, ht₁, .tail (.tail (.tail (.tail (.tail .head)))), .tail (.tail (.tail (.tail (.tail (.tail .head))))), ?_⟩
  have vv₁ := vv.le l₁
  repeat' contradiction
  refine if_by_f (by kernel_rfl) ?_
  repeat' contradiction
  refine E_fn F g_assign_places gb (mk1 (by kernel_rfl)) (mk2 (by kernel_rfl)) rfl ?_
  repeat' contradiction
  refine c_assign_places F (f.le l₁) hd₁ vv₁ hk hc fun y yit H' l nw fy => ?_
  repeat' contradiction
  exact h y yit H' (AH.le_trans l₁ l) (nw.le l₁ (AH.le_refl _)) fy
theorem c_assign_any {x it ix xit vx vit il : Addr} {codes : List (Option Nat)} {levels : List Str} {o : Bool} {c : Option Nat} {k : Nat} {nv av' : V} (F : Fa prog w S0 K mV) (f : Fac H x it codes levels o) (hil : H il = some (.list [.ref ix])) (vi : Vec H ix (Str.ofString "integer") xit (pl1 [k]) av') (vv : Vec H vx (Str.ofString "integer") vit [cv c] .none) (hk : k < codes.length) (hc : ∀ j, c = some j → 1 ≤ j ∧ j ≤ levels.length)
    (h : ∀ y yit H', H.le H' → New H H' y → Fac H' y yit (codes.set k c) levels o → Q (.ref y) H') : Cn prog w S0 (n + 8) (.ref 984) [.ref x, .ref il, .ref vx, nv] H Q := by
  obtain ⟨d, lv, lvit, cl, clit, v, hd, vl, vc⟩ := f.ex
  refine e_assign_any F fun L q cd gb => ?_
  refine X_cons ?_
  repeat' contradiction
  refine if_by_f (by kernel_rfl) ?_
  repeat' contradiction
  refine if_by_t (by kernel_rfl) ?_
  repeat' contradiction
  refine E_fn F g_is_vector gb (mk1 (by kernel_rfl)) (mk2 (by kernel_rfl)) rfl ?_
  repeat' contradiction
  refine c_is_vector F v ?_
  repeat' contradiction
  refine if_by_f rfl ?_
  repeat' contradiction
  refine E_bi F g_len gb (mk1 (by kernel_rfl)) rfl ?_
  repeat' contradiction
  refine Cn_lenL hil ?_
  repeat' contradiction
  refine if_by_f rfl ?_
  repeat' contradiction
  refine E_bi F g_len gb (mk1 (by kernel_rfl)) rfl ?_
  repeat' contradiction
  refine Cn_lenL hil ?_
  repeat' contradiction
  refine if_by_t rfl ?_
  repeat' contradiction
  refine E_fn F g_dim_of gb (mk1 (by kernel_rfl)) (mk2 (by kernel_rfl)) rfl ?_
  repeat' contradiction
  refine c_dim_of F v (.inr ⟨d, rfl, hd⟩) (fkv_dim lv cl) ?_
  repeat' contradiction
  refine E_fn F g_matrix_index gb (mk1 (by kernel_rfl)) (mk2 (by kernel_rfl)) rfl ?_
  repeat' contradiction
  refine E_subL rfl ?_
  repeat' contradiction
  refine ⟨_, _, _, .ref ix, rfl, rfl, hil, by decide, rfl, ?_⟩
  repeat' contradiction
  refine E_fn F g_dimnames_of gb (mk1 (by kernel_rfl)) (mk2 (by kernel_rfl)) rfl ?_
  repeat' contradiction
  refine c_dimnames_of F v (.inr ⟨d, rfl, hd⟩) (fkv_dimnames lv cl) ?_
  repeat' contradiction
  refine c_matrix_index F ?_
  repeat' contradiction
  refine E_fn F g_assign_vector gb (mk1 (by kernel_rfl)) (mk2 (by kernel_rfl)) rfl ?_
  repeat' contradiction
  refine E_subL rfl ?_
  repeat' contradiction
  refine ⟨_, _, _, .ref ix, rfl, rfl, hil, by decide, rfl, ?_⟩
  repeat' contradiction
  refine c_assign_vector F f vi vv hk hc fun y yit H' l nw fy => ?_
  repeat' contradiction
  exact h y yit H' l nw fy

end
section
variable {prog : Program} {w : World} {S0 : Shared} {K : Frag} {mV : Str → Option Value} {n : Nat} {env : Env} {ρ : Rho} {H : AH} {Q : V → AH → Prop}
/-! ### the law's own small ones -/
noncomputable def deal (cs : List Nat) (m : Nat) : Nat × List Nat := match cs with
  | [] => (0, [])
  | c :: r => (c % m, r)
theorem Op.sel {α : Type} {t : Sem α} {P : α → AH → Prop} {H₀ : AH} (h : Op prog w S0 n t H fun a H' => H₀.le H' ∧ P a H₀) : Op prog w S0 n t H P := .mk fun A F s hr x =>
  bot (h.run A F s hr x) fun _ _ ⟨_, f, l, q⟩ => ⟨H₀, f.drop l, q⟩
theorem Cn.sel {f : Value} {args : List V} {H₀ : AH} (h : Cn prog w S0 n f args H fun v H' => H₀.le H' ∧ Q v H₀) : Cn prog w S0 n f args H Q := fun us hu => Op.sel (h us hu)
theorem c_deal {a : Addr} {cs : List Nat} {m : Nat} (F : Fa prog w S0 K mV) (ha : H a = some (.list (pl cs))) (hm : 0 < m) (h : Q (.int ((deal cs m).1 : Nat)) (H.set a (.list (pl (deal cs m).2)))) : Cn prog w S0 (n + 1) (.ref 1125) [.ref a, .int (m : Int)] H Q := by
  refine Cn.sel (H₀ := H.set a (.list (pl (deal cs m).2))) (e_law_deal F fun L q cd gb => ?_)
  refine X_cons ?_
  repeat' contradiction
  refine ⟨(by first | exact len_ok rfl | simp [lid]), fun D hD => ?_⟩
  have haD : a ≠ D := by rintro rfl; rw [hD] at ha; cases ha
  have hs : (pl cs).all isSc = true := by rw [List.all_eq_true]; intro v hv; obtain ⟨k, _, rfl⟩ := List.mem_map.mp hv; rfl
  refine B_eqL (le1 hD _ _ ha) (AH.set_same ..) hs rfl ?_
  cases cs with
  | nil =>
    repeat' contradiction
    refine if_by_t rfl ?_
    repeat' contradiction
    refine ⟨?_, h⟩
    show (H.set a (.list (pl []))).le _
    rw [AH.set_get ha]; exact le1 hD
  | cons c r =>
    repeat' contradiction
    refine if_by_f rfl ?_
    repeat' contradiction
    refine E_pop0 rfl rfl ?_
    repeat' contradiction
    refine ⟨_, _, _, rfl, le1 hD _ _ ha, ?_⟩
    repeat' contradiction
    refine B_mod (by omega) ?_
    repeat' contradiction
    have e : Int.fmod (c : Int) (m : Int) = ((c % m : Nat) : Int) := by rw [Int.fmod_eq_emod_of_nonneg _ (by omega)]; rfl
    rw [e]
    refine ⟨?_, h⟩
    rw [AH.set_comm _ (Ne.symm haD)]
    exact AH.le_set _ (by rw [AH.set_ne _ _ (Ne.symm haD)]; exact hD)

end
section
variable {prog : Program} {w : World} {S0 : Shared} {K : Frag} {mV : Str → Option Value} {n : Nat} {env : Env} {ρ : Rho} {H : AH} {Q : V → AH → Prop}
theorem c_told_levels {x it : Addr} {codes : List (Option Nat)} {levels : List Str} {o : Bool} (F : Fa prog w S0 K mV) (f : Fac H x it codes levels o) (h : ∀ D, H D = none → Q (.ref D) (H.set D (.list (levels.map V.str)))) : Cn prog w S0 (n + 1) (.ref 1132) [.ref x] H Q := by
  obtain ⟨d, lv, lvit, cl, clit, v, hd, vl, vc⟩ := f.ex
  refine e_law_told_levels F fun L q cd gb => ?_
  refine X_cons ?_
  repeat' contradiction
  refine E_ty F g_list gb (mk1 (by kernel_rfl)) rfl ?_
  repeat' contradiction
  refine E_subS rfl ?_
  repeat' contradiction
  refine ⟨_, _, _, .ref lv, rfl, rfl, hd, fkv_levels lv cl, ?_⟩
  repeat' contradiction
  refine Cn_listL vl.its fun D hD => ?_
  repeat' contradiction
  exact h D hD

end
section
variable {prog : Program} {w : World} {S0 : Shared} {K : Frag} {mV : Str → Option Value} {n : Nat} {env : Env} {ρ : Rho} {H : AH} {Q : V → AH → Prop}
theorem str_any (ls : List Str) (t : Str) : ((ls.map V.str).any (veq · (.str t))) = ls.contains t := by
  induction ls with
  | nil => rfl
  | cons a r ih =>
    rw [List.map_cons, List.any_cons, ih, List.contains_cons]
    congr 1
    show (a == t) = (t == a)
    by_cases e : a = t
    · subst e; rfl
    · rw [beq_eq_false_iff_ne.mpr e, beq_eq_false_iff_ne.mpr (fun h => e h.symm)]
theorem c_first_come {a : Addr} {ts : List (Option Str)} (F : Fa prog w S0 K mV) (ha : H a = some (.list (ts.map ov))) (hl : ts.length ≤ 100) (h : ∀ D, H D = none → Q (.ref D) (H.set D (.list ((dk ts).map V.str)))) : Cn prog w S0 (n + 1) (.ref 1146) [.ref a] H Q := by
  refine e_law_first_come F fun L q cd gb => ?_
  refine X_cons ?_
  repeat' contradiction
  refine ⟨(by first | exact len_ok rfl | simp [lid]), fun D hD => ?_⟩
  repeat' contradiction
  have haD : a ≠ D := by rintro rfl; rw [hD] at ha; cases ha
  have key : ∀ kv, (H.set D (.list kv)) a = some (.list (ts.map ov)) := fun kv => by rw [AH.set_ne _ _ haD]; exact ha
  refine X_for (fun _ => rfl) ?_
  repeat' contradiction
  refine ⟨ts.map ov, fun H' => H' a = some (.list (ts.map ov)), fun i ρ' H' => ∃ o, ρ' = [(Str.ofString "names", some (.ref a)), (Str.ofString "found", some (.ref D)), (Str.ofString "name", o)] ∧ H' = H.set D (.list ((dk (ts.take i)).map V.str)),
    It_list (key _), ⟨_, rfl, rfl⟩, ?_, ?_, ?_⟩
  · rintro i ρ' H' ⟨o, rfl, rfl⟩
    exact key _
  · rintro i y ρ' H' hy ⟨o, rfl, rfl⟩
    obtain ⟨c, hc, rfl⟩ := ov_get hy
    have e : ts.take (i + 1) = ts.take i ++ [c] := by rw [List.take_add_one, hc]; rfl
    have hd := dk_length (ts.take i)
    rw [List.length_take] at hd
    refine ⟨_, .tail (.tail .head), ?_⟩
    cases c with
    | none =>
      show Ex prog w S0 _ _ [_, _, (_, some .none)] _ _ _
      repeat' contradiction
      refine ⟨_, rfl, ?_⟩
      rw [e, dk_snoc]
    | some t =>
      show Ex prog w S0 _ _ [_, _, (_, some (.str t))] _ _ _
      repeat' contradiction
      refine B_notInL (AH.set_same ..) rfl (by rw [List.all_eq_true]; intro v hv; obtain ⟨k, _, rfl⟩ := List.mem_map.mp hv; rfl) ?_
      rw [str_any]
      repeat' contradiction
      refine if_any (fun q => ?_) fun q => ?_
      · repeat' contradiction
        refine E_append rfl rfl rfl ?_
        repeat' contradiction
        refine ⟨_, _, rfl, AH.set_same .., ?_⟩
        repeat' contradiction
        refine ⟨AH.set_same .., by rw [List.length_map]; unfold lid; omega, ?_⟩
        repeat' contradiction
        refine ⟨_, rfl, ?_⟩
        rw [AH.set_set, e, dk_snoc]
        show _ = H.set D (.list ((if (dk (ts.take i)).contains t then _ else _ : List Str).map V.str))
        rw [if_neg (by simpa using q), List.map_append]; rfl
      · repeat' contradiction
        refine ⟨_, rfl, ?_⟩
        rw [e, dk_snoc]
        show _ = H.set D (.list ((if (dk (ts.take i)).contains t then _ else _ : List Str).map V.str))
        rw [if_pos (by simpa using q)]
  · rintro ρ' H' ⟨o, rfl, rfl⟩
    rw [List.length_map, List.take_length]
    repeat' contradiction
    exact h D hD

end
section
variable {prog : Program} {w : World} {S0 : Shared} {K : Frag} {mV : Str → Option Value} {n : Nat} {env : Env} {ρ : Rho} {H : AH} {Q : V → AH → Prop}
noncomputable def msgs (levels : List Str) : Option Str → List V
  | none => []
  | some t => if levels.contains t then [] else [.str (Str.ofString "invalid factor level, NA generated")]
theorem AH.del_of {H : AH} {a b : Addr} {o : O} (h : H.del a b = some o) : b ≠ a ∧ H b = some o := by
  unfold AH.del at h; split at h
  · cases h
  · rename_i q; exact ⟨q, h⟩
theorem c_value_codes {x it vx vit na : Addr} {codes : List (Option Nat)} {levels : List Str} {o : Bool} {wo : Option Str} (F : Fa prog w S0 K mV) (f : Fac H x it codes levels o) (vv : Vec H vx (Str.ofString "character") vit [ov wo] .none) (hna : H na = some (.list []))
    (h : ∀ y yit H', (H.del na).le H' → H' na = some (.list (msgs levels wo)) → New H H' y → Vec H' y (Str.ofString "integer") yit [cv (cof levels wo)] .none → Q (.ref y) H') : Cn prog w S0 (n + 4) (.ref 1094) [.ref x, .ref vx, .ref na] H Q := by
  refine e_value_codes F fun L q cd gb => ?_
  refine X_cons ?_
  repeat' contradiction
  refine if_by_f (by kernel_rfl) ?_
  repeat' contradiction
  refine E_fn F g_item_texts gb (mk1 (by kernel_rfl)) (mk2 (by kernel_rfl)) rfl ?_
  repeat' contradiction
  refine c_item_texts F vv (words_of [wo]) (by simp [lid]) fun T hT => ?_
  repeat' contradiction
  have lT := le1 (o := .list [ov wo]) hT
  refine E_fn F g_codes_of gb (mk1 (by kernel_rfl)) (mk2 (by kernel_rfl)) rfl ?_
  repeat' contradiction
  refine E_fn F g_level_texts gb (mk1 (by kernel_rfl)) (mk2 (by kernel_rfl)) rfl ?_
  repeat' contradiction
  refine c_level_texts F (f.le lT) fun LT H₂ l₂ hLT hlt => ?_
  repeat' contradiction
  have hT₂ := l₂ _ _ (AH.set_same H T (.list [ov wo]))
  refine c_codes_of F (ws := [wo]) hT₂ hlt (by simp) f.len.2 fun CC H₃ l₃ hCC hcc => ?_
  repeat' contradiction
  have hT₃ := l₃ _ _ hT₂
  have l : H.le H₃ := AH.le_trans lT (AH.le_trans l₂ l₃)
  refine X_for (fun _ => rfl) ?_
  refine E_ty F g_range gb (mk1 (by kernel_rfl)) rfl ?_
  repeat' contradiction
  refine E_bi F g_len gb (mk1 (by kernel_rfl)) rfl ?_
  repeat' contradiction
  refine Cn_lenL hcc ?_
  repeat' contradiction
  refine Cn_range fun R hR => ?_
  repeat' contradiction
  have lR := le1 (o := .rng ((List.map cv (List.map (cof levels) [wo])).length : Nat)) hR
  have hcc' := lR _ _ hcc
  have hT' := lR _ _ hT₃
  have hna' := lR _ _ (l _ _ hna)
  have hR' := AH.set_same H₃ R (.rng ((List.map cv (List.map (cof levels) [wo])).length : Nat))
  have l' := AH.le_trans l lR
  generalize H₃.set R (.rng ((List.map cv (List.map (cof levels) [wo])).length : Nat)) = H₄ at *
  have ends : ∀ H₅ y yit H', (H.del na).le H₅ → H₅ na = some (.list (msgs levels wo)) → H₅.le H' → New H₅ H' y → Vec H' y (Str.ofString "integer") yit [cv (cof levels wo)] .none → (∀ a, H₅ a = none → H a = none) → Q (.ref y) H' := fun H₅ y yit H' g1 g2 g3 g4 g5 g6 =>
    h y yit H' (AH.le_trans g1 g3) (g3 _ _ g2) (let ⟨dx, b1, b2, b3, b4⟩ := g4; ⟨dx, g6 _ b1, g6 _ b2, b3, b4⟩) g5
  have none₄ : ∀ a, H₄ a = none → H a = none := fun a ha => AH.none_of l' ha
  have hccn : CC ≠ na := by rintro rfl; rw [l₂ _ _ (lT _ _ hna)] at hCC; cases hCC
  refine ⟨nums 1, fun _ => True, fun i ρ' H' => ∃ o, ρ' = [(Str.ofString "f", some (.ref x)), (Str.ofString "value", some (.ref vx)), (Str.ofString "notes", some (.ref na)), (Str.ofString "texts", some (.ref T)), (Str.ofString "codes", some (.ref CC)), (Str.ofString "i", o)] ∧ H' = H₄ ∧ (i = 1 → msgs levels wo = []),
    It_rng hR' (by simp [lid]), ⟨_, rfl, rfl, fun e => by cases e⟩, fun _ _ _ _ => trivial, ?_, ?_⟩
  · rintro i y' ρ' H' hy ⟨o₁, rfl, rfl, _⟩
    have hi0 : i = 0 := by have := (List.getElem?_eq_some_iff.mp hy).1; simp [nums] at this; omega
    subst hi0
    rw [nums_get (by omega)] at hy
    obtain rfl := Option.some.inj hy
    refine ⟨_, .tail (.tail (.tail (.tail (.tail .head)))), ?_⟩
    repeat' contradiction
    refine E_subL rfl ?_
    repeat' contradiction
    refine ⟨_, _, _, cv (cof levels wo), rfl, rfl, hcc', by decide, rfl, ?_⟩
    cases wo with
    | none =>
      rw [show cv (cof levels none) = V.none from rfl]
      repeat' contradiction
      refine E_subL rfl ?_
      repeat' contradiction
      refine ⟨_, _, _, V.none, rfl, rfl, hT', by decide, rfl, ?_⟩
      repeat' contradiction
      exact ⟨_, rfl, rfl, fun _ => rfl⟩
    | some t =>
      by_cases hm : levels.contains t = true
      · have e1 : cv (cof levels (some t)) = .int ((levels.idxOf t + 1 : Nat) : Int) := by
          show cv (if levels.contains t = true then _ else _) = _
          rw [if_pos hm]; rfl
        rw [e1]
        repeat' contradiction
        exact ⟨_, rfl, rfl, fun _ => by show (if levels.contains t = true then _ else _) = _; rw [if_pos hm]⟩
      · have e1 : cv (cof levels (some t)) = .none := by
          show cv (if levels.contains t = true then _ else _) = _
          rw [if_neg hm]; rfl
        have e2 : msgs levels (some t) = [.str (Str.ofString "invalid factor level, NA generated")] := by
          show (if levels.contains t = true then _ else _) = _
          rw [if_neg hm]
        rw [e1]
        repeat' contradiction
        refine E_subL rfl ?_
        repeat' contradiction
        refine ⟨_, _, _, .str t, rfl, rfl, hT', by decide, rfl, ?_⟩
        repeat' contradiction
        refine E_append rfl rfl rfl ?_
        repeat' contradiction
        refine ⟨_, _, rfl, hna', ?_⟩
        repeat' contradiction
        refine ⟨hna', by simp [lid], ?_⟩
        repeat' contradiction
        refine E_fn F g_integer gb (mk1 (by kernel_rfl)) (mk2 (by kernel_rfl)) rfl ?_
        repeat' contradiction
        have hcc5 : (AH.set H' na (O.list ([] ++ [.str (Str.ofString "invalid factor level, NA generated")]))) CC = some (.list (([some t].map (cof levels)).map cv)) := by rw [AH.set_ne _ _ hccn]; exact hcc'
        refine c_integer F hcc5 fun y yit H₅ l₅ nw₅ _ vy => ?_
        repeat' contradiction
        refine ends _ y yit H₅ (fun a oo hh => ?_) (by rw [e2]; exact AH.set_same ..) l₅ nw₅ vy (fun a ha => ?_)
        · obtain ⟨p, q⟩ := AH.del_of hh
          rw [AH.set_ne _ _ p]; exact l' _ _ q
        · by_cases q : a = na
          · subst q; rw [AH.set_same] at ha; cases ha
          · rw [AH.set_ne _ _ q] at ha; exact none₄ a ha
  · rintro ρ' H' ⟨o₁, rfl, rfl, hmsg⟩
    repeat' contradiction
    refine E_fn F g_integer gb (mk1 (by kernel_rfl)) (mk2 (by kernel_rfl)) rfl ?_
    repeat' contradiction
    refine c_integer F hcc' fun y yit H₅ l₅ nw₅ _ vy => ?_
    repeat' contradiction
    exact ends H' y yit H₅ (AH.le_trans (AH.del_le H na) l') (by rw [hmsg rfl]; exact hna') l₅ nw₅ vy none₄

end
section
variable {prog : Program} {w : World} {S0 : Shared} {K : Frag} {mV : Str → Option Value} {n : Nat} {env : Env} {ρ : Rho} {H : AH} {Q : V → AH → Prop}
theorem c_assign_factor {x it ix xit vx vit il na : Addr} {codes : List (Option Nat)} {levels : List Str} {o : Bool} {wo : Option Str} {k : Nat} {av' : V} (F : Fa prog w S0 K mV) (hB : H na = none) (f : Fac H x it codes levels o) (hil : H il = some (.list [.ref ix])) (vi : Vec H ix (Str.ofString "integer") xit (pl1 [k]) av') (vv : Vec H vx (Str.ofString "character") vit [ov wo] .none) (hk : k < codes.length)
    (h : ∀ y yit H', H.le H' → H' na = some (.list (msgs levels wo)) → Fac H' y yit (codes.set k (cof levels wo)) levels o → Q (.ref y) H') : Cn prog w S0 (n + 9) (.ref 1101) [.ref x, .ref il, .ref vx, .ref na] (H.set na (.list [])) Q := by
  refine e_assign_factor F fun L q cd gb => ?_
  refine X_cons ?_
  repeat' contradiction
  refine E_fn F g_assign_any gb (mk1 (by kernel_rfl)) (mk2 (by kernel_rfl)) rfl ?_
  repeat' contradiction
  refine E_fn F g_value_codes gb (mk1 (by kernel_rfl)) (mk2 (by kernel_rfl)) rfl ?_
  repeat' contradiction
  have l0 := le1 (o := .list []) hB
  refine c_value_codes F (f.le l0) (vv.le l0) (AH.set_same ..) fun y yit H₁ l₁ hn nw vy => ?_
  rw [AH.del_new _ hB] at l₁
  repeat' contradiction
  refine c_assign_any F (f.le l₁) (l₁ _ _ hil) (vi.le l₁) vy hk (fun j hj => cof_ok (ws := [wo]) j (by simp [hj])) fun z zit H₂ l₂ nw₂ fz => ?_
  repeat' contradiction
  exact h z zit H₂ (AH.le_trans l₁ l₂) (l₂ _ _ hn) fz

/-! ### share, list_of -/
noncomputable def shn : Str := Str.ofString "shared"
/-- a vector of which only the items are asked -/
def VecI (H : AH) (x : Addr) (items : List V) : Prop := ∃ dx fs it, H x = some (.inst 311 dx) ∧ H dx = some (.ns fs) ∧ fs.lookup (Str.ofString "items") = some (.ref it) ∧ H it = some (.list items) ∧ (fs.filter (fun p => p.1 != shn)).length ≤ 20 ∧ fs.length ≤ 21
def Pv (H H' : AH) : Prop := (∀ a o, (∀ fs, o ≠ .ns fs) → H a = some o → H' a = some o) ∧ ∀ y items, VecI H y items → VecI H' y items
theorem Pv.refl (H : AH) : Pv H H := ⟨fun _ _ _ e => e, fun _ _ e => e⟩
theorem Pv.trans {H H₁ H₂ : AH} (a : Pv H H₁) (b : Pv H₁ H₂) : Pv H H₂ := ⟨fun x o hn e => b.1 x o hn (a.1 x o hn e), fun y i v => b.2 y i (a.2 y i v)⟩
theorem VecI.le {H H' : AH} {x : Addr} {items : List V} (h : H.le H') (v : VecI H x items) : VecI H' x items :=
  let ⟨dx, fs, it, a, b, c, d, e⟩ := v; ⟨dx, fs, it, h _ _ a, h _ _ b, c, h _ _ d, e⟩
theorem Pv.le {H H' : AH} (h : H.le H') : Pv H H' := ⟨fun a o _ e => h a o e, fun y i v => v.le h⟩
theorem Vec.toI {H : AH} {x it : Addr} {kind : Str} {items : List V} {av : V} (v : Vec H x kind it items av) : VecI H x items := by
  obtain ⟨⟨dx, fs, a, b, c, d, e, _, _, l, _⟩, i⟩ := v
  exact ⟨dx, fs, it, a, b, d, i, Nat.le_trans (List.length_filter_le ..) l, by omega⟩
theorem n5 : Str.ofString "items" ≠ Str.ofString "shared" := str_ne (by kernel_rfl)
theorem n6 : Str.ofString "items" ≠ Str.ofString "attrs" := str_ne (by kernel_rfl)
theorem share_pv {x dx : Addr} {fs fs' : List (Str × V)} (hx : H x = some (.inst 311 dx)) (hd : H dx = some (.ns fs)) (h1 : fs'.lookup (Str.ofString "items") = fs.lookup (Str.ofString "items")) (h2 : (fs.filter (fun p => p.1 != shn)).length ≤ 20 → (fs'.filter (fun p => p.1 != shn)).length ≤ 20 ∧ fs'.length ≤ 21) :
    Pv H (H.set dx (.ns fs')) := by
  have k : ∀ a o, (∀ fs, o ≠ .ns fs) → H a = some o → (H.set dx (.ns fs')) a = some o := fun a o hn e => by
    rw [AH.set_ne _ _ (by rintro rfl; rw [hd] at e; exact hn fs (Option.some.inj e).symm)]; exact e
  refine ⟨k, fun y items ⟨dy, gs, it, a, b, c, d, e, f⟩ => ?_⟩
  by_cases q : dy = dx
  · subst q
    rw [hd] at b; cases b
    exact ⟨dy, fs', it, k _ _ (fun _ h => by cases h) a, AH.set_same .., by rw [h1]; exact c, k _ _ (fun _ h => by cases h) d, h2 e⟩
  · exact ⟨dy, gs, it, k _ _ (fun _ h => by cases h) a, by rw [AH.set_ne _ _ q]; exact b, c, k _ _ (fun _ h => by cases h) d, e, f⟩
theorem c_share {x : Addr} {items : List V} (F : Fa prog w S0 K mV) (v : VecI H x items) (h : ∀ H', Pv H H' → (∀ a, H' a = none → H a = none) → Q (.ref x) H') : Cn prog w S0 (n + 1) (.ref 413) [.ref x] H Q := by
  obtain ⟨dx, fs, it, hx, hd, hi, ht, hl, hl'⟩ := v
  refine e_share F fun L q cd gb => ?_
  refine X_cons ?_
  repeat' contradiction
  refine E_bi F g_isinstance gb (mk1 (by kernel_rfl)) rfl ?_
  repeat' contradiction
  refine E_glob F.B g_Vector (gb _ (mk1 (by kernel_rfl))).1 (gb _ (mk1 (by kernel_rfl))).2 ?_
  repeat' contradiction
  refine Cn_isi F hx ?_
  repeat' contradiction
  refine fun u y hu hy => ?_
  rw [abs_ref hy]
  refine O_set F.cls (F.free _ (.tail _ (.tail _ (.tail _ (.head _))))) hx hd (fs' := upd fs (Str.ofString "shared") (abs u)) (fun z => upd_lookup ..) ?_ ?_
  · unfold upd; rw [List.length_cons]
    have := List.length_filter_le (fun p : Str × V => p.1 != Str.ofString "shared") fs
    omega
  · repeat' contradiction
    refine h _ (share_pv hx hd (by rw [upd_lookup, if_neg n5]) fun hh => ?_) (fun a ha => ?_)
    · have e : (upd fs (Str.ofString "shared") (abs u)).filter (fun p => p.1 != shn) = fs.filter (fun p => p.1 != shn) := by
        unfold upd
        rw [List.filter_cons, if_neg (by simp [shn]), List.filter_filter]
        congr 1
        funext p
        show (p.1 != shn && p.1 != shn) = _
        rw [Bool.and_self]
      rw [e]
      refine ⟨hh, ?_⟩
      unfold upd; rw [List.length_cons]
      have : (fs.filter (fun p => p.1 != Str.ofString "shared")).length ≤ 20 := hh
      omega
    · by_cases q : a = dx
      · subst q; rw [AH.set_same] at ha; cases ha
      · rw [AH.set_ne _ _ q] at ha; exact ha
theorem Ch.pv {H' : AH} {x it : Addr} {kind : Str} {items : List V} {av av' : V} (v : Vec H x kind it items av) (c : Ch x H H') (v' : Vec H' x kind it items av') : Pv H H' := by
  have k := fun a o (hn : ∀ fs, o ≠ O.ns fs) (e : H a = some o) => v.keep c e hn
  refine ⟨k, fun y its ⟨dy, gs, jt, a, b, g, d, e, f⟩ => ?_⟩
  obtain ⟨dx, fs, hx, hd, h1, h2, h3, h4, h5, h6, _⟩ := v.ex
  obtain ⟨dx', fs', hx', hd', i1, i2, i3, i4, i5, i6, _⟩ := v'.ex
  rw [k _ _ (fun _ h => by cases h) hx] at hx'; cases hx'
  by_cases q : dy = dx
  · subst q
    rw [hd] at b; cases b
    rw [h2] at g; cases g
    exact ⟨dy, fs', it, k _ _ (fun _ h => by cases h) a, hd', i2, k _ _ (fun _ h => by cases h) d, Nat.le_trans (List.length_filter_le ..) i6, by omega⟩
  · exact ⟨dy, gs, jt, k _ _ (fun _ h => by cases h) a, c dx hx dy _ q b, g, k _ _ (fun _ h => by cases h) d, e, f⟩
theorem c_named {x it nl : Addr} {kind : Str} {items ns : List V} (F : Fa prog w S0 K mV) (v : Vec H x kind it items .none) (hn : H nl = some (.list ns)) (h : ∀ nd nm H', Pv H H' → Vec H' x kind it items (.ref nd) → H' nd = some (.sdict [(Str.ofString "names", .ref nm)]) → VecI H' nm ns → Q (.ref x) H') : Cn prog w S0 (n + 4) (.ref 372) [.ref x, .ref nl] H Q := by
  refine e_named F fun L q cd gb => ?_
  refine X_cons ?_
  repeat' contradiction
  refine E_dict1 ?_
  refine E_fn F g_character gb (mk1 (by kernel_rfl)) (mk2 (by kernel_rfl)) rfl ?_
  repeat' contradiction
  refine c_character F hn fun nm nmit H₁ l₁ nw hni vn nd hnd => ?_
  repeat' contradiction
  have l₂ := le1 (o := .sdict [(Str.ofString "names", .ref nm)]) hnd
  have v₂ := v.le (AH.le_trans l₁ l₂)
  refine A_attrs F v₂ trivial fun H' c nn v' => ?_
  repeat' contradiction
  have pv := Ch.pv v₂ c v'
  exact h nd nm H' ((Pv.le (AH.le_trans l₁ l₂)).trans pv) v' (v₂.keep c (AH.set_same ..) fun _ h => by cases h) (pv.2 _ _ ((vn.le l₂).toI))
theorem Elt_nil {elt : Expr} {Q : Option V → AH → Prop} (h : EvV prog w S0 n env ρ elt H fun v H' => Q (some v) H') : Elt prog w S0 n env ρ [] elt H Q := h
theorem Elt_one {elt c : Expr} {Q : Option V → AH → Prop} (h : EvT prog w S0 n env ρ c H fun b H' => if b then EvV prog w S0 n env ρ elt H' fun v H'' => Q (some v) H'' else Q none H') : Elt prog w S0 n env ρ [c] elt H Q := h
theorem c_list_of {il nl : Addr} {ps : List Addr} {ns : List V} (F : Fa prog w S0 K mV) (hi : H il = some (.list (ps.map V.ref))) (hps : ∀ p ∈ ps, ∃ its, VecI H p its) (hl : ps.length ≤ 100) (hn : H nl = some (.list ns))
    (h : ∀ y yit nd nm H', Pv H H' → Vec H' y (Str.ofString "list") yit (ps.map V.ref) (.ref nd) → H' nd = some (.sdict [(Str.ofString "names", .ref nm)]) → VecI H' nm ns → Q (.ref y) H') : Cn prog w S0 (n + 5) (.ref 378) [.ref il, .ref nl] H Q := by
  refine e_list_of F fun L q cd gb => ?_
  refine X_cons ?_
  repeat' contradiction
  refine E_fn F g_named gb (mk1 (by kernel_rfl)) (mk2 (by kernel_rfl)) rfl ?_
  repeat' contradiction
  refine E_fn F g_Vector gb (mk1 (by kernel_rfl)) (mk2 (by kernel_rfl)) rfl ?_
  repeat' contradiction
  refine E_comp (caps := []) (Gs := [Str.ofString "share"]) (ρc := []) (fun _ => rfl) (by kernel_rfl) .nil ?_
  repeat' contradiction
  refine ⟨ps.map V.ref, fun H' => H' il = some (.list (ps.map V.ref)), fun i ys H' => ys = (ps.map V.ref).take i ∧ Pv H H', It_list hi, by simp [lid]; omega, ⟨rfl, Pv.refl H⟩, fun i ys H' h => h.2.1 _ _ (fun _ h => by cases h) hi, ?_, ?_⟩
  · rintro i y ys H' C hy ⟨rfl, pv⟩ gb'
    rw [List.getElem?_map] at hy
    obtain ⟨p, hp, rfl⟩ := Option.map_eq_some_iff.mp hy
    obtain ⟨its, vp⟩ := hps p (List.mem_of_getElem? hp)
    refine Elt_nil ?_
    refine E_fn F g_share gb' (mk1 (by kernel_rfl)) (mk2 (by kernel_rfl)) rfl ?_
    repeat' contradiction
    refine c_share F (pv.2 _ _ vp) fun H₂ pv₂ nn => ?_
    repeat' contradiction
    refine ⟨?_, pv.trans pv₂⟩
    rw [List.take_add_one, List.getElem?_map, hp]; rfl
  · rintro ys H' ⟨rfl, pv⟩ D hD
    rw [List.length_map] at *
    have e : (ps.map V.ref).take ps.length = ps.map V.ref := List.take_of_length_le (by simp)
    rw [e]
    have lD := le1 (o := .list (ps.map V.ref)) hD
    repeat' contradiction
    refine c_vec F (.inr ⟨rfl, rfl⟩) trivial (AH.set_same ..) fun x H₂ l₂ nw v => ?_
    repeat' contradiction
    have pv₂ := pv.trans (Pv.le (AH.le_trans lD l₂))
    refine c_named F v (pv₂.1 _ _ (fun _ h => by cases h) hn) fun nd nm H₃ pv₃ v' hd hv => ?_
    repeat' contradiction
    exact h x _ nd nm H₃ (pv₂.trans pv₃) v' hd hv

end
section
variable {prog : Program} {w : World} {S0 : Shared} {K : Frag} {mV : Str → Option Value} {n : Nat} {env : Env} {ρ : Rho} {H : AH} {Q : V → AH → Prop}
/-- the places that bear the code c, among the first k -/
noncomputable def plc (codes : List (Option Nat)) (k c : Nat) : List Nat := (List.range k).filter fun i => codes.getD i none == some c
theorem plc_snoc (codes : List (Option Nat)) (k c : Nat) : plc codes (k + 1) c = plc codes k c ++ if codes.getD k none == some c then [k] else [] := by
  unfold plc
  rw [List.range_succ, List.filter_append, List.filter_cons]
  rfl
theorem plc_lt {codes : List (Option Nat)} {k c i : Nat} (h : i ∈ plc codes k c) : i < k := List.mem_range.mp (List.mem_filter.mp h).1
theorem plc_len (codes : List (Option Nat)) (k c : Nat) : (plc codes k c).length ≤ k := by
  have := List.length_filter_le (fun i => codes.getD i none == some c) (List.range k)
  rw [List.length_range] at this; exact this
/-- lists of one's own -/
structure Grp (B H : AH) (gs : List Addr) (ls : Nat → List V) : Prop where
  nd : gs.Nodup
  new : ∀ g ∈ gs, B g = none
  le : B.le H
  at_ : ∀ j g, gs[j]? = some g → H g = some (.list (ls j))
theorem Grp.live {B H : AH} {gs : List Addr} {ls : Nat → List V} (x : Grp B H gs ls) {g : Addr} (h : g ∈ gs) : ∃ l, H g = some (.list l) := by
  obtain ⟨j, hj⟩ := List.mem_iff_getElem?.mp h
  exact ⟨_, x.at_ j g hj⟩
theorem Grp.add {B H H' : AH} {gs : List Addr} {ls : Nat → List V} {D : Addr} {o : O} (x : Grp B H gs ls) (l : H.le H') (hn : H D = none) (hD : H' D = some o) : Grp (B.set D o) H' gs ls := by
  refine ⟨x.nd, fun g hg => ?_, fun a y e => ?_, fun j g h => l _ _ (x.at_ j g h)⟩
  · obtain ⟨l, hl⟩ := x.live hg
    rw [AH.set_ne _ _ (by rintro rfl; rw [hl] at hn; cases hn)]; exact x.new g hg
  · by_cases q : a = D
    · subst q; rw [AH.set_same] at e; cases e; exact hD
    · rw [AH.set_ne _ _ q] at e; exact l _ _ (x.le _ _ e)
theorem Grp.push {B H : AH} {gs : List Addr} {D : Addr} (x : Grp B H gs fun _ => []) (hn : H D = none) : Grp B (H.set D (.list [])) (gs ++ [D]) fun _ => [] := by
  have hD : D ∉ gs := fun h => by obtain ⟨l, hl⟩ := x.live h; rw [hn] at hl; cases hl
  refine ⟨?_, fun g hg => ?_, AH.le_trans x.le (le1 hn), fun j g h => ?_⟩
  · rw [List.nodup_append]; exact ⟨x.nd, by simp, fun a ha b hb => by rw [List.mem_singleton.mp hb]; rintro rfl; exact hD ha⟩
  · rcases List.mem_append.mp hg with hg | hg
    · exact x.new g hg
    · rw [List.mem_singleton.mp hg]; exact AH.none_of x.le hn
  · rw [List.getElem?_append] at h
    split at h
    · exact le1 hn _ _ (x.at_ j g h)
    · have : g = D := by
        have := List.mem_of_getElem? h
        exact List.mem_singleton.mp this
      subst this; exact AH.set_same ..
theorem Grp.upd {B H : AH} {gs : List Addr} {ls ls' : Nat → List V} {j : Nat} {g : Addr} (x : Grp B H gs ls) (h : gs[j]? = some g) (h' : ∀ k, k ≠ j → ls' k = ls k) : Grp B (H.set g (.list (ls' j))) gs ls' := by
  refine ⟨x.nd, x.new, AH.le_set_of _ x.le (x.new g (List.mem_of_getElem? h)), fun k g' hk => ?_⟩
  by_cases q : k = j
  · subst q
    rw [h] at hk; cases hk
    exact AH.set_same ..
  · have hne : g' ≠ g := fun e => by
      subst e
      obtain ⟨h1, h2⟩ := List.getElem?_eq_some_iff.mp h
      obtain ⟨h3, h4⟩ := List.getElem?_eq_some_iff.mp hk
      exact q ((List.getElem_inj x.nd).mp (h4.trans h2.symm))
    rw [AH.set_ne _ _ hne, h' k q]; exact x.at_ k g' hk
theorem Grp.same {B H : AH} {gs : List Addr} {ls ls' : Nat → List V} (x : Grp B H gs ls) (h : ∀ k, ls' k = ls k) : Grp B H gs ls' := ⟨x.nd, x.new, x.le, fun j g hj => by rw [h]; exact x.at_ j g hj⟩

noncomputable def gls (codes : List (Option Nat)) (k : Nat) : Nat → List V := fun j => pl1 (plc codes k (j + 1))
theorem c_split_by {x it vx vit : Addr} {codes : List (Option Nat)} {levels : List Str} {o : Bool} {vals : List V} (F : Fa prog w S0 K mV) (f : Fac H x it codes levels o) (v : Vec H vx (Str.ofString "integer") vit vals .none) (hv : vals.length = codes.length)
    (h : ∀ (y yit nd nm : Addr) (ps : List Addr) (H' : AH), Pv H H' → Vec H' y (Str.ofString "list") yit (ps.map V.ref) (.ref nd) → H' nd = some (.sdict [(Str.ofString "names", .ref nm)]) → VecI H' nm (levels.map V.str) → ps.length = levels.length →
      (∀ j p, ps[j]? = some p → VecI H' p (at_ vals (plc codes codes.length (j + 1)))) → Q (.ref y) H') : Cn prog w S0 (n + 8) (.ref 1111) [.ref vx, .ref x] H Q := by
  obtain ⟨len1, len2⟩ := f.len
  refine e_split_by F fun L q cd gb => ?_
  refine X_cons ?_
  refine X_asgComp (caps := []) (Gs := []) (ρc := []) (by kernel_rfl) (fun _ => rfl) (by kernel_rfl) .nil ?_
  refine E_fn F g_level_texts gb (mk1 (by kernel_rfl)) (mk2 (by kernel_rfl)) rfl ?_
  repeat' contradiction
  refine c_level_texts F f fun LT H₁ l₁ hLT hlt => ?_
  repeat' contradiction
  refine ⟨levels.map V.str, fun H' => H' LT = some (.list (levels.map V.str)), fun i ys H' => ∃ gs, ys = gs.map V.ref ∧ gs.length = i ∧ Grp H₁ H' gs fun _ => [], It_list hlt, by simp [lid]; omega,
    ⟨[], rfl, rfl, ⟨List.nodup_nil, fun g hg => (by cases hg), AH.le_refl _, fun j g hg => (by simp at hg)⟩⟩, fun i ys H' ⟨gs, _, _, g⟩ => g.le _ _ hlt, ?_, ?_⟩
  · rintro i y ys H' C hy ⟨gs, rfl, rfl, g⟩ gb'
    refine Elt_nil ?_
    repeat' contradiction
    refine ⟨(by first | exact len_ok rfl | simp [lid]), fun D hD => ?_⟩
    exact ⟨gs ++ [D], by simp, by simp, g.push hD⟩
  · rintro ys H₂ ⟨gs, rfl, hgl, g₂⟩ G hG
    rw [List.length_map] at hgl
    have g₃ := g₂.add (le1 (o := .list (gs.map V.ref)) hG) hG (AH.set_same ..)
    generalize hH₃ : H₂.set G (.list (gs.map V.ref)) = H₃ at *
    have hl₃ : H.le H₃ := AH.le_trans l₁ (AH.le_trans g₂.le (hH₃ ▸ le1 hG))
    have hb₃ : H.le (H₁.set G (.list (gs.map V.ref))) := AH.le_trans l₁ (le1 (AH.none_of g₂.le hG))
    have hGB := AH.set_same H₁ G (.list (gs.map V.ref))
    generalize H₁.set G (.list (gs.map V.ref)) = B₃ at *
    repeat' contradiction
    refine E_fn F g_codes_in gb (mk1 (by kernel_rfl)) (mk2 (by kernel_rfl)) rfl ?_
    repeat' contradiction
    refine c_codes_in F (f.le hl₃) fun CC H₄ l₄ hCC hcc => ?_
    have g₄ := g₃.add l₄ hCC hcc
    have hb₄ : H.le (B₃.set CC (.list (codes.map cv))) := AH.le_trans hb₃ (le1 (AH.none_of g₃.le hCC))
    have hGB₄ : (B₃.set CC (.list (codes.map cv))) G = some (.list (gs.map V.ref)) := le1 (AH.none_of g₃.le hCC) _ _ hGB
    have hCB := AH.set_same B₃ CC (.list (codes.map cv))
    generalize B₃.set CC (.list (codes.map cv)) = B at *
    repeat' contradiction
    refine E_bi F g_len gb (mk1 (by kernel_rfl)) rfl ?_
    repeat' contradiction
    refine Cn_lenL hcc ?_
    repeat' contradiction
    refine X_for (fun _ => rfl) ?_
    refine E_ty F g_range gb (mk1 (by kernel_rfl)) rfl ?_
    repeat' contradiction
    refine E_fn F g_length gb (mk1 (by kernel_rfl)) (mk2 (by kernel_rfl)) rfl ?_
    repeat' contradiction
    refine c_length F (.inl rfl) (v.le (AH.le_trans hl₃ l₄)) ?_
    repeat' contradiction
    refine Cn_range fun R hR => ?_
    have lR := le1 (o := .rng (vals.length : Nat)) hR
    have hR' := AH.set_same H₄ R (.rng (vals.length : Nat))
    have g₅ : Grp B (H₄.set R (.rng (vals.length : Nat))) gs (gls codes 0) := ⟨g₄.nd, g₄.new, AH.le_trans g₄.le lR, fun j gg hj => lR _ _ (g₄.at_ j gg hj)⟩
    generalize H₄.set R (.rng (vals.length : Nat)) = H₅ at *
    refine ⟨nums vals.length, fun _ => True, fun i ρ' H' => ∃ o, ρ' = [(Str.ofString "v", some (.ref vx)), (Str.ofString "f", some (.ref x)), (Str.ofString "groups", some (.ref G)), (Str.ofString "codes", some (.ref CC)), (Str.ofString "count", some (.int (codes.map cv).length)), (Str.ofString "i", o), (Str.ofString "parts", none), (Str.ofString "places", none)] ∧ Grp B H' gs (gls codes i),
      It_rng hR' (by simp [lid]; omega), ⟨_, rfl, g₅⟩, fun _ _ _ _ => trivial, ?_, ?_⟩
    · rintro i y' ρ' H' hy ⟨o₁, rfl, gi⟩
      have hi : i < vals.length := by have := (List.getElem?_eq_some_iff.mp hy).1; simpa [nums] using this
      rw [nums_get hi] at hy
      obtain rfl := Option.some.inj hy
      have hic : i < codes.length := by omega
      refine ⟨_, .tail (.tail (.tail (.tail (.tail .head)))), ?_⟩
      repeat' contradiction
      refine if_by_t (decide_eq_true (by rw [List.length_map]; omega)) ?_
      repeat' contradiction
      refine E_subL rfl ?_
      repeat' contradiction
      refine B_mod (by rw [List.length_map]; omega) ?_
      have e : Int.fmod (i : Int) (((codes.map cv).length : Nat) : Int) = ((i : Nat) : Int) := by
        rw [Int.fmod_eq_emod_of_nonneg _ (by omega)]
        exact Int.emod_eq_of_lt (by omega) (by rw [List.length_map]; omega)
      rw [e]
      have hcget : codes[i]? = some (codes.getD i none) := by simp [List.getElem?_eq_getElem hic]
      refine ⟨_, _, _, cv (codes.getD i none), rfl, rfl, gi.le _ _ hCB, by omega, by rw [Int.toNat_natCast, List.getElem?_map, hcget]; rfl, ?_⟩
      cases hc : codes.getD i none with
      | none =>
        rw [show cv none = V.none from rfl]
        repeat' contradiction
        refine ⟨_, rfl, gi.same fun j => ?_⟩
        show pl1 (plc codes (i + 1) (j + 1)) = pl1 (plc codes i (j + 1))
        rw [plc_snoc, hc]; simp
      | some c =>
        obtain ⟨c1, c2⟩ := f.ok c (List.mem_of_getElem? (hcget.trans (by rw [hc])))
        rw [show cv (some c) = V.int (c : Int) from rfl]
        repeat' contradiction
        refine E_append rfl rfl rfl ?_
        refine E_subL rfl ?_
        repeat' contradiction
        refine E_subL rfl ?_
        repeat' contradiction
        refine B_mod (by rw [List.length_map]; omega) ?_
        rw [e]
        refine ⟨_, _, _, cv (codes.getD i none), rfl, rfl, gi.le _ _ hCB, by omega, by rw [Int.toNat_natCast, List.getElem?_map, hcget]; rfl, ?_⟩
        rw [hc]
        rw [show cv (some c) = V.int (c : Int) from rfl]
        repeat' contradiction
        obtain ⟨g, hg⟩ : ∃ g, gs[c - 1]? = some g := ⟨gs[c - 1]'(by omega), List.getElem?_eq_getElem _⟩
        refine ⟨_, _, _, .ref g, rfl, rfl, gi.le _ _ hGB₄, by omega, ?_, ?_⟩
        · rw [List.getElem?_map, show ((c : Int) - 1).toNat = c - 1 by omega, hg]; rfl
        refine ⟨_, _, rfl, gi.at_ _ _ hg, ?_⟩
        repeat' contradiction
        refine ⟨gi.at_ _ _ hg, ?_, ?_⟩
        · have := plc_len codes i (c - 1 + 1)
          unfold gls; rw [pl1_length]; unfold lid; omega
        repeat' contradiction
        refine ⟨_, rfl, ?_⟩
        have e2 : gls codes (i + 1) (c - 1) = gls codes i (c - 1) ++ [V.int ((i : Int) + 1)] := by
          unfold gls
          rw [plc_snoc, hc, if_pos (by rw [show c - 1 + 1 = c by omega]; simp)]
          unfold pl1; rw [List.map_append]; rfl
        rw [← e2]
        refine gi.upd hg fun k hk => ?_
        unfold gls
        rw [plc_snoc, hc, if_neg (by simp; omega), List.append_nil]
    · rintro ρ' H₆ ⟨o₁, rfl, g₆⟩
      rw [nums_length, hv] at g₆
      have hb₆ : H.le H₆ := AH.le_trans hb₄ g₆.le
      have hG₆ := g₆.le _ _ hGB₄
      have v₆ := v.le hb₆
      have f₆ := f.le hb₆
      have hat := g₆.at_
      clear g₆ g₅ g₄ g₃ g₂ hR' lR hb₄
      repeat' contradiction
      refine ⟨(by first | exact len_ok rfl | simp [lid]), fun P hP => ?_⟩
      repeat' contradiction
      refine X_for (fun _ => rfl) ?_
      repeat' contradiction
      refine ⟨gs.map V.ref, fun H' => H' G = some (.list (gs.map V.ref)), fun i ρ' H' => ∃ o ps B', ρ' = [(Str.ofString "v", some (.ref vx)), (Str.ofString "f", some (.ref x)), (Str.ofString "groups", some (.ref G)), (Str.ofString "codes", some (.ref CC)), (Str.ofString "count", some (.int (codes.map cv).length)), (Str.ofString "i", o₁), (Str.ofString "parts", some (.ref P)), (Str.ofString "places", o)] ∧
        H' = B'.set P (.list (ps.map V.ref)) ∧ B' P = none ∧ H₆.le B' ∧ ps.length = i ∧ ∀ j p, ps[j]? = some p → ∃ pit, Vec B' p (Str.ofString "integer") pit (at_ vals (plc codes codes.length (j + 1))) .none,
        It_list (le1 hP _ _ hG₆), ⟨_, [], H₆, rfl, rfl, hP, AH.le_refl _, rfl, fun j p hp => (by simp at hp)⟩, ?_, ?_, ?_⟩
      · rintro i ρ' H' ⟨o, ps, B', rfl, rfl, h1, h2, _⟩
        exact le1 h1 _ _ (h2 _ _ hG₆)
      · rintro i y' ρ' H' hy ⟨o, ps, B', rfl, rfl, h1, h2, h3, h4⟩
        rw [List.getElem?_map] at hy
        obtain ⟨g, hg, rfl⟩ := Option.map_eq_some_iff.mp hy
        have hi : i < gs.length := (List.getElem?_eq_some_iff.mp hg).1
        have lP := le1 (o := .list (ps.map V.ref)) h1
        refine ⟨_, .tail (.tail (.tail (.tail (.tail (.tail (.tail .head)))))), ?_⟩
        repeat' contradiction
        refine E_fn F g_is_factor gb (mk1 (by kernel_rfl)) (mk2 (by kernel_rfl)) rfl ?_
        repeat' contradiction
        refine c_is_factor_no F ((v₆.le h2).le lP) ?_
        repeat' contradiction
        refine E_append rfl rfl rfl ?_
        repeat' contradiction
        refine ⟨P, _, rfl, AH.set_same .., EvV.frame h1 ?_⟩
        refine E_fn F g_subset_any gb (mk1 (by kernel_rfl)) (mk2 (by kernel_rfl)) rfl ?_
        repeat' contradiction
        refine E_fn F g_integer gb (mk1 (by kernel_rfl)) (mk2 (by kernel_rfl)) rfl ?_
        repeat' contradiction
        refine c_integer F (h2 _ _ (hat _ _ hg)) fun ix xit H₇ l₇ nw₇ hx₇ vi => ?_
        repeat' contradiction
        refine ⟨(by first | exact len_ok rfl | simp [lid]), fun IL hIL => ?_⟩
        repeat' contradiction
        have lI := le1 (o := .list [.ref ix]) hIL
        have l₇' : H₆.le (H₇.set IL (.list [.ref ix])) := AH.le_trans h2 (AH.le_trans l₇ lI)
        refine c_subset_any (kvs := []) F (.inl rfl) (v₆.le l₇') (.inl ⟨rfl, rfl⟩) rfl rfl rfl (AH.set_same ..) (vi.le lI) (fun k hk => by have := plc_lt hk; omega) (Nat.le_trans (plc_len ..) len1) fun y yit H₈ l₈ nw₈ hy₈ vy => ?_
        repeat' contradiction
        intro hP₈
        have hk : (ps.map V.ref).length < lid := by rw [List.length_map]; unfold lid; omega
        refine ⟨AH.set_same .., hk, ?_⟩
        repeat' contradiction
        refine ⟨_, ps ++ [y], H₈, rfl, ?_, hP₈, AH.le_trans l₇' l₈, by simp [h3], fun j p hp => ?_⟩
        · rw [AH.set_set, List.map_append]; rfl
        · rw [List.getElem?_append] at hp
          split at hp
          · obtain ⟨pit, vp⟩ := h4 j p hp
            exact ⟨pit, vp.le (AH.le_trans l₇ (AH.le_trans lI l₈))⟩
          · have hj := (List.getElem?_eq_some_iff.mp hp).1
            have hj' : j = i := by simp at hj; omega
            subst hj'
            have := List.mem_singleton.mp (List.mem_of_getElem? hp)
            subst this
            exact ⟨yit, vy⟩
      · rintro ρ' H' ⟨o, ps, B', rfl, rfl, h1, h2, h3, h4⟩
        have lP := le1 (o := .list (ps.map V.ref)) h1
        repeat' contradiction
        refine E_fn F g_list_of gb (mk1 (by kernel_rfl)) (mk2 (by kernel_rfl)) rfl ?_
        repeat' contradiction
        refine E_fn F g_level_texts gb (mk1 (by kernel_rfl)) (mk2 (by kernel_rfl)) rfl ?_
        repeat' contradiction
        refine c_level_texts F (f₆.le (AH.le_trans h2 lP)) fun NL H₇ l₇ hNL hnl => ?_
        repeat' contradiction
        have hps : ps.length = levels.length := by rw [h3, List.length_map]; exact hgl
        have vps : ∀ j p, ps[j]? = some p → VecI H₇ p (at_ vals (plc codes codes.length (j + 1))) := fun j p hp => by
          obtain ⟨pit, vp⟩ := h4 j p hp
          exact (vp.le (AH.le_trans lP l₇)).toI
        refine c_list_of F (l₇ _ _ (AH.set_same ..)) (fun p hp => ?_) (by omega) hnl fun y yit nd nm H₈ pv vy hnd hnm => ?_
        · obtain ⟨j, hj⟩ := List.mem_iff_getElem?.mp hp
          exact ⟨_, vps j p hj⟩
        · repeat' contradiction
          exact h y yit nd nm ps H₈ ((Pv.le (AH.le_trans hb₆ (AH.le_trans h2 (AH.le_trans lP l₇)))).trans pv) vy hnd hnm hps fun j p hp => pv.2 _ _ (vps j p hp)

end
section
variable {prog : Program} {w : World} {S0 : Shared} {K : Frag} {mV : Str → Option Value} {n : Nat} {env : Env} {ρ : Rho} {H : AH} {Q : V → AH → Prop}
theorem pl_app (cs : List Nat) (k : Nat) : pl cs ++ [V.int (k : Int)] = pl (cs ++ [k]) := by unfold pl; rw [List.map_append]; rfl
theorem c_dealt {a : Addr} {vs : Array Value} {ns : List Int} (F : Fa prog w S0 K mV) (ha : S0.heap.IsList a vs) (hs : vs.size ≤ lid) (hv : vs.toList.map abs = ns.map V.int)
    (h : ∀ (cs : List Nat) D H', H.le H' → H D = none → H' D = some (.list (pl cs)) → Q (.ref D) H') : Cn prog w S0 (n + 1) (.ref 1118) [.ref a] H Q := by
  refine e_law_dealt F fun L q cd gb => ?_
  refine X_cons ?_
  repeat' contradiction
  refine ⟨(by first | exact len_ok rfl | simp [lid]), fun C hC => ?_⟩
  repeat' contradiction
  refine X_for (fun _ => rfl) ?_
  refine EvV.frame hC (E_uptoB (fun _ _ => rfl) ?_)
  repeat' contradiction
  refine ⟨a, vs, 30, rfl, rfl, ha, hs, fun S hS hCS => ?_⟩
  rw [hv, ← List.map_take]
  have lS := le1 (o := .list ((ns.take 30).map V.int)) hS
  have hS' := AH.set_same H S (.list ((ns.take 30).map V.int))
  rw [hv, ← List.map_take] at hCS
  generalize H.set S (.list ((ns.take 30).map V.int)) = B at *
  have hl30 : (ns.take 30).length ≤ 30 := List.length_take_le ..
  refine ⟨(ns.take 30).map V.int, fun H' => H' S = some (.list ((ns.take 30).map V.int)), fun i ρ' H' => ∃ o1 o2 o3, ∃ cs : List Nat, ∃ B' : AH, ρ' = [(Str.ofString "script", some (.ref a)), (Str.ofString "cards", some (.ref C)), (Str.ofString "one", o1), (Str.ofString "left", o2), (Str.ofString "hop", o3)] ∧
    H' = B'.set C (.list (pl cs)) ∧ B' C = none ∧ B.le B' ∧ cs.length ≤ 15 * i, It_list (le1 hCS _ _ hS'), ⟨_, _, _, [], B, rfl, rfl, hCS, AH.le_refl _, Nat.le_refl _⟩, ?_, ?_, ?_⟩
  · rintro i ρ' H' ⟨o1, o2, o3, cs, B', rfl, rfl, h1, h2, h3⟩
    exact le1 h1 _ _ (h2 _ _ hS')
  · rintro i y ρ' H' hy ⟨o1, o2, o3, cs, B', rfl, rfl, h1, h2, h3⟩
    have hi : i < 30 := by
      have := (List.getElem?_eq_some_iff.mp hy).1
      rw [List.length_map] at this; omega
    rw [List.getElem?_map] at hy
    obtain ⟨z, hz, rfl⟩ := Option.map_eq_some_iff.mp hy
    refine ⟨_, .tail (.tail .head), ?_⟩
    refine X_cons (X_asg rfl (by kernel_rfl) (EvV.mono (Q := fun v H' => ∃ l : Nat, v = .int (l : Int) ∧ H' = B'.set C (.list (pl cs))) ?_ ?_))
    · repeat' contradiction
      refine if_any (fun q => ?_) fun q => ?_
      · repeat' contradiction
        exact ⟨z.toNat, by rw [Int.toNat_of_nonneg (of_decide_eq_true q)], rfl⟩
      · have : ¬ (0 ≤ z) := of_decide_eq_false q
        repeat' contradiction
        exact ⟨(1 - z).toNat, by rw [Int.toNat_of_nonneg (by omega)], rfl⟩
    rintro v H' ⟨l, rfl, rfl⟩
    repeat' contradiction
    refine X_for (fun _ => rfl) (EvV.frame h1 ?_)
    refine E_ty F g_range gb (mk1 (by kernel_rfl)) rfl ?_
    repeat' contradiction
    refine Cn_range (k := 15) fun R hR hR' => ?_
    have lR := le1 (o := .rng (15 : Nat)) hR
    refine ⟨nums 15, fun _ => True, fun j ρ' H' => ∃ l : Nat, ∃ o3, ∃ cs : List Nat, ∃ B' : AH, ρ' = [(Str.ofString "script", some (.ref a)), (Str.ofString "cards", some (.ref C)), (Str.ofString "one", some (.int z)), (Str.ofString "left", some (.int (l : Int))), (Str.ofString "hop", o3)] ∧
      H' = B'.set C (.list (pl cs)) ∧ B' C = none ∧ B.le B' ∧ cs.length ≤ 15 * i + j, It_rng (le1 hR' _ _ (AH.set_same ..)) (by decide), ⟨l, _, cs, _, rfl, rfl, hR', AH.le_trans h2 lR, h3⟩, fun _ _ _ _ => trivial, ?_, ?_⟩
    · rintro j y ρ' H' hy ⟨l, o3, cs, B', rfl, rfl, h1, h2, h3⟩
      have hj : j < 15 := by have := (List.getElem?_eq_some_iff.mp hy).1; simpa [nums] using this
      refine ⟨_, .tail (.tail (.tail (.tail .head))), ?_⟩
      repeat' contradiction
      refine E_append rfl rfl rfl ?_
      repeat' contradiction
      refine ⟨C, _, rfl, AH.set_same .., ?_⟩
      repeat' contradiction
      refine B_mod (by decide) ?_
      have e : Int.fmod (l : Int) 83 = ((l % 83 : Nat) : Int) := by rw [Int.fmod_eq_emod_of_nonneg _ (by decide)]; rfl
      rw [e]
      refine ⟨AH.set_same .., by rw [pl_length]; unfold lid; omega, ?_⟩
      rw [AH.set_set, pl_app]
      repeat' contradiction
      refine B_fdiv (by decide) (by decide) ?_
      have e : Int.fdiv (l : Int) 83 = ((l / 83 : Nat) : Int) := by rw [Int.fdiv_eq_ediv_of_nonneg _ (by decide)]; rfl
      rw [e]
      repeat' contradiction
      refine if_any (fun q => ?_) fun q => ?_
      · repeat' contradiction
        exact ⟨_, _, _, _, B', rfl, rfl, h1, h2, by rw [List.length_append, List.length_singleton]; omega⟩
      · repeat' contradiction
        exact ⟨_, _, _, B', rfl, rfl, h1, h2, by rw [List.length_append, List.length_singleton]; omega⟩
    · rintro ρ' H' ⟨l, o3, cs, B', rfl, rfl, h1, h2, h3⟩
      repeat' contradiction
      exact ⟨_, _, _, cs, B', rfl, rfl, h1, h2, by rw [nums_length] at h3; omega⟩
  · rintro ρ' H' ⟨o1, o2, o3, cs, B', rfl, rfl, h1, h2, h3⟩
    repeat' contradiction
    refine E_upto (fun _ _ => rfl) ?_
    repeat' contradiction
    refine ⟨C, _, 80, rfl, rfl, AH.set_same .., fun D hD => ?_⟩
    repeat' contradiction
    refine h (cs.take 80) D _ ?_ ?_ ?_
    · exact AH.le_trans lS (AH.le_trans h2 (AH.le_trans (le1 h1) (le1 hD)))
    · exact AH.none_of (AH.le_trans lS (AH.le_trans h2 (le1 h1))) hD
    · rw [AH.set_same]; unfold pl; rw [List.map_take]
theorem veqs_refl : ∀ xs : List V, xs.all isSc = true → veqs xs xs = true := fun xs => by
  induction xs with
  | nil => intro _; rfl
  | cons a r ih =>
    intro h
    simp only [List.all_cons, Bool.and_eq_true] at h
    show (veq a a && veqs r r) = true
    rw [ih h.2, Bool.and_true]
    cases a <;> first | (simp [veq]; done) | exact absurd h.1 (by simp [isSc])
theorem sc_ov (ws : List (Option Str)) : (ws.map ov).all isSc = true := by
  rw [List.all_eq_true]; intro v hv
  obtain ⟨k, _, rfl⟩ := List.mem_map.mp hv
  cases k <;> rfl
theorem sc_str (ws : List Str) : (ws.map V.str).all isSc = true := by
  rw [List.all_eq_true]; intro v hv
  obtain ⟨k, _, rfl⟩ := List.mem_map.mp hv
  rfl
theorem c_agrees {x it wa na : Addr} {codes : List (Option Nat)} {names : List Str} {words : List (Option Str)} {o : Bool} (F : Fa prog w S0 K mV) (f : Fac H x it codes names o) (hw : H wa = some (.list (words.map ov))) (hn : H na = some (.list (names.map V.str))) (he : codes.map (wdo names) = words)
    (h : Q (.bool true) H) : Cn prog w S0 (n + 6) (.ref 1139) [.ref x, .ref wa, .ref na, .bool o] H Q := by
  refine Cn.forget (e_law_agrees F fun L q cd gb => ?_)
  obtain ⟨d, lv, lvit, cl, clit, v, hd, vl, vc⟩ := f.ex
  refine X_cons ?_
  repeat' contradiction
  refine if_by_f (by kernel_rfl) ?_
  repeat' contradiction
  refine E_fn F g_factor_texts gb (mk1 (by kernel_rfl)) (mk2 (by kernel_rfl)) rfl ?_
  repeat' contradiction
  refine c_factor_texts F f fun FT H₁ l₁ hFT hft => ?_
  repeat' contradiction
  rw [he] at hft
  refine B_neL hft (l₁ _ _ hw) (sc_ov _) (sc_ov _) ?_
  rw [veqs_refl _ (sc_ov _)]
  repeat' contradiction
  refine if_by_f rfl ?_
  repeat' contradiction
  refine E_fn F g_law_told_levels gb (mk1 (by kernel_rfl)) (mk2 (by kernel_rfl)) rfl ?_
  repeat' contradiction
  refine c_told_levels F (f.le l₁) fun TL hTL => ?_
  repeat' contradiction
  refine B_neL (AH.set_same ..) (le1 hTL _ _ (l₁ _ _ hn)) (sc_str _) (sc_str _) ?_
  rw [veqs_refl _ (sc_str _)]
  have l₂ := AH.le_trans l₁ (le1 (o := .list (names.map V.str)) hTL)
  generalize H₁.set TL (.list (names.map V.str)) = H₂ at *
  have v₂ := v.le l₂
  have vc₂ := vc.le l₂
  repeat' contradiction
  refine if_by_f rfl ?_
  repeat' contradiction
  have hd₂ := l₂ _ _ hd
  have len : codes.length = words.length := by rw [← he, List.length_map]
  cases o with
  | true =>
    have hcl : clsV true = [.str (Str.ofString "ordered"), .str (Str.ofString "factor")] := rfl
    refine E_subS rfl ?_
    repeat' contradiction
    refine ⟨_, _, _, .ref cl, rfl, rfl, hd₂, fkv_class lv cl, ?_⟩
    repeat' contradiction
    refine B_inL vc₂.its rfl rfl ?_
    repeat' contradiction
    refine if_by_f (by kernel_rfl) ?_
    repeat' contradiction
    refine E_subS rfl ?_
    repeat' contradiction
    refine ⟨_, _, _, .ref cl, rfl, rfl, hd₂, fkv_class lv cl, ?_⟩
    repeat' contradiction
    refine B_notInL vc₂.its rfl rfl ?_
    repeat' contradiction
    refine if_by_f (by kernel_rfl) ?_
    repeat' contradiction
    refine E_bi F g_len gb (mk1 (by kernel_rfl)) rfl ?_
    repeat' contradiction
    refine Cn_lenL v₂.its ?_
    repeat' contradiction
    refine E_bi F g_len gb (mk1 (by kernel_rfl)) rfl ?_
    repeat' contradiction
    refine Cn_lenL (l₂ _ _ hw) ?_
    repeat' contradiction
    rw [List.length_map, List.length_map, len]
    refine ⟨l₂, ?_⟩
    show Q (.bool (veq _ _)) H
    rw [show veq (.int (words.length : Nat)) (.int (words.length : Nat)) = true by simp [veq]]
    exact h
  | false =>
    have hcl : clsV false = [.str (Str.ofString "factor")] := rfl
    refine E_subS rfl ?_
    repeat' contradiction
    refine ⟨_, _, _, .ref cl, rfl, rfl, hd₂, fkv_class lv cl, ?_⟩
    repeat' contradiction
    refine B_inL vc₂.its rfl rfl ?_
    repeat' contradiction
    refine if_by_f (by kernel_rfl) ?_
    repeat' contradiction
    refine E_subS rfl ?_
    repeat' contradiction
    refine ⟨_, _, _, .ref cl, rfl, rfl, hd₂, fkv_class lv cl, ?_⟩
    repeat' contradiction
    refine B_notInL vc₂.its rfl rfl ?_
    repeat' contradiction
    refine if_by_f (by kernel_rfl) ?_
    repeat' contradiction
    refine E_bi F g_len gb (mk1 (by kernel_rfl)) rfl ?_
    repeat' contradiction
    refine Cn_lenL v₂.its ?_
    repeat' contradiction
    refine E_bi F g_len gb (mk1 (by kernel_rfl)) rfl ?_
    repeat' contradiction
    refine Cn_lenL (l₂ _ _ hw) ?_
    repeat' contradiction
    rw [List.length_map, List.length_map, len]
    refine ⟨l₂, ?_⟩
    show Q (.bool (veq _ _)) H
    rw [show veq (.int (words.length : Nat)) (.int (words.length : Nat)) = true by simp [veq]]
    exact h

end
section
variable {prog : Program} {w : World} {S0 : Shared} {K : Frag} {mV : Str → Option Value} {n : Nat} {env : Env} {ρ : Rho} {H : AH} {Q : V → AH → Prop}
theorem set_out {B : AH} {c D : Addr} {x : O} (o : O) (hD : (B.set c x) D = none) : (B.set c x).set D o = (B.set D o).set c x := by
  have hne : D ≠ c := by rintro rfl; rw [AH.set_same] at hD; cases hD
  exact AH.set_comm B (Ne.symm hne) x o
theorem set_out_c {B : AH} {c D : Addr} {x : O} (o : O) (hD : (B.set c x) D = none) (hc : B c = none) : (B.set D o) c = none := by
  have hne : c ≠ D := by rintro rfl; rw [AH.set_same] at hD; cases hD
  rw [AH.set_ne _ _ hne]; exact hc
theorem set_out_n {B : AH} {c D : Addr} {x : O} (hD : (B.set c x) D = none) : B D = none := by
  have hne : D ≠ c := by rintro rfl; rw [AH.set_same] at hD; cases hD
  rw [AH.set_ne _ _ hne] at hD; exact hD
theorem set_out_e {B : AH} {c D : Addr} {x : O} (hD : (B.set c x) D = none) : D ≠ c := by rintro rfl; rw [AH.set_same] at hD; cases hD
theorem deal_lt (cs : List Nat) {m : Nat} (hm : 0 < m) : (deal cs m).1 < m := by
  cases cs with
  | nil => exact hm
  | cons c r => exact Nat.mod_lt _ hm
theorem c_deal' {B : AH} {c : Addr} {cs : List Nat} {m : Nat} (F : Fa prog w S0 K mV) (hm : 0 < m) (h : Q (.int ((deal cs m).1 : Nat)) (B.set c (.list (pl (deal cs m).2)))) : Cn prog w S0 (n + 1) (.ref 1125) [.ref c, .int (m : Int)] (B.set c (.list (pl cs))) Q := by
  refine c_deal F (AH.set_same ..) hm ?_
  rw [AH.set_set]; exact h

/-! ### the law -/
noncomputable def nthS (l : List Stmt) (k : Nat) : Stmt := l.getD k (.Pass ⟨0, 0, 0, 0⟩)
noncomputable def lawB : List Stmt := fB (topS 174)
noncomputable abbrev lawE (L : Addr) (q : Str) (cd : Value) : Env := mkE (fS (topS 174)) L 1151 q cd
noncomputable def lawG : List Str := [Str.ofString "_law_dealt", Str.ofString "range", Str.ofString "_law_deal", Str.ofString "make_factor", Str.ofString "Vector", Str.ofString "list", Str.ofString "_law_agrees", Str.ofString "subset_factor", Str.ofString "len", Str.ofString "assign_factor", Str.ofString "drop_levels", Str.ofString "relevelled", Str.ofString "_law_first_come", Str.ofString "split_by", Str.ofString "zip", Str.ofString "sorted"]
/-- the names of the law -/
noncomputable def lawR (v : Nat → Option V) : Rho := [(Str.ofString "script", v 0), (Str.ofString "cards", v 1), (Str.ofString "words", v 2), (Str.ofString "names", v 3), (Str.ofString "ordered", v 4), (Str.ofString "f", v 5), (Str.ofString "turn_at", v 6), (Str.ofString "deed", v 7), (Str.ofString "before", v 8), (Str.ofString "picked", v 9), (Str.ofString "later", v 10), (Str.ofString "notes", v 11), (Str.ofString "at", v 12), (Str.ofString "word", v 13), (Str.ofString "told", v 14), (Str.ofString "parts", v 15), (Str.ofString "met", v 16), (Str.ofString "name", v 17), (Str.ofString "part_x", v 18), (Str.ofString "number_at", v 19)]
/-- what the law carries along -/
structure Sta (B : AH) (wa na fa : Addr) (words : List (Option Str)) (names : List Str) (o : Bool) : Prop where
  w : B wa = some (.list (words.map ov))
  n : B na = some (.list (names.map V.str))
  f : ∃ it codes, Fac B fa it codes names o ∧ codes.map (wdo names) = words
  nd : names.Nodup
  len : words.length ≤ 9 ∧ names.length ≤ 4
theorem Sta.le {B B' : AH} {wa na fa : Addr} {words : List (Option Str)} {names : List Str} {o : Bool} (x : Sta B wa na fa words names o) (h : B.le B') : Sta B' wa na fa words names o :=
  ⟨h _ _ x.w, h _ _ x.n, let ⟨it, codes, f, e⟩ := x.f; ⟨it, codes, f.le h, e⟩, x.nd, x.len⟩

noncomputable def w0 : List Str := [Str.ofString "low", Str.ofString "mid", Str.ofString "high"]
noncomputable def n0 : List Str := [Str.ofString "low", Str.ofString "mid", Str.ofString "high", Str.ofString "top"]
theorem getD_mem {α : Type} (l : List α) (d : α) {m : Nat} (h : m < l.length) : l.getD m d ∈ l := by
  rw [List.getD_eq_getElem?_getD, List.getElem?_eq_getElem h]; exact List.getElem_mem _
theorem nd_cons {t : Str} {l : List Str} (h : l.contains t = false) (nd : l.Nodup) : (t :: l).Nodup := List.nodup_cons.mpr ⟨fun q => (by rw [List.contains_iff_mem.mpr q] at h; cases h), nd⟩
theorem n0_nd : n0.Nodup := nd_cons (by kernel_rfl) (nd_cons (by kernel_rfl) (nd_cons (by kernel_rfl) (nd_cons (by kernel_rfl) List.nodup_nil)))
theorem w0_n0 {t : Str} (h : t ∈ w0) : t ∈ n0 := List.mem_append_left [Str.ofString "top"] h
theorem cof_wdo {ns : List Str} {w : Option Str} (h : ∀ t, w = some t → t ∈ ns) : wdo ns (cof ns w) = w := by
  cases w with
  | none => rfl
  | some t =>
    have hm := h t rfl
    show wdo ns (if ns.contains t = true then some (ns.idxOf t + 1) else none) = some t
    rw [if_pos (List.contains_iff_mem.mpr hm)]
    show ns[ns.idxOf t + 1 - 1]? = some t
    rw [Nat.add_sub_cancel, List.getElem?_eq_getElem (List.idxOf_lt_length_of_mem hm), List.getElem_idxOf]
theorem cof_wdos {ns : List Str} {ws : List (Option Str)} (h : ∀ t, some t ∈ ws → t ∈ ns) : (ws.map (cof ns)).map (wdo ns) = ws := by
  rw [List.map_map]
  conv => rhs; rw [← List.map_id ws]
  refine List.map_congr_left fun w hw => ?_
  exact cof_wdo fun t e => h t (e ▸ hw)
theorem law_start {L : Addr} {q : Str} {cd : Value} {a : Addr} {vs : Array Value} {ns : List Int} {P : Flow → Rho → AH → Prop} {B : AH} (F : Fa prog w S0 K mV) (gb : Glob (lawE L q cd) lawG) (ha : S0.heap.IsList a vs) (hs : vs.size ≤ lid) (hv : vs.toList.map abs = ns.map V.int)
    (h : ∀ (c wa na fa : Addr) (words : List (Option Str)) (names : List Str) (o : Bool) (cs : List Nat) (B' : AH), B' c = none → Sta B' wa na fa words names o →
      Ex prog w S0 (n + 9) (lawE L q cd) [(Str.ofString "script", some (.ref a)), (Str.ofString "cards", some (.ref c)), (Str.ofString "words", some (.ref wa)), (Str.ofString "names", some (.ref na)), (Str.ofString "ordered", some (.bool o)), (Str.ofString "f", some (.ref fa)), (Str.ofString "turn_at", none), (Str.ofString "deed", none), (Str.ofString "before", none), (Str.ofString "picked", none), (Str.ofString "later", none), (Str.ofString "notes", none), (Str.ofString "at", none), (Str.ofString "word", none), (Str.ofString "told", none), (Str.ofString "parts", none), (Str.ofString "met", none), (Str.ofString "name", none), (Str.ofString "part_x", none), (Str.ofString "number_at", none)]
        (exec (nthS lawB 6) (lawE L q cd)) (B'.set c (.list (pl cs))) (seqQ prog w S0 (n + 9) (lawE L q cd) (lawB.drop 7) P)) :
    Ex prog w S0 (n + 9) (lawE L q cd) [(Str.ofString "script", some (.ref a)), (Str.ofString "cards", none), (Str.ofString "words", none), (Str.ofString "names", none), (Str.ofString "ordered", none), (Str.ofString "f", none), (Str.ofString "turn_at", none), (Str.ofString "deed", none), (Str.ofString "before", none), (Str.ofString "picked", none), (Str.ofString "later", none), (Str.ofString "notes", none), (Str.ofString "at", none), (Str.ofString "word", none), (Str.ofString "told", none), (Str.ofString "parts", none), (Str.ofString "met", none), (Str.ofString "name", none), (Str.ofString "part_x", none), (Str.ofString "number_at", none)]
      (execs lawB (lawE L q cd)) H P := by
  refine X_cons ?_
  refine X_asg rfl (by kernel_rfl) ?_
  refine E_fn F g_law_dealt gb (mk1 (by kernel_rfl)) (mk2 (by kernel_rfl)) rfl ?_
  repeat' contradiction
  refine c_dealt F ha hs hv fun cs c H₁ l₁ hc hcs => ?_
  rw [← AH.del_set hcs]
  have hBc := AH.del_same H₁ c
  generalize H₁.del c = B at *
  repeat' contradiction
  refine X_assign (by kernel_rfl) ?_
  refine E_comp (caps := [Str.ofString "cards"]) (Gs := [Str.ofString "_law_deal"]) (ρc := [(Str.ofString "cards", some (.ref c))]) (fun _ => rfl) (by kernel_rfl) (.cons (.tail _ (.head _)) .nil) ?_
  refine E_ty F g_range gb (mk1 (by kernel_rfl)) rfl ?_
  repeat' contradiction
  refine E_fn F g_law_deal gb (mk1 (by kernel_rfl)) (mk2 (by kernel_rfl)) rfl ?_
  repeat' contradiction
  refine c_deal' (m := 9) F (by decide) ?_
  have hm9 := deal_lt cs (m := 9) (by decide)
  generalize (deal cs 9).1 = m at *
  generalize (deal cs 9).2 = cs at *
  repeat' contradiction
  refine Cn_range fun R hR => ?_
  rw [set_out _ hR]
  have hBc := set_out_c (.rng (m : Nat)) hR hBc
  have hRB := AH.set_same B R (.rng (m : Nat))
  generalize B.set R (.rng (m : Nat)) = B at *
  refine ⟨nums m, fun _ => True, fun i ys H' => ∃ ws : List Str, ∃ cs : List Nat, ∃ B' : AH, ys = (ws.map some).map ov ∧ ws.length = i ∧ (∀ t ∈ ws, t ∈ w0) ∧ H' = B'.set c (.list (pl cs)) ∧ B' c = none,
    It_rng (le1 hBc _ _ hRB) (by unfold lid; omega), by rw [nums_length]; unfold lid; omega, ⟨[], cs, B, rfl, rfl, fun t h => (by cases h), rfl, hBc⟩, fun _ _ _ _ => trivial, ?_, ?_⟩
  · rintro i y ys H' C hy ⟨ws, cs, B', rfl, hl, hw, rfl, h1⟩ gb'
    refine Elt_nil ?_
    refine E_subL rfl ?_
    repeat' contradiction
    refine ⟨(by first | exact len_ok rfl | simp [lid]), fun D hD => ?_⟩
    rw [set_out _ hD]
    have h2 := set_out_c (.list [.str (Str.ofString "low"), .str (Str.ofString "mid"), .str (Str.ofString "high")]) hD h1
    have hDB := AH.set_same B' D (.list [.str (Str.ofString "low"), .str (Str.ofString "mid"), .str (Str.ofString "high")])
    generalize B'.set D (.list [.str (Str.ofString "low"), .str (Str.ofString "mid"), .str (Str.ofString "high")]) = B' at *
    refine E_fn F g_law_deal gb' (mk1 (by kernel_rfl)) (mk2 (by kernel_rfl)) rfl ?_
    repeat' contradiction
    refine c_deal' (m := 3) F (by decide) ?_
    have hm3 := deal_lt cs (m := 3) (by decide)
    generalize (deal cs 3).1 = m at *
    generalize (deal cs 3).2 = cs at *
    refine ⟨D, _, m, .str (w0.getD m (Str.ofString "")), rfl, rfl, le1 h2 _ _ hDB, by omega, ?_, ?_⟩
    · rcases m with _ | _ | _ | m
      · rfl
      · rfl
      · rfl
      · omega
    · refine ⟨ws ++ [w0.getD m (Str.ofString "")], cs, B', by simp [ov], by simp [hl], fun t ht => ?_, rfl, h2⟩
      rcases List.mem_append.mp ht with ht | ht
      · exact hw t ht
      · rw [List.mem_singleton.mp ht]; exact getD_mem _ _ hm3
  · rintro ys H' ⟨ws, cs, B', rfl, hl, hw, rfl, h1⟩ W hW
    rw [nums_length] at hl
    rw [set_out _ hW]
    have h2 := set_out_c (.list ((ws.map some).map ov)) hW h1
    have hWB := AH.set_same B' W (.list ((ws.map some).map ov))
    generalize B'.set W (.list ((ws.map some).map ov)) = B' at *
    refine ⟨_, .tail (.tail .head), ?_⟩
    repeat' contradiction
    refine ⟨(by first | exact len_ok rfl | simp [lid]), fun N hN => ?_⟩
    rw [set_out _ hN]
    have h3 := set_out_c (.list [.str (Str.ofString "low"), .str (Str.ofString "mid"), .str (Str.ofString "high"), .str (Str.ofString "top")]) hN h2
    have hNB : (B'.set N (.list [.str (Str.ofString "low"), .str (Str.ofString "mid"), .str (Str.ofString "high"), .str (Str.ofString "top")])) N = some (.list (n0.map V.str)) := AH.set_same ..
    have hWB := le1 (o := .list [.str (Str.ofString "low"), .str (Str.ofString "mid"), .str (Str.ofString "high"), .str (Str.ofString "top")]) (set_out_n hN) _ _ hWB
    generalize B'.set N (.list [.str (Str.ofString "low"), .str (Str.ofString "mid"), .str (Str.ofString "high"), .str (Str.ofString "top")]) = B' at *
    repeat' contradiction
    refine E_fn F g_law_deal gb (mk1 (by kernel_rfl)) (mk2 (by kernel_rfl)) rfl ?_
    repeat' contradiction
    refine c_deal' (m := 2) F (by decide) ?_
    generalize (deal cs 2).1 = m at *
    generalize (deal cs 2).2 = cs at *
    repeat' contradiction
    generalize veq (V.int (m : Nat)) (V.int 1) = o at *
    refine EvV.frame h3 ?_
    refine E_fn F g_make_factor gb (mk1 (by kernel_rfl)) (mk2 (by kernel_rfl)) rfl ?_
    repeat' contradiction
    refine E_fn F g_Vector gb (mk1 (by kernel_rfl)) (mk2 (by kernel_rfl)) rfl ?_
    repeat' contradiction
    refine E_ty F g_list gb (mk1 (by kernel_rfl)) rfl ?_
    repeat' contradiction
    refine Cn_listL hWB fun D1 hD1 => ?_
    repeat' contradiction
    refine c_vec F (.inr ⟨rfl, rfl⟩) trivial (AH.set_same ..) fun x1 H₂ l₂ nw₂ v₂ => ?_
    have l₂ := AH.le_trans (le1 hD1) l₂
    repeat' contradiction
    refine E_fn F g_Vector gb (mk1 (by kernel_rfl)) (mk2 (by kernel_rfl)) rfl ?_
    repeat' contradiction
    refine E_ty F g_list gb (mk1 (by kernel_rfl)) rfl ?_
    repeat' contradiction
    refine Cn_listL (l₂ _ _ hNB) fun D2 hD2 => ?_
    repeat' contradiction
    refine c_vec F (.inr ⟨rfl, rfl⟩) trivial (AH.set_same ..) fun x2 H₃ l₃ nw₃ v₃ => ?_
    have l₃ := AH.le_trans (le1 hD2) l₃
    repeat' contradiction
    refine ⟨(by first | exact len_ok rfl | simp [lid]), fun D3 hD3 => ?_⟩
    repeat' contradiction
    have l₄ := le1 (o := .list []) hD3
    refine c_make_factor F ((v₂.le l₃).le l₄) (v₃.le l₄) (AH.set_same ..) n0_nd (by rw [List.length_map]; omega) (by decide) fun y yit H₅ l₅ nw₅ fy => ?_
    have l₅ := AH.le_trans l₂ (AH.le_trans l₃ (AH.le_trans l₄ l₅))
    have hw5 := l₅ _ _ hWB
    have hn5 := l₅ _ _ hNB
    have he := cof_wdos (ns := n0) (ws := ws.map some) fun t ht => by
      obtain ⟨u, hu, e⟩ := List.mem_map.mp ht
      cases e; exact w0_n0 (hw _ hu)
    have sta : Sta H₅ W N y (ws.map some) n0 o := ⟨hw5, hn5, ⟨_, _, fy, he⟩, n0_nd, by rw [List.length_map]; omega, by decide⟩
    repeat' contradiction
    intro h5
    repeat' contradiction
    refine EvV.frame h5 ?_
    refine E_fn F g_law_agrees gb (mk1 (by kernel_rfl)) (mk2 (by kernel_rfl)) rfl ?_
    repeat' contradiction
    refine c_agrees F fy hw5 hn5 he ?_
    repeat' contradiction
    intro _
    repeat' contradiction
    refine if_by_f rfl ?_
    repeat' contradiction
    exact h c W N y (ws.map some) n0 o cs H₅ h5 sta

end
theorem idxOf_nd {l : List Str} (nd : l.Nodup) {i : Nat} {t : Str} (h : l[i]? = some t) : l.idxOf t = i := by
  obtain ⟨hi, e⟩ := List.getElem?_eq_some_iff.mp h
  have h2 := List.idxOf_lt_length_of_mem (e ▸ List.getElem_mem hi : t ∈ l)
  exact (List.getElem_inj nd).mp ((List.getElem_idxOf h2).trans e.symm)
theorem range_getD {α : Type} (l : List α) (d : α) : (List.range l.length).map (fun i => l.getD i d) = l := by
  apply List.ext_getElem
  · simp
  · intro i h1 h2
    simp [List.getElem?_eq_getElem h2]
section
variable {codes : List (Option Nat)} {names : List Str} {words : List (Option Str)}
theorem wd_at (hw : codes.map (wdo names) = words) (i : Nat) : words.getD i none = wdo names (codes.getD i none) := by
  subst hw
  rw [List.getD_eq_getElem?_getD, List.getD_eq_getElem?_getD, List.getElem?_map]
  cases codes[i]? <;> rfl
theorem sub_words (hw : codes.map (wdo names) = words) (ks : List Nat) : (ks.map fun k => codes.getD k none).map (wdo names) = ks.map fun k => words.getD k none := by
  rw [List.map_map]
  exact List.map_congr_left fun k _ => (wd_at hw k).symm
theorem ok_get (ok : ∀ k, some k ∈ codes → 1 ≤ k ∧ k ≤ names.length) {k : Nat} (h : some k ∈ codes) : ∃ t, names[k - 1]? = some t := by
  obtain ⟨a, b⟩ := ok k h
  exact ⟨_, List.getElem?_eq_getElem (show k - 1 < names.length by omega)⟩
theorem drop_words (ok : ∀ k, some k ∈ codes → 1 ≤ k ∧ k ≤ names.length) : (codes.map (newC (keptOf codes names.length))).map (wdo (lv' (keptOf codes names.length) names)) = codes.map (wdo names) := by
  rw [List.map_map]
  refine List.map_congr_left fun c hc => ?_
  cases c with
  | none => rfl
  | some k =>
    obtain ⟨a, b⟩ := ok k hc
    have hm : k ∈ keptOf codes names.length := keptOf_mem.mpr ⟨a, b, hc⟩
    have hl := List.idxOf_lt_length_of_mem hm
    show (lv' (keptOf codes names.length) names)[(keptOf codes names.length).idxOf k + 1 - 1]? = names[k - 1]?
    rw [Nat.add_sub_cancel]
    unfold lv'
    rw [List.getElem?_map, List.getElem?_eq_getElem hl, List.getElem_idxOf]
    show some (names.getD (k - 1) _) = _
    rw [List.getD_eq_getElem?_getD, List.getElem?_eq_getElem (show k - 1 < names.length by omega)]; rfl
theorem drop_names (nd : names.Nodup) (ok : ∀ k, some k ∈ codes → 1 ≤ k ∧ k ≤ names.length) (hw : codes.map (wdo names) = words) : lv' (keptOf codes names.length) names = names.filter fun t => words.contains (some t) := by
  have e : names.filter (fun t => words.contains (some t)) = (((List.range names.length).map (fun i => names.getD i (Str.ofString ""))).filter fun t => words.contains (some t)) := by rw [range_getD]
  rw [e, List.filter_map]
  unfold lv' keptOf
  rw [List.map_map]
  have e2 : ((List.range names.length).filter fun i => codes.contains (some (i + 1))) = (List.range names.length).filter ((fun t => words.contains (some t)) ∘ fun i => names.getD i (Str.ofString "")) := by
    refine List.filter_congr fun i hi => ?_
    rw [List.mem_range] at hi
    have hn : names[i]? = some (names.getD i (Str.ofString "")) := by rw [List.getD_eq_getElem?_getD, List.getElem?_eq_getElem hi]; rfl
    show codes.contains (some (i + 1)) = words.contains (some (names.getD i (Str.ofString "")))
    rw [Bool.eq_iff_iff, List.contains_iff_mem, List.contains_iff_mem, ← hw]
    constructor
    · intro h
      exact List.mem_map.mpr ⟨_, h, hn⟩
    · intro h
      obtain ⟨c, hc, e⟩ := List.mem_map.mp h
      cases c with
      | none => cases e
      | some k =>
        have e' : names[k - 1]? = some (names.getD i (Str.ofString "")) := e
        have h1 := idxOf_nd nd e'
        have h2 := idxOf_nd nd hn
        have := (ok k hc).1
        have : k = i + 1 := by omega
        rw [← this]; exact hc
  rw [e2]
  refine List.map_congr_left fun i _ => ?_
  simp
noncomputable def asgW (names : List Str) : Option Str → Option Str
  | none => none
  | some t => if names.contains t then some t else none
theorem asg_cof (wo : Option Str) : wdo names (cof names wo) = asgW names wo := by
  cases wo with
  | none => rfl
  | some t =>
    show wdo names (if names.contains t = true then some (names.idxOf t + 1) else none) = if names.contains t = true then some t else none
    by_cases h : names.contains t = true
    · rw [if_pos h, if_pos h]
      have hm := List.contains_iff_mem.mp h
      show names[names.idxOf t + 1 - 1]? = some t
      rw [Nat.add_sub_cancel, List.getElem?_eq_getElem (List.idxOf_lt_length_of_mem hm), List.getElem_idxOf]
    · rw [if_neg h, if_neg h]; rfl
theorem asg_words (hw : codes.map (wdo names) = words) (k : Nat) (wo : Option Str) : (codes.set k (cof names wo)).map (wdo names) = words.set k (asgW names wo) := by
  rw [List.map_set, hw, asg_cof]
noncomputable def relW (names : List Str) (ts : List (Option Str)) : Option Str → Option Str
  | none => none
  | some t => ts.getD (names.idxOf t) none
theorem rel_words (nd : names.Nodup) (ok : ∀ k, some k ∈ codes → 1 ≤ k ∧ k ≤ names.length) (hw : codes.map (wdo names) = words) {ts : List (Option Str)} (hl : ts.length = names.length) : (codes.map (rl ts)).map (wdo (dk ts)) = words.map (relW names ts) := by
  rw [← hw, List.map_map, List.map_map]
  refine List.map_congr_left fun c hc => ?_
  cases c with
  | none => rfl
  | some k =>
    obtain ⟨t, ht⟩ := ok_get ok hc
    obtain ⟨a, b⟩ := ok k hc
    show wdo (dk ts) (cof (dk ts) (ts.getD (k - 1) none)) = relW names ts (names[k - 1]?)
    rw [ht]
    show _ = ts.getD (names.idxOf t) none
    rw [idxOf_nd nd ht]
    refine cof_wdo fun u hu => (dk_mem ts u).mpr ?_
    rw [← hu]
    exact getD_mem _ _ (by omega)

/-! ### the parts -/
noncomputable def Mj (codes : List (Option Nat)) (n j : Nat) : List Nat := (List.range j).flatMap fun i => plc codes n (i + 1)
theorem Mj_succ (codes : List (Option Nat)) (n j : Nat) : Mj codes n (j + 1) = Mj codes n j ++ plc codes n (j + 1) := by
  unfold Mj; rw [List.range_succ, List.flatMap_append]; simp
theorem plc_mem {n c i : Nat} : i ∈ plc codes n c ↔ i < n ∧ codes.getD i none = some c := by
  unfold plc; rw [List.mem_filter, List.mem_range, beq_iff_eq]
theorem plc_nodup (n c : Nat) : (plc codes n c).Nodup := List.Pairwise.filter _ List.nodup_range
theorem Mj_mem {n j x : Nat} : x ∈ Mj codes n j ↔ x < n ∧ ∃ c, codes.getD x none = some c ∧ 1 ≤ c ∧ c ≤ j := by
  unfold Mj
  rw [List.mem_flatMap]
  constructor
  · rintro ⟨i, hi, hx⟩
    rw [List.mem_range] at hi
    obtain ⟨a, b⟩ := plc_mem.mp hx
    exact ⟨a, i + 1, b, by omega, by omega⟩
  · rintro ⟨a, c, b, h1, h2⟩
    exact ⟨c - 1, List.mem_range.mpr (by omega), plc_mem.mpr ⟨a, by rw [b]; congr 1; omega⟩⟩
theorem Mj_nodup (n j : Nat) : (Mj codes n j).Nodup := by
  induction j with
  | zero => exact List.nodup_nil
  | succ j ih =>
    rw [Mj_succ, List.nodup_append]
    refine ⟨ih, plc_nodup .., fun a ha b hb => ?_⟩
    rintro rfl
    obtain ⟨_, c, h1, _, h2⟩ := Mj_mem.mp ha
    obtain ⟨_, h3⟩ := plc_mem.mp hb
    rw [h1] at h3
    have := Option.some.inj h3
    omega
theorem Mj_len (ok : ∀ k, some k ∈ codes → 1 ≤ k ∧ k ≤ names.length) (hw : codes.map (wdo names) = words) : (Mj codes codes.length names.length).length = (words.filter fun w => w.isSome).length := by
  have hp : (Mj codes codes.length names.length).Perm ((List.range codes.length).filter fun i => (codes.getD i none).isSome) := by
    refine (List.perm_ext_iff_of_nodup (Mj_nodup ..) (List.Pairwise.filter _ List.nodup_range)).mpr fun x => ?_
    rw [Mj_mem, List.mem_filter, List.mem_range]
    constructor
    · rintro ⟨a, c, b, _⟩; exact ⟨a, by rw [b]; rfl⟩
    · rintro ⟨a, b⟩
      obtain ⟨c, hc⟩ := Option.isSome_iff_exists.mp b
      have hm : some c ∈ codes := by rw [← hc]; exact getD_mem _ _ a
      exact ⟨a, c, hc, ok c hm⟩
  rw [hp.length_eq, ← hw]
  conv => rhs; rw [← range_getD codes none]
  rw [List.map_map, List.filter_map, List.length_map]
  congr 1
  refine List.filter_congr fun i hi => ?_
  rw [List.mem_range] at hi
  simp only [Function.comp]
  cases h : codes.getD i none with
  | none => rfl
  | some k =>
    have hm : some k ∈ codes := by rw [← h]; exact getD_mem _ _ hi
    obtain ⟨t, ht⟩ := ok_get ok hm
    show true = (names[k - 1]?).isSome
    rw [ht]; rfl
theorem plc_word (hw : codes.map (wdo names) = words) {n j i : Nat} (h : i ∈ plc codes n (j + 1)) : words.getD i none = names[j]? := by
  rw [wd_at hw, (plc_mem.mp h).2]; rfl
theorem plc_sorted (n c : Nat) : (plc codes n c).Pairwise (· < ·) := List.Pairwise.filter _ List.pairwise_lt_range
end
theorem sorted_eq : ∀ {a b : List Int}, a.Perm b → a.Pairwise (· ≤ ·) → b.Pairwise (· ≤ ·) → a = b
  | [], b, p, _, _ => (List.nil_perm.mp p) ▸ rfl
  | x :: r, [], p, _, _ => absurd p.length_eq (by simp)
  | x :: r, y :: t, p, ha, hb => by
    have hxy : x = y := by
      have h1 : x ∈ y :: t := p.subset (List.mem_cons_self)
      have h2 : y ∈ x :: r := p.symm.subset (List.mem_cons_self)
      rw [List.pairwise_cons] at ha hb
      have l1 : y ≤ x := by
        rcases List.mem_cons.mp h1 with e | e
        · omega
        · exact hb.1 x e
      have l2 : x ≤ y := by
        rcases List.mem_cons.mp h2 with e | e
        · omega
        · exact ha.1 y e
      omega
    subst hxy
    rw [sorted_eq ((List.perm_cons x).mp p) (List.pairwise_cons.mp ha).2 (List.pairwise_cons.mp hb).2]
section
variable {prog : Program} {w : World} {S0 : Shared} {K : Frag} {mV : Str → Option Value} {n : Nat} {env : Env} {ρ : Rho} {H : AH} {Q : V → AH → Prop}
theorem U_itemsI {x : Addr} {items : List V} (F : Fa prog w S0 K mV) (v : VecI H x items) (h : ∀ it, H it = some (.list items) → Q (.ref it) H) : UnaV prog w S0 n (fun u => getAttr u (Str.ofString "items") true) (.ref x) H Q := by
  obtain ⟨dx, fs, it, a, b, c, d, _⟩ := v
  exact U_get F.cls (F.free _ (.tail _ (.head _))) a b c trivial (h it d)
noncomputable def mv (l : List Nat) : List V := l.map fun k : Nat => V.int (100 + (k : Int))
theorem mv_ints (l : List Nat) : mv l = (l.map fun k : Nat => (100 + (k : Int))).map V.int := by unfold mv; rw [List.map_map]; rfl
theorem mv_sc (l : List Nat) : (mv l).all isSc = true := by
  rw [List.all_eq_true]; intro v hv
  obtain ⟨k, _, rfl⟩ := List.mem_map.mp hv; rfl
theorem mv_in {l : List Nat} {k : Nat} (h : k ∉ l) : (mv l).any (veq · (.int (100 + (k : Int)))) = false := by
  rw [List.any_eq_false]
  intro v hv q
  obtain ⟨j, hj, rfl⟩ := List.mem_map.mp hv
  have : (100 + (j : Int)) = 100 + (k : Int) := by simpa [veq] using q
  have : j = k := by omega
  exact h (this ▸ hj)
theorem mv_app (l : List Nat) (k : Nat) : mv l ++ [V.int (100 + (k : Int))] = mv (l ++ [k]) := by unfold mv; rw [List.map_append]; rfl
theorem at_vals {codes : List (Option Nat)} {m n c : Nat} (h : n ≤ m) : at_ (mv (List.range m)) (plc codes n c) = mv (plc codes n c) := by
  unfold at_ mv
  refine List.map_congr_left fun k hk => ?_
  have := plc_lt hk
  rw [List.getD_eq_getElem?_getD, List.getElem?_map, List.getElem?_range (by omega)]; rfl
theorem law_end {L : Addr} {q : Str} {cd : Value} {c wa na fa : Addr} {words : List (Option Str)} {names : List Str} {o : Bool} {cs : List Nat} {B : AH} {P : Flow → Rho → AH → Prop} {v0 v1 v4 v6 v7 v8 v9 v10 v11 v12 v13 v14 v15 v16 v17 v18 v19 : Option V} (F : Fa prog w S0 K mV) (gb : Glob (lawE L q cd) lawG) (hc : B c = none) (st : Sta B wa na fa words names o)
    (h : ∀ u ρ' H', abs u = .bool true → P (.ret u) ρ' H') :
    Ex prog w S0 (n + 9) (lawE L q cd) [(Str.ofString "script", v0), (Str.ofString "cards", v1), (Str.ofString "words", some (.ref wa)), (Str.ofString "names", some (.ref na)), (Str.ofString "ordered", v4), (Str.ofString "f", some (.ref fa)), (Str.ofString "turn_at", v6), (Str.ofString "deed", v7), (Str.ofString "before", v8), (Str.ofString "picked", v9), (Str.ofString "later", v10), (Str.ofString "notes", v11), (Str.ofString "at", v12), (Str.ofString "word", v13), (Str.ofString "told", v14), (Str.ofString "parts", v15), (Str.ofString "met", v16), (Str.ofString "name", v17), (Str.ofString "part_x", v18), (Str.ofString "number_at", v19)]
      (execs (lawB.drop 7) (lawE L q cd)) (B.set c (.list (pl cs))) P := by
  refine Ex.forget ?_ (le1 hc)
  refine Ex.sub (ρ₀ := [(Str.ofString "words", some (.ref wa)), (Str.ofString "names", some (.ref na)), (Str.ofString "f", some (.ref fa)), (Str.ofString "parts", v15), (Str.ofString "met", v16), (Str.ofString "name", v17), (Str.ofString "part_x", v18), (Str.ofString "number_at", v19)])
    (.cons _ (.cons _ (.cons_cons _ (.cons_cons _ (.cons _ (.cons_cons _ (.cons _ (.cons _ (.cons _ (.cons _ (.cons _ (.cons _ (.cons _ (.cons _ (.cons _ (.refl _)))))))))))))))) ?_
  obtain ⟨hw, hn, ⟨it, codes, fac, he⟩, nd, hl1, hl2⟩ := st
  have hlen : codes.length = words.length := by rw [← he, List.length_map]
  refine X_cons ?_
  refine X_asg rfl (by kernel_rfl) ?_
  refine E_fn F g_split_by gb (mk1 (by kernel_rfl)) (mk2 (by kernel_rfl)) rfl ?_
  repeat' contradiction
  refine E_fn F g_Vector gb (mk1 (by kernel_rfl)) (mk2 (by kernel_rfl)) rfl ?_
  repeat' contradiction
  refine E_comp (caps := []) (Gs := []) (ρc := []) (fun _ => rfl) (by kernel_rfl) .nil ?_
  refine E_ty F g_range gb (mk1 (by kernel_rfl)) rfl ?_
  repeat' contradiction
  refine E_bi F g_len gb (mk1 (by kernel_rfl)) rfl ?_
  repeat' contradiction
  refine Cn_lenL hw ?_
  repeat' contradiction
  rw [List.length_map]
  refine Cn_range fun R hR => ?_
  have lR := le1 (o := .rng (words.length : Nat)) hR
  refine Comp_ix (xs := nums words.length) (Inv := fun _ => True) (mv (List.range words.length)) (by simp [mv, nums]) (It_rng (AH.set_same ..) (by unfold lid; omega)) trivial (by rw [nums_length]; unfold lid; omega) (fun i y C hy gb' => ?_) fun V1 hV => ?_
  · have hi : i < words.length := by have := (List.getElem?_eq_some_iff.mp hy).1; simpa [nums] using this
    rw [nums_get hi] at hy
    obtain rfl := Option.some.inj hy
    repeat' contradiction
    refine ⟨?_, rfl⟩
    unfold mv
    rw [List.getElem?_map, List.getElem?_range hi]; rfl
  have lV := AH.le_trans lR (le1 (o := .list (mv (List.range words.length))) hV)
  repeat' contradiction
  refine c_vec F (.inr ⟨rfl, rfl⟩) trivial (AH.set_same ..) fun x1 H₂ l₂ nw₂ v₂ => ?_
  have l₂ := AH.le_trans lV l₂
  repeat' contradiction
  refine c_split_by F (fac.le l₂) v₂ (by unfold mv; rw [List.length_map, List.length_range, hlen]) fun y yit ndd nm ps H₃ pv vy hnd hnm hps hpp => ?_
  have pv := (Pv.le l₂).trans pv
  have hw := pv.1 _ _ (fun _ h => by cases h) hw
  have hn := pv.1 _ _ (fun _ h => by cases h) hn
  have hpp : ∀ j p, ps[j]? = some p → VecI H₃ p (mv (plc codes codes.length (j + 1))) := fun j p hp => by
    have := hpp j p hp
    rw [at_vals (by omega)] at this; exact this
  clear pv l₂ lV v₂ hV hR lR nw₂
  repeat' contradiction
  refine E_bi F g_len gb (mk1 (by kernel_rfl)) rfl ?_
  repeat' contradiction
  refine Cn_lenL vy.its ?_
  repeat' contradiction
  refine E_bi F g_len gb (mk1 (by kernel_rfl)) rfl ?_
  repeat' contradiction
  refine Cn_lenL hn ?_
  repeat' contradiction
  refine if_by_f (by rw [List.length_map, List.length_map, hps]; simp [veq]) ?_
  repeat' contradiction
  refine E_ty F g_list gb (mk1 (by kernel_rfl)) rfl ?_
  repeat' contradiction
  refine E_subS rfl ?_
  repeat' contradiction
  refine ⟨_, _, _, .ref nm, rfl, rfl, hnd, by kernel_rfl, ?_⟩
  refine U_itemsI F hnm fun nit hnit => ?_
  repeat' contradiction
  refine Cn_listL hnit fun D hD => ?_
  have lD := le1 (o := .list (names.map V.str)) hD
  have hn4 := lD _ _ hn
  repeat' contradiction
  refine B_neL (AH.set_same ..) hn4 (sc_str _) (sc_str _) ?_
  rw [veqs_refl _ (sc_str _)]
  repeat' contradiction
  refine if_by_f rfl ?_
  repeat' contradiction
  refine ⟨(by first | exact len_ok rfl | simp [lid]), fun M hM => ?_⟩
  have lM := AH.le_trans lD (le1 (o := .list []) hM)
  repeat' contradiction
  have hw := lD _ _ hw
  have hn := lD _ _ hn
  have hy := lD _ _ vy.its
  have vyD := (vy.le lD).le (le1 (o := .list []) hM)
  have hpp : ∀ j p, ps[j]? = some p → VecI (H₃.set D (.list (names.map V.str))) p (mv (plc codes codes.length (j + 1))) := fun j p hp => (hpp j p hp).le lD
  generalize H₃.set D (.list (names.map V.str)) = B₀ at *
  have ok := fac.ok
  refine X_zip F.B g_zip gb (mk1 (by kernel_rfl)) rfl (fun _ => rfl) ?_
  repeat' contradiction
  refine ⟨na, yit, names.map V.str, ps.map V.ref, fun i ρ' H' => ∃ o1 o2 o3, ∃ B' : AH, ρ' = [(Str.ofString "words", some (.ref wa)), (Str.ofString "names", some (.ref na)), (Str.ofString "f", some (.ref fa)), (Str.ofString "parts", some (.ref y)), (Str.ofString "met", some (.ref M)), (Str.ofString "name", o1), (Str.ofString "part_x", o2), (Str.ofString "number_at", o3)] ∧
    H' = B'.set M (.list (mv (Mj codes codes.length i))) ∧ B' M = none ∧ B₀.le B', rfl, ⟨_, _, _, B₀, rfl, rfl, hM, AH.le_refl _⟩, ?_, by rw [List.length_map, List.length_map, hps], ?_, ?_⟩
  · rintro i ρ' H' ⟨o1, o2, o3, B', rfl, rfl, h1, h2⟩
    exact ⟨le1 h1 _ _ (h2 _ _ hn), le1 h1 _ _ (h2 _ _ hy)⟩
  · rintro i va vb ρ' H' hva hvb ⟨o1, o2, o3, B', rfl, rfl, h1, h2⟩
    rw [List.getElem?_map] at hva hvb
    obtain ⟨t, ht, rfl⟩ := Option.map_eq_some_iff.mp hva
    obtain ⟨p, hp, rfl⟩ := Option.map_eq_some_iff.mp hvb
    refine ⟨_, _, .tail (.tail (.tail (.tail (.tail .head)))), .tail (.tail (.tail (.tail (.tail (.tail .head))))), ?_⟩
    obtain ⟨dx, fs, pit, va, vb, vc, vd, _⟩ := (hpp i p hp).le h2
    have ha := fun (B'' : AH) (l : B'.le B'') => l _ _ va
    have hb := fun (B'' : AH) (l : B'.le B'') => l _ _ vb
    have hd := fun (B'' : AH) (l : B'.le B'') => l _ _ vd
    refine X_cons (X_for (fun _ => rfl) ?_)
    repeat' contradiction
    refine U_get F.cls (F.free _ (.tail _ (.head _))) (ha _ (le1 h1)) (hb _ (le1 h1)) vc trivial ?_
    refine ⟨mv (plc codes codes.length (i + 1)), fun H' => H' pit = some (.list (mv (plc codes codes.length (i + 1)))), fun k ρ' H' => ∃ o3, ∃ B'' : AH, ρ' = [(Str.ofString "words", some (.ref wa)), (Str.ofString "names", some (.ref na)), (Str.ofString "f", some (.ref fa)), (Str.ofString "parts", some (.ref y)), (Str.ofString "met", some (.ref M)), (Str.ofString "name", some (.str t)), (Str.ofString "part_x", some (.ref p)), (Str.ofString "number_at", o3)] ∧
      H' = B''.set M (.list (mv (Mj codes codes.length i ++ (plc codes codes.length (i + 1)).take k))) ∧ B'' M = none ∧ B'.le B'', It_list (hd _ (le1 h1)), ⟨_, B', rfl, by rw [List.take_zero, List.append_nil], h1, AH.le_refl _⟩, ?_, ?_, ?_⟩
    · rintro k ρ' H' ⟨o3, B'', rfl, rfl, g1, g2⟩
      exact hd _ (AH.le_trans g2 (le1 g1))
    · rintro k z ρ' H' hz ⟨o3, B'', rfl, rfl, g1, g2⟩
      unfold mv at hz
      rw [List.getElem?_map] at hz
      obtain ⟨m, hm, rfl⟩ := Option.map_eq_some_iff.mp hz
      have hmem := List.mem_of_getElem? hm
      have hml : m < words.length := by have := plc_lt hmem; omega
      have hmt : (words.map ov)[m]? = some (.str t) := by
        have := plc_word he hmem
        rw [List.getD_eq_getElem?_getD, List.getElem?_eq_getElem hml, ht] at this
        rw [List.getElem?_map, List.getElem?_eq_getElem hml]
        show some (ov words[m]) = _
        have e : words[m] = some t := this
        rw [e]; rfl
      have hnew : m ∉ Mj codes codes.length i ++ (plc codes codes.length (i + 1)).take k := by
        have nd := Mj_nodup (codes := codes) codes.length (i + 1)
        rw [Mj_succ, ← List.take_append_drop k (plc codes codes.length (i + 1)), ← List.append_assoc, List.nodup_append] at nd
        intro q
        refine nd.2.2 m q m ?_ rfl
        rw [List.mem_iff_getElem?]
        exact ⟨0, by rw [List.getElem?_drop]; exact hm⟩
      have hw' := AH.le_trans h2 (AH.le_trans g2 (le1 (o := .list (mv (Mj codes codes.length i ++ (plc codes codes.length (i + 1)).take k))) g1)) _ _ hw
      have hmlen : (mv (Mj codes codes.length i ++ (plc codes codes.length (i + 1)).take k)).length < lid := by
        have h1 := (Mj_nodup (codes := codes) codes.length i)
        have h3 : (Mj codes codes.length i).length ≤ codes.length := by
          have hp : (Mj codes codes.length i).length ≤ ((List.range codes.length).filter fun x => (Mj codes codes.length i).contains x).length := by
            refine Nat.le_of_eq ?_
            refine List.Perm.length_eq ((List.perm_ext_iff_of_nodup h1 (List.Pairwise.filter _ List.nodup_range)).mpr fun x => ?_)
            rw [List.mem_filter, List.mem_range, List.contains_iff_mem]
            exact ⟨fun q => ⟨(Mj_mem.mp q).1, q⟩, fun q => q.2⟩
          have := List.length_filter_le (fun x => (Mj codes codes.length i).contains x) (List.range codes.length)
          rw [List.length_range] at this; omega
        have h4 := plc_len codes codes.length (i + 1)
        have h5 := List.length_take_le k (plc codes codes.length (i + 1))
        have h6 := List.length_take_le' k (plc codes codes.length (i + 1))
        unfold mv; rw [List.length_map, List.length_append]; unfold lid; omega
      refine ⟨_, .tail (.tail (.tail (.tail (.tail (.tail (.tail .head)))))), ?_⟩
      repeat' contradiction
      refine E_subL rfl ?_
      repeat' contradiction
      refine ⟨_, _, _, .str t, rfl, rfl, hw', by omega, ?_, ?_⟩
      · rw [show (100 + (m : Int) - 100).toNat = m by omega]; exact hmt
      repeat' contradiction
      refine if_by_f (by simp [veq]) ?_
      repeat' contradiction
      refine B_inL (AH.set_same ..) rfl (mv_sc _) ?_
      rw [mv_in hnew]
      repeat' contradiction
      refine E_append rfl rfl rfl ?_
      repeat' contradiction
      refine ⟨M, _, rfl, AH.set_same .., ?_⟩
      repeat' contradiction
      refine ⟨AH.set_same .., hmlen, ?_⟩
      repeat' contradiction
      refine ⟨_, B'', rfl, ?_, g1, g2⟩
      rw [AH.set_set, mv_app, List.append_assoc, List.take_add_one, hm]; rfl
    · rintro ρ' H' ⟨o3, B'', rfl, rfl, g1, g2⟩
      have e9 : (mv (plc codes codes.length (i + 1))).length = (plc codes codes.length (i + 1)).length := by unfold mv; rw [List.length_map]
      rw [e9, List.take_length, ← Mj_succ]
      have l9 := AH.le_trans g2 (le1 (o := .list (mv (Mj codes codes.length (i + 1)))) g1)
      repeat' contradiction
      refine U_get F.cls (F.free _ (.tail _ (.head _))) (ha _ l9) (hb _ l9) vc trivial ?_
      repeat' contradiction
      refine E_bi F g_sorted gb (mk1 (by kernel_rfl)) rfl ?_
      repeat' contradiction
      refine U_get F.cls (F.free _ (.tail _ (.head _))) (ha _ l9) (hb _ l9) vc trivial ?_
      repeat' contradiction
      refine Cn_sorted (by rw [← mv_ints]; exact hd _ l9) (by rw [List.length_map]; have := plc_len codes codes.length (i + 1); omega) fun D ms hms hsort hD => ?_
      have e : ms = (plc codes codes.length (i + 1)).map fun k : Nat => (100 + (k : Int)) := by
        refine sorted_eq hms hsort ?_
        rw [List.pairwise_map]
        exact (plc_sorted codes.length (i + 1)).imp fun q => by omega
      rw [e, ← mv_ints]
      refine B_neL (le1 hD _ _ (hd _ l9)) (AH.set_same ..) (mv_sc _) (mv_sc _) ?_
      rw [veqs_refl _ (mv_sc _)]
      repeat' contradiction
      refine if_by_f rfl ?_
      repeat' contradiction
      refine ⟨_, _, _, B''.set D (.list (mv (plc codes codes.length (i + 1)))), rfl, set_out _ hD, set_out_c _ hD g1, AH.le_trans h2 (AH.le_trans g2 (le1 (set_out_n hD)))⟩
  · rintro ρ' H' ⟨o1, o2, o3, B', rfl, rfl, h1, h2⟩
    rw [List.length_map]
    repeat' contradiction
    refine E_bi F g_len gb (mk1 (by kernel_rfl)) rfl ?_
    repeat' contradiction
    refine Cn_lenL (AH.set_same ..) ?_
    repeat' contradiction
    refine E_bi F g_len gb (mk1 (by kernel_rfl)) rfl ?_
    refine A_one rfl ?_
    refine E_comp (caps := []) (Gs := []) (ρc := []) (fun _ => rfl) (by kernel_rfl) .nil ?_
    repeat' contradiction
    have hw' := le1 (o := .list (mv (Mj codes codes.length names.length))) h1 _ _ (h2 _ _ hw)
    refine Comp_filter (xs := words.map ov) (Inv := fun H' => H' wa = some (.list (words.map ov))) (fun v => !isN v) id (It_list hw') hw' (by rw [List.length_map]; unfold lid; omega) (fun i y C hy gb' => ?_) fun D hD => ?_
    · obtain ⟨wo, hwo, rfl⟩ := ov_get hy
      cases wo with
      | none =>
        rw [show ov none = V.none from rfl]
        repeat' contradiction
        exact ⟨rfl, rfl, fun e => (by cases e)⟩
      | some t =>
        rw [show ov (some t) = V.str t from rfl]
        repeat' contradiction
        refine ⟨rfl, rfl, fun _ => ?_⟩
        repeat' contradiction
        exact ⟨rfl, rfl⟩
    repeat' contradiction
    refine Cn_lenL (AH.set_same ..) ?_
    repeat' contradiction
    intro u hu
    repeat' contradiction
    refine h u _ _ ?_
    rw [hu, List.map_id]
    have e1 : (mv (Mj codes codes.length names.length)).length = ((words.map ov).filter fun v => !isN v).length := by
      unfold mv
      rw [List.length_map, Mj_len ok he, List.filter_map, List.length_map]
      congr 1
      refine List.filter_congr fun wo _ => ?_
      cases wo <;> rfl
    rw [e1]
    simp [veq]

end
section
variable {prog : Program} {w : World} {S0 : Shared} {K : Frag} {mV : Str → Option Value} {n : Nat} {env : Env} {ρ : Rho} {H : AH} {Q : V → AH → Prop}
noncomputable def forB : Stmt → List Stmt
  | .For _ _ b _ _ => b
  | _ => []
noncomputable def ifA : Stmt → List Stmt
  | .If _ a _ _ => a
  | _ => []
noncomputable def ifE : Stmt → List Stmt
  | .If _ _ b _ => b
  | _ => []
noncomputable def turnB : List Stmt := forB (nthS lawB 6)
noncomputable def chn0 : Stmt := nthS turnB 2
noncomputable def chn1 : Stmt := nthS (ifE chn0) 0
noncomputable def chn2 : Stmt := nthS (ifE chn1) 0
/-- what stands behind the deed -/
def Mid (a c fa bt : Addr) (o : Bool) (v6 v7 v15 v16 v17 v18 v19 : Option V) (B : AH) (fl : Flow) (ρ' : Rho) (H' : AH) : Prop := fl = .next ∧ ∃ (wa na la : Addr) (words : List (Option Str)) (names : List Str) (cs : List Nat) (B' : AH) (v9 v11 v12 v13 v14 : Option V),
  ρ' = [(Str.ofString "script", some (.ref a)), (Str.ofString "cards", some (.ref c)), (Str.ofString "words", some (.ref wa)), (Str.ofString "names", some (.ref na)), (Str.ofString "ordered", some (.bool o)), (Str.ofString "f", some (.ref fa)), (Str.ofString "turn_at", v6), (Str.ofString "deed", v7), (Str.ofString "before", some (.ref bt)), (Str.ofString "picked", v9), (Str.ofString "later", some (.ref la)), (Str.ofString "notes", v11), (Str.ofString "at", v12), (Str.ofString "word", v13), (Str.ofString "told", v14), (Str.ofString "parts", v15), (Str.ofString "met", v16), (Str.ofString "name", v17), (Str.ofString "part_x", v18), (Str.ofString "number_at", v19)] ∧
  H' = B'.set c (.list (pl cs)) ∧ B' c = none ∧ B.le B' ∧ Sta B' wa na la words names o
theorem pl_getD (ks : List Nat) {i k : Nat} (h : ks[i]? = some k) : (pl ks)[i]? = some (.int (k : Int)) := by unfold pl; rw [List.getElem?_map, h]; rfl
theorem ov_any (ws : List (Option Str)) (t : Str) : ((ws.map ov).any (veq · (.str t))) = ws.contains (some t) := by
  induction ws with
  | nil => rfl
  | cons a r ih =>
    rw [List.map_cons, List.any_cons, ih, List.contains_cons]
    congr 1
    cases a with
    | none => rfl
    | some u =>
      show (u == t) = (some t == some u)
      by_cases e : u = t
      · subst e; simp
      · rw [beq_eq_false_iff_ne.mpr e, beq_eq_false_iff_ne.mpr (fun h => e (Option.some.inj h).symm)]
theorem deed_a {L : Addr} {q : Str} {cd : Value} {a c wa na fa bt : Addr} {words : List (Option Str)} {names : List Str} {o : Bool} {cs : List Nat} {d : Int} {B : AH} {v6 v9 v10 v11 v12 v13 v14 v15 v16 v17 v18 v19 : Option V} (F : Fa prog w S0 K mV) (gb : Glob (lawE L q cd) lawG) (hc : B c = none) (st : Sta B wa na fa words names o) (hne : words ≠ []) :
    Ex prog w S0 (n + 9) (lawE L q cd) [(Str.ofString "script", some (.ref a)), (Str.ofString "cards", some (.ref c)), (Str.ofString "words", some (.ref wa)), (Str.ofString "names", some (.ref na)), (Str.ofString "ordered", some (.bool o)), (Str.ofString "f", some (.ref fa)), (Str.ofString "turn_at", v6), (Str.ofString "deed", some (.int d)), (Str.ofString "before", some (.ref bt)), (Str.ofString "picked", v9), (Str.ofString "later", v10), (Str.ofString "notes", v11), (Str.ofString "at", v12), (Str.ofString "word", v13), (Str.ofString "told", v14), (Str.ofString "parts", v15), (Str.ofString "met", v16), (Str.ofString "name", v17), (Str.ofString "part_x", v18), (Str.ofString "number_at", v19)]
      (execs (ifA chn0) (lawE L q cd)) (B.set c (.list (pl cs))) (Mid a c fa bt o v6 (some (.int d)) v15 v16 v17 v18 v19 B) := by
  obtain ⟨hw, hn, ⟨it, codes, fac, he⟩, nd, hl1, hl2⟩ := st
  have hlen : codes.length = words.length := by rw [← he, List.length_map]
  have hpos : 0 < words.length := List.length_pos_iff.mpr hne
  refine X_cons ?_
  refine X_asgComp (caps := [Str.ofString "cards", Str.ofString "words"]) (Gs := [Str.ofString "_law_deal", Str.ofString "len"]) (ρc := [(Str.ofString "cards", some (.ref c)), (Str.ofString "words", some (.ref wa))]) (by kernel_rfl) (fun _ => rfl) (by kernel_rfl) ⟨rfl, fun p hp => ?_⟩ ?_
  · rcases List.mem_cons.mp hp with rfl | hp
    · exact .tail _ (.head _)
    · rw [List.mem_singleton.mp hp]; exact .tail _ (.tail _ (.head _))
  refine E_ty F g_range gb (mk1 (by kernel_rfl)) rfl ?_
  repeat' contradiction
  refine E_fn F g_law_deal gb (mk1 (by kernel_rfl)) (mk2 (by kernel_rfl)) rfl ?_
  repeat' contradiction
  refine c_deal' (m := 10) F (by decide) ?_
  have hm9 := deal_lt cs (m := 10) (by decide)
  generalize (deal cs 10).1 = m at *
  generalize (deal cs 10).2 = cs at *
  repeat' contradiction
  refine Cn_range fun R hR => ?_
  rw [set_out _ hR]
  have hc₁ := set_out_c (.rng (m : Nat)) hR hc
  have l₁ := le1 (o := .rng (m : Nat)) (set_out_n hR)
  have hRB := AH.set_same B R (.rng (m : Nat))
  generalize B.set R (.rng (m : Nat)) = B₁ at *
  refine ⟨nums m, fun _ => True, fun i ys H' => ∃ ks cs : List Nat, ys = pl ks ∧ ks.length = i ∧ (∀ k ∈ ks, k < words.length) ∧ H' = B₁.set c (.list (pl cs)),
    It_rng (le1 hc₁ _ _ hRB) (by unfold lid; omega), by rw [nums_length]; unfold lid; omega, ⟨[], cs, rfl, rfl, fun t h => (by cases h), rfl⟩, fun _ _ _ _ => trivial, ?_, ?_⟩
  · rintro i y ys H' C hy ⟨ks, cs, rfl, hl, hk, rfl⟩ gb'
    refine Elt_nil ?_
    refine E_fn F g_law_deal gb' (mk1 (by kernel_rfl)) (mk2 (by kernel_rfl)) rfl ?_
    repeat' contradiction
    refine E_bi F g_len gb' (mk1 (by kernel_rfl)) rfl ?_
    repeat' contradiction
    refine Cn_lenL (le1 hc₁ _ _ (l₁ _ _ hw)) ?_
    repeat' contradiction
    rw [List.length_map]
    refine c_deal' F hpos ?_
    have hlt := deal_lt cs hpos
    refine ⟨ks ++ [(deal cs words.length).1], _, by rw [pl_app], by simp [hl], fun k h => ?_, rfl⟩
    rcases List.mem_append.mp h with h | h
    · exact hk k h
    · rw [List.mem_singleton.mp h]; exact hlt
  · rintro ys H' ⟨ks, cs, rfl, hl, hk, rfl⟩ PA hPA
    rw [nums_length] at hl
    rw [set_out _ hPA]
    have hc₂ := set_out_c (.list (pl ks)) hPA hc₁
    have l₂ := AH.le_trans l₁ (le1 (o := .list (pl ks)) (set_out_n hPA))
    have hPB := AH.set_same B₁ PA (.list (pl ks))
    generalize B₁.set PA (.list (pl ks)) = B₂ at *
    repeat' contradiction
    refine EvV.frame hc₂ ?_
    refine E_fn F g_subset_factor gb (mk1 (by kernel_rfl)) (mk2 (by kernel_rfl)) rfl ?_
    repeat' contradiction
    refine E_fn F g_Vector gb (mk1 (by kernel_rfl)) (mk2 (by kernel_rfl)) rfl ?_
    repeat' contradiction
    refine E_comp (caps := []) (Gs := []) (ρc := []) (fun _ => rfl) (by kernel_rfl) .nil ?_
    repeat' contradiction
    refine Comp_ix (xs := pl ks) (Inv := fun H' => H' PA = some (.list (pl ks))) (pl1 ks) (by simp [pl1, pl]) (It_list hPB) hPB (by rw [pl_length]; unfold lid; omega) (fun i y C hy gb' => ?_) fun D1 hD1 => ?_
    · unfold pl at hy
      rw [List.getElem?_map] at hy
      obtain ⟨k, hk', rfl⟩ := Option.map_eq_some_iff.mp hy
      repeat' contradiction
      refine ⟨?_, rfl⟩
      unfold pl1; rw [List.getElem?_map, hk']; rfl
    repeat' contradiction
    refine c_vec F (.inr ⟨rfl, rfl⟩) trivial (AH.set_same ..) fun x1 H₂ l₃ nw₂ v₂ => ?_
    have l₃ := AH.le_trans (le1 hD1) l₃
    repeat' contradiction
    refine ⟨(by first | exact len_ok rfl | simp [lid]), fun D2 hD2 => ?_⟩
    have l₄ := le1 (o := .list [.ref x1]) hD2
    have l₅ := AH.le_trans l₃ l₄
    repeat' contradiction
    generalize hdr : veq (V.int d) (V.int 1) = drop
    refine c_subset_factor F ((fac.le l₂).le l₅) (AH.set_same ..) (v₂.le l₄) (fun k h => by have := hk k h; omega) (by omega) fun y yit H₃ l₆ nw₃ hf ht => ?_
    have l₆ := AH.le_trans l₅ l₆
    repeat' contradiction
    intro hc₃
    repeat' contradiction
    have hw₃ := l₆ _ _ (l₂ _ _ hw)
    have hn₃ := l₆ _ _ (l₂ _ _ hn)
    have hP₃ := l₆ _ _ hPB
    have l₇ := AH.le_trans l₂ l₆
    refine X_assign (by kernel_rfl) ?_
    refine E_comp (caps := [Str.ofString "words"]) (Gs := []) (ρc := [(Str.ofString "words", some (.ref wa))]) (fun _ => rfl) (by kernel_rfl) (.cons (.tail _ (.tail _ (.head _))) .nil) ?_
    repeat' contradiction
    have hsub : (pl ks).length = ((ks.map fun k => words.getD k none).map ov).length := by simp [pl]
    refine Comp_ix (xs := pl ks) (Inv := fun H' => H' PA = some (.list (pl ks))) ((ks.map fun k => words.getD k none).map ov) hsub.symm (It_list (le1 hc₃ _ _ hP₃)) (le1 hc₃ _ _ hP₃) (by rw [pl_length]; unfold lid; omega) (fun i y C hy gb' => ?_) fun W2 hW2 => ?_
    · unfold pl at hy
      rw [List.getElem?_map] at hy
      obtain ⟨k, hk', rfl⟩ := Option.map_eq_some_iff.mp hy
      have hkl := hk k (List.mem_of_getElem? hk')
      refine E_subL rfl ?_
      repeat' contradiction
      refine ⟨_, _, _, ov (words.getD k none), rfl, rfl, le1 hc₃ _ _ hw₃, by omega, ?_, ?_, rfl⟩
      · rw [Int.toNat_natCast, List.getElem?_map, List.getElem?_eq_getElem hkl, List.getD_eq_getElem?_getD, List.getElem?_eq_getElem hkl]; rfl
      · rw [List.getElem?_map, List.getElem?_map, hk']; rfl
    rw [set_out _ hW2]
    have hc₄ := set_out_c (.list ((ks.map fun k => words.getD k none).map ov)) hW2 hc₃
    have l₈ := le1 (o := .list ((ks.map fun k => words.getD k none).map ov)) (set_out_n hW2)
    have hWB := AH.set_same H₃ W2 (.list ((ks.map fun k => words.getD k none).map ov))
    generalize H₃.set W2 (.list ((ks.map fun k => words.getD k none).map ov)) = B₄ at *
    refine ⟨_, .tail (.tail .head), ?_⟩
    repeat' contradiction
    rw [hdr]
    have hsw := sub_words he ks
    have hwl : (ks.map fun k => words.getD k none).length ≤ 9 := by rw [List.length_map]; omega
    cases drop with
    | false =>
      repeat' contradiction
      exact ⟨rfl, W2, na, y, _, names, cs, B₄, _, _, _, _, _, rfl, rfl, hc₄, AH.le_trans l₇ l₈, hWB, l₈ _ _ hn₃, ⟨_, _, (hf rfl).le l₈, hsw⟩, nd, hwl, hl2⟩
    | true =>
      have ft := (ht rfl)
      repeat' contradiction
      refine X_assign (by kernel_rfl) ?_
      refine E_comp (caps := [Str.ofString "words"]) (Gs := []) (ρc := [(Str.ofString "words", some (.ref W2))]) (fun _ => rfl) (by kernel_rfl) (.cons (.tail _ (.tail _ (.head _))) .nil) ?_
      repeat' contradiction
      have hn₄ := le1 (o := .list (pl cs)) hc₄ _ _ (l₈ _ _ hn₃)
      have hw₄ := le1 (o := .list (pl cs)) hc₄ _ _ hWB
      refine Comp_filter (xs := names.map V.str) (Inv := fun H' => H' na = some (.list (names.map V.str))) (fun v => match v with | .str t => (ks.map fun k => words.getD k none).contains (some t) | _ => false) id (It_list hn₄) hn₄ (by rw [List.length_map]; unfold lid; omega) (fun i y C hy gb' => ?_) fun N2 hN2 => ?_
      · rw [List.getElem?_map] at hy
        obtain ⟨t, ht', rfl⟩ := Option.map_eq_some_iff.mp hy
        repeat' contradiction
        refine B_inL hw₄ rfl (sc_ov _) ?_
        rw [ov_any]
        repeat' contradiction
        refine ⟨rfl, rfl, fun _ => ?_⟩
        repeat' contradiction
        exact ⟨rfl, rfl⟩
      have efl : ((names.map V.str).filter fun v => match v with | .str t => (ks.map fun k => words.getD k none).contains (some t) | _ => false) = (names.filter fun t => (ks.map fun k => words.getD k none).contains (some t)).map V.str := by
        rw [List.filter_map]; rfl
      rw [efl, List.map_id] at *
      rw [set_out _ hN2]
      have hc₅ := set_out_c (.list ((names.filter fun t => (ks.map fun k => words.getD k none).contains (some t)).map V.str)) hN2 hc₄
      have l₉ := le1 (o := .list ((names.filter fun t => (ks.map fun k => words.getD k none).contains (some t)).map V.str)) (set_out_n hN2)
      have hNB := AH.set_same B₄ N2 (.list ((names.filter fun t => (ks.map fun k => words.getD k none).contains (some t)).map V.str))
      generalize B₄.set N2 (.list ((names.filter fun t => (ks.map fun k => words.getD k none).contains (some t)).map V.str)) = B₅ at *
      refine ⟨_, .tail (.tail (.tail .head)), ?_⟩
      repeat' contradiction
      have ok' : ∀ k, some k ∈ ks.map (fun k => codes.getD k none) → 1 ≤ k ∧ k ≤ names.length := fun k hk' => by
        obtain ⟨i, hi, e⟩ := List.mem_map.mp hk'
        have hil := hk i hi
        refine fac.ok k ?_
        rw [← e]; exact getD_mem _ _ (by omega)
      have edn := drop_names nd ok' hsw
      have edw := (drop_words ok').trans hsw
      rw [edn] at ft edw
      refine ⟨rfl, W2, N2, y, _, _, cs, B₅, _, _, _, _, _, rfl, rfl, hc₅, AH.le_trans l₇ (AH.le_trans l₈ l₉), l₉ _ _ hWB, hNB, ⟨_, _, ft.le (AH.le_trans l₈ l₉), edw⟩, List.Pairwise.filter _ nd, hwl, ?_⟩
      exact Nat.le_trans (List.length_filter_le ..) hl2

end
section
variable {prog : Program} {w : World} {S0 : Shared} {K : Frag} {mV : Str → Option Value} {n : Nat} {env : Env} {ρ : Rho} {H : AH} {Q : V → AH → Prop}
theorem EvA.frame {es : List Expr} {pos : Pos} {R : List V → AH → Prop} {B : AH} {x : Addr} {y : O} (hB : B x = none) (h : EvA prog w S0 n env ρ es pos B fun vs B' => B' x = none → R vs (B'.set x y)) : EvA prog w S0 n env ρ es pos (B.set x y) R := Ev.frame hB h
noncomputable def w4 : List (Option Str) := [none, some (Str.ofString "stray"), some (Str.ofString "mid"), some (Str.ofString "p")]
noncomputable def inW (names : List Str) : Option Str → Bool
  | none => false
  | some t => names.contains t
theorem asgW_t {names : List Str} {wo : Option Str} (h : inW names wo = true) : asgW names wo = wo := by
  cases wo with
  | none => rfl
  | some t =>
    have h' : names.contains t = true := h
    show (if names.contains t = true then _ else _) = _; rw [if_pos h']
theorem asgW_f {names : List Str} {wo : Option Str} (h : inW names wo = false) : asgW names wo = none := by
  cases wo with
  | none => rfl
  | some t =>
    have h' : names.contains t = false := h
    show (if names.contains t = true then _ else _) = _; rw [if_neg (by rw [h']; decide)]
theorem str_anyo (names : List Str) (wo : Option Str) : ((names.map V.str).any (veq · (ov wo))) = inW names wo := by
  cases wo with
  | none =>
    show _ = false
    rw [List.any_eq_false]
    intro v hv q
    obtain ⟨t, _, rfl⟩ := List.mem_map.mp hv
    cases q
  | some t => exact str_any names t
theorem set_words {words : List (Option Str)} {k : Nat} (hk : k < words.length) (x : Option Str) : ((words.map ov).take k ++ [ov x]) ++ (words.map ov).drop (k + 1) = (words.set k x).map ov := by
  rw [List.set_eq_take_append_cons_drop, if_pos hk, List.map_append, List.map_take, List.map_cons, List.map_drop, List.append_assoc]; rfl
theorem deed_b {L : Addr} {q : Str} {cd : Value} {a c wa na fa bt : Addr} {words : List (Option Str)} {names : List Str} {o : Bool} {cs : List Nat} {d : Int} {B : AH} {v6 v9 v10 v11 v12 v13 v14 v15 v16 v17 v18 v19 : Option V} (F : Fa prog w S0 K mV) (gb : Glob (lawE L q cd) lawG) (hc : B c = none) (st : Sta B wa na fa words names o) (hne : words ≠ []) :
    Ex prog w S0 (n + 9) (lawE L q cd) [(Str.ofString "script", some (.ref a)), (Str.ofString "cards", some (.ref c)), (Str.ofString "words", some (.ref wa)), (Str.ofString "names", some (.ref na)), (Str.ofString "ordered", some (.bool o)), (Str.ofString "f", some (.ref fa)), (Str.ofString "turn_at", v6), (Str.ofString "deed", some (.int d)), (Str.ofString "before", some (.ref bt)), (Str.ofString "picked", v9), (Str.ofString "later", v10), (Str.ofString "notes", v11), (Str.ofString "at", v12), (Str.ofString "word", v13), (Str.ofString "told", v14), (Str.ofString "parts", v15), (Str.ofString "met", v16), (Str.ofString "name", v17), (Str.ofString "part_x", v18), (Str.ofString "number_at", v19)]
      (execs (ifA chn1) (lawE L q cd)) (B.set c (.list (pl cs))) (Mid a c fa bt o v6 (some (.int d)) v15 v16 v17 v18 v19 B) := by
  obtain ⟨hw, hn, ⟨it, codes, fac, he⟩, nd, hl1, hl2⟩ := st
  have hlen : codes.length = words.length := by rw [← he, List.length_map]
  have hpos : 0 < words.length := List.length_pos_iff.mpr hne
  refine X_cons ?_
  repeat' contradiction
  refine ⟨(by first | exact len_ok rfl | simp [lid]), fun NA hNA => ?_⟩
  rw [set_out _ hNA]
  have hna := set_out_n hNA
  have hc₁ := set_out_c (.list []) hNA hc
  repeat' contradiction
  refine E_fn F g_law_deal gb (mk1 (by kernel_rfl)) (mk2 (by kernel_rfl)) rfl ?_
  repeat' contradiction
  refine E_bi F g_len gb (mk1 (by kernel_rfl)) rfl ?_
  repeat' contradiction
  refine Cn_lenL (le1 hc₁ _ _ (le1 hna _ _ hw)) ?_
  repeat' contradiction
  rw [List.length_map]
  refine c_deal' F hpos ?_
  have hk := deal_lt cs hpos
  generalize (deal cs words.length).1 = k at *
  generalize (deal cs words.length).2 = cs at *
  repeat' contradiction
  refine E_subL rfl ?_
  repeat' contradiction
  refine ⟨(by first | exact len_ok rfl | simp [lid]), fun D hD => ?_⟩
  rw [set_out _ hD, set_out _ (set_out_n hD)]
  have hnD := set_out_n (set_out_n hD)
  have hna₁ := set_out_c (.list (w4.map ov)) (set_out_n hD) hna
  have hc₂ : ((B.set D (.list (w4.map ov))).set NA (.list [])) c = none := by
    rw [← set_out _ (set_out_n hD)]; exact set_out_c _ hD hc₁
  have l₁ := le1 (o := .list (w4.map ov)) hnD
  have hDB : (B.set D (.list [V.none, .str (Str.ofString "stray"), .str (Str.ofString "mid"), .str (Str.ofString "p")])) D = some (.list (w4.map ov)) := AH.set_same ..
  replace hna₁ : (B.set D (.list [V.none, .str (Str.ofString "stray"), .str (Str.ofString "mid"), .str (Str.ofString "p")])) NA = none := hna₁
  replace hc₂ : ((B.set D (.list [V.none, .str (Str.ofString "stray"), .str (Str.ofString "mid"), .str (Str.ofString "p")])).set NA (.list [])) c = none := hc₂
  replace l₁ : B.le (B.set D (.list [V.none, .str (Str.ofString "stray"), .str (Str.ofString "mid"), .str (Str.ofString "p")])) := l₁
  generalize B.set D (.list [V.none, .str (Str.ofString "stray"), .str (Str.ofString "mid"), .str (Str.ofString "p")]) = B₁ at *
  refine E_fn F g_law_deal gb (mk1 (by kernel_rfl)) (mk2 (by kernel_rfl)) rfl ?_
  repeat' contradiction
  refine c_deal' (m := 4) F (by decide) ?_
  have hm4 := deal_lt cs (m := 4) (by decide)
  generalize (deal cs 4).1 = m at *
  generalize (deal cs 4).2 = cs at *
  have hwo : (w4.map ov)[m]? = some (ov (w4.getD m none)) := by
    rcases m with _ | _ | _ | _ | m
    · rfl
    · rfl
    · rfl
    · rfl
    · omega
  refine ⟨D, _, m, ov (w4.getD m none), rfl, rfl, le1 hc₂ _ _ (le1 hna₁ _ _ hDB), by omega, by rw [Int.toNat_natCast]; exact hwo, ?_⟩
  generalize w4.getD m none = wo at *
  repeat' contradiction
  refine EvV.frame hc₂ ?_
  refine E_fn F g_assign_factor gb (mk1 (by kernel_rfl)) (mk2 (by kernel_rfl)) rfl ?_
  refine EvA.frame hna₁ ?_
  repeat' contradiction
  refine E_fn F g_Vector gb (mk1 (by kernel_rfl)) (mk2 (by kernel_rfl)) rfl ?_
  repeat' contradiction
  refine ⟨(by first | exact len_ok rfl | simp [lid]), fun D1 hD1 => ?_⟩
  repeat' contradiction
  refine c_vec F (.inr ⟨rfl, rfl⟩) trivial (AH.set_same ..) fun x1 H₂ l₂ nw₂ v₂ => ?_
  have l₂ := AH.le_trans (le1 hD1) l₂
  repeat' contradiction
  refine ⟨(by first | exact len_ok rfl | simp [lid]), fun D2 hD2 => ?_⟩
  have l₃ := le1 (o := .list [.ref x1]) hD2
  have hil := AH.set_same H₂ D2 (.list [.ref x1])
  have vi := v₂.le l₃
  have l₃ := AH.le_trans l₂ l₃
  generalize H₂.set D2 (.list [.ref x1]) = H₃ at *
  repeat' contradiction
  refine E_fn F g_Vector gb (mk1 (by kernel_rfl)) (mk2 (by kernel_rfl)) rfl ?_
  repeat' contradiction
  refine ⟨(by first | exact len_ok rfl | simp [lid]), fun D3 hD3 => ?_⟩
  repeat' contradiction
  refine c_vec F (.inr ⟨rfl, rfl⟩) trivial (AH.set_same ..) fun x2 H₄ l₄ nw₄ v₄ => ?_
  have l₄ := AH.le_trans (le1 hD3) l₄
  repeat' contradiction
  intro hna₂
  have l₅ := AH.le_trans l₁ (AH.le_trans l₃ l₄)
  refine c_assign_factor F hna₂ (fac.le l₅) (l₄ _ _ hil) (vi.le l₄) v₄ (by omega) fun y yit H₅ l₆ hmsg ff => ?_
  have l₆ := AH.le_trans l₅ l₆
  repeat' contradiction
  intro hc₃
  refine asg (.tail (.tail (.tail (.tail (.tail (.tail (.tail (.tail (.tail (.tail .head)))))))))) (seq_next (X_cons (X_asg rfl (by kernel_rfl) (EvV.frame hc₃ ?_))))
  repeat' contradiction
  refine E_upto (fun _ _ => rfl) ?_
  repeat' contradiction
  refine ⟨wa, _, k, rfl, rfl, l₆ _ _ hw, fun E1 hE1 => ?_⟩
  have m₁ := le1 (o := .list ((words.map ov).take k)) hE1
  refine EvV.mono (Q := fun v H' => ∃ E2, v = .ref E2 ∧ (H₅.set E1 (.list ((words.map ov).take k))) E2 = none ∧ H' = (H₅.set E1 (.list ((words.map ov).take k))).set E2 (.list [ov (asgW names wo)])) ?_ ?_
  · repeat' contradiction
    refine B_inL (m₁ _ _ (l₆ _ _ hn)) (ov_sc wo) (sc_str _) ?_
    rw [str_anyo]
    repeat' contradiction
    refine if_any (fun q' => ?_) fun q' => ?_
    · repeat' contradiction
      refine ⟨(by first | exact len_ok rfl | simp [lid]), fun E2 hE2 => ⟨E2, rfl, hE2, ?_⟩⟩
      rw [asgW_t q']
    · repeat' contradiction
      refine ⟨(by first | exact len_ok rfl | simp [lid]), fun E2 hE2 => ⟨E2, rfl, hE2, ?_⟩⟩
      rw [asgW_f q']; rfl
  rintro v H' ⟨E2, rfl, hE2, rfl⟩
  have hlw : (words.map ov).length = words.length := List.length_map ..
  have htl : ((words.map ov).take k).length ≤ (words.map ov).length := by rw [List.length_take]; omega
  have m₂ := AH.le_trans m₁ (le1 (o := .list [ov (asgW names wo)]) hE2)
  refine B_addL (le1 hE2 _ _ (AH.set_same ..)) (AH.set_same ..) (by simp only [List.length_singleton]; unfold lid; omega) fun E3 hE3 => ?_
  have m₃ := AH.le_trans m₂ (le1 (o := .list ((words.map ov).take k ++ [ov (asgW names wo)])) hE3)
  have hE3B := AH.set_same ((H₅.set E1 (.list ((words.map ov).take k))).set E2 (.list [ov (asgW names wo)])) E3 (.list ((words.map ov).take k ++ [ov (asgW names wo)]))
  generalize ((H₅.set E1 (.list ((words.map ov).take k))).set E2 (.list [ov (asgW names wo)])).set E3 (.list ((words.map ov).take k ++ [ov (asgW names wo)])) = H₆ at *
  refine E_from (fun _ _ => rfl) ?_
  repeat' contradiction
  refine ⟨wa, _, k + 1, rfl, by rw [Int.natCast_add]; rfl, by omega, m₃ _ _ (l₆ _ _ hw), fun E4 hE4 => ?_⟩
  have hdl : ((words.map ov).drop (k + 1)).length ≤ (words.map ov).length := by rw [List.length_drop]; omega
  refine B_addL (le1 hE4 _ _ hE3B) (AH.set_same ..) (by rw [List.length_append, List.length_singleton]; unfold lid; omega) fun E5 hE5 => ?_
  rw [set_words hk]
  have m₄ := AH.le_trans m₃ (AH.le_trans (le1 (o := .list ((words.map ov).drop (k + 1))) hE4) (le1 (o := .list ((words.set k (asgW names wo)).map ov)) hE5))
  have hWB := AH.set_same (H₆.set E4 (.list ((words.map ov).drop (k + 1)))) E5 (.list ((words.set k (asgW names wo)).map ov))
  generalize (H₆.set E4 (.list ((words.map ov).drop (k + 1)))).set E5 (.list ((words.set k (asgW names wo)).map ov)) = H₇ at *
  intro hc₄
  have m₅ := AH.le_trans l₆ m₄
  have hn₇ := m₅ _ _ hn
  refine asg (.tail (.tail .head)) (seq_next (X_cons (X_if (EvT.frame hc₄ (T_cmp rfl (E_name (.tail _ (.tail _ (.tail _ (.tail _ (.tail _ (.tail _ (.tail _ (.tail _ (.tail _ (.tail _ (.tail _ (.head _)))))))))))) ?_))))))
  refine EvV.mono (Q := fun v H' => ∃ E6, v = .ref E6 ∧ H₇.le H' ∧ H' E6 = some (.list (msgs names wo))) ?_ ?_
  · cases wo with
    | none =>
      rw [show ov none = V.none from rfl]
      repeat' contradiction
      exact ⟨(by first | exact len_ok rfl | simp [lid]), fun E6 hE6 => ⟨E6, rfl, le1 hE6, AH.set_same ..⟩⟩
    | some t =>
      rw [show ov (some t) = V.str t from rfl]
      repeat' contradiction
      refine B_notInL hn₇ rfl (sc_str _) ?_
      rw [str_any]
      repeat' contradiction
      refine if_any (fun q' => ?_) fun q' => ?_
      · have hf : names.contains t = false := by simpa using q'
        have e : msgs names (some t) = [.str (Str.ofString "invalid factor level, NA generated")] := by
          show (if names.contains t = true then _ else _) = _
          rw [if_neg (by rw [hf]; decide)]
        rw [e]
        repeat' contradiction
        exact ⟨(by first | exact len_ok rfl | simp [lid]), fun E6 hE6 => ⟨E6, rfl, le1 hE6, AH.set_same ..⟩⟩
      · have hf : names.contains t = true := by simpa using q'
        have e : msgs names (some t) = [] := by
          show (if names.contains t = true then _ else _) = _
          rw [if_pos hf]
        rw [e]
        repeat' contradiction
        exact ⟨(by first | exact len_ok rfl | simp [lid]), fun E6 hE6 => ⟨E6, rfl, le1 hE6, AH.set_same ..⟩⟩
  rintro v H' ⟨E6, rfl, m₆, hE6⟩
  have hms : (msgs names wo).all isSc = true := by
    cases wo with
    | none => rfl
    | some t => show ((if names.contains t = true then _ else _ : List V)).all isSc = true; split <;> rfl
  refine B_neL (m₆ _ _ (m₄ _ _ hmsg)) hE6 hms hms ?_
  rw [veqs_refl _ hms]
  refine ⟨_, rfl, fun hc₅ => ?_⟩
  refine if_by_f rfl ?_
  repeat' contradiction
  exact ⟨rfl, E5, na, y, _, names, cs, H', _, _, _, _, _, rfl, rfl, hc₅, AH.le_trans m₅ m₆, m₆ _ _ hWB, m₆ _ _ hn₇, ⟨_, _, (ff.le m₄).le m₆, asg_words he k wo⟩, nd, by rw [List.length_set]; exact hl1, hl2⟩

end
section
variable {prog : Program} {w : World} {S0 : Shared} {K : Frag} {mV : Str → Option Value} {n : Nat} {env : Env} {ρ : Rho} {H : AH} {Q : V → AH → Prop}
theorem deed_c {L : Addr} {q : Str} {cd : Value} {a c wa na fa bt : Addr} {words : List (Option Str)} {names : List Str} {o : Bool} {cs : List Nat} {d : Int} {B : AH} {v6 v9 v10 v11 v12 v13 v14 v15 v16 v17 v18 v19 : Option V} (F : Fa prog w S0 K mV) (gb : Glob (lawE L q cd) lawG) (hc : B c = none) (st : Sta B wa na fa words names o) :
    Ex prog w S0 (n + 9) (lawE L q cd) [(Str.ofString "script", some (.ref a)), (Str.ofString "cards", some (.ref c)), (Str.ofString "words", some (.ref wa)), (Str.ofString "names", some (.ref na)), (Str.ofString "ordered", some (.bool o)), (Str.ofString "f", some (.ref fa)), (Str.ofString "turn_at", v6), (Str.ofString "deed", some (.int d)), (Str.ofString "before", some (.ref bt)), (Str.ofString "picked", v9), (Str.ofString "later", v10), (Str.ofString "notes", v11), (Str.ofString "at", v12), (Str.ofString "word", v13), (Str.ofString "told", v14), (Str.ofString "parts", v15), (Str.ofString "met", v16), (Str.ofString "name", v17), (Str.ofString "part_x", v18), (Str.ofString "number_at", v19)]
      (execs (ifA chn2) (lawE L q cd)) (B.set c (.list (pl cs))) (Mid a c fa bt o v6 (some (.int d)) v15 v16 v17 v18 v19 B) := by
  obtain ⟨hw, hn, ⟨it, codes, fac, he⟩, nd, hl1, hl2⟩ := st
  refine X_cons (X_asg rfl (by kernel_rfl) (EvV.frame hc ?_))
  refine E_fn F g_drop_levels gb (mk1 (by kernel_rfl)) (mk2 (by kernel_rfl)) rfl ?_
  repeat' contradiction
  refine c_drop_levels F fac fun y yit H₁ l₁ nw ff => ?_
  repeat' contradiction
  intro hc₁
  repeat' contradiction
  refine X_assign (by kernel_rfl) ?_
  refine E_comp (caps := [Str.ofString "words"]) (Gs := []) (ρc := [(Str.ofString "words", some (.ref wa))]) (fun _ => rfl) (by kernel_rfl) (.cons (.tail _ (.tail _ (.head _))) .nil) ?_
  repeat' contradiction
  have hn₄ := le1 (o := .list (pl cs)) hc₁ _ _ (l₁ _ _ hn)
  have hw₄ := le1 (o := .list (pl cs)) hc₁ _ _ (l₁ _ _ hw)
  refine Comp_filter (xs := names.map V.str) (Inv := fun H' => H' na = some (.list (names.map V.str))) (fun v => match v with | .str t => words.contains (some t) | _ => false) id (It_list hn₄) hn₄ (by rw [List.length_map]; unfold lid; omega) (fun i y C hy gb' => ?_) fun N2 hN2 => ?_
  · rw [List.getElem?_map] at hy
    obtain ⟨t, ht', rfl⟩ := Option.map_eq_some_iff.mp hy
    repeat' contradiction
    refine B_inL hw₄ rfl (sc_ov _) ?_
    rw [ov_any]
    repeat' contradiction
    refine ⟨rfl, rfl, fun _ => ?_⟩
    repeat' contradiction
    exact ⟨rfl, rfl⟩
  have efl : ((names.map V.str).filter fun v => match v with | .str t => words.contains (some t) | _ => false) = (names.filter fun t => words.contains (some t)).map V.str := by
    rw [List.filter_map]; rfl
  rw [efl, List.map_id] at *
  rw [set_out _ hN2]
  have hc₅ := set_out_c (.list ((names.filter fun t => words.contains (some t)).map V.str)) hN2 hc₁
  have l₉ := le1 (o := .list ((names.filter fun t => words.contains (some t)).map V.str)) (set_out_n hN2)
  have hNB := AH.set_same H₁ N2 (.list ((names.filter fun t => words.contains (some t)).map V.str))
  generalize H₁.set N2 (.list ((names.filter fun t => words.contains (some t)).map V.str)) = B₅ at *
  refine ⟨_, .tail (.tail (.tail .head)), ?_⟩
  repeat' contradiction
  have edn := drop_names nd fac.ok he
  have edw := (drop_words fac.ok).trans he
  rw [edn] at ff edw
  refine ⟨rfl, wa, N2, y, _, _, cs, B₅, _, _, _, _, _, rfl, rfl, hc₅, AH.le_trans l₁ l₉, l₉ _ _ (l₁ _ _ hw), hNB, ⟨_, _, ff.le l₉, edw⟩, List.Pairwise.filter _ nd, hl1, ?_⟩
  exact Nat.le_trans (List.length_filter_le ..) hl2

noncomputable def t4 : List (Option Str) := [some (Str.ofString "p"), some (Str.ofString "q"), none, some (Str.ofString "mid")]
theorem deed_d {L : Addr} {q : Str} {cd : Value} {a c wa na fa bt : Addr} {words : List (Option Str)} {names : List Str} {o : Bool} {cs : List Nat} {d : Int} {B : AH} {v6 v9 v10 v11 v12 v13 v14 v15 v16 v17 v18 v19 : Option V} (F : Fa prog w S0 K mV) (gb : Glob (lawE L q cd) lawG) (hc : B c = none) (st : Sta B wa na fa words names o) :
    Ex prog w S0 (n + 9) (lawE L q cd) [(Str.ofString "script", some (.ref a)), (Str.ofString "cards", some (.ref c)), (Str.ofString "words", some (.ref wa)), (Str.ofString "names", some (.ref na)), (Str.ofString "ordered", some (.bool o)), (Str.ofString "f", some (.ref fa)), (Str.ofString "turn_at", v6), (Str.ofString "deed", some (.int d)), (Str.ofString "before", some (.ref bt)), (Str.ofString "picked", v9), (Str.ofString "later", v10), (Str.ofString "notes", v11), (Str.ofString "at", v12), (Str.ofString "word", v13), (Str.ofString "told", v14), (Str.ofString "parts", v15), (Str.ofString "met", v16), (Str.ofString "name", v17), (Str.ofString "part_x", v18), (Str.ofString "number_at", v19)]
      (execs (ifE chn2) (lawE L q cd)) (B.set c (.list (pl cs))) (Mid a c fa bt o v6 (some (.int d)) v15 v16 v17 v18 v19 B) := by
  obtain ⟨hw, hn, ⟨it, codes, fac, he⟩, nd, hl1, hl2⟩ := st
  refine X_cons (X_assign (by kernel_rfl) ?_)
  refine E_comp (caps := [Str.ofString "cards"]) (Gs := [Str.ofString "_law_deal"]) (ρc := [(Str.ofString "cards", some (.ref c))]) (fun _ => rfl) (by kernel_rfl) (.cons (.tail _ (.head _)) .nil) ?_
  repeat' contradiction
  refine ⟨names.map V.str, fun H' => H' na = some (.list (names.map V.str)), fun i ys H' => ∃ ts : List (Option Str), ∃ cs : List Nat, ∃ B' : AH, ys = ts.map ov ∧ ts.length = i ∧ H' = B'.set c (.list (pl cs)) ∧ B' c = none ∧ B.le B',
    It_list (le1 hc _ _ hn), by rw [List.length_map]; unfold lid; omega, ⟨[], cs, B, rfl, rfl, rfl, hc, AH.le_refl _⟩, ?_, ?_, ?_⟩
  · rintro i ys H' ⟨ts, cs, B', rfl, hl, rfl, h1, h2⟩
    exact le1 h1 _ _ (h2 _ _ hn)
  · rintro i y ys H' C hy ⟨ts, cs, B', rfl, hl, rfl, h1, h2⟩ gb'
    refine Elt_nil ?_
    refine E_subL rfl ?_
    repeat' contradiction
    refine ⟨(by first | exact len_ok rfl | simp [lid]), fun D hD => ?_⟩
    rw [set_out _ hD]
    have h3 : (B'.set D (.list [.str (Str.ofString "p"), .str (Str.ofString "q"), V.none, .str (Str.ofString "mid")])) c = none := set_out_c _ hD h1
    have h4 := AH.le_trans h2 (le1 (o := .list [.str (Str.ofString "p"), .str (Str.ofString "q"), V.none, .str (Str.ofString "mid")]) (set_out_n hD))
    have hDB : (B'.set D (.list [.str (Str.ofString "p"), .str (Str.ofString "q"), V.none, .str (Str.ofString "mid")])) D = some (.list (t4.map ov)) := AH.set_same ..
    generalize B'.set D (.list [.str (Str.ofString "p"), .str (Str.ofString "q"), V.none, .str (Str.ofString "mid")]) = B' at *
    refine E_fn F g_law_deal gb' (mk1 (by kernel_rfl)) (mk2 (by kernel_rfl)) rfl ?_
    repeat' contradiction
    refine c_deal' (m := 4) F (by decide) ?_
    have hm4 := deal_lt cs (m := 4) (by decide)
    generalize (deal cs 4).1 = m at *
    generalize (deal cs 4).2 = cs at *
    have hwo : (t4.map ov)[m]? = some (ov (t4.getD m none)) := by
      rcases m with _ | _ | _ | _ | m
      · rfl
      · rfl
      · rfl
      · rfl
      · omega
    refine ⟨D, _, m, ov (t4.getD m none), rfl, rfl, le1 h3 _ _ hDB, by omega, by rw [Int.toNat_natCast]; exact hwo, ?_⟩
    exact ⟨ts ++ [t4.getD m none], cs, B', by rw [List.map_append]; rfl, by simp [hl], rfl, h3, h4⟩
  · rintro ys H' ⟨ts, cs, B', rfl, hl, rfl, h1, h2⟩ TA hTA
    rw [List.length_map] at hl
    rw [set_out _ hTA]
    have h3 := set_out_c (.list (ts.map ov)) hTA h1
    have h4 := AH.le_trans h2 (le1 (o := .list (ts.map ov)) (set_out_n hTA))
    have hTB := AH.set_same B' TA (.list (ts.map ov))
    generalize B'.set TA (.list (ts.map ov)) = B₁ at *
    refine ⟨_, .tail (.tail (.tail (.tail (.tail (.tail (.tail (.tail (.tail (.tail (.tail (.tail (.tail (.tail .head))))))))))))), ?_⟩
    refine seq_next (X_cons (X_asg rfl (by kernel_rfl) (EvV.frame h3 ?_)))
    refine E_fn F g_relevelled gb (mk1 (by kernel_rfl)) (mk2 (by kernel_rfl)) rfl ?_
    repeat' contradiction
    refine c_relevelled F (fac.le h4) hTB hl fun y yit H₁ l₁ nw ff => ?_
    repeat' contradiction
    intro hc₁
    repeat' contradiction
    have l₂ := AH.le_trans h4 l₁
    have hw₁ := l₂ _ _ hw
    have hn₁ := l₂ _ _ hn
    have ht₁ := l₁ _ _ hTB
    refine X_assign (by kernel_rfl) ?_
    refine E_comp (caps := [Str.ofString "names", Str.ofString "told"]) (Gs := []) (ρc := [(Str.ofString "names", some (.ref na)), (Str.ofString "told", some (.ref TA))]) (fun _ => rfl) (by kernel_rfl) ⟨rfl, fun p hp => ?_⟩ ?_
    · rcases List.mem_cons.mp hp with rfl | hp
      · exact .tail _ (.tail _ (.tail _ (.head _)))
      · rw [List.mem_singleton.mp hp]; exact .tail _ (.tail _ (.tail _ (.tail _ (.tail _ (.tail _ (.tail _ (.tail _ (.tail _ (.tail _ (.tail _ (.tail _ (.tail _ (.tail _ (.head _))))))))))))))
    repeat' contradiction
    have hw₂ := le1 (o := .list (pl cs)) hc₁ _ _ hw₁
    have hn₂ := le1 (o := .list (pl cs)) hc₁ _ _ hn₁
    have ht₂ := le1 (o := .list (pl cs)) hc₁ _ _ ht₁
    refine Comp_ix (xs := words.map ov) (Inv := fun H' => H' wa = some (.list (words.map ov))) ((words.map (relW names ts)).map ov) (by simp) (It_list hw₂) hw₂ (by rw [List.length_map]; unfold lid; omega) (fun i y C hy gb' => ?_) fun W2 hW2 => ?_
    · obtain ⟨wo, hwo, rfl⟩ := ov_get hy
      have hr : ((words.map (relW names ts)).map ov)[i]? = some (ov (relW names ts wo)) := by rw [List.getElem?_map, List.getElem?_map, hwo]; rfl
      rw [hr]
      cases wo with
      | none =>
        rw [show ov none = V.none from rfl]
        repeat' contradiction
        exact ⟨rfl, rfl⟩
      | some t =>
        have hmem : t ∈ names := by
          have := List.mem_of_getElem? hwo
          rw [← he] at this
          obtain ⟨k, hk, e⟩ := List.mem_map.mp this
          cases k with
          | none => cases e
          | some k => exact List.mem_of_getElem? (show names[k - 1]? = some t from e)
        have hix := List.idxOf_lt_length_of_mem hmem
        rw [show ov (some t) = V.str t from rfl]
        repeat' contradiction
        refine E_subL rfl ?_
        repeat' contradiction
        refine E_index rfl rfl rfl ?_
        repeat' contradiction
        refine ⟨na, _, rfl, hn₂, ?_⟩
        repeat' contradiction
        refine ⟨names.idxOf t, hn₂, rfl, sc_str _, ?_, by simp [veq], fun j y hj hy' => ?_, ?_⟩
        · rw [List.getElem?_map, List.getElem?_eq_getElem hix, List.getElem_idxOf]; rfl
        · rw [List.getElem?_map] at hy'
          obtain ⟨u, hu, rfl⟩ := Option.map_eq_some_iff.mp hy'
          have hne : u ≠ t := by
            rintro rfl
            have := idxOf_nd nd hu
            omega
          show (u == t) = false
          exact beq_eq_false_iff_ne.mpr hne
        · refine ⟨TA, _, _, ov (relW names ts (some t)), rfl, rfl, ht₂, by omega, ?_, rfl, rfl⟩
          have hlt : names.idxOf t < ts.length := by omega
          rw [Int.toNat_natCast, List.getElem?_map, List.getElem?_eq_getElem hlt]
          show some (ov _) = some (ov (ts.getD (names.idxOf t) none))
          rw [List.getD_eq_getElem?_getD, List.getElem?_eq_getElem hlt]; rfl
    rw [set_out _ hW2]
    have hc₂ := set_out_c (.list ((words.map (relW names ts)).map ov)) hW2 hc₁
    have l₃ := le1 (o := .list ((words.map (relW names ts)).map ov)) (set_out_n hW2)
    have hWB := AH.set_same H₁ W2 (.list ((words.map (relW names ts)).map ov))
    generalize H₁.set W2 (.list ((words.map (relW names ts)).map ov)) = B₂ at *
    refine ⟨_, .tail (.tail .head), ?_⟩
    refine seq_next (X_cons (X_asg rfl (by kernel_rfl) (EvV.frame hc₂ ?_)))
    refine E_fn F g_law_first_come gb (mk1 (by kernel_rfl)) (mk2 (by kernel_rfl)) rfl ?_
    repeat' contradiction
    refine c_first_come F (l₃ _ _ ht₁) (by omega) fun N2 hN2 => ?_
    repeat' contradiction
    intro hc₃
    repeat' contradiction
    have l₄ := le1 (o := .list ((dk ts).map V.str)) hN2
    have hdl := dk_length ts
    refine ⟨rfl, W2, N2, y, _, _, cs, _, _, _, _, _, _, rfl, rfl, hc₃, AH.le_trans l₂ (AH.le_trans l₃ l₄), l₄ _ _ hWB, AH.set_same .., ⟨_, _, ff.le (AH.le_trans l₃ l₄), rel_words nd fac.ok he hl⟩, dk_nodup ts, by rw [List.length_map]; exact hl1, by omega⟩

end
section
variable {prog : Program} {w : World} {S0 : Shared} {K : Frag} {mV : Str → Option Value} {n : Nat} {env : Env} {ρ : Rho} {H : AH} {Q : V → AH → Prop}
theorem Mid.le {a c fa bt : Addr} {o : Bool} {v6 v7 v15 v16 v17 v18 v19 : Option V} {B B' : AH} {fl : Flow} {ρ' : Rho} {H' : AH} (m : Mid a c fa bt o v6 v7 v15 v16 v17 v18 v19 B' fl ρ' H') (l : B.le B') : Mid a c fa bt o v6 v7 v15 v16 v17 v18 v19 B fl ρ' H' := by
  obtain ⟨e, wa, na, la, words, names, cs, B₁, v9, v11, v12, v13, v14, e1, e2, e3, e4, e5⟩ := m
  exact ⟨e, wa, na, la, words, names, cs, B₁, v9, v11, v12, v13, v14, e1, e2, e3, AH.le_trans l e4, e5⟩
theorem Ex.one {s : Stmt} {a c fa bt : Addr} {o : Bool} {v6 v7 v15 v16 v17 v18 v19 : Option V} {B : AH} (h : Ex prog w S0 n env ρ (exec s env) H (Mid a c fa bt o v6 v7 v15 v16 v17 v18 v19 B)) : Ex prog w S0 n env ρ (execs [s] env) H (Mid a c fa bt o v6 v7 v15 v16 v17 v18 v19 B) :=
  X_cons (h.mono fun fl ρ' H' ⟨e, r⟩ => by subst e; exact X_nil ⟨rfl, r⟩)
theorem ne_words (words : List (Option Str)) : (!veqs (words.map ov) []) = !words.isEmpty := by cases words <;> rfl
theorem chain2 {L : Addr} {q : Str} {cd : Value} {a c wa na fa bt : Addr} {words : List (Option Str)} {names : List Str} {o : Bool} {cs : List Nat} {d : Int} {B : AH} {v6 v9 v10 v11 v12 v13 v14 v15 v16 v17 v18 v19 : Option V} (F : Fa prog w S0 K mV) (gb : Glob (lawE L q cd) lawG) (hc : B c = none) (st : Sta B wa na fa words names o) :
    Ex prog w S0 (n + 9) (lawE L q cd) [(Str.ofString "script", some (.ref a)), (Str.ofString "cards", some (.ref c)), (Str.ofString "words", some (.ref wa)), (Str.ofString "names", some (.ref na)), (Str.ofString "ordered", some (.bool o)), (Str.ofString "f", some (.ref fa)), (Str.ofString "turn_at", v6), (Str.ofString "deed", some (.int d)), (Str.ofString "before", some (.ref bt)), (Str.ofString "picked", v9), (Str.ofString "later", v10), (Str.ofString "notes", v11), (Str.ofString "at", v12), (Str.ofString "word", v13), (Str.ofString "told", v14), (Str.ofString "parts", v15), (Str.ofString "met", v16), (Str.ofString "name", v17), (Str.ofString "part_x", v18), (Str.ofString "number_at", v19)]
      (exec chn2 (lawE L q cd)) (B.set c (.list (pl cs))) (Mid a c fa bt o v6 (some (.int d)) v15 v16 v17 v18 v19 B) := by
  refine X_if ?_
  repeat' contradiction
  refine if_any (fun q => ?_) fun q => ?_
  · exact deed_c F gb hc st
  · exact deed_d F gb hc st
theorem chain1 {L : Addr} {q : Str} {cd : Value} {a c wa na fa bt : Addr} {words : List (Option Str)} {names : List Str} {o : Bool} {cs : List Nat} {d : Int} {B : AH} {v6 v9 v10 v11 v12 v13 v14 v15 v16 v17 v18 v19 : Option V} (F : Fa prog w S0 K mV) (gb : Glob (lawE L q cd) lawG) (hc : B c = none) (st : Sta B wa na fa words names o) :
    Ex prog w S0 (n + 9) (lawE L q cd) [(Str.ofString "script", some (.ref a)), (Str.ofString "cards", some (.ref c)), (Str.ofString "words", some (.ref wa)), (Str.ofString "names", some (.ref na)), (Str.ofString "ordered", some (.bool o)), (Str.ofString "f", some (.ref fa)), (Str.ofString "turn_at", v6), (Str.ofString "deed", some (.int d)), (Str.ofString "before", some (.ref bt)), (Str.ofString "picked", v9), (Str.ofString "later", v10), (Str.ofString "notes", v11), (Str.ofString "at", v12), (Str.ofString "word", v13), (Str.ofString "told", v14), (Str.ofString "parts", v15), (Str.ofString "met", v16), (Str.ofString "name", v17), (Str.ofString "part_x", v18), (Str.ofString "number_at", v19)]
      (exec chn1 (lawE L q cd)) (B.set c (.list (pl cs))) (Mid a c fa bt o v6 (some (.int d)) v15 v16 v17 v18 v19 B) := by
  refine X_if ?_
  repeat' contradiction
  refine if_any (fun q => ?_) fun q => ?_
  · repeat' contradiction
    refine ⟨(by first | exact len_ok rfl | simp [lid]), fun D hD => ?_⟩
    repeat' contradiction
    refine B_neL (le1 hD _ _ (le1 hc _ _ st.w)) (AH.set_same ..) (sc_ov _) rfl ?_
    rw [set_out _ hD, ne_words]
    have hc₁ := set_out_c (.list []) hD hc
    have l₁ := le1 (o := .list []) (set_out_n hD)
    have st₁ := st.le l₁
    repeat' contradiction
    refine if_any (fun q => ?_) fun q => ?_
    · refine T_and_nil (if_t ?_)
      exact (deed_b F gb hc₁ st₁ (by rintro rfl; cases q)).mono fun _ _ _ m => m.le l₁
    · refine if_f ?_
      exact (chain2 F gb hc₁ st₁).one.mono fun _ _ _ m => m.le l₁
  · refine if_f ?_
    exact (chain2 F gb hc st).one
theorem chain0 {L : Addr} {q : Str} {cd : Value} {a c wa na fa bt : Addr} {words : List (Option Str)} {names : List Str} {o : Bool} {cs : List Nat} {d : Int} {B : AH} {v6 v9 v10 v11 v12 v13 v14 v15 v16 v17 v18 v19 : Option V} (F : Fa prog w S0 K mV) (gb : Glob (lawE L q cd) lawG) (hc : B c = none) (st : Sta B wa na fa words names o) :
    Ex prog w S0 (n + 9) (lawE L q cd) [(Str.ofString "script", some (.ref a)), (Str.ofString "cards", some (.ref c)), (Str.ofString "words", some (.ref wa)), (Str.ofString "names", some (.ref na)), (Str.ofString "ordered", some (.bool o)), (Str.ofString "f", some (.ref fa)), (Str.ofString "turn_at", v6), (Str.ofString "deed", some (.int d)), (Str.ofString "before", some (.ref bt)), (Str.ofString "picked", v9), (Str.ofString "later", v10), (Str.ofString "notes", v11), (Str.ofString "at", v12), (Str.ofString "word", v13), (Str.ofString "told", v14), (Str.ofString "parts", v15), (Str.ofString "met", v16), (Str.ofString "name", v17), (Str.ofString "part_x", v18), (Str.ofString "number_at", v19)]
      (exec chn0 (lawE L q cd)) (B.set c (.list (pl cs))) (Mid a c fa bt o v6 (some (.int d)) v15 v16 v17 v18 v19 B) := by
  refine X_if ?_
  repeat' contradiction
  refine if_any (fun q => ?_) fun q => ?_
  · repeat' contradiction
    refine ⟨(by first | exact len_ok rfl | simp [lid]), fun D hD => ?_⟩
    repeat' contradiction
    refine B_neL (le1 hD _ _ (le1 hc _ _ st.w)) (AH.set_same ..) (sc_ov _) rfl ?_
    rw [set_out _ hD, ne_words]
    have hc₁ := set_out_c (.list []) hD hc
    have l₁ := le1 (o := .list []) (set_out_n hD)
    have st₁ := st.le l₁
    repeat' contradiction
    refine if_any (fun q => ?_) fun q => ?_
    · refine T_and_nil (if_t ?_)
      exact (deed_a F gb hc₁ st₁ (by rintro rfl; cases q)).mono fun _ _ _ m => m.le l₁
    · refine if_f ?_
      exact (chain1 F gb hc₁ st₁).one.mono fun _ _ _ m => m.le l₁
  · refine if_f ?_
    exact (chain1 F gb hc st).one
/-- what stands before a turn -/
def Bef (a c : Addr) (o : Bool) (v15 v16 v17 v18 v19 : Option V) (ρ' : Rho) (H' : AH) : Prop := ∃ (wa na fa : Addr) (words : List (Option Str)) (names : List Str) (cs : List Nat) (B : AH) (v6 v7 v8 v9 v10 v11 v12 v13 v14 : Option V),
  ρ' = [(Str.ofString "script", some (.ref a)), (Str.ofString "cards", some (.ref c)), (Str.ofString "words", some (.ref wa)), (Str.ofString "names", some (.ref na)), (Str.ofString "ordered", some (.bool o)), (Str.ofString "f", some (.ref fa)), (Str.ofString "turn_at", v6), (Str.ofString "deed", v7), (Str.ofString "before", v8), (Str.ofString "picked", v9), (Str.ofString "later", v10), (Str.ofString "notes", v11), (Str.ofString "at", v12), (Str.ofString "word", v13), (Str.ofString "told", v14), (Str.ofString "parts", v15), (Str.ofString "met", v16), (Str.ofString "name", v17), (Str.ofString "part_x", v18), (Str.ofString "number_at", v19)] ∧ H' = B.set c (.list (pl cs)) ∧ B c = none ∧ Sta B wa na fa words names o
theorem law_turn {L : Addr} {q : Str} {cd : Value} {a c wa na fa : Addr} {words : List (Option Str)} {names : List Str} {o : Bool} {cs : List Nat} {B : AH} {v6 v7 v8 v9 v10 v11 v12 v13 v14 v15 v16 v17 v18 v19 : Option V} {P : Flow → Rho → AH → Prop} (F : Fa prog w S0 K mV) (gb : Glob (lawE L q cd) lawG) (hc : B c = none) (st : Sta B wa na fa words names o)
    (h : ∀ ρ' H', Bef a c o v15 v16 v17 v18 v19 ρ' H' → P .next ρ' H') :
    Ex prog w S0 (n + 9) (lawE L q cd) [(Str.ofString "script", some (.ref a)), (Str.ofString "cards", some (.ref c)), (Str.ofString "words", some (.ref wa)), (Str.ofString "names", some (.ref na)), (Str.ofString "ordered", some (.bool o)), (Str.ofString "f", some (.ref fa)), (Str.ofString "turn_at", v6), (Str.ofString "deed", v7), (Str.ofString "before", v8), (Str.ofString "picked", v9), (Str.ofString "later", v10), (Str.ofString "notes", v11), (Str.ofString "at", v12), (Str.ofString "word", v13), (Str.ofString "told", v14), (Str.ofString "parts", v15), (Str.ofString "met", v16), (Str.ofString "name", v17), (Str.ofString "part_x", v18), (Str.ofString "number_at", v19)]
      (execs turnB (lawE L q cd)) (B.set c (.list (pl cs))) P := by
  refine X_cons ?_
  repeat' contradiction
  refine E_fn F g_law_deal gb (mk1 (by kernel_rfl)) (mk2 (by kernel_rfl)) rfl ?_
  repeat' contradiction
  refine c_deal' (m := 5) F (by decide) ?_
  generalize ((deal cs 5).1 : Int) = d at *
  generalize (deal cs 5).2 = cs at *
  refine asg (.tail (.tail (.tail (.tail (.tail (.tail (.tail .head))))))) (seq_next (X_cons (X_asg rfl (by kernel_rfl) (EvV.frame hc ?_))))
  repeat' contradiction
  refine E_ty F g_list gb (mk1 (by kernel_rfl)) rfl ?_
  repeat' contradiction
  refine Cn_listL st.w fun D1 hD1 => ?_
  repeat' contradiction
  have l₁ := le1 (o := .list (words.map ov)) hD1
  refine E_ty F g_list gb (mk1 (by kernel_rfl)) rfl ?_
  repeat' contradiction
  refine Cn_listL (l₁ _ _ st.n) fun D2 hD2 => ?_
  have l₂ := le1 (o := .list (names.map V.str)) hD2
  have hD1B := l₂ _ _ (AH.set_same B D1 (.list (words.map ov)))
  have hD2B := AH.set_same (B.set D1 (.list (words.map ov))) D2 (.list (names.map V.str))
  have l₂ := AH.le_trans l₁ l₂
  generalize (B.set D1 (.list (words.map ov))).set D2 (.list (names.map V.str)) = B₁ at *
  repeat' contradiction
  refine ⟨(by first | exact len_ok rfl | simp [lid]), fun T hT => ?_⟩
  have l₃ := le1 (o := .tup [.ref D1, .ref D2]) hT
  have hTB := AH.set_same B₁ T (.tup [.ref D1, .ref D2])
  have hD1B := l₃ _ _ hD1B
  have hD2B := l₃ _ _ hD2B
  have l₃ := AH.le_trans l₂ l₃
  generalize B₁.set T (.tup [.ref D1, .ref D2]) = B₂ at *
  intro hc₂
  have st₂ := st.le l₃
  refine asg (.tail (.tail (.tail (.tail (.tail (.tail (.tail (.tail .head)))))))) (seq_next (X_cons (Ex.mono (chain0 F gb hc₂ st₂) ?_)))
  rintro fl ρ' H' ⟨rfl, wa', na', la, words', names', cs', B', v9, v11, v12, v13, v14, rfl, rfl, hc₃, l₄, st'⟩
  obtain ⟨it, codes, fac, he⟩ := st₂.f
  obtain ⟨it', codes', fac', he'⟩ := st'.f
  refine seq_next (X_cons (X_if (EvT.frame hc₃ ?_)))
  repeat' contradiction
  refine E_fn F g_law_agrees gb (mk1 (by kernel_rfl)) (mk2 (by kernel_rfl)) rfl ?_
  repeat' contradiction
  refine c_agrees F fac' st'.w st'.n he' ?_
  repeat' contradiction
  refine if_by_f rfl ?_
  repeat' contradiction
  refine E_fn F g_law_agrees gb (mk1 (by kernel_rfl)) (mk2 (by kernel_rfl)) rfl ?_
  repeat' contradiction
  refine E_subT rfl ?_
  repeat' contradiction
  refine ⟨T, _, 0, .ref D1, rfl, rfl, l₄ _ _ hTB, by decide, rfl, ?_⟩
  repeat' contradiction
  refine E_subT rfl ?_
  repeat' contradiction
  refine ⟨T, _, 1, .ref D2, rfl, rfl, l₄ _ _ hTB, by decide, rfl, ?_⟩
  repeat' contradiction
  refine c_agrees F (fac.le l₄) (l₄ _ _ hD1B) (l₄ _ _ hD2B) he ?_
  repeat' contradiction
  refine if_by_f rfl ?_
  repeat' contradiction
  intro _
  repeat' contradiction
  exact h _ _ ⟨wa', na', la, words', names', cs', B', _, _, _, _, _, _, _, _, _, rfl, rfl, hc₃, st'⟩
theorem c_law {a : Addr} {vs : Array Value} {ns : List Int} (F : Fa prog w S0 K mV) (ha : S0.heap.IsList a vs) (hs : vs.size ≤ lid) (hv : vs.toList.map abs = ns.map V.int) (h : ∀ H', Q (.bool true) H') : Cn prog w S0 (n + 10) (.ref 1151) [.ref a] H Q := by
  refine e_law F fun L q cd gb => ?_
  refine law_start (B := H) F gb ha hs hv fun c wa na fa words names o cs B hc st => ?_
  refine X_for (fun _ => rfl) ?_
  refine E_ty F g_range gb (mk1 (by kernel_rfl)) rfl ?_
  repeat' contradiction
  refine E_fn F g_law_deal gb (mk1 (by kernel_rfl)) (mk2 (by kernel_rfl)) rfl ?_
  repeat' contradiction
  refine c_deal' (m := 7) F (by decide) ?_
  have hm := deal_lt cs (m := 7) (by decide)
  generalize (deal cs 7).1 = m at *
  generalize (deal cs 7).2 = cs at *
  repeat' contradiction
  refine Cn_range fun R hR => ?_
  rw [set_out _ hR]
  have hc₁ := set_out_c (.rng (m : Nat)) hR hc
  have st₁ := st.le (le1 (o := .rng (m : Nat)) (set_out_n hR))
  have hRB := AH.set_same B R (.rng (m : Nat))
  generalize B.set R (.rng (m : Nat)) = B₁ at *
  refine ⟨nums m, fun _ => True, fun i ρ' H' => Bef a c o none none none none none ρ' H', It_rng (le1 hc₁ _ _ hRB) (by unfold lid; omega), ⟨wa, na, fa, words, names, cs, B₁, _, _, _, _, _, _, _, _, _, rfl, rfl, hc₁, st₁⟩, fun _ _ _ _ => trivial, ?_, ?_⟩
  · rintro i y ρ' H' hy ⟨wa, na, fa, words, names, cs, B, v6, v7, v8, v9, v10, v11, v12, v13, v14, rfl, rfl, hc, st⟩
    exact ⟨_, .tail (.tail (.tail (.tail (.tail (.tail .head))))), law_turn F gb hc st fun ρ' H' b => b⟩
  · rintro ρ' H' ⟨wa, na, fa, words, names, cs, B, v6, v7, v8, v9, v10, v11, v12, v13, v14, rfl, rfl, hc, st⟩
    refine seq_next (law_end F gb hc st fun u ρ' H' hu => ?_)
    show Q (abs u) H'
    rw [hu]; exact h H'

end
end
section
set_option maxRecDepth 100000
set_option maxHeartbeats 4000000
theorem map_all {α β : Type} {l : List α} {f g : α → β} (e : l.map f = l.map g) : ∀ x ∈ l, f x = g x := by
  induction l with
  | nil => intro x hx; cases hx
  | cons a r ih =>
    rw [List.map_cons, List.map_cons] at e
    injection e with e1 e2
    intro x hx
    rcases List.mem_cons.mp hx with rfl | hx
    · exact e1
    · exact ih e2 x hx
theorem tl_kind : typeLookup (.type "object") (Str.ofString "kind") = pure none := by rw [typeLookup_type, builtinLookup_eq_fast]; kernel_rfl
theorem tl_items : typeLookup (.type "object") (Str.ofString "items") = pure none := by rw [typeLookup_type, builtinLookup_eq_fast]; kernel_rfl
theorem tl_attrs : typeLookup (.type "object") (Str.ofString "attrs") = pure none := by rw [typeLookup_type, builtinLookup_eq_fast]; kernel_rfl
theorem tl_shared : typeLookup (.type "object") (Str.ofString "shared") = pure none := by rw [typeLookup_type, builtinLookup_eq_fast]; kernel_rfl
theorem tl_loose : typeLookup (.type "object") (Str.ofString "loose") = pure none := by rw [typeLookup_type, builtinLookup_eq_fast]; kernel_rfl
theorem tl_copy : typeLookup (.type "object") (Str.ofString "copy") = pure none := by rw [typeLookup_type, builtinLookup_eq_fast]; kernel_rfl
theorem GG_name : GG.all (fun p => p.1 != Str.ofString "__name__") = true := by kernel_rfl
theorem six {l : List (Option Value)} {v : Option Value} (h1 : l.length = 6) (h2 : l[4]? = some v) : ∃ a b c d e, l = [a, b, c, d, v, e] := by
  obtain ⟨a, l0, e0, g0⟩ := len_s h1
  subst e0
  obtain ⟨b, l1, e1, g1⟩ := len_s g0
  subst e1
  obtain ⟨c, l2, e2, g2⟩ := len_s g1
  subst e2
  obtain ⟨d, l3, e3, g3⟩ := len_s g2
  subst e3
  obtain ⟨x, l4, e4, g4⟩ := len_s g3
  subst e4
  obtain ⟨e, l5, e5, g5⟩ := len_s g4
  subst e5
  have eE := List.eq_nil_of_length_eq_zero g5
  subst eE
  have q : x = v := Option.some.inj h2
  exact ⟨a, b, c, d, e, by rw [q]⟩
theorem cls_of {K : Frag} {h : Heap} (X : K.In h) (e : lookC K = wantC) : ∃ nm q bs sn sub col dd k0 k1 k2 k3 k5, h.get? 311 = some (excClassObj nm q 311 310 bs [.type "object"] true sn sub false col dd k0 k1 k2 k3 k5 "object.__new__") := by
  unfold lookC wantC at e
  split at e
  · rename_i o ho
    have hg := X 311 o ho
    split at e
    · rename_i c hd
      simp only [Option.some.injEq, Prod.mk.injEq] at e
      obtain ⟨e1, e2, e3, e4, e5, e6, e7, e8⟩ := e
      obtain ⟨a, b, c', d, f, hs⟩ := six e7 e8
      obtain ⟨oc, od, odata, oslots⟩ := o
      obtain ⟨sl⟩ := oslots
      obtain ⟨cn, cb, cm, cns, cq, ch, csn, csub, cab, ccol, cdel⟩ := c
      simp only at e1 e2 e3 e4 e5 e6 hd hs
      subst e1 e2 e3 e4 e5 e6 hd hs
      exact ⟨cn, cq, cb, csn, csub, ccol, od, a, b, c', d, f, hg⟩
    · cases e
  · cases e
theorem Fa_of {prog : Program} {w : World} {S0 : Shared} {K : Frag} {mb : Str → Option Value} (X : K.In S0.heap) (o1 : obs1 K = want1 prog2) (o2 : obs2 K = want2) (hl : S0.heap.NoLimit) (hm : (S0.heap.get? sysModules).isSome = true) (hb : S0.heap.Ns builtinsNs mb) (hbb : ∀ x : Str, x ≠ Str.ofString "__name__" → mb x = bootBuiltins x) : Fa prog w S0 K (lookN K 310) := by
  rw [← pw_eq] at o1
  unfold obs1 want1 at o1
  unfold obs2 want2 at o2
  simp only [Prod.mk.injEq] at o1 o2
  obtain ⟨f1, f2, f3, f4⟩ := o1
  obtain ⟨g1, g2, g3, g4, g5, g6⟩ := o2
  obtain ⟨g2, hk⟩ := Bool.and_eq_true_iff.mp g2
  obtain ⟨hC, hM⟩ := Bool.and_eq_true_iff.mp g2
  exact {
    B := ⟨X, hl, hm, _, mb, ns_of X hM, hb, fun x v hx => by
      have e := map_all g6 (x, v) hx
      have hn := List.all_eq_true.mp GG_name (x, v) hx
      have hn' : x ≠ Str.ofString "__name__" := by simpa using hn
      unfold globOf at e
      split at e
      · rename_i u hu; exact .inl ⟨u, hu, Option.some.inj e⟩
      · rename_i hu
        obtain ⟨u, hu', e'⟩ := Option.map_eq_some_iff.mp e
        exact .inr ⟨hu, u, (hbb x hn').trans hu', e'⟩⟩
    fn := fun p hp => Fn_of X (map_all f1 p hp)
    fnD := fun p hp => Fn_ofD X (map_all f2 p hp)
    init := Fn_ofD X f3
    copy := Fn_of X f4
    cls := ⟨⟨cls_of X g1, ns_of X hC⟩, map_all g3 _ (.tail _ (.tail _ (.tail _ (.tail _ (.tail _ (.head _)))))), map_all g3 _ (.tail _ (.tail _ (.tail _ (.tail _ (.tail _ (.tail _ (.head _))))))), map_all g3 _ (.tail _ (.tail _ (.tail _ (.tail _ (.tail _ (.tail _ (.tail _ (.head _))))))))⟩
    free := fun y hy => ⟨map_all g3 y (List.mem_append_left [_, _, _] hy), by
      simp only [List.mem_cons, List.not_mem_nil, or_false] at hy
      rcases hy with rfl | rfl | rfl | rfl | rfl
      · exact tl_kind
      · exact tl_items
      · exact tl_attrs
      · exact tl_shared
      · exact tl_loose⟩
    mInit := g4
    mCopy := g5
    oCopy := tl_copy
    isi := by simp [isIn]
    keep := fun a ha => List.all_eq_true.mp hk a ha }
theorem glob_law {K : Frag} {h : Heap} {mg : Str → Option Value} {fa : Addr} (X : K.In h) (o2 : obs2 K = want2) (hg : h.Ns mainGlobals mg) (hm : mg (Str.ofString "law") = some (.ref fa)) : fa = 1151 := by
  unfold obs2 want2 at o2
  simp only [Prod.mk.injEq] at o2
  obtain ⟨g1, g2, g3, g4, g5, g6⟩ := o2
  obtain ⟨g2, hk⟩ := Bool.and_eq_true_iff.mp g2
  obtain ⟨hC, hM⟩ := Bool.and_eq_true_iff.mp g2
  obtain ⟨o1, es1, ep1, h1, e1, _, q1⟩ := ns_of X hM
  obtain ⟨o2, es2, ep2, h2, e2, _, q2⟩ := hg
  rw [h1] at h2
  obtain rfl := Option.some.inj h2
  rw [e1] at e2
  injection e2 with e3 _
  subst e3
  have e4 := q1 (Str.ofString "law")
  rw [q2, hm] at e4
  have e5 := map_all g6 (Str.ofString "law", .ref 1151) g_law
  unfold globOf at e5
  rw [← e4] at e5
  have e6 : V.ref fa = V.ref 1151 := Option.some.inj e5
  injection e6

theorem law_fin {w : World} {s₁ : Shared} {cl : Str → Option Addr} {mean : ExcName → Option Value} {K : Frag} {mV : Str → Option Value} {l : Addr} {vl : List Value} {ns : List Int} (F : Fa law2.row.prog w s₁ K mV) (hL : s₁.heap.IsList l vl.toArray) (hI : IntsAre vl ns) (h63 : ns.length ≤ 63) (hg : s₁.gens = #[]) :
    wpAny (model law2.row.prog w) callerA ((fun f vs => call f vs) (Value.ref 1151) [Value.ref l])
      (fun v s' => GoodWG law2.row.claim cl mean [ofPy (PyData.list (ns.map PyData.int))] s₁ (Except.ok (Flow.ret v)) s')
      (fun e s' => GoodWG law2.row.claim cl mean [ofPy (PyData.list (ns.map PyData.int))] s₁ (Except.error e) s') s₁ := by
  have hlen : vl.length = ns.length := hI.length
  have hc := c_law (n := 0) (H := fun _ => none) (Q := fun v _ => v = .bool true) F hL (by show vl.length ≤ lid; unfold lid; omega) (ints_abs hI) (fun _ => rfl)
  have st : St law2.row.prog w s₁ s₁.heap.get? (fun _ => none) s₁ := ⟨⟨s₁.heap, s₁.toks, rfl⟩, fun _ _ e => e, fun _ _ e => e, fun a o e => by cases e⟩
  refine wpAny_mono ((hc [.ref l] rfl).run callerA _ s₁ ⟨by decide, by decide, rfl⟩ st) (fun v s' ⟨H', st', hv⟩ => ?_) (fun _ _ e => e.elim)
  have ev := abs_bool hv
  subst ev
  have keep := fun b o e => st'.old (a := b) (o := o) e
  obtain ⟨h, tk, rfl⟩ := st'.same
  exact GoodW.toG ⟨.inl ⟨.bool true, .bool true, [], rfl, fun _ => rfl, .bool true, by wrow_post, fun _ => ⟨List.nodup_nil, fun a ha => by cases ha⟩⟩, keep, rfl, hg⟩
theorem walk {d : DefRec} {kwd : List (Str × Expr)} (hdn : d.name = Str.ofString "law") : WalkO (viewP prog2) (looseP prog2) (fun _ _ => True) (fun _ h => Seen h) law2.row.toRowW d kwd (fun f vs => PySem.call f vs) := by
  intro w s₀ s₁ mg mb G Y fa o pm cd doc dV kV ho hd hcd hD hmg hg args vals as hpre hlay hrd hwl hlo
  refine Ground.open G ?_
  intro T B D TE TW
  obtain ⟨⟨K, X, o1, o2⟩, hm⟩ := Y
  have F := Fa_of (prog := law2.row.prog) (w := w) X o1 o2 T.nolimit hm T.b (fun x hx => T.builtins x hx)
  have hfa : fa = 1151 := glob_law X o2 T.g (by rw [← hdn]; exact hmg)
  subst hfa
  clear hD hmg TE TW D B
  wrow_args hpre hlay hrd hwl hlo
  exact law_fin F (by assumption) (by assumption) (by omega) hg
theorem holds2 : law2.Holds := by
  refine well2 fun said => ?_
  obtain ⟨x, hx⟩ := Option.isSome_iff_exists.mp def_some
  have h1 := def_name
  have h2 := def_the
  have h3 := def_kw
  rw [hx] at h1 h2 h3
  exact PySem.W.holds_open (q := viewP prog2) (loose := looseP prog2) (Xt := fun _ => true) (XP := fun _ _ => True) (Yf := fun s => Seen s.heap) (Ya := fun _ => True) (YP := fun _ h => Seen h) (d := x.1) (kwd := x.2) (N := 7000)
    left2 (fun _ _ e => of_eq_true e) (fun _ _ _ y k => y.keeps k) (fun _ _ => trivial) (fun _ _ _ _ _ => trivial) hx h2 h3 (fun _ _ => recFacts_nil rfl) rfl said ok2 bare2 promised2 (walk (Option.some.inj h1))
end
end Mine

theorem PySem.Challenge.cw_ov0095_01_holds : PySem.Challenge.rw_ov0095_01.Holds := by
  rw [Mine.row_eq]; exact Mine.holds2
