import PyProof.Rows.All
import Wide.All
import OpenK.AllK
import Wide.FinOn
import PySem.Challenge.RW_sj0075_01
open PySem PySem.W PyProof.Rows PySem.Calls
set_option Elab.async false
set_option maxRecDepth 100000
set_option linter.unusedVariables false
namespace Mine
section

abbrev Led := List (Addr × Obj)

/-- what the Python values are, lists and tuples by value -/
inductive AV where
  | int (i : Int)
  | bool (b : Bool)
  | none
  | list (xs : List AV)
  | tup (xs : List AV)
  | raw (v : Value)

def LObj (o : Obj) (vs : List Value) : Prop := ∃ n, o = listOf vs.toArray n
def TObj (o : Obj) (vs : List Value) : Prop := ∃ n, o = ({ cls := .type "tuple", data := .seq vs.toArray n } : Obj)

mutual
def Rep (fz : Led) : AV → Value → Prop
  | .int i, v => ∃ t, v = .int i t
  | .bool b, v => v = .bool b
  | .none, v => v = .none
  | .list xs, v => ∃ a o vs, v = .ref a ∧ (a, o) ∈ fz ∧ LObj o vs ∧ Reps fz xs vs
  | .tup xs, v => ∃ a o vs, v = .ref a ∧ (a, o) ∈ fz ∧ TObj o vs ∧ Reps fz xs vs
  | .raw u, v => v = u
def Reps (fz : Led) : List AV → List Value → Prop
  | [], vs => vs = []
  | x :: xs, vs => ∃ v r, vs = v :: r ∧ Rep fz x v ∧ Reps fz xs r
end

mutual
theorem Rep.mono {fz fz' : Led} (hs : ∀ p ∈ fz, p ∈ fz') : ∀ (a : AV) {v : Value}, Rep fz a v → Rep fz' a v
  | .int _, _, h => by simpa only [Rep] using h
  | .bool _, _, h => by simpa only [Rep] using h
  | .none, _, h => by simpa only [Rep] using h
  | .raw _, _, h => by simpa only [Rep] using h
  | .list xs, _, h => by
    simp only [Rep] at h ⊢
    obtain ⟨a, o, vs, e, hm, hl, hr⟩ := h
    exact ⟨a, o, vs, e, hs _ hm, hl, Reps.mono hs xs hr⟩
  | .tup xs, _, h => by
    simp only [Rep] at h ⊢
    obtain ⟨a, o, vs, e, hm, hl, hr⟩ := h
    exact ⟨a, o, vs, e, hs _ hm, hl, Reps.mono hs xs hr⟩
theorem Reps.mono {fz fz' : Led} (hs : ∀ p ∈ fz, p ∈ fz') : ∀ (a : List AV) {v : List Value}, Reps fz a v → Reps fz' a v
  | [], _, h => by simpa only [Reps] using h
  | x :: xs, _, h => by
    simp only [Reps] at h ⊢
    obtain ⟨v, r, e, h1, h2⟩ := h
    exact ⟨v, r, e, Rep.mono hs x h1, Reps.mono hs xs h2⟩
end

theorem Rep.int_iff {fz : Led} {i : Int} {v : Value} : Rep fz (.int i) v ↔ ∃ t, v = .int i t := by simp only [Rep]
theorem Rep.bool_iff {fz : Led} {b : Bool} {v : Value} : Rep fz (.bool b) v ↔ v = .bool b := by simp only [Rep]
theorem Rep.none_iff {fz : Led} {v : Value} : Rep fz .none v ↔ v = .none := by simp only [Rep]
theorem Rep.raw_iff {fz : Led} {u v : Value} : Rep fz (.raw u) v ↔ v = u := by simp only [Rep]
theorem Rep.list_iff {fz : Led} {xs : List AV} {v : Value} : Rep fz (.list xs) v ↔ ∃ a o vs, v = .ref a ∧ (a, o) ∈ fz ∧ LObj o vs ∧ Reps fz xs vs := by simp only [Rep]
theorem Rep.tup_iff {fz : Led} {xs : List AV} {v : Value} : Rep fz (.tup xs) v ↔ ∃ a o vs, v = .ref a ∧ (a, o) ∈ fz ∧ TObj o vs ∧ Reps fz xs vs := by simp only [Rep]
theorem Reps.nil_iff {fz : Led} {vs : List Value} : Reps fz [] vs ↔ vs = [] := by simp only [Reps]
theorem Reps.cons_iff {fz : Led} {x : AV} {xs : List AV} {vs : List Value} : Reps fz (x :: xs) vs ↔ ∃ v r, vs = v :: r ∧ Rep fz x v ∧ Reps fz xs r := by simp only [Reps]

theorem Reps.length {fz : Led} : ∀ {xs : List AV} {vs : List Value}, Reps fz xs vs → vs.length = xs.length
  | [], _, h => by rw [Reps.nil_iff] at h; rw [h]; rfl
  | x :: xs, _, h => by
    obtain ⟨v, r, rfl, _, h2⟩ := Reps.cons_iff.mp h
    simp [h2.length]
theorem Reps.append {fz : Led} : ∀ {xs ys : List AV} {vs us : List Value}, Reps fz xs vs → Reps fz ys us → Reps fz (xs ++ ys) (vs ++ us)
  | [], _, _, _, h, h' => by rw [Reps.nil_iff] at h; subst h; exact h'
  | x :: xs, _, _, _, h, h' => by
    obtain ⟨v, r, rfl, h1, h2⟩ := Reps.cons_iff.mp h
    exact Reps.cons_iff.mpr ⟨v, r ++ _, rfl, h1, h2.append h'⟩
theorem Reps.one {fz : Led} {x : AV} {v : Value} (h : Rep fz x v) : Reps fz [x] [v] := Reps.cons_iff.mpr ⟨v, [], rfl, h, Reps.nil_iff.mpr rfl⟩
theorem Reps.get {fz : Led} : ∀ {xs : List AV} {vs : List Value} {i : Nat} {x : AV}, Reps fz xs vs → xs[i]? = some x → ∃ v, vs[i]? = some v ∧ Rep fz x v
  | [], _, _, _, _, e => by simp at e
  | y :: ys, _, i, x, h, e => by
    obtain ⟨v, r, rfl, h1, h2⟩ := Reps.cons_iff.mp h
    cases i with
    | zero => simp at e; subst e; exact ⟨v, rfl, h1⟩
    | succ i => simp at e ⊢; exact h2.get e
theorem Reps.get' {fz : Led} : ∀ {xs : List AV} {vs : List Value} {i : Nat} {v : Value}, Reps fz xs vs → vs[i]? = some v → ∃ x, xs[i]? = some x ∧ Rep fz x v := by
  intro xs vs i v h e
  have hl := h.length
  have hi : i < vs.length := (List.getElem?_eq_some_iff.mp e).1
  obtain ⟨v', e', hr⟩ := h.get (i := i) (x := xs[i]) (by simp)
  rw [e] at e'; cases e'
  exact ⟨_, by simp, hr⟩
theorem Reps.take {fz : Led} : ∀ {xs : List AV} {vs : List Value} (n : Nat), Reps fz xs vs → Reps fz (xs.take n) (vs.take n)
  | [], _, n, h => by rw [Reps.nil_iff] at h; subst h; simp [Reps.nil_iff]
  | x :: xs, _, n, h => by
    obtain ⟨v, r, rfl, h1, h2⟩ := Reps.cons_iff.mp h
    cases n with
    | zero => simp [Reps.nil_iff]
    | succ n => simp only [List.take_succ_cons]; exact Reps.cons_iff.mpr ⟨v, _, rfl, h1, h2.take n⟩
theorem Reps.drop {fz : Led} : ∀ {xs : List AV} {vs : List Value} (n : Nat), Reps fz xs vs → Reps fz (xs.drop n) (vs.drop n)
  | [], _, n, h => by rw [Reps.nil_iff] at h; subst h; simp [Reps.nil_iff]
  | x :: xs, _, n, h => by
    obtain ⟨v, r, rfl, h1, h2⟩ := Reps.cons_iff.mp h
    cases n with
    | zero => simp only [List.drop_zero]; exact Reps.cons_iff.mpr ⟨v, r, rfl, h1, h2⟩
    | succ n => simp only [List.drop_succ_cons]; exact h2.drop n
theorem Reps.set {fz : Led} : ∀ {xs : List AV} {vs : List Value} {i : Nat} {x : AV} {v : Value}, Reps fz xs vs → Rep fz x v → Reps fz (xs.set i x) (vs.set i v)
  | [], _, i, _, _, h, _ => by rw [Reps.nil_iff] at h; subst h; simp [Reps.nil_iff]
  | y :: ys, _, i, x, v, h, hv => by
    obtain ⟨u, r, rfl, h1, h2⟩ := Reps.cons_iff.mp h
    cases i with
    | zero => simp only [List.set_cons_zero]; exact Reps.cons_iff.mpr ⟨v, _, rfl, hv, h2⟩
    | succ i => simp only [List.set_cons_succ]; exact Reps.cons_iff.mpr ⟨u, _, rfl, h1, h2.set hv⟩
theorem Reps.replicate {fz : Led} {x : AV} {v : Value} (h : Rep fz x v) : ∀ n, Reps fz (List.replicate n x) (List.replicate n v)
  | 0 => Reps.nil_iff.mpr rfl
  | n + 1 => Reps.cons_iff.mpr ⟨v, _, rfl, h, Reps.replicate h n⟩

abbrev aints (xs : List Int) : AV := .list (xs.map .int)
theorem Reps.intsAre {fz : Led} : ∀ {ns : List Int} {vs : List Value}, Reps fz (ns.map .int) vs → IntsAre vs ns
  | [], _, h => by
    have := Reps.nil_iff.mp h; subst this; exact .nil
  | n :: ns, _, h => by
    obtain ⟨v, r, rfl, h1, h2⟩ := Reps.cons_iff.mp h
    obtain ⟨t, rfl⟩ := Rep.int_iff.mp h1
    exact .cons _ _ h2.intsAre
theorem Reps.ofInts {fz : Led} : ∀ {ns : List Int} {vs : List Value}, IntsAre vs ns → Reps fz (ns.map .int) vs
  | _, _, .nil => Reps.nil_iff.mpr rfl
  | _, _, .cons _ _ h => Reps.cons_iff.mpr ⟨_, _, rfl, Rep.int_iff.mpr ⟨_, rfl⟩, Reps.ofInts h⟩

/-- the parts of the world that stay the same -/
structure Gl where
  prog : Program
  w : World
  K : Frag
  p : Program
  loose : List Str
  mean : ExcName → Option Value
  mg : Str → Option Value
  mb : Str → Option Value

/-- a frame at work -/
structure Fx where
  A : Around
  env : Env
  h₀ : Heap
  A₀ : Around
  base : Heap
  outer : List Env

structure Fx.Ok (g : Gl) (c : Fx) (k : Nat) : Prop where
  below : Below c.A₀ c.base c.outer c.h₀
  frames : c.A.frames = some (c.env :: c.outer)
  handled : c.A.handled = none
  frame : c.env.frame = some c.env.locals
  kind : c.env.scope.kind = .function
  globals : c.env.globals = mainGlobals
  builtins : c.env.builtins = builtinsNs
  inK : g.K.In c.h₀
  inB : g.K.In c.base
  top : Top g.p g.loose g.mean g.mg g.mb c.h₀
  depth : c.A.depth + k < recursionLimit
  units : c.A.units + 10 * k + 20 < cLine

theorem Fx.Ok.less {g : Gl} {c : Fx} {k k' : Nat} (ok : c.Ok g k) (h : k' ≤ k) : c.Ok g k' :=
  { ok with depth := by have := ok.depth; omega, units := by have := ok.units; omega }

abbrev Vars := List (Str × AV)
def look (x : Str) : Vars → Option AV
  | [] => none
  | (y, a) :: r => if y = x then some a else look x r

/-- what is known of the frame's names: values; lists that one name alone holds (some); cells (none) -/
structure St where
  ρ : Vars
  ω : List (Str × Option (List AV))

/-- the tables of codes: their pseudo-names, and how the codes in them are called -/
def tabQ (x : Str) : Option Str := if x = ("#law" : Str) then some "law.<locals>.<lambda>" else if x = ("#are" : Str) then some "_law_are_told.<locals>.<lambda>" else none
def TabOk (q : Str) (fz : Led) (ps : Array Value) : Prop :=
  TriplesOk ps.toList ∧ ∀ pos v, codeAmong pos ps.toList = some v → ∃ c' oc vs t, v = .ref c' ∧ (c', oc) ∈ fz ∧ oc.data = .fields vs ∧ vs[1]? = some (.str q t)
theorem TabOk.mono {q : Str} {fz fz' : Led} {ps : Array Value} (hs : ∀ p ∈ fz, p ∈ fz') (h : TabOk q fz ps) : TabOk q fz' ps :=
  ⟨h.1, fun pos v e => let ⟨c', oc, vs, t, h1, h2, h3⟩ := h.2 pos v e; ⟨c', oc, vs, t, h1, hs _ h2, h3⟩⟩
/-- a cell, or a table -/
def CellR (cells : List (Str × Addr)) (vm : Str → Option Value) (fz : Led) (x : Str) (a : Addr) (o : Obj) : Prop :=
  match tabQ x with
  | none => o.data = .cell (vm x) ∧ cells.lookup x = some a
  | some q => vm x = some (.ref a) ∧ ∃ ps, o = tabObj ps ∧ TabOk q fz ps
theorem CellR.mono {cells : List (Str × Addr)} {vm : Str → Option Value} {fz fz' : Led} {x : Str} {a : Addr} {o : Obj} (hs : ∀ p ∈ fz, p ∈ fz') (h : CellR cells vm fz x a o) : CellR cells vm fz' x a o := by
  unfold CellR at h ⊢
  split
  · rename_i e; simp only [e] at h; exact h
  · rename_i q e; simp only [e] at h
    obtain ⟨h1, ps, h2, h3⟩ := h
    exact ⟨h1, ps, h2, h3.mono hs⟩
theorem CellR.cell {cells : List (Str × Addr)} {vm : Str → Option Value} {fz : Led} {x : Str} {a : Addr} {o : Obj} (hx : tabQ x = none) : CellR cells vm fz x a o ↔ o.data = .cell (vm x) ∧ cells.lookup x = some a := by
  unfold CellR; rw [hx]
theorem CellR.tab {cells : List (Str × Addr)} {vm : Str → Option Value} {fz : Led} {x q : Str} {a : Addr} {o : Obj} (hx : tabQ x = some q) : CellR cells vm fz x a o ↔ vm x = some (.ref a) ∧ ∃ ps, o = tabObj ps ∧ TabOk q fz ps := by
  unfold CellR; rw [hx]
theorem CellR.vmEq {cells : List (Str × Addr)} {vm vm' : Str → Option Value} {fz : Led} {x : Str} {a : Addr} {o : Obj} (e : vm' x = vm x) (h : CellR cells vm fz x a o) : CellR cells vm' fz x a o := by
  unfold CellR at h ⊢; rw [e]; exact h

def OwnR (cells : List (Str × Addr)) (vm : Str → Option Value) (fz : Led) : Led → List (Str × Option (List AV)) → Prop
  | [], [] => True
  | (a, o) :: r, (x, some xs) :: q => (∃ vs, LObj o vs ∧ Reps fz xs vs ∧ vm x = some (.ref a)) ∧ OwnR cells vm fz r q
  | (a, o) :: r, (x, none) :: q => CellR cells vm fz x a o ∧ OwnR cells vm fz r q
  | _, _ => False

structure Sta (c : Fx) (σ : St) (h : Heap) (vm : Str → Option Value) (mine rest fz : Led) : Prop where
  fr : ∃ m, Fr c.h₀ c.env.locals h m ∧ ∀ x, c.env.kindOf x = some .local → m x = vm x
  news : News c.h₀ c.env.locals h (mine ++ rest ++ fz)
  dis : ∀ p ∈ mine ++ rest, ∀ q ∈ fz, p.1 ≠ q.1
  dmr : ∀ p ∈ mine, ∀ q ∈ rest, p.1 ≠ q.1
  nd : (mine.map (·.1)).Nodup
  rho : ∀ x a, look x σ.ρ = some a → ∃ v, vm x = some v ∧ Rep fz a v
  own : OwnR c.env.cells vm fz mine σ.ω

abbrev Kp (h h' : Heap) : Prop := ∀ b o, h.get? b = some o → h'.get? b = some o
theorem Kp.refl (h : Heap) : Kp h h := fun _ _ e => e
theorem Kp.trans {h₁ h₂ h₃ : Heap} (a : Kp h₁ h₂) (b : Kp h₂ h₃) : Kp h₁ h₃ := fun x o e => b x o (a x o e)

theorem OwnR.mono {cells : List (Str × Addr)} {vm : Str → Option Value} {fz fz' : Led} (hs : ∀ p ∈ fz, p ∈ fz') : ∀ {mine : Led} {ω : List (Str × Option (List AV))}, OwnR cells vm fz mine ω → OwnR cells vm fz' mine ω
  | [], [], _ => trivial
  | (a, o) :: r, (x, some xs) :: q, h => by
    simp only [OwnR] at h ⊢
    obtain ⟨⟨vs, h1, h2, h3⟩, h4⟩ := h
    exact ⟨⟨vs, h1, Reps.mono hs xs h2, h3⟩, OwnR.mono hs h4⟩
  | (a, o) :: r, (x, none) :: q, h => by
    simp only [OwnR] at h ⊢
    exact ⟨h.1.mono hs, OwnR.mono hs h.2⟩
  | [], _ :: _, h => by simp [OwnR] at h
  | _ :: _, [], h => by simp [OwnR] at h

section
variable {c : Fx} {σ : St} {h h' : Heap} {vm : Str → Option Value} {mine rest fz : Led}

theorem Sta.keeps (S : Sta c σ h vm mine rest fz) (k : Kp h h') : Sta c σ h' vm mine rest fz :=
  { S with
    fr := let ⟨m, F, e⟩ := S.fr; ⟨m, ⟨F.ns.keeps k, fun b o q => k b o (F.keep b o q), F.above⟩, e⟩
    news := fun p hp => ⟨k _ _ (S.news p hp).1, (S.news p hp).2⟩ }

theorem Sta.lt (S : Sta c σ h vm mine rest fz) : c.env.locals < h.objs.size := by
  obtain ⟨m, F, _⟩ := S.fr
  obtain ⟨o, _, _, e, _⟩ := F.ns
  exact Heap.lt_size e
theorem Sta.get (S : Sta c σ h vm mine rest fz) {a : Addr} {o : Obj} (hm : (a, o) ∈ fz) : h.get? a = some o := (S.news (a, o) (List.mem_append_right _ hm)).1
theorem Sta.getMine (S : Sta c σ h vm mine rest fz) {a : Addr} {o : Obj} (hm : (a, o) ∈ mine) : h.get? a = some o := (S.news (a, o) (List.mem_append_left _ (List.mem_append_left _ hm))).1

/-- a new object, known from now on -/
theorem Sta.add (S : Sta c σ h vm mine rest fz) (k : Kp h h') {a : Addr} {o : Obj} (hn : h.get? a = none) (ho : h'.get? a = some o) : Sta c σ h' vm mine rest ((a, o) :: fz) := by
  have S' := S.keeps k
  have ha : ∀ p ∈ mine ++ rest ++ fz, p.1 ≠ a := fun p hp e => by
    have := (S.news p hp).1; rw [e, hn] at this; cases this
  obtain ⟨m, F, e⟩ := S.fr
  refine { S' with news := ?_, dis := ?_, rho := ?_, own := S.own.mono fun p hp => .tail _ hp }
  · intro p hp
    rcases List.mem_append.mp hp with q | q
    · exact S'.news p (List.mem_append_left _ q)
    · rcases List.mem_cons.mp q with rfl | q
      · refine ⟨ho, ?_, ?_⟩
        · intro q
          have q : a = c.env.locals := q
          obtain ⟨oL, _, _, eL, _⟩ := F.ns
          rw [← q, hn] at eL; cases eL
        · cases q : c.h₀.get? a with
          | none => rfl
          | some o' => have := F.keep _ _ q; rw [hn] at this; cases this
      · exact S'.news p (List.mem_append_right _ q)
  · intro p hp q hq
    rcases List.mem_cons.mp hq with rfl | hq
    · exact ha p (List.mem_append_left _ hp)
    · exact S.dis p hp q hq
  · intro x b hx
    obtain ⟨v, hv, hr⟩ := S.rho x b hx
    exact ⟨v, hv, hr.mono (fun p hp => .tail _ hp)⟩
end

/-! expressions -/
section
variable {g : Gl} {c : Fx} {σ : St}

/-- a tree gives the value `a`, in the state σ -/
def Tv (g : Gl) (c : Fx) (σ : St) (t : Sem Value) (a : AV) : Prop :=
  ∀ (s : Shared) vm mine rest fz, Sta c σ s.heap vm mine rest fz → ∀ (Q E : Value → Shared → Prop),
    (∀ v h' tk' fz', Sta c σ h' vm mine rest fz' → (∀ p ∈ fz, p ∈ fz') → Rep fz' a v → Q v { s with heap := h', toks := tk' }) →
    wpAny (model g.prog g.w) c.A t Q E s
abbrev Ev (g : Gl) (c : Fx) (σ : St) (e : Expr) (a : AV) : Prop := Tv g c σ (eval e c.env) a
/-- a test comes out as `b` -/
def EvBw (g : Gl) (c : Fx) (σ : St) (whole : Sem Value) (e : Expr) (b : Bool) : Prop :=
  ∀ (s : Shared) vm mine rest fz, Sta c σ s.heap vm mine rest fz → ∀ (Q : Bool → Shared → Prop) (E : Value → Shared → Prop),
    (∀ h' tk' fz', Sta c σ h' vm mine rest fz' → (∀ p ∈ fz, p ∈ fz') → Q b { s with heap := h', toks := tk' }) →
    wpAny (model g.prog g.w) c.A (isTrue e c.env whole) Q E s
abbrev EvB (g : Gl) (c : Fx) (σ : St) (e : Expr) (b : Bool) : Prop := EvBw g c σ (eval e c.env) e b

/-- an operation on two values, that makes no object -/
def Op2 (g : Gl) (c : Fx) (t : Value → Value → Sem Value) (a b r : AV) : Prop :=
  ∀ (s : Shared) (fz : Led), (∀ p ∈ fz, s.heap.get? p.1 = some p.2) → ∀ va vb, Rep fz a va → Rep fz b vb → ∀ (Q E : Value → Shared → Prop),
    (∀ v h' tk', Kp s.heap h' → Rep fz r v → Q v { s with heap := h', toks := tk' }) → wpAny (model g.prog g.w) c.A (t va vb) Q E s
def Op1 (g : Gl) (c : Fx) (t : Value → Sem Value) (a r : AV) : Prop :=
  ∀ (s : Shared) (fz : Led), (∀ p ∈ fz, s.heap.get? p.1 = some p.2) → ∀ va, Rep fz a va → ∀ (Q E : Value → Shared → Prop),
    (∀ v h' tk', Kp s.heap h' → Rep fz r v → Q v { s with heap := h', toks := tk' }) → wpAny (model g.prog g.w) c.A (t va) Q E s

theorem Tv.two {t : Sem Value} {u : Sem Value} {f : Value → Value → Sem Value} {a b r : AV} {w : Sem Value} (h1 : Tv g c σ t a) (h2 : Tv g c σ u b) (h3 : Op2 g c f a b r)
    (hw : ∀ (s : Shared) (Q E : Value → Shared → Prop), wpAny (model g.prog g.w) c.A t (fun x s₁ => wpAny (model g.prog g.w) c.A u (fun y s₂ => wpAny (model g.prog g.w) c.A (f x y) Q E s₂) E s₁) E s → wpAny (model g.prog g.w) c.A w Q E s) : Tv g c σ w r := by
  intro s vm mine rest fz S Q E hQ
  refine hw _ _ _ (h1 s vm mine rest fz S _ _ fun x h' tk' fz' S' hs hx => ?_)
  refine h2 _ vm mine rest fz' S' _ _ fun y h'' tk'' fz'' S'' hs' hy => ?_
  refine h3 _ fz'' (fun p hp => S''.get hp) _ _ (hx.mono hs') hy _ _ fun v h₃ tk₃ k hv => ?_
  exact hQ v h₃ tk₃ fz'' (S''.keeps k) (fun p hp => hs' p (hs p hp)) hv
theorem Tv.op1 {t : Sem Value} {f : Value → Sem Value} {a r : AV} {w : Sem Value} (h1 : Tv g c σ t a) (h3 : Op1 g c f a r)
    (hw : ∀ (s : Shared) (Q E : Value → Shared → Prop), wpAny (model g.prog g.w) c.A t (fun x s₁ => wpAny (model g.prog g.w) c.A (f x) Q E s₁) E s → wpAny (model g.prog g.w) c.A w Q E s) : Tv g c σ w r := by
  intro s vm mine rest fz S Q E hQ
  refine hw _ _ _ (h1 s vm mine rest fz S _ _ fun x h' tk' fz' S' hs hx => ?_)
  refine h3 _ fz' (fun p hp => S'.get hp) _ hx _ _ fun v h₃ tk₃ k hv => ?_
  exact hQ v h₃ tk₃ fz' (S'.keeps k) hs hv

/-! names -/
theorem Ev_name {k : Nat} {x : Str} {pos : Pos} {a : AV} (ok : c.Ok g k) (ha : look x σ.ρ = some a) (hk : c.env.kindOf x = some .local) (hd : (x == ("__debug__" : Str)) = false := by decide) :
    Ev g c σ (.Name x pos) a := by
  intro s vm mine rest fz S Q E hQ
  obtain ⟨v, hv, hr⟩ := S.rho x a ha
  obtain ⟨m, F, e⟩ := S.fr
  exact wpAny_Name (wpAny_loadName_local ok.kind hk F.ns ((e x hk).trans hv) (hQ v s.heap s.toks fz S (fun _ h => h) hr)) hd

theorem Ev_glob {k : Nat} {x : Str} {pos : Pos} {v : Value} (ok : c.Ok g k) (hx : nsIn g.K mainGlobals x = some (some v)) (hk : c.env.kindOf x = some .globalImplicit) (hd : (x == ("__debug__" : Str)) = false := by decide) :
    Ev g c σ (.Name x pos) (.raw v) := by
  intro s vm mine rest fz S Q E hQ
  obtain ⟨m, F, e⟩ := S.fr
  refine Name_function_global ok.kind hk (loadGlobal_global (mg := g.mg) (by rw [ok.globals]; exact ok.top.g.keeps F.keep) (mg_of ok.inK ok.top.g hx) ?_) hd
  exact hQ v s.heap s.toks fz S (fun _ h => h) (Rep.raw_iff.mpr rfl)
theorem Ev_built {k : Nat} {x : Str} {pos : Pos} {v : Value} (ok : c.Ok g k) (hx : nsIn g.K mainGlobals x = some none) (hv : bootBuiltins x = some v) (hn : x ≠ "__name__") (hk : c.env.kindOf x = some .globalImplicit) (hd : (x == ("__debug__" : Str)) = false := by decide) :
    Ev g c σ (.Name x pos) (.raw v) := by
  intro s vm mine rest fz S Q E hQ
  obtain ⟨m, F, e⟩ := S.fr
  refine Name_function_global ok.kind hk (loadGlobal_builtin (mg := g.mg) (mb := g.mb) (by rw [ok.globals]; exact ok.top.g.keeps F.keep) (mg_none_of ok.inK ok.top.g hx) (by rw [ok.builtins]; exact ok.top.b.keeps F.keep) ((ok.top.builtins x hn).trans hv) ?_) hd
  exact hQ v s.heap s.toks fz S (fun _ h => h) (Rep.raw_iff.mpr rfl)

/-! constants -/
theorem Ev_int {i : Int} {k : Nat} {pos : Pos} : Ev g c σ (.Constant (.int i) k pos) (.int i) := by
  intro s vm mine rest fz S Q E hQ
  exact wpAny_Constant_int (hQ _ s.heap (s.toks + 1) fz S (fun _ h => h) (Rep.int_iff.mpr ⟨_, rfl⟩))
theorem Ev_bool {b : Bool} {k : Nat} {pos : Pos} : Ev g c σ (.Constant (.bool b) k pos) (.bool b) := by
  intro s vm mine rest fz S Q E hQ
  exact Constant_bool (hQ _ s.heap s.toks fz S (fun _ h => h) (Rep.bool_iff.mpr rfl))
theorem Ev_none {k : Nat} {pos : Pos} : Ev g c σ (.Constant .none k pos) .none := by
  intro s vm mine rest fz S Q E hQ
  exact Constant_none (hQ _ s.heap s.toks fz S (fun _ h => h) (Rep.none_iff.mpr rfl))

/-! operations -/
theorem Ev_bin {l r : Expr} {op : Operator} {pos : Pos} {a b z : AV} (h1 : Ev g c σ l a) (h2 : Ev g c σ r b) (h3 : Op2 g c (binaryOp op) a b z) : Ev g c σ (.BinOp l op r pos) z :=
  Tv.two h1 h2 h3 fun _ _ _ h => wpAny_BinOp h
theorem Ev_un {x : Expr} {op : UnaryOp} {pos : Pos} {a z : AV} (h1 : Ev g c σ x a) (h3 : Op1 g c (unaryOp op) a z) : Ev g c σ (.UnaryOp op x pos) z :=
  Tv.op1 h1 h3 fun _ _ _ h => UnaryOp_ h
theorem Ev_cmp {l r : Expr} {op : CmpOp} {pos : Pos} {a b z : AV} (h1 : Ev g c σ l a) (h2 : Ev g c σ r b) (h3 : Op2 g c (compareOp op) a b z) (hm : behindInMarks op r = false := by with_unfolding_all rfl) : Ev g c σ (.Compare l [op] [r] pos) z :=
  Tv.two h1 h2 h3 fun _ _ _ h => wpAny_Compare1 h hm

theorem EvB_cmp {l r : Expr} {op : CmpOp} {pos : Pos} {a b : AV} {z : Bool} {w : Sem Value} (h1 : Ev g c σ l a) (h2 : Ev g c σ r b) (h3 : Op2 g c (compareOp op) a b (.bool z)) (hm : behindInMarks op r = false := by with_unfolding_all rfl) : EvBw g c σ w (.Compare l [op] [r] pos) z := by
  intro s vm mine rest fz S Q E hQ
  refine wpAny_isTrue_Compare1 (h1 s vm mine rest fz S _ _ fun x h' tk' fz' S' hs hx => ?_) hm
  refine h2 _ vm mine rest fz' S' _ _ fun y h'' tk'' fz'' S'' hs' hy => ?_
  refine h3 _ fz'' (fun p hp => S''.get hp) _ _ (hx.mono hs') hy _ _ fun v h₃ tk₃ k hv => ?_
  rw [Rep.bool_iff] at hv; subst hv
  exact wpAny_truthy_bool (hQ h₃ tk₃ fz'' (S''.keeps k) fun p hp => hs' p (hs p hp))
/-- or, and -/
theorem EvB_or_t {x : Expr} {r : List Expr} {pos : Pos} {w : Sem Value} (h : EvB g c σ x true) : EvBw g c σ w (.BoolOp .Or (x :: r) pos) true := by
  intro s vm mine rest fz S Q E hQ
  refine isTrue_or (h s vm mine rest fz S _ _ fun h' tk' fz' S' hs => ?_)
  rw [if_pos rfl]; exact hQ _ _ _ S' hs
theorem EvB_or_f {x : Expr} {r : List Expr} {pos : Pos} {w : Sem Value} {b : Bool} (h : EvB g c σ x false) (h' : EvBw g c σ w (.BoolOp .Or r pos) b) : EvBw g c σ w (.BoolOp .Or (x :: r) pos) b := by
  intro s vm mine rest fz S Q E hQ
  refine isTrue_or (h s vm mine rest fz S _ _ fun h₁ tk₁ fz₁ S₁ hs => ?_)
  rw [if_neg (by decide)]
  exact h' _ vm mine rest fz₁ S₁ _ _ fun h₂ tk₂ fz₂ S₂ hs' => hQ _ _ _ S₂ fun p hp => hs' p (hs p hp)
theorem EvB_or_nil {pos : Pos} {w : Sem Value} : EvBw g c σ w (.BoolOp .Or [] pos) false := by
  intro s vm mine rest fz S Q E hQ
  exact isTrue_or_nil (hQ _ _ _ S fun _ h => h)
theorem EvB_and_f {x : Expr} {r : List Expr} {pos : Pos} {w : Sem Value} (h : EvB g c σ x false) : EvBw g c σ w (.BoolOp .And (x :: r) pos) false := by
  intro s vm mine rest fz S Q E hQ
  refine isTrue_and (h s vm mine rest fz S _ _ fun h' tk' fz' S' hs => ?_)
  rw [if_neg (by decide)]; exact hQ _ _ _ S' hs
theorem EvB_and_t {x : Expr} {r : List Expr} {pos : Pos} {w : Sem Value} {b : Bool} (h : EvB g c σ x true) (h' : EvBw g c σ w (.BoolOp .And r pos) b) : EvBw g c σ w (.BoolOp .And (x :: r) pos) b := by
  intro s vm mine rest fz S Q E hQ
  refine isTrue_and (h s vm mine rest fz S _ _ fun h₁ tk₁ fz₁ S₁ hs => ?_)
  rw [if_pos rfl]
  exact h' _ vm mine rest fz₁ S₁ _ _ fun h₂ tk₂ fz₂ S₂ hs' => hQ _ _ _ S₂ fun p hp => hs' p (hs p hp)
theorem EvB_and_nil {pos : Pos} {w : Sem Value} : EvBw g c σ w (.BoolOp .And [] pos) true := by
  intro s vm mine rest fz S Q E hQ
  exact isTrue_and_nil (hQ _ _ _ S fun _ h => h)
/-- and, both: the second is asked only where the first holds -/
theorem EvB_and2 {x y : Expr} {pos : Pos} {w : Sem Value} {b b' : Bool} (h : EvB g c σ x b) (h' : b = true → EvB g c σ y b') : EvBw g c σ w (.BoolOp .And [x, y] pos) (b && b') := by
  cases b with
  | false => exact EvB_and_f h
  | true => cases b' with
    | false => exact EvB_and_t h (EvB_and_f (h' rfl))
    | true => exact EvB_and_t h (EvB_and_t (h' rfl) EvB_and_nil)
theorem EvB_or2 {x y : Expr} {pos : Pos} {w : Sem Value} {b b' : Bool} (h : EvB g c σ x b) (h' : b = false → EvB g c σ y b') : EvBw g c σ w (.BoolOp .Or [x, y] pos) (b || b') := by
  cases b with
  | true => exact EvB_or_t h
  | false => cases b' with
    | true => exact EvB_or_f h (EvB_or_t (h' rfl))
    | false => exact EvB_or_f h (EvB_or_f (h' rfl) EvB_or_nil)
theorem EvB_of_bool {e : Expr} {b : Bool} (h : Ev g c σ e (.bool b)) (hw : isTrue e c.env (eval e c.env) = (do let v ← eval e c.env; standAt e.pos; holding [v] (truthy v))) : EvB g c σ e b := by
  intro s vm mine rest fz S Q E hQ
  refine isTrue_plain (h s vm mine rest fz S _ _ fun v h' tk' fz' S' hs hv => ?_) hw
  rw [Rep.bool_iff] at hv; subst hv
  exact wpAny_truthy_bool (hQ h' tk' fz' S' hs)
theorem Ev_if {t b o : Expr} {pos : Pos} {z : AV} {r : Bool} (h : EvB g c σ t r) (h1 : r = true → Ev g c σ b z) (h2 : r = false → Ev g c σ o z) : Ev g c σ (.IfExp t b o pos) z := by
  intro s vm mine rest fz S Q E hQ
  refine IfExp_ (h s vm mine rest fz S _ _ fun h' tk' fz' S' hs => ?_)
  cases r with
  | true => rw [if_pos rfl]; exact h1 rfl _ vm mine rest fz' S' _ _ fun v h₂ tk₂ fz₂ S₂ hs' hv => hQ v _ _ _ S₂ (fun p hp => hs' p (hs p hp)) hv
  | false => rw [if_neg (by decide)]; exact h2 rfl _ vm mine rest fz' S' _ _ fun v h₂ tk₂ fz₂ S₂ hs' hv => hQ v _ _ _ S₂ (fun p hp => hs' p (hs p hp)) hv
theorem Ev_or_bool {x y : Expr} {pos : Pos} {b b' : Bool} (h : Ev g c σ x (.bool b)) (h' : b = false → Ev g c σ y (.bool b')) : Ev g c σ (.BoolOp .Or [x, y] pos) (.bool (b || b')) := by
  intro s vm mine rest fz S Q E hQ
  refine BoolOp_or (h s vm mine rest fz S _ _ fun v h₁ tk₁ fz₁ S₁ hs hv => ?_)
  rw [Rep.bool_iff] at hv; subst hv
  refine wpAny_truthy_bool ?_
  cases b with
  | true => rw [if_pos rfl]; exact hQ _ _ _ _ S₁ hs (Rep.bool_iff.mpr rfl)
  | false =>
    rw [if_neg (by decide)]
    refine BoolOp_one (h' rfl _ vm mine rest fz₁ S₁ _ _ fun v h₂ tk₂ fz₂ S₂ hs' hv => hQ v _ _ _ S₂ (fun p hp => hs' p (hs p hp)) (by simpa using hv))
theorem Ev_and_bool {x y : Expr} {pos : Pos} {b b' : Bool} (h : Ev g c σ x (.bool b)) (h' : b = true → Ev g c σ y (.bool b')) : Ev g c σ (.BoolOp .And [x, y] pos) (.bool (b && b')) := by
  intro s vm mine rest fz S Q E hQ
  refine BoolOp_and (h s vm mine rest fz S _ _ fun v h₁ tk₁ fz₁ S₁ hs hv => ?_)
  rw [Rep.bool_iff] at hv; subst hv
  refine wpAny_truthy_bool ?_
  cases b with
  | false => rw [if_neg (by decide)]; exact hQ _ _ _ _ S₁ hs (Rep.bool_iff.mpr rfl)
  | true =>
    rw [if_pos rfl]
    refine BoolOp_one (h' rfl _ vm mine rest fz₁ S₁ _ _ fun v h₂ tk₂ fz₂ S₂ hs' hv => hQ v _ _ _ S₂ (fun p hp => hs' p (hs p hp)) (by simpa using hv))
end
end
section

inductive Out where
  | next | brk | cont
  | ret (a : AV)

def Rfl (fz : Led) : Out → Flow → Prop
  | .next, .next => True
  | .brk, .brk => True
  | .cont, .cont => True
  | .ret a, .ret v => Rep fz a v
  | _, _ => False

section
variable (g : Gl) (c : Fx)
def WpS (σ : St) (t : Sem Flow) (P : Out → St → Prop) : Prop :=
  ∀ (s : Shared) vm mine rest fz, Sta c σ s.heap vm mine rest fz → ∀ (Q : Flow → Shared → Prop) (E : Value → Shared → Prop),
    (∀ o σ' fl h' tk' vm' mine' fz', P o σ' → Sta c σ' h' vm' mine' rest fz' → (∀ p ∈ fz, p ∈ fz') → Rfl fz' o fl → Q fl { s with heap := h', toks := tk' }) →
    wpAny (model g.prog g.w) c.A t Q E s
abbrev Ex (σ : St) (st : Stmt) (P : Out → St → Prop) : Prop := WpS g c σ (exec st c.env) P
abbrev Exs (σ : St) (sts : List Stmt) (P : Out → St → Prop) : Prop := WpS g c σ (execs sts c.env) P
end

section
variable {g : Gl} {c : Fx} {σ σ' : St} {h h' : Heap} {vm : Str → Option Value} {mine rest fz : Led}

theorem WpS.mono {t : Sem Flow} {P P' : Out → St → Prop} (hw : WpS g c σ t P) (hp : ∀ o σ', P o σ' → P' o σ') : WpS g c σ t P' :=
  fun s vm mine rest fz S Q E hQ => hw s vm mine rest fz S Q E fun o σ' fl h' tk' vm' mine' fz' p => hQ o σ' fl h' tk' vm' mine' fz' (hp o σ' p)

theorem Exs_nil {P : Out → St → Prop} (hp : P .next σ) : Exs g c σ [] P := by
  intro s vm mine rest fz S Q E hQ
  exact wpAny_execs_nil (hQ .next σ .next s.heap s.toks vm mine fz hp S (fun _ h => h) trivial)

theorem Exs_cons {st : Stmt} {sts : List Stmt} {P : Out → St → Prop} (hw : Ex g c σ st fun o σ' => match o with | .next => Exs g c σ' sts P | o => P o σ') : Exs g c σ (st :: sts) P := by
  intro s vm mine rest fz S Q E hQ
  refine wpAny_execs_cons (hw s vm mine rest fz S _ _ ?_)
  intro o σ' fl h' tk' vm' mine' fz' hp S' hs hr
  cases o with
  | next =>
    cases fl <;> first | exact hr.elim | skip
    exact hp _ vm' mine' rest fz' S' _ _ fun o₂ σ₂ fl₂ h₂ tk₂ vm₂ mine₂ fz₂ p₂ S₂ hs₂ r₂ => hQ o₂ σ₂ fl₂ h₂ tk₂ vm₂ mine₂ fz₂ p₂ S₂ (fun p q => hs₂ p (hs p q)) r₂
  | brk =>
    cases fl <;> first | exact hr.elim | skip
    exact hQ .brk σ' .brk h' tk' vm' mine' fz' hp S' hs hr
  | cont =>
    cases fl <;> first | exact hr.elim | skip
    exact hQ .cont σ' .cont h' tk' vm' mine' fz' hp S' hs hr
  | ret a =>
    cases fl <;> first | exact hr.elim | skip
    exact hQ (.ret a) σ' _ h' tk' vm' mine' fz' hp S' hs hr

/-- the state may be told anew: fewer names -/
def St.le (σ σ' : St) : Prop := (∀ x a, look x σ'.ρ = some a → look x σ.ρ = some a) ∧ σ'.ω = σ.ω
theorem Sta.le (S : Sta c σ h vm mine rest fz) (hl : σ.le σ') : Sta c σ' h vm mine rest fz :=
  { S with rho := fun x a e => S.rho x a (hl.1 x a e), own := by rw [hl.2]; exact S.own }
theorem WpS.le {t : Sem Flow} {P : Out → St → Prop} (hl : σ.le σ') (hw : WpS g c σ' t P) : WpS g c σ t P :=
  fun s vm mine rest fz S Q E hQ => hw s vm mine rest fz (S.le hl) Q E hQ

theorem Ex_pass {pos : Pos} {P : Out → St → Prop} (hp : P .next σ) : Ex g c σ (.Pass pos) P := by
  intro s vm mine rest fz S Q E hQ
  exact wpAny_Pass (hQ .next σ .next s.heap s.toks vm mine fz hp S (fun _ h => h) trivial)
theorem Ex_return {e : Expr} {pos : Pos} {a : AV} {P : Out → St → Prop} (he : Ev g c σ e a) (hp : P (.ret a) σ) : Ex g c σ (.Return (some e) pos) P := by
  intro s vm mine rest fz S Q E hQ
  exact wpAny_Return_some (he s vm mine rest fz S _ _ fun v h' tk' fz' S' hs hv => hQ (.ret a) σ (.ret v) h' tk' vm mine fz' hp S' hs hv)
theorem Ex_if {t : Expr} {b o : List Stmt} {pos : Pos} {r : Bool} {P : Out → St → Prop} (ht : EvB g c σ t r) (h1 : r = true → Exs g c σ b P) (h2 : r = false → Exs g c σ o P) : Ex g c σ (.If t b o pos) P := by
  intro s vm mine rest fz S Q E hQ
  refine wpAny_If (ht s vm mine rest fz S _ _ fun h' tk' fz' S' hs => ?_)
  cases r with
  | true => rw [if_pos rfl]; exact h1 rfl _ vm mine rest fz' S' _ _ fun o₂ σ₂ fl₂ h₂ tk₂ vm₂ mine₂ fz₂ p₂ S₂ hs₂ r₂ => hQ o₂ σ₂ fl₂ h₂ tk₂ vm₂ mine₂ fz₂ p₂ S₂ (fun p q => hs₂ p (hs p q)) r₂
  | false => rw [if_neg (by decide)]; exact h2 rfl _ vm mine rest fz' S' _ _ fun o₂ σ₂ fl₂ h₂ tk₂ vm₂ mine₂ fz₂ p₂ S₂ hs₂ r₂ => hQ o₂ σ₂ fl₂ h₂ tk₂ vm₂ mine₂ fz₂ p₂ S₂ (fun p q => hs₂ p (hs p q)) r₂

/-! stores -/
def ownsNot (x : Str) (ω : List (Str × Option (List AV))) : Bool := ω.all fun e => decide (e.1 ≠ x)
abbrev updVm (vm : Str → Option Value) (x : Str) (v : Value) : Str → Option Value := fun y => if y = x then some v else vm y

theorem OwnR.upd {cells : List (Str × Addr)} {x : Str} {v : Value} : ∀ {mine : Led} {ω : List (Str × Option (List AV))}, OwnR cells vm fz mine ω → ownsNot x ω = true → OwnR cells (updVm vm x v) fz mine ω
  | [], [], _, _ => trivial
  | (a, o) :: r, (y, some xs) :: q, h, hn => by
    simp only [ownsNot, List.all_cons, Bool.and_eq_true, decide_eq_true_eq] at hn
    simp only [OwnR] at h ⊢
    obtain ⟨⟨vs, h1, h2, h3⟩, h4⟩ := h
    exact ⟨⟨vs, h1, h2, by rw [updVm, if_neg hn.1]; exact h3⟩, OwnR.upd h4 (by simpa only [ownsNot] using hn.2)⟩
  | (a, o) :: r, (y, none) :: q, h, hn => by
    simp only [ownsNot, List.all_cons, Bool.and_eq_true, decide_eq_true_eq] at hn
    simp only [OwnR] at h ⊢
    exact ⟨h.1.vmEq (by rw [updVm, if_neg hn.1]), OwnR.upd h.2 (by simpa only [ownsNot] using hn.2)⟩
  | [], _ :: _, h, _ => by simp [OwnR] at h
  | _ :: _, [], h, _ => by simp [OwnR] at h

theorem Sta.store {x : Str} {v : Value} {a : AV} (S : Sta c σ h vm mine rest fz) {m : Str → Option Value} (F : Fr c.h₀ c.env.locals h m) (e : ∀ x, c.env.kindOf x = some .local → m x = vm x)
    (hn : h'.Ns c.env.locals fun y => if y = x then some v else m y) (hs : Heap.SameBut c.env.locals h h') (hx : ownsNot x σ.ω = true) (hv : Rep fz a v) :
    Sta c { σ with ρ := (x, a) :: σ.ρ } h' (updVm vm x v) mine rest fz where
  fr := ⟨_, F.set hn hs, fun y hy => by
    by_cases q : y = x
    · simp [updVm, q]
    · simp only [updVm, if_neg q]; exact e y hy⟩
  news := S.news.set hs
  dis := S.dis
  dmr := S.dmr
  nd := S.nd
  rho := fun y b hb => by
    simp only [look] at hb
    by_cases q : x = y
    · rw [if_pos q] at hb; cases hb
      exact ⟨v, by simp [updVm, q], hv⟩
    · rw [if_neg q] at hb
      obtain ⟨u, hu, hr⟩ := S.rho y b hb
      exact ⟨u, by rw [updVm, if_neg (Ne.symm q)]; exact hu, hr⟩
  own := S.own.upd hx

theorem cls_kind {k : Nat} (ok : c.Ok g k) : (c.env.scope.kind == .class || (c.env.scope.kind == .module && c.env.locals != c.env.globals)) = false := by rw [ok.kind]; rfl

theorem store_local {k : Nat} {x : Str} {v : Value} {a : AV} (ok : c.Ok g k) {s : Shared} (S : Sta c σ s.heap vm mine rest fz) (hk : c.env.kindOf x = some .local) (hx : ownsNot x σ.ω = true) (hv : Rep fz a v) {Q : Unit → Shared → Prop} {E : Value → Shared → Prop}
    (hQ : ∀ h' tk' vm', Sta c { σ with ρ := (x, a) :: σ.ρ } h' vm' mine rest fz → Q () { s with heap := h', toks := tk' }) : wpAny (model g.prog g.w) c.A (storeName c.env x v) Q E s := by
  obtain ⟨m, F, e⟩ := S.fr
  exact wpAny_storeName_local hk F.ns (fun h' hn hs => hQ h' _ _ (S.store F e hn hs hx hv)) (cls_kind ok)

theorem Ex_assign {k : Nat} {x : Str} {p' pos : Pos} {e : Expr} {a : AV} {P : Out → St → Prop} (ok : c.Ok g k) (he : Ev g c σ e a) (hk : c.env.kindOf x = some .local) (hx : ownsNot x σ.ω = true)
    (hp : P .next { σ with ρ := (x, a) :: σ.ρ }) (hsw : swapsWith e (some (.Name x p')) pos.line c.env = pure false := by rfl) : Ex g c σ (.Assign [.Name x p'] e pos) P := by
  intro s vm mine rest fz S Q E hQ
  refine wpAny_Assign_Name (he s vm mine rest fz S _ _ fun v h' tk' fz' S' hs hv => ?_) hsw
  exact store_local ok S' hk hx hv fun h'' tk'' vm'' S'' => hQ .next _ .next h'' tk'' vm'' mine fz' hp S'' hs trivial

theorem Ex_aug {k : Nat} {x : Str} {p' pos : Pos} {op : Operator} {e : Expr} {a b r : AV} {P : Out → St → Prop} (ok : c.Ok g k) (ha : look x σ.ρ = some a) (he : Ev g c σ e b) (hop : Op2 g c (inplaceOp op) a b r) (hk : c.env.kindOf x = some .local) (hx : ownsNot x σ.ω = true)
    (hp : P .next { σ with ρ := (x, r) :: σ.ρ }) : Ex g c σ (.AugAssign (.Name x p') op e pos) P := by
  intro s vm mine rest fz S Q E hQ
  obtain ⟨v, hv, hr⟩ := S.rho x a ha
  obtain ⟨m, F, em⟩ := S.fr
  refine wpAny_AugAssign_Name (wpAny_loadName_local ok.kind hk F.ns ((em x hk).trans hv) ?_)
  refine he s vm mine rest fz S _ _ fun u h' tk' fz' S' hs hu => ?_
  refine hop _ fz' (fun p hp => S'.get hp) _ _ (hr.mono hs) hu _ _ fun z h₃ tk₃ kp hz => ?_
  exact store_local ok (S'.keeps kp) hk hx hz fun h'' tk'' vm'' S'' => hQ .next _ .next h'' tk'' vm'' mine fz' hp S'' hs trivial

/-! a new list, held by nobody yet -/
structure Fresh (c : Fx) (σ : St) (h : Heap) (vm : Str → Option Value) (mine rest fz : Led) (r : Addr) (o : Obj) (xs : List AV) : Prop where
  sta : Sta c σ h vm mine rest fz
  new : h.get? r = some o ∧ r ≠ c.env.locals ∧ c.h₀.get? r = none
  off : ∀ p ∈ mine ++ rest ++ fz, p.1 ≠ r
  vals : ∃ vs, LObj o vs ∧ Reps fz xs vs

def EvF (g : Gl) (c : Fx) (σ : St) (e : Expr) (xs : List AV) : Prop :=
  ∀ (s : Shared) vm mine rest fz, Sta c σ s.heap vm mine rest fz → ∀ (Q E : Value → Shared → Prop),
    (∀ r o h' tk' fz', Fresh c σ h' vm mine rest fz' r o xs → (∀ p ∈ fz, p ∈ fz') → Q (.ref r) { s with heap := h', toks := tk' }) →
    wpAny (model g.prog g.w) c.A (eval e c.env) Q E s

theorem Sta.fresh (S : Sta c σ h vm mine rest fz) (k : Kp h h') {a : Addr} {o : Obj} (hn : h.get? a = none) (ho : h'.get? a = some o) {xs : List AV} {vs : List Value} (hl : LObj o vs) (hr : Reps fz xs vs) : Fresh c σ h' vm mine rest fz a o xs := by
  have S' := S.keeps k
  refine ⟨S', ⟨ho, ?_, ?_⟩, fun p hp e => ?_, vs, hl, hr⟩
  · obtain ⟨m, F, e⟩ := S.fr
    intro q
    obtain ⟨oL, _, _, eL, _⟩ := F.ns
    rw [← q, hn] at eL; cases eL
  · obtain ⟨m, F, e⟩ := S.fr
    cases q : c.h₀.get? a with
    | none => rfl
    | some o' => have := F.keep _ _ q; rw [hn] at this; cases this
  · have := (S.news p hp).1; rw [e, hn] at this; cases this

theorem Fresh.freeze {r : Addr} {o : Obj} {xs : List AV} (F : Fresh c σ h vm mine rest fz r o xs) : Sta c σ h vm mine rest ((r, o) :: fz) ∧ Rep ((r, o) :: fz) (.list xs) (.ref r) := by
  have S := F.sta
  obtain ⟨vs, hl, hr⟩ := F.vals
  refine ⟨{ S with news := ?_, dis := ?_, rho := ?_, own := S.own.mono fun p hp => .tail _ hp }, Rep.list_iff.mpr ⟨r, o, vs, rfl, .head _, hl, hr.mono fun p hp => .tail _ hp⟩⟩
  · intro p hp
    rcases List.mem_append.mp hp with q | q
    · exact S.news p (List.mem_append_left _ q)
    · rcases List.mem_cons.mp q with rfl | q
      · exact F.new
      · exact S.news p (List.mem_append_right _ q)
  · intro p hp q hq
    rcases List.mem_cons.mp hq with rfl | hq
    · exact F.off p (List.mem_append_left _ hp)
    · exact S.dis p hp q hq
  · intro x b hx
    obtain ⟨v, hv, hr⟩ := S.rho x b hx
    exact ⟨v, hv, hr.mono (fun p hp => .tail _ hp)⟩
theorem Ev_ofF {e : Expr} {xs : List AV} (hf : EvF g c σ e xs) : Ev g c σ e (.list xs) := by
  intro s vm mine rest fz S Q E hQ
  refine hf s vm mine rest fz S _ _ fun r o h' tk' fz' F hs => ?_
  exact hQ _ h' tk' ((r, o) :: fz') F.freeze.1 (fun p hp => .tail _ (hs p hp)) F.freeze.2

def unvar (x : Str) (ρ : Vars) : Vars := ρ.filter fun e => decide (e.1 ≠ x)
theorem look_unvar {x y : Str} {a : AV} : ∀ {ρ : Vars}, look y (unvar x ρ) = some a → y ≠ x ∧ look y ρ = some a
  | [], h => by simp [unvar, look] at h
  | (z, b) :: r, h => by
    unfold unvar at h
    by_cases q : z = x
    · have e : List.filter (fun e : Str × AV => decide (e.1 ≠ x)) ((z, b) :: r) = unvar x r := by simp [unvar, q]
      rw [e] at h
      obtain ⟨h1, h2⟩ := look_unvar h
      refine ⟨h1, ?_⟩
      simp only [look]
      rw [if_neg (by rw [q]; exact Ne.symm h1)]
      exact h2
    · have e : List.filter (fun e : Str × AV => decide (e.1 ≠ x)) ((z, b) :: r) = (z, b) :: unvar x r := by simp [unvar, q]
      rw [e] at h
      simp only [look] at h ⊢
      by_cases q2 : z = y
      · rw [if_pos q2] at h ⊢
        exact ⟨by rw [← q2]; exact q, h⟩
      · rw [if_neg q2] at h ⊢
        exact look_unvar h

/-- an item of a display: a value, or a new list -/
inductive Item where
  | val (a : AV)
  | own (xs : List AV)

def ItemsR (fz : Led) : List Item → List Value → Led → Prop
  | [], vs, pend => vs = [] ∧ pend = []
  | .val a :: is, vs, pend => ∃ v r, vs = v :: r ∧ Rep fz a v ∧ ItemsR fz is r pend
  | .own xs :: is, vs, pend => ∃ a o us r pend', vs = .ref a :: r ∧ pend = (a, o) :: pend' ∧ LObj o us ∧ Reps fz xs us ∧ ItemsR fz is r pend'

theorem ItemsR.mono {fz fz' : Led} (hs : ∀ p ∈ fz, p ∈ fz') : ∀ {is : List Item} {vs : List Value} {pend : Led}, ItemsR fz is vs pend → ItemsR fz' is vs pend
  | [], _, _, h => h
  | .val a :: is, _, _, h => by
    simp only [ItemsR] at h ⊢
    obtain ⟨v, r, e, h1, h2⟩ := h
    exact ⟨v, r, e, h1.mono hs, h2.mono hs⟩
  | .own xs :: is, _, _, h => by
    simp only [ItemsR] at h ⊢
    obtain ⟨a, o, us, r, pend', e, e', h1, h2, h3⟩ := h
    exact ⟨a, o, us, r, pend', e, e', h1, Reps.mono hs xs h2, h3.mono hs⟩

def EvL (g : Gl) (c : Fx) (σ : St) (es : List Expr) (is : List Item) : Prop :=
  ∀ (pos : Pos) (s : Shared) vm mine rest fz, Sta c σ s.heap vm mine rest fz → ∀ (Q : List Value → Shared → Prop) (E : Value → Shared → Prop),
    (∀ vs pend h' tk' fz', Sta c σ h' vm mine (pend ++ rest) fz' → (∀ p ∈ fz, p ∈ fz') → ItemsR fz' is vs pend → (pend.map (·.1)).Nodup → (∀ p ∈ pend, ∀ q ∈ rest, p.1 ≠ q.1) → Q vs { s with heap := h', toks := tk' }) →
    wpAny (model g.prog g.w) c.A (spliced (backTo pos (starEach es c.env))) Q E s

theorem Sta.sub (S : Sta c σ h vm mine rest fz) {rest' : Led} (hr : ∀ p ∈ rest', p ∈ rest) : Sta c σ h vm mine rest' fz :=
  { S with
    news := fun p hp => S.news p (by
      rcases List.mem_append.mp hp with q | q
      · rcases List.mem_append.mp q with q | q
        · exact List.mem_append_left _ (List.mem_append_left _ q)
        · exact List.mem_append_left _ (List.mem_append_right _ (hr p q))
      · exact List.mem_append_right _ q)
    dis := fun p hp q hq => S.dis p (by
      rcases List.mem_append.mp hp with z | z
      · exact List.mem_append_left _ z
      · exact List.mem_append_right _ (hr p z)) q hq
    dmr := fun p hp q hq => S.dmr p hp q (hr q hq) }

theorem Fresh.pend {r : Addr} {o : Obj} {xs : List AV} (F : Fresh c σ h vm mine rest fz r o xs) : Sta c σ h vm mine ((r, o) :: rest) fz := by
  have S := F.sta
  refine { S with news := ?_, dis := ?_, dmr := ?_ }
  · intro p hp
    rcases List.mem_append.mp hp with q | q
    · rcases List.mem_append.mp q with q | q
      · exact S.news p (List.mem_append_left _ (List.mem_append_left _ q))
      · rcases List.mem_cons.mp q with rfl | q
        · exact F.new
        · exact S.news p (List.mem_append_left _ (List.mem_append_right _ q))
    · exact S.news p (List.mem_append_right _ q)
  · intro p hp q hq
    rcases List.mem_append.mp hp with z | z
    · exact S.dis p (List.mem_append_left _ z) q hq
    · rcases List.mem_cons.mp z with rfl | z
      · exact fun e => F.off q (List.mem_append_right _ hq) e.symm
      · exact S.dis p (List.mem_append_right _ z) q hq
  · intro p hp q hq
    rcases List.mem_cons.mp hq with rfl | hq
    · exact F.off p (List.mem_append_left _ (List.mem_append_left _ hp))
    · exact S.dmr p hp q hq

theorem EvL_nil : EvL g c σ [] [] := by
  intro pos s vm mine rest fz S Q E hQ
  exact args_nil (hQ [] [] s.heap s.toks fz S (fun _ h => h) ⟨rfl, rfl⟩ .nil (fun _ h => nomatch h))
theorem EvL_val {e : Expr} {es : List Expr} {a : AV} {is : List Item} (he : Ev g c σ e a) (hl : EvL g c σ es is) (hst : starEach (e :: es) c.env = (false, eval e c.env) :: starEach es c.env := by rfl) : EvL g c σ (e :: es) (.val a :: is) := by
  intro pos s vm mine rest fz S Q E hQ
  refine args_cons (he s vm mine rest fz S _ _ fun v h' tk' fz' S' hs hv => ?_) hst
  refine hl pos _ vm mine rest fz' S' _ _ fun vs pend h'' tk'' fz'' S'' hs' hi hn hp => ?_
  refine hQ (v :: vs) pend h'' tk'' fz'' S'' (fun p q => hs' p (hs p q)) ?_ hn hp
  simp only [ItemsR]
  exact ⟨v, vs, rfl, hv.mono hs', hi⟩
theorem EvL_own {e : Expr} {es : List Expr} {xs : List AV} {is : List Item} (he : EvF g c σ e xs) (hl : EvL g c σ es is) (hst : starEach (e :: es) c.env = (false, eval e c.env) :: starEach es c.env := by rfl) : EvL g c σ (e :: es) (.own xs :: is) := by
  intro pos s vm mine rest fz S Q E hQ
  refine args_cons (he s vm mine rest fz S _ _ fun r o h' tk' fz' F hs => ?_) hst
  refine hl pos _ vm mine ((r, o) :: rest) fz' F.pend _ _ fun vs pend h'' tk'' fz'' S'' hs' hi hn hp => ?_
  obtain ⟨us, h1, h2⟩ := F.vals
  refine hQ (.ref r :: vs) ((r, o) :: pend) h'' tk'' fz'' (S''.sub fun p hp => ?_) (fun p q => hs' p (hs p q)) ?_ ?_ ?_
  · rcases List.mem_cons.mp hp with rfl | hp
    · exact List.mem_append_right _ (.head _)
    · rcases List.mem_append.mp hp with q | q
      · exact List.mem_append_left _ q
      · exact List.mem_append_right _ (.tail _ q)
  · simp only [ItemsR]
    exact ⟨r, o, us, vs, pend, rfl, rfl, h1, Reps.mono hs' xs h2, hi⟩
  · refine List.nodup_cons.mpr ⟨fun hm => ?_, hn⟩
    obtain ⟨p, hp', e⟩ := List.mem_map.mp hm
    exact hp p hp' (r, o) (.head _) e
  · intro p hp' q hq
    rcases List.mem_cons.mp hp' with rfl | hp'
    · exact fun e => F.off q (List.mem_append_left _ (List.mem_append_right _ hq)) e.symm
    · exact hp p hp' q (.tail _ hq)

/-- a row of values alone -/
def EvV (g : Gl) (c : Fx) (σ : St) (es : List Expr) (as : List AV) : Prop := EvL g c σ es (as.map .val)
theorem EvV_nil : EvV g c σ [] [] := EvL_nil
theorem EvV_cons {e : Expr} {es : List Expr} {a : AV} {as : List AV} (he : Ev g c σ e a) (hl : EvV g c σ es as) (hst : starEach (e :: es) c.env = (false, eval e c.env) :: starEach es c.env := by rfl) : EvV g c σ (e :: es) (a :: as) := EvL_val he hl hst
end
end
section

section
variable {g : Gl} {c : Fx} {σ σ' : St} {h h' : Heap} {vm vm' : Str → Option Value} {mine rest fz : Led}

theorem OwnR.split {cells : List (Str × Addr)} : ∀ {pre : List (Str × Option (List AV))} {e : Str × Option (List AV)} {post : List (Str × Option (List AV))} {mine : Led}, OwnR cells vm fz mine (pre ++ e :: post) →
    ∃ mpre p mpost, mine = mpre ++ p :: mpost ∧ OwnR cells vm fz mpre pre ∧ OwnR cells vm fz [p] [e] ∧ OwnR cells vm fz mpost post
  | [], (x, some xs), post, (a, o) :: r, h => by
    simp only [List.nil_append, OwnR] at h
    exact ⟨[], (a, o), r, rfl, trivial, ⟨h.1, trivial⟩, h.2⟩
  | [], (x, none), post, (a, o) :: r, h => by
    simp only [List.nil_append, OwnR] at h
    exact ⟨[], (a, o), r, rfl, trivial, ⟨h.1, trivial⟩, h.2⟩
  | [], e, post, [], h => by obtain ⟨x, s⟩ := e; cases s <;> simp [OwnR] at h
  | (x, some xs) :: pre, e, post, (a, o) :: r, h => by
    simp only [List.cons_append, OwnR] at h
    obtain ⟨mpre, p, mpost, rfl, h1, h2, h3⟩ := OwnR.split h.2
    exact ⟨(a, o) :: mpre, p, mpost, rfl, ⟨h.1, h1⟩, h2, h3⟩
  | (x, none) :: pre, e, post, (a, o) :: r, h => by
    simp only [List.cons_append, OwnR] at h
    obtain ⟨mpre, p, mpost, rfl, h1, h2, h3⟩ := OwnR.split h.2
    exact ⟨(a, o) :: mpre, p, mpost, rfl, ⟨h.1, h1⟩, h2, h3⟩
  | (x, s) :: pre, e, post, [], h => by cases s <;> simp [OwnR] at h
theorem OwnR.join {cells : List (Str × Addr)} {e : Str × Option (List AV)} {p : Addr × Obj} {post : List (Str × Option (List AV))} {mpost : Led} (h2 : OwnR cells vm fz [p] [e]) (h3 : OwnR cells vm fz mpost post) : ∀ {pre : List (Str × Option (List AV))} {mpre : Led},
    OwnR cells vm fz mpre pre → OwnR cells vm fz (mpre ++ p :: mpost) (pre ++ e :: post)
  | [], [], _ => by
    obtain ⟨x, s⟩ := e; obtain ⟨a, o⟩ := p
    cases s <;> (simp only [OwnR, List.nil_append] at h2 ⊢; exact ⟨h2.1, h3⟩)
  | (x, some xs) :: pre, (a, o) :: r, h => by
    simp only [OwnR, List.cons_append] at h ⊢
    exact ⟨h.1, OwnR.join h2 h3 h.2⟩
  | (x, none) :: pre, (a, o) :: r, h => by
    simp only [OwnR, List.cons_append] at h ⊢
    exact ⟨h.1, OwnR.join h2 h3 h.2⟩
  | [], _ :: _, h => by simp [OwnR] at h
  | (_, s) :: _, [], h => by cases s <;> simp [OwnR] at h
theorem OwnR.app {cells : List (Str × Addr)} {post : List (Str × Option (List AV))} {mpost : Led} (h3 : OwnR cells vm fz mpost post) : ∀ {pre : List (Str × Option (List AV))} {mpre : Led},
    OwnR cells vm fz mpre pre → OwnR cells vm fz (mpre ++ mpost) (pre ++ post)
  | [], [], _ => h3
  | (x, some xs) :: pre, (a, o) :: r, h => by
    simp only [OwnR, List.cons_append] at h ⊢
    exact ⟨h.1, OwnR.app h3 h.2⟩
  | (x, none) :: pre, (a, o) :: r, h => by
    simp only [OwnR, List.cons_append] at h ⊢
    exact ⟨h.1, OwnR.app h3 h.2⟩
  | [], _ :: _, h => by simp [OwnR] at h
  | (_, s) :: _, [], h => by cases s <;> simp [OwnR] at h

/-- one held object turns -/
theorem Sta.change {mpre mpost : Led} {a : Addr} {o o' : Obj} (S : Sta c σ h vm (mpre ++ (a, o) :: mpost) rest fz) (hs : Heap.SameBut a h h') (ho : h'.get? a = some o')
    (hvm : ∀ x, c.env.kindOf x = some .local → vm' x = vm x) (rho : ∀ x a, look x σ'.ρ = some a → ∃ v, vm' x = some v ∧ Rep fz a v) (own : OwnR c.env.cells vm' fz (mpre ++ (a, o') :: mpost) σ'.ω) :
    Sta c σ' h' vm' (mpre ++ (a, o') :: mpost) rest fz := by
  have hnd := S.nd
  rw [List.map_append, List.map_cons] at hnd
  have hnd' := List.nodup_append.mp hnd
  have hpre : ∀ p ∈ mpre, p.1 ≠ a := fun p hp => hnd'.2.2 _ (List.mem_map_of_mem hp) _ (.head _)
  have hpost : ∀ p ∈ mpost, p.1 ≠ a := fun p hp e => (List.nodup_cons.mp hnd'.2.1).1 (e ▸ List.mem_map_of_mem (f := (·.1)) hp)
  have hin : (a, o) ∈ mpre ++ (a, o) :: mpost := List.mem_append_right _ (.head _)
  have hrest : ∀ p ∈ rest, p.1 ≠ a := fun p hp e => S.dmr _ hin p hp e.symm
  have hfz : ∀ p ∈ fz, p.1 ≠ a := fun p hp e => S.dis _ (List.mem_append_left _ hin) p hp e.symm
  have hA := S.news (a, o) (List.mem_append_left _ (List.mem_append_left _ hin))
  have old : ∀ p ∈ (mpre ++ (a, o) :: mpost) ++ rest ++ fz, p.1 ≠ a → h'.get? p.1 = some p.2 ∧ p.1 ≠ c.env.locals ∧ c.h₀.get? p.1 = none := fun p hp hne => by
    have := S.news p hp
    exact ⟨(hs.2 _ hne).trans this.1, this.2⟩
  have up : ∀ p ∈ mpre ++ (a, o') :: mpost, p = (a, o') ∨ (p ∈ mpre ++ (a, o) :: mpost ∧ p.1 ≠ a) := fun p hp => by
    rcases List.mem_append.mp hp with q | q
    · exact .inr ⟨List.mem_append_left _ q, hpre p q⟩
    · rcases List.mem_cons.mp q with q | q
      · exact .inl q
      · exact .inr ⟨List.mem_append_right _ (.tail _ q), hpost p q⟩
  have adr : ∀ p ∈ mpre ++ (a, o') :: mpost, ∃ q ∈ mpre ++ (a, o) :: mpost, q.1 = p.1 := fun p hp => by
    rcases up p hp with rfl | ⟨q, _⟩
    · exact ⟨_, hin, rfl⟩
    · exact ⟨p, q, rfl⟩
  refine ⟨?_, ?_, ?_, ?_, ?_, rho, own⟩
  · obtain ⟨m, F, e⟩ := S.fr
    refine ⟨m, ⟨F.ns.sameBut hs (Ne.symm hA.2.1), fun b ob eb => (hs.2 b fun q => ?_).trans (F.keep b ob eb), F.above⟩, fun x hx => (e x hx).trans (hvm x hx).symm⟩
    rw [q] at eb; have := hA.2.2; rw [show (a, o).1 = a from rfl] at this; rw [this] at eb; cases eb
  · intro p hp
    rcases List.mem_append.mp hp with q | q
    · rcases List.mem_append.mp q with q | q
      · rcases up p q with rfl | ⟨q, hne⟩
        · exact ⟨ho, hA.2⟩
        · exact old p (List.mem_append_left _ (List.mem_append_left _ q)) hne
      · exact old p (List.mem_append_left _ (List.mem_append_right _ q)) (hrest p q)
    · exact old p (List.mem_append_right _ q) (hfz p q)
  · intro p hp q hq
    rcases List.mem_append.mp hp with z | z
    · obtain ⟨p', hp', e⟩ := adr p z
      rw [← e]; exact S.dis p' (List.mem_append_left _ hp') q hq
    · exact S.dis p (List.mem_append_right _ z) q hq
  · intro p hp q hq
    obtain ⟨p', hp', e⟩ := adr p hp
    rw [← e]; exact S.dmr p' hp' q hq
  · have : (mpre ++ (a, o') :: mpost).map (·.1) = (mpre ++ (a, o) :: mpost).map (·.1) := by simp
    rw [this]; exact S.nd

/-! reading a name, wherever it lies -/
def Readable (c : Fx) (σ : St) (x : Str) : Prop := c.env.kindOf x = some .local ∨ (c.env.kindOf x = some .cell ∧ (x, none) ∈ σ.ω ∧ tabQ x = none)
theorem Readable.loc {x : Str} (h : c.env.kindOf x = some .local) : Readable c σ x := .inl h
theorem OwnR.cell {cells : List (Str × Addr)} {x : Str} : ∀ {ω : List (Str × Option (List AV))} {mine : Led}, OwnR cells vm fz mine ω → (x, none) ∈ ω → ∃ a o, (a, o) ∈ mine ∧ CellR cells vm fz x a o
  | (y, some xs) :: q, (a, o) :: r, h, hm => by
    simp only [OwnR] at h
    rcases List.mem_cons.mp hm with e | hm
    · cases e
    · obtain ⟨a', o', h1, h2⟩ := OwnR.cell h.2 hm
      exact ⟨a', o', .tail _ h1, h2⟩
  | (y, none) :: q, (a, o) :: r, h, hm => by
    simp only [OwnR] at h
    rcases List.mem_cons.mp hm with e | hm
    · cases e; exact ⟨a, o, .head _, h.1⟩
    · obtain ⟨a', o', h1, h2⟩ := OwnR.cell h.2 hm
      exact ⟨a', o', .tail _ h1, h2⟩
  | [], _, _, hm => nomatch hm
  | (_, s) :: _, [], h, _ => by cases s <;> simp [OwnR] at h

theorem load_var {k : Nat} {x : Str} {v : Value} (ok : c.Ok g k) {s : Shared} (S : Sta c σ s.heap vm mine rest fz) (hr : Readable c σ x) (hv : vm x = some v) {Q E : Value → Shared → Prop} (hQ : Q v s) : wpAny (model g.prog g.w) c.A (loadName c.env x) Q E s := by
  rcases hr with hk | ⟨hk, hm, hq⟩
  · obtain ⟨m, F, e⟩ := S.fr
    exact wpAny_loadName_local ok.kind hk F.ns ((e x hk).trans hv) hQ
  · obtain ⟨a, o, hm', hcr⟩ := S.own.cell hm
    obtain ⟨hd, hc⟩ := (CellR.cell hq).mp hcr
    exact wpAny_loadName_cell ok.kind hk hc ⟨o, S.getMine hm', by rw [hd, hv]⟩ hQ
theorem Ev_var {k : Nat} {x : Str} {pos : Pos} {a : AV} (ok : c.Ok g k) (ha : look x σ.ρ = some a) (hr : Readable c σ x) (hd : (x == ("__debug__" : Str)) = false := by decide) : Ev g c σ (.Name x pos) a := by
  intro s vm mine rest fz S Q E hQ
  obtain ⟨v, hv, hrep⟩ := S.rho x a ha
  exact wpAny_Name (load_var ok S hr hv (hQ v s.heap s.toks fz S (fun _ h => h) hrep)) hd

/-! a held list -/
theorem Sta.held {x : Str} {xs : List AV} {pre post : List (Str × Option (List AV))} (S : Sta c σ h vm mine rest fz) (hω : σ.ω = pre ++ (x, some xs) :: post) :
    ∃ mpre a n vs mpost, mine = mpre ++ (a, listOf vs.toArray n) :: mpost ∧ vm x = some (.ref a) ∧ Reps fz xs vs ∧ OwnR c.env.cells vm fz mpre pre ∧ OwnR c.env.cells vm fz mpost post ∧ h.get? a = some (listOf vs.toArray n) := by
  have ow := S.own
  rw [hω] at ow
  obtain ⟨mpre, p, mpost, rfl, h1, h2, h3⟩ := ow.split
  obtain ⟨a, o⟩ := p
  simp only [OwnR] at h2
  obtain ⟨⟨vs, ⟨n, rfl⟩, hr, hv⟩, _⟩ := h2
  exact ⟨mpre, a, n, vs, mpost, rfl, hv, hr, h1, h3, S.getMine (List.mem_append_right _ (.head _))⟩

/-- the held list is looked at as a whole from now on, and turns no more -/
theorem Sta.freeze {x : Str} {xs : List AV} {pre post : List (Str × Option (List AV))} (S : Sta c σ h vm mine rest fz) (hω : σ.ω = pre ++ (x, some xs) :: post) :
    ∃ mine' fz', Sta c { ρ := (x, .list xs) :: σ.ρ, ω := pre ++ post } h vm mine' rest fz' ∧ (∀ p ∈ fz, p ∈ fz') := by
  obtain ⟨mpre, a, n, vs, mpost, rfl, hv, hr, h1, h3, hg⟩ := S.held hω
  have hs : ∀ p ∈ fz, p ∈ (a, listOf vs.toArray n) :: fz := fun p hp => .tail _ hp
  have hin : (a, listOf vs.toArray n) ∈ mpre ++ (a, listOf vs.toArray n) :: mpost := List.mem_append_right _ (.head _)
  have sub : ∀ p ∈ mpre ++ mpost, p ∈ mpre ++ (a, listOf vs.toArray n) :: mpost := fun p hp => by
    rcases List.mem_append.mp hp with q | q
    · exact List.mem_append_left _ q
    · exact List.mem_append_right _ (.tail _ q)
  have hnd := S.nd
  rw [List.map_append, List.map_cons] at hnd
  have hnd' := List.nodup_append.mp hnd
  refine ⟨mpre ++ mpost, (a, listOf vs.toArray n) :: fz, ⟨S.fr, ?_, ?_, fun p hp => S.dmr p (sub p hp), ?_, ?_, (h3.mono hs).app (h1.mono hs)⟩, hs⟩
  · intro p hp
    rcases List.mem_append.mp hp with q | q
    · rcases List.mem_append.mp q with q | q
      · exact S.news p (List.mem_append_left _ (List.mem_append_left _ (sub p q)))
      · exact S.news p (List.mem_append_left _ (List.mem_append_right _ q))
    · rcases List.mem_cons.mp q with rfl | q
      · exact S.news _ (List.mem_append_left _ (List.mem_append_left _ hin))
      · exact S.news p (List.mem_append_right _ q)
  · intro p hp q hq
    rcases List.mem_cons.mp hq with rfl | hq
    · rcases List.mem_append.mp hp with z | z
      · rcases List.mem_append.mp z with z | z
        · exact hnd'.2.2 _ (List.mem_map_of_mem z) _ (.head _)
        · exact fun e => (List.nodup_cons.mp hnd'.2.1).1 (e ▸ List.mem_map_of_mem (f := (·.1)) z)
      · exact fun e => S.dmr _ hin p z e.symm
    · rcases List.mem_append.mp hp with z | z
      · exact S.dis p (List.mem_append_left _ (sub p z)) q hq
      · exact S.dis p (List.mem_append_right _ z) q hq
  · rw [List.map_append]
    refine List.nodup_append.mpr ⟨hnd'.1, (List.nodup_cons.mp hnd'.2.1).2, fun b hb d hd => hnd'.2.2 b hb d (.tail _ hd)⟩
  · intro y b hb
    simp only [look] at hb
    by_cases q : x = y
    · rw [if_pos q] at hb; cases hb
      exact ⟨_, q ▸ hv, Rep.list_iff.mpr ⟨a, _, vs, rfl, .head _, ⟨n, rfl⟩, hr.mono hs⟩⟩
    · rw [if_neg q] at hb
      obtain ⟨u, hu, hr'⟩ := S.rho y b hb
      exact ⟨u, hu, hr'.mono hs⟩

theorem WpS.freeze {x : Str} {xs : List AV} {pre post : List (Str × Option (List AV))} {t : Sem Flow} {P : Out → St → Prop} (hω : σ.ω = pre ++ (x, some xs) :: post) (hw : WpS g c { ρ := (x, .list xs) :: σ.ρ, ω := pre ++ post } t P) : WpS g c σ t P := by
  intro s vm mine rest fz S Q E hQ
  obtain ⟨mine', fz', S', hs⟩ := S.freeze hω
  exact hw s vm mine' rest fz' S' Q E fun o₂ σ₂ fl₂ h₂ tk₂ vm₂ mine₂ fz₂ p₂ S₂ hs₂ r₂ => hQ o₂ σ₂ fl₂ h₂ tk₂ vm₂ mine₂ fz₂ p₂ S₂ (fun p q => hs₂ p (hs p q)) r₂
/-- the held list is given up -/
theorem Sta.drop {e : Str × Option (List AV)} {pre post : List (Str × Option (List AV))} (S : Sta c σ h vm mine rest fz) (hω : σ.ω = pre ++ e :: post) :
    ∃ mine', Sta c { σ with ω := pre ++ post } h vm mine' rest fz := by
  have ow := S.own
  rw [hω] at ow
  obtain ⟨mpre, p, mpost, rfl, h1, h2, h3⟩ := ow.split
  have sub : ∀ q ∈ mpre ++ mpost, q ∈ mpre ++ p :: mpost := fun p hp => by
    rcases List.mem_append.mp hp with q | q
    · exact List.mem_append_left _ q
    · exact List.mem_append_right _ (.tail _ q)
  have hnd := S.nd
  rw [List.map_append, List.map_cons] at hnd
  have hnd' := List.nodup_append.mp hnd
  refine ⟨mpre ++ mpost, S.fr, fun p hp => ?_, fun p hp => S.dis p ?_, fun p hp => S.dmr p (sub p hp), ?_, S.rho, h3.app h1⟩
  · rcases List.mem_append.mp hp with q | q
    · rcases List.mem_append.mp q with q | q
      · exact S.news p (List.mem_append_left _ (List.mem_append_left _ (sub p q)))
      · exact S.news p (List.mem_append_left _ (List.mem_append_right _ q))
    · exact S.news p (List.mem_append_right _ q)
  · rcases List.mem_append.mp hp with z | z
    · exact List.mem_append_left _ (sub p z)
    · exact List.mem_append_right _ z
  · rw [List.map_append]
    exact List.nodup_append.mpr ⟨hnd'.1, (List.nodup_cons.mp hnd'.2.1).2, fun b hb d hd => hnd'.2.2 b hb d (.tail _ hd)⟩
theorem WpS.drop {e : Str × Option (List AV)} {pre post : List (Str × Option (List AV))} {t : Sem Flow} {P : Out → St → Prop} (hω : σ.ω = pre ++ e :: post) (hw : WpS g c { σ with ω := pre ++ post } t P) : WpS g c σ t P := by
  intro s vm mine rest fz S Q E hQ
  obtain ⟨mine', S'⟩ := S.drop hω
  exact hw s vm mine' rest fz S' Q E hQ

/-! x.append(e) -/
theorem Ex_append {pl : Sem Bool} {k : Nat} {x : Str} {p0 ap pos sp : Pos} {e : Expr} {a : AV} {xs : List AV} {pre post : List (Str × Option (List AV))} {P : Out → St → Prop} (ok : c.Ok g k) (hω : σ.ω = pre ++ (x, some xs) :: post) (hr : Readable c σ x)
    (he : Ev g c σ e a) (hsz : xs.length ≤ sizeLine) (hp : P .next { σ with ω := pre ++ (x, some (xs ++ [a])) :: post })
    (hd : (x == ("__debug__" : Str)) = false := by decide)
    (hm : eval (.Call (.Attribute (.Name x p0) "append" ap) [e] [] pos) c.env = (do
          let ov ← eval (.Name x p0) c.env
          standAt ap.atName
          let __x ← holding [ov] (getMethod ov "append" pl)
          match __x with
            | (f, first) => callWith pos f first (backTo pos (starEach [e] c.env)) []) := by rfl)
    (hi : interactive c.env = false := by rfl) (hsw : swapsWith (.Call (.Attribute (.Name x p0) "append" ap) [e] [] pos) none sp.line c.env = pure false := by rfl)
    (hst : starEach [e] c.env = [(false, eval e c.env)] := by rfl) :
    Ex g c σ (.Expr (.Call (.Attribute (.Name x p0) "append" ap) [e] [] pos) sp) P := by
  intro s vm mine rest fz S Q E hQ
  obtain ⟨mpre, b, n, vs, mpost, rfl, hv, hre, h1, h3, hg⟩ := S.held hω
  refine wpAny_Expr_any (MethodCall_ (wpAny_Name (load_var ok S hr hv ?_) hd) hm) hi hsw
  refine getMethod_list_append hg rfl rfl ?_
  refine callWith_method1 (args_cons (he s vm _ rest fz S _ _ fun v h' tk' fz' S' hs hv' => args_nil ?_) hst) hst rfl
  have hg' := S'.getMine (a := b) (List.mem_append_right _ (.head _))
  refine wpAny_list_append_plain (items := vs.toArray) ⟨n, hg'⟩ (fun h'' hl hsb => ?_) (by simpa [hre.length] using hsz)
  obtain ⟨n', hg''⟩ := hl
  have S'' := S'.change (σ' := { σ with ω := pre ++ (x, some (xs ++ [a])) :: post }) (vm' := vm) hsb hg'' (fun _ _ => rfl) S'.rho
    (OwnR.join (e := (x, some (xs ++ [a]))) (by
      simp only [OwnR]
      exact ⟨⟨vs ++ [v], ⟨n', by simp⟩, (Reps.mono hs xs hre).append (Reps.one hv'), hv⟩, trivial⟩) (h3.mono hs) (h1.mono hs))
  exact hQ .next _ .next h'' tk' vm _ fz' hp S'' hs trivial
end
end
section

section
variable {g : Gl} {c : Fx} {σ σ' : St} {h h' : Heap} {vm vm' : Str → Option Value} {mine rest fz : Led}

theorem ItemsR.append {is js : List Item} : ∀ {vs us : List Value} {p q : Led}, ItemsR fz is vs p → ItemsR fz js us q → ItemsR fz (is ++ js) (vs ++ us) (p ++ q) := by
  induction is with
  | nil => intro vs us p q h h'; simp only [ItemsR] at h; obtain ⟨rfl, rfl⟩ := h; exact h'
  | cons i is ih =>
    intro vs us p q h h'
    cases i with
    | val a =>
      simp only [ItemsR, List.cons_append] at h ⊢
      obtain ⟨v, r, rfl, h1, h2⟩ := h
      exact ⟨v, r ++ us, rfl, h1, ih h2 h'⟩
    | own xs =>
      simp only [ItemsR, List.cons_append] at h ⊢
      obtain ⟨a, o, us', r, pend', rfl, rfl, h1, h2, h3⟩ := h
      exact ⟨a, o, us', r ++ us, pend' ++ q, rfl, rfl, h1, h2, ih h3 h'⟩
theorem ItemsR.reverse {is : List Item} : ∀ {vs : List Value} {p : Led}, ItemsR fz is vs p → ItemsR fz is.reverse vs.reverse p.reverse := by
  induction is with
  | nil => intro vs p h; simp only [ItemsR] at h; obtain ⟨rfl, rfl⟩ := h; exact ⟨rfl, rfl⟩
  | cons i is ih =>
    intro vs p h
    cases i with
    | val a =>
      simp only [ItemsR] at h
      obtain ⟨v, r, rfl, h1, h2⟩ := h
      simp only [List.reverse_cons]
      have := (ih h2).append (js := [.val a]) (us := [v]) (q := []) ⟨v, [], rfl, h1, rfl, rfl⟩
      simpa using this
    | own xs =>
      simp only [ItemsR] at h
      obtain ⟨a, o, us', r, pend', rfl, rfl, h1, h2, h3⟩ := h
      simp only [List.reverse_cons]
      exact (ih h3).append (js := [.own xs]) (us := [.ref a]) (q := [(a, o)]) ⟨a, o, us', [], [], rfl, rfl, h1, h2, rfl, rfl⟩
theorem ItemsR.length {is : List Item} : ∀ {vs : List Value} {p : Led}, ItemsR fz is vs p → vs.length = is.length := by
  induction is with
  | nil => intro vs p h; simp only [ItemsR] at h; obtain ⟨rfl, rfl⟩ := h; rfl
  | cons i is ih =>
    intro vs p h
    cases i with
    | val a =>
      simp only [ItemsR] at h
      obtain ⟨v, r, rfl, h1, h2⟩ := h
      simp [ih h2]
    | own xs =>
      simp only [ItemsR] at h
      obtain ⟨a, o, us', r, pend', rfl, rfl, h1, h2, h3⟩ := h
      simp [ih h3]

/-- the state behind stores -/
def storeAll : St → List (Str × Item) → St
  | σ, [] => σ
  | σ, (x, .val a) :: r => storeAll { σ with ρ := (x, a) :: σ.ρ } r
  | σ, (x, .own xs) :: r => storeAll { ρ := unvar x σ.ρ, ω := (x, some xs) :: σ.ω } r

/-- the cell of x, and no list of its, is all that is held under x -/
def cellOnly (x : Str) (ω : List (Str × Option (List AV))) : Bool := match ω with
  | [] => false
  | (y, s) :: r => if y = x then s.isNone && (ownsNot x r && (tabQ x).isNone) else cellOnly x r
theorem cellOnly_split {x : Str} : ∀ {ω : List (Str × Option (List AV))}, cellOnly x ω = true → ∃ pre post, ω = pre ++ (x, none) :: post ∧ ownsNot x pre = true ∧ ownsNot x post = true ∧ tabQ x = none
  | [], h => by simp [cellOnly] at h
  | (y, s) :: r, h => by
    unfold cellOnly at h
    by_cases q : y = x
    · rw [if_pos q] at h
      cases s with
      | some _ => simp at h
      | none => simp at h; exact ⟨[], r, by rw [q]; rfl, rfl, h.1, h.2⟩
    · rw [if_neg q] at h
      obtain ⟨pre, post, rfl, h1, h2⟩ := cellOnly_split h
      exact ⟨(y, s) :: pre, post, rfl, by simpa [ownsNot, q] using h1, h2⟩

def CanSt (c : Fx) (x : Str) (ω : List (Str × Option (List AV))) : Prop := (c.env.kindOf x = some .local ∧ ownsNot x ω = true) ∨ (c.env.kindOf x = some .cell ∧ cellOnly x ω = true)

theorem store_val {k : Nat} {x : Str} {v : Value} {a : AV} (ok : c.Ok g k) {s : Shared} (S : Sta c σ s.heap vm mine rest fz) (hx : CanSt c x σ.ω) (hv : Rep fz a v) {Q : Unit → Shared → Prop} {E : Value → Shared → Prop}
    (hQ : ∀ h' tk' vm' mine', Sta c { σ with ρ := (x, a) :: σ.ρ } h' vm' mine' rest fz → Q () { s with heap := h', toks := tk' }) : wpAny (model g.prog g.w) c.A (storeName c.env x v) Q E s := by
  rcases hx with ⟨hk, hx⟩ | ⟨hk, hx⟩
  · exact store_local ok S hk hx hv fun h' tk' vm' S' => hQ h' tk' vm' mine S'
  · obtain ⟨pre, post, hω, n1, n2, hq⟩ := cellOnly_split hx
    have ow := S.own
    rw [hω] at ow
    obtain ⟨mpre, p, mpost, rfl, h1, h2, h3⟩ := ow.split
    obtain ⟨b, o⟩ := p
    simp only [OwnR, CellR.cell hq] at h2
    have hg := S.getMine (a := b) (o := o) (List.mem_append_right _ (.head _))
    refine wpAny_storeName_cell ok.kind hk h2.1.2 ⟨o, hg, h2.1.1⟩ fun h' hv' hs => ?_
    obtain ⟨o', ho', hd'⟩ := hv'
    refine hQ h' _ (updVm vm x v) _ (S.change (o' := o') (σ' := { σ with ρ := (x, a) :: σ.ρ }) (vm' := updVm vm x v) hs ho' (fun y hy => ?_) (fun y b hb => ?_) ?_)
    · rw [updVm, if_neg]
      intro e; rw [e, hk] at hy; cases hy
    · simp only [look] at hb
      by_cases q : x = y
      · rw [if_pos q] at hb; cases hb
        exact ⟨v, by simp [updVm, q], hv⟩
      · rw [if_neg q] at hb
        obtain ⟨u, hu, hr⟩ := S.rho y b hb
        exact ⟨u, by rw [updVm, if_neg (Ne.symm q)]; exact hu, hr⟩
    · show OwnR _ _ _ _ σ.ω
      rw [hω]
      refine OwnR.join (e := (x, none)) ?_ (h3.upd n2) (h1.upd n1)
      simp only [OwnR, CellR.cell hq]
      exact ⟨⟨by rw [hd']; simp [updVm], h2.1.2⟩, trivial⟩

theorem Sta.take {a : Addr} {o : Obj} {x : Str} {xs : List AV} {us : List Value} (S : Sta c σ h vm mine ((a, o) :: rest) fz) (hoff : ∀ q ∈ rest, a ≠ q.1) (hl : LObj o us) (hr : Reps fz xs us) (hv : vm x = some (.ref a)) :
    Sta c { ρ := unvar x σ.ρ, ω := (x, some xs) :: σ.ω } h vm ((a, o) :: mine) rest fz := by
  refine ⟨S.fr, fun p hp => S.news p ?_, fun p hp => S.dis p ?_, fun p hp q hq => ?_, ?_, fun y b hb => S.rho y b (look_unvar hb).2, ?_⟩
  · rcases List.mem_append.mp hp with q | q
    · rcases List.mem_append.mp q with q | q
      · rcases List.mem_cons.mp q with rfl | q
        · exact List.mem_append_left _ (List.mem_append_right _ (.head _))
        · exact List.mem_append_left _ (List.mem_append_left _ q)
      · exact List.mem_append_left _ (List.mem_append_right _ (.tail _ q))
    · exact List.mem_append_right _ q
  · rcases List.mem_append.mp hp with q | q
    · rcases List.mem_cons.mp q with rfl | q
      · exact List.mem_append_right _ (.head _)
      · exact List.mem_append_left _ q
    · exact List.mem_append_right _ (.tail _ q)
  · rcases List.mem_cons.mp hp with rfl | hp
    · exact hoff q hq
    · exact S.dmr p hp q (.tail _ hq)
  · rw [List.map_cons]
    refine List.nodup_cons.mpr ⟨fun hm => ?_, S.nd⟩
    obtain ⟨p, hp, e⟩ := List.mem_map.mp hm
    exact S.dmr p hp (a, o) (.head _) e
  · simp only [OwnR]
    exact ⟨⟨us, hl, hr, hv⟩, S.own⟩

theorem store_own {k : Nat} {x : Str} {a : Addr} {o : Obj} {xs : List AV} {us : List Value} (ok : c.Ok g k) {s : Shared} (S : Sta c σ s.heap vm mine ((a, o) :: rest) fz) (hoff : ∀ q ∈ rest, a ≠ q.1) (hl : LObj o us) (hr : Reps fz xs us)
    (hx : CanSt c x σ.ω) {Q : Unit → Shared → Prop} {E : Value → Shared → Prop}
    (hQ : ∀ h' tk' vm' mine', Sta c { ρ := unvar x σ.ρ, ω := (x, some xs) :: σ.ω } h' vm' mine' rest fz → Q () { s with heap := h', toks := tk' }) : wpAny (model g.prog g.w) c.A (storeName c.env x (.ref a)) Q E s := by
  have S0 : Sta c { ρ := unvar x σ.ρ, ω := σ.ω } s.heap vm mine ((a, o) :: rest) fz := { S with rho := fun y b hb => S.rho y b (look_unvar hb).2 }
  have key : ∀ h' vm' mine', Sta c { ρ := unvar x σ.ρ, ω := σ.ω } h' vm' mine' ((a, o) :: rest) fz → vm' x = some (.ref a) → Sta c { ρ := unvar x σ.ρ, ω := (x, some xs) :: σ.ω } h' vm' ((a, o) :: mine') rest fz := fun h' vm' mine' S' hv => by
    have S'' := S'.take hoff hl hr hv
    refine { S'' with rho := fun y b hb => S'.rho y b hb }
  rcases hx with ⟨hk, hx⟩ | ⟨hk, hx⟩
  · obtain ⟨m, F, e⟩ := S0.fr
    refine wpAny_storeName_local hk F.ns (fun h' hn hs => ?_) (cls_kind ok)
    refine hQ h' _ (updVm vm x (.ref a)) _ (key h' _ mine ⟨⟨_, F.set hn hs, fun y hy => ?_⟩, S0.news.set hs, S0.dis, S0.dmr, S0.nd, fun y b hb => ?_, S0.own.upd hx⟩ (by simp [updVm]))
    · by_cases q : y = x
      · simp [updVm, q]
      · simp only [updVm, if_neg q]; exact e y hy
    · obtain ⟨u, hu, hr'⟩ := S0.rho y b hb
      exact ⟨u, by rw [updVm, if_neg (look_unvar hb).1]; exact hu, hr'⟩
  · obtain ⟨pre, post, hω, n1, n2, hq⟩ := cellOnly_split hx
    have ow := S0.own
    rw [hω] at ow
    obtain ⟨mpre, p, mpost, rfl, h1, h2, h3⟩ := ow.split
    obtain ⟨b, ob⟩ := p
    simp only [OwnR, CellR.cell hq] at h2
    have hg := S.getMine (a := b) (o := ob) (List.mem_append_right _ (.head _))
    refine wpAny_storeName_cell ok.kind hk h2.1.2 ⟨ob, hg, h2.1.1⟩ fun h' hv' hs => ?_
    obtain ⟨o', ho', hd'⟩ := hv'
    refine hQ h' _ (updVm vm x (.ref a)) _ (key h' _ _ (S0.change (o' := o') (σ' := { ρ := unvar x σ.ρ, ω := σ.ω }) (vm' := updVm vm x (.ref a)) hs ho' (fun y hy => ?_) (fun y b hb => ?_) ?_) (by simp [updVm]))
    · rw [updVm, if_neg]
      intro e; rw [e, hk] at hy; cases hy
    · obtain ⟨u, hu, hr'⟩ := S0.rho y b hb
      exact ⟨u, by rw [updVm, if_neg (look_unvar hb).1]; exact hu, hr'⟩
    · show OwnR _ _ _ _ σ.ω
      rw [hω]
      refine OwnR.join (e := (x, none)) ?_ (h3.upd n2) (h1.upd n1)
      simp only [OwnR, CellR.cell hq]
      exact ⟨⟨by rw [hd']; simp [updVm], h2.1.2⟩, trivial⟩

/-- names that may take their items, one behind the other -/
def CanAll (c : Fx) : St → List (Str × Item) → Prop
  | _, [] => True
  | σ, (x, .val a) :: r => CanSt c x σ.ω ∧ CanAll c { σ with ρ := (x, a) :: σ.ρ } r
  | σ, (x, .own xs) :: r => CanSt c x σ.ω ∧ CanAll c { ρ := unvar x σ.ρ, ω := (x, some xs) :: σ.ω } r

theorem stores {k : Nat} (ok : c.Ok g k) (tg : Str → Value → Sem Unit)
    (htg : ∀ x v (s : Shared) (Q : Unit → Shared → Prop) (E : Value → Shared → Prop), wpAny (model g.prog g.w) c.A (storeName c.env x v) Q E s → wpAny (model g.prog g.w) c.A (tg x v) Q E s) : ∀ (l : List (Str × Item)) {σ : St} {vs : List Value} {pend mine : Led} {vm : Str → Option Value} {s : Shared},
    ItemsR fz (l.map (·.2)) vs pend → CanAll c σ l → Sta c σ s.heap vm mine (pend ++ rest) fz → (pend.map (·.1)).Nodup → (∀ p ∈ pend, ∀ q ∈ rest, p.1 ≠ q.1) → ∀ {Q : Unit → Shared → Prop} {E : Value → Shared → Prop},
    (∀ h' tk' vm' mine', Sta c (storeAll σ l) h' vm' mine' rest fz → Q () { s with heap := h', toks := tk' }) →
    wpAny (model g.prog g.w) c.A (assignInOrder ((l.map (·.1)).map tg) vs) Q E s
  | [], σ, vs, pend, mine, vm, s, hi, _, S, _, _, Q, E, hQ => by
    simp only [List.map_nil, ItemsR] at hi
    obtain ⟨rfl, rfl⟩ := hi
    exact wpAny_assignInOrder_none (hQ s.heap s.toks vm mine S)
  | (x, .val a) :: r, σ, vs, pend, mine, vm, s, hi, hc, S, hn, ho, Q, E, hQ => by
    simp only [List.map_cons, ItemsR] at hi
    obtain ⟨v, us, rfl, hv, hi'⟩ := hi
    simp only [CanAll] at hc
    refine wpAny_assignInOrder_more (htg x v s _ _ (store_val ok S hc.1 hv fun h' tk' vm' mine' S' => ?_))
    exact stores ok tg htg r (s := { s with heap := h', toks := tk' }) hi' hc.2 S' hn ho fun h'' tk'' vm'' mine'' S'' => hQ h'' tk'' vm'' mine'' S''
  | (x, .own xs) :: r, σ, vs, pend, mine, vm, s, hi, hc, S, hn, ho, Q, E, hQ => by
    simp only [List.map_cons, ItemsR] at hi
    obtain ⟨a, o, us, r', pend', rfl, rfl, hl, hr, hi'⟩ := hi
    simp only [CanAll] at hc
    have hn' := List.nodup_cons.mp hn
    refine wpAny_assignInOrder_more (htg x (.ref a) s _ _ (store_own ok (rest := pend' ++ rest) S (fun q hq => ?_) hl hr hc.1 fun h' tk' vm' mine' S' => ?_))
    · rcases List.mem_append.mp hq with z | z
      · exact fun e => hn'.1 (e ▸ List.mem_map_of_mem (f := (·.1)) z)
      · exact ho (a, o) (.head _) q z
    · exact stores ok tg htg r (s := { s with heap := h', toks := tk' }) hi' hc.2 S' hn'.2 (fun p hp => ho p (.tail _ hp)) fun h'' tk'' vm'' mine'' S'' => hQ h'' tk'' vm'' mine'' S''

/-- a, b = x, y : the stores from behind -/
theorem Ex_tup_swap {k kk kk' : Nat} {elts es : List Expr} {tp vp pos : Pos} {l : List (Str × Item)} {is : List Item} {P : Out → St → Prop} (ok : c.Ok g k) (he : EvL g c σ es is) (hc : CanAll c σ l) (hsz : es.length ≤ 8)
    (hp : P .next (storeAll σ l)) (hw : swappedStores [.Tuple elts kk tp] (.Tuple es kk' vp) c.env = pure (some (l.map (·.1)).reverse) := by rfl)
    (hs : swapsWithSole [.Tuple elts kk tp] (.Tuple es kk' vp) pos.line c.env = pure false := by rfl) (hlen : l.length = es.length := by rfl) (hl : is = (l.map (·.2)).reverse := by rfl) : Ex g c σ (.Assign [.Tuple elts kk tp] (.Tuple es kk' vp) pos) P := by
  subst hl
  intro s vm mine rest fz S Q E hQ
  refine Assign_Tuple_swapped (names := (l.map (·.1)).reverse) (Tuple_ (he vp s vm mine rest fz S _ _ fun vs pend h' tk' fz' S' hs' hi hn ho => ?_)) hs hw
  have hlv : vs.length = l.length := by rw [hi.length]; simp
  refine wpAny_newObj_type ?_ (by
    have e1 : vs.toArray.size = es.length := by simp [hlv, hlen]
    show vs.toArray.size ≤ sizeLine
    rw [e1]; exact Nat.le_trans hsz (by decide))
  have hnl : (l.map (·.1)).reverse.length = vs.toArray.size := by simp [hlv]
  rw [hnl]
  refine wpAny_unpackItems_tuple ok.handled ⟨_, Heap.get?_push_size _ rfl, rfl, _, rfl⟩ fun h'' he' => ?_
  rw [List.reverse_reverse]
  have kp : Kp h' h'' := fun b o e => by
    refine he' b o ?_ (Heap.get?_push_of_some _ e)
    have h1 := Heap.lt_size e
    show b ≠ (h'.push _).objs.size
    rw [Heap.size_push]
    exact Nat.ne_of_lt (Nat.lt_succ_of_lt h1)
  have S'' := S'.keeps kp
  have hi' : ItemsR fz' (l.map (·.2)) vs.reverse pend.reverse := by have := hi.reverse; rwa [List.reverse_reverse] at this
  refine stores ok (fun x v => bindName c.env x v) (fun x v s Q E h => wpAny_bindName h) l (pend := pend.reverse) (rest := rest) (s := { s with heap := h'', toks := tk' }) hi' hc (S''.sub fun p hp => ?_) ?_ ?_ ?_
  · rcases List.mem_append.mp hp with q | q
    · exact List.mem_append_left _ (List.mem_reverse.mp q)
    · exact List.mem_append_right _ q
  · rw [List.map_reverse]; exact (List.reverse_perm _).nodup_iff.mpr hn
  · exact fun p hp => ho p (List.mem_reverse.mp hp)
  · exact fun h₃ tk₃ vm₃ mine₃ S₃ => hQ .next _ .next h₃ tk₃ vm₃ mine₃ fz' hp S₃ hs' trivial
end
end
section

section
variable {g : Gl} {c : Fx} {σ σ' : St} {h h' : Heap} {vm vm' : Str → Option Value} {mine rest fz : Led}

/-! unpacking -/
def TgOk (g : Gl) (c : Fx) : List (Value → Sem Unit) → List Str → Prop
  | [], [] => True
  | t :: ts, x :: xs => (∀ v (s : Shared) (Q : Unit → Shared → Prop) (E : Value → Shared → Prop), wpAny (model g.prog g.w) c.A (storeName c.env x v) Q E s → wpAny (model g.prog g.w) c.A (t v) Q E s) ∧ TgOk g c ts xs
  | _, _ => False

def nameOf? : Expr → Option (Str × Pos)
  | .Name x p => some (x, p)
  | _ => none
def namesOf : List Expr → List (Str × Pos)
  | [] => []
  | e :: r => match nameOf? e with
    | some p => p :: namesOf r
    | none => namesOf r

theorem storesV {k : Nat} (ok : c.Ok g k) : ∀ (l : List (Str × AV)) {tgs : List (Value → Sem Unit)} {σ : St} {vs : List Value} {mine : Led} {vm : Str → Option Value} {s : Shared},
    TgOk g c tgs (l.map (·.1)) → Reps fz (l.map (·.2)) vs → CanAll c σ (l.map fun e => (e.1, Item.val e.2)) → Sta c σ s.heap vm mine rest fz → ∀ {Q : Unit → Shared → Prop} {E : Value → Shared → Prop},
    (∀ h' tk' vm' mine', Sta c (storeAll σ (l.map fun e => (e.1, Item.val e.2))) h' vm' mine' rest fz → Q () { s with heap := h', toks := tk' }) →
    wpAny (model g.prog g.w) c.A (assignInOrder tgs vs) Q E s
  | [], [], σ, vs, mine, vm, s, _, hr, _, S, Q, E, hQ => by
    simp only [List.map_nil] at hr
    rw [Reps.nil_iff] at hr; subst hr
    exact wpAny_assignInOrder_none (hQ s.heap s.toks vm mine S)
  | (x, a) :: r, t :: ts, σ, vs, mine, vm, s, htg, hr, hc, S, Q, E, hQ => by
    simp only [List.map_cons] at hr hc htg
    obtain ⟨v, us, rfl, hv, hr'⟩ := Reps.cons_iff.mp hr
    simp only [CanAll] at hc
    refine wpAny_assignInOrder_more (htg.1 v s _ _ (store_val ok S hc.1 hv fun h' tk' vm' mine' S' => ?_))
    exact storesV ok r (s := { s with heap := h', toks := tk' }) htg.2 hr' hc.2 S' fun h'' tk'' vm'' mine'' S'' => hQ h'' tk'' vm'' mine'' S''
  | (_, _) :: _, [], _, _, _, _, _, htg, _, _, _, _, _, _ => by simp [TgOk] at htg
  | [], _ :: _, _, _, _, _, _, htg, _, _, _, _, _, _ => by simp [TgOk] at htg

theorem tgOk_names : ∀ (ts : List (Str × Pos)), TgOk g c (ts.map fun t => assign (.Name t.1 t.2) c.env) (ts.map (·.1))
  | [] => trivial
  | t :: ts => ⟨fun v s Q E h => assign_Name h, tgOk_names ts⟩

/-- a, b = (a tuple) -/
theorem Ex_tup {k kk : Nat} {elts : List Expr} {value : Expr} {tp pos : Pos} {l : List (Str × AV)} {P : Out → St → Prop} (ok : c.Ok g k) (he : Ev g c σ value (.tup (l.map (·.2)))) (hc : CanAll c σ (l.map fun e => (e.1, Item.val e.2)))
    (hp : P .next (storeAll σ (l.map fun e => (e.1, Item.val e.2)))) (hn : (namesOf elts).map (·.1) = l.map (·.1) := by rfl)
    (hae : assignEach elts c.env = (namesOf elts).map (fun t => (false, assign (.Name t.1 t.2) c.env)) := by rfl)
    (hs : swapsWithSole [.Tuple elts kk tp] value pos.line c.env = pure false := by rfl)
    (hw : swappedStores [.Tuple elts kk tp] value c.env = pure none := by rfl) : Ex g c σ (.Assign [.Tuple elts kk tp] value pos) P := by
  intro s vm mine rest fz S Q E hQ
  refine Assign_Tuple (he s vm mine rest fz S _ _ fun v h' tk' fz' S' hs' hv => ?_) hs hw
  obtain ⟨a, o, vs, rfl, hm, ⟨n, rfl⟩, hr⟩ := Rep.tup_iff.mp hv
  have hlen : vs.length = (namesOf elts).length := by
    rw [hr.length, List.length_map]
    have := congrArg List.length hn
    simpa using this.symm
  refine wpAny_assign_Tuple (items := vs.toArray) ok.handled ⟨_, S'.get hm, rfl, n, rfl⟩ (by rw [hae]; simp [hlen]) (by rw [hae]; clear hae hlen hn; induction namesOf elts with
    | nil => rfl
    | cons t ts ih => simp [List.findIdx?_cons, ih]) fun h'' he' => ?_
  have kp : Kp h' h'' := fun b o e => he' b o (Nat.ne_of_lt (Heap.lt_size e)) e
  rw [hae, List.map_map]
  refine storesV ok l (s := { s with heap := h'', toks := tk' }) ?_ (by simpa using hr) hc (S'.keeps kp) fun h₃ tk₃ vm₃ mine₃ S₃ => hQ .next _ .next h₃ tk₃ vm₃ mine₃ fz' hp S₃ hs' trivial
  rw [← hn]
  exact tgOk_names (namesOf elts)

/-! loops -/
theorem Sta.off (S : Sta c σ h vm mine rest fz) {I : Addr} (hL : I ≠ c.env.locals) (h0 : c.h₀.get? I = none) (hl : ∀ p ∈ mine ++ rest ++ fz, p.1 ≠ I) (k : ∀ b o, b ∉ [I] → h.get? b = some o → h'.get? b = some o) : Sta c σ h' vm mine rest fz := by
  refine { S with fr := ?_, news := fun p hp => ⟨k _ _ (fun q => hl p hp (List.mem_singleton.mp q)) (S.news p hp).1, (S.news p hp).2⟩ }
  obtain ⟨m, F, e⟩ := S.fr
  refine ⟨m, ⟨F.ns.at' fun o e => k _ o (fun q => hL (List.mem_singleton.mp q).symm) e, fun b o q => k b o (fun z => ?_) (F.keep b o q), F.above⟩, e⟩
  rw [List.mem_singleton.mp z] at q; rw [h0] at q; cases q

theorem Sta.withRest (S : Sta c σ h vm mine rest fz) {I : Addr} {o : Obj} (ho : h.get? I = some o) (hL : I ≠ c.env.locals) (h0 : c.h₀.get? I = none) (hl : ∀ p ∈ mine ++ rest ++ fz, p.1 ≠ I) : Sta c σ h vm mine ((I, o) :: rest) fz := by
  refine { S with news := ?_, dis := ?_, dmr := ?_ }
  · intro p hp
    rcases List.mem_append.mp hp with q | q
    · rcases List.mem_append.mp q with q | q
      · exact S.news p (List.mem_append_left _ (List.mem_append_left _ q))
      · rcases List.mem_cons.mp q with rfl | q
        · exact ⟨ho, hL, h0⟩
        · exact S.news p (List.mem_append_left _ (List.mem_append_right _ q))
    · exact S.news p (List.mem_append_right _ q)
  · intro p hp q hq
    rcases List.mem_append.mp hp with z | z
    · exact S.dis p (List.mem_append_left _ z) q hq
    · rcases List.mem_cons.mp z with rfl | z
      · exact fun e => hl q (List.mem_append_right _ hq) e.symm
      · exact S.dis p (List.mem_append_right _ z) q hq
  · intro p hp q hq
    rcases List.mem_cons.mp hq with rfl | hq
    · exact hl p (List.mem_append_left _ (List.mem_append_left _ hp))
    · exact S.dmr p hp q hq

theorem for_walk {k : Nat} {x : Str} {px : Pos} {body : List Stmt} (ok : c.Ok g k) {I : Addr} {fp : List Addr} {n : Nat} {Pv : Nat → Value → Prop} {Sw : Nat → Heap → Prop} (W : Walks g.prog g.w c.A I fp [I] n Pv Sw)
    (hlive : ∀ i h, Sw i h → ∃ o, h.get? I = some o) (it : Nat → AV) (J : Nat → St → Prop) {P : Out → St → Prop} (hk : c.env.kindOf x = some .local)
    (turn : ∀ i σ, i < n → J i σ → ownsNot x σ.ω = true ∧ Exs g c { σ with ρ := (x, it i) :: σ.ρ } body (fun o σ' => match o with
      | .next | .cont => ∃ σ'', σ'.le σ'' ∧ J (i + 1) σ''
      | .brk => P .next σ'
      | .ret a => P (.ret a) σ'))
    (done : ∀ σ, J n σ → P .next σ) {s : Shared} (S : Sta c σ s.heap vm mine rest fz) (hfp : ∀ b ∈ fp, b = I ∨ ∃ o, (b, o) ∈ fz) (hit : ∀ i v, i < n → Pv i v → Rep fz (it i) v) (hJ : J 0 σ) (h0 : Sw 0 s.heap)
    (hL : I ≠ c.env.locals) (hh : c.h₀.get? I = none) (hl : ∀ p ∈ mine ++ rest ++ fz, p.1 ≠ I) {Q : Flow → Shared → Prop} {E : Value → Shared → Prop}
    (hQ : ∀ o σ' fl h' tk' vm' mine' fz', P o σ' → Sta c σ' h' vm' mine' rest fz' → (∀ p ∈ fz, p ∈ fz') → Rfl fz' o fl → Q fl { s with heap := h', toks := tk' }) :
    codeAny (model g.prog g.w) c.A (.forLoop (.Name x px) (.ref I) body [] c.env) (fun r s' => match r with | .ok f => Q f s' | .error e => cameBackBy (model g.prog g.w) c.A c.env E e s') s := by
  refine codeAny_forLoop (fun kk s' => ∃ i σ₁ vm₁ mine₁ fz₁ h₁ tk₁, s' = { s with heap := h₁, toks := tk₁ } ∧ (∀ p ∈ fz, p ∈ fz₁) ∧ Sta c σ₁ h₁ vm₁ mine₁ rest fz₁ ∧ Sw i h₁ ∧ (∀ p ∈ mine₁ ++ rest ++ fz₁, p.1 ≠ I) ∧ J i σ₁ ∧ i ≤ n ∧ kk = n + 1 - i) ?_ (n + 1)
    ⟨0, σ, vm, mine, fz, s.heap, s.toks, rfl, fun _ h => h, S, h0, hl, hJ, Nat.zero_le _, rfl⟩
  rintro kk s' ⟨i, σ₁, vm₁, mine₁, fz₁, h₁, tk₁, rfl, hs₁, S₁, hw₁, hl₁, hJ₁, hi, rfl⟩
  by_cases hlt : i < n
  · refine W.item i _ _ _ hlt hw₁ fun v h₂ tk₂ hP hw₂ hk₂ => ?_
    have S₂ := S₁.off hL hh hl₁ hk₂
    obtain ⟨hown, hturn⟩ := turn i σ₁ hlt hJ₁
    obtain ⟨oI, hoI⟩ := hlive _ _ hw₂
    have S₂' := S₂.withRest hoI hL hh hl₁
    refine assign_Name (store_local ok (s := { s with heap := h₂, toks := tk₂ }) S₂' hk hown ((hit i v hlt hP).mono hs₁) fun h₃ tk₃ vm₃ S₃ => ?_)
    refine hturn _ vm₃ mine₁ ((I, oI) :: rest) fz₁ S₃ _ _ fun o σ' fl h₄ tk₄ vm₄ mine₄ fz₄ hp₄ S₄ hs₄ hr₄ => ?_
    have hS₄ : Sta c σ' h₄ vm₄ mine₄ rest fz₄ := S₄.sub fun p hp => .tail _ hp
    have hsz : ∀ p ∈ fz, p ∈ fz₄ := fun p hp => hs₄ p (hs₁ p hp)
    have hw₄ : Sw (i + 1) h₄ := W.frame _ _ _ hw₂ fun b hb o e => by
      rcases hfp b hb with rfl | ⟨o', ho'⟩
      · rw [hoI] at e; cases e
        exact (S₄.news (b, oI) (List.mem_append_left _ (List.mem_append_right _ (.head _)))).1
      · have e1 := S₂.get (hs₁ _ ho')
        rw [e1] at e; cases e
        exact S₄.get (hsz _ ho')
    have hl₄ : ∀ p ∈ mine₄ ++ rest ++ fz₄, p.1 ≠ I := fun p hp => by
      rcases List.mem_append.mp hp with q | q
      · rcases List.mem_append.mp q with q | q
        · exact S₄.dmr p q (I, oI) (.head _)
        · exact hl₁ p (List.mem_append_left _ (List.mem_append_right _ q))
      · exact fun e => S₄.dis (I, oI) (List.mem_append_right _ (.head _)) p q e.symm
    have again : (∃ σ'', σ'.le σ'' ∧ J (i + 1) σ'') → ∃ m, m < n + 1 - i ∧ ∃ i σ₁ vm₁ mine₁ fz₁ h₁ tk₁, ({ s with heap := h₄, toks := tk₄ } : Shared) = { s with heap := h₁, toks := tk₁ } ∧ (∀ p ∈ fz, p ∈ fz₁) ∧ Sta c σ₁ h₁ vm₁ mine₁ rest fz₁ ∧ Sw i h₁ ∧ (∀ p ∈ mine₁ ++ rest ++ fz₁, p.1 ≠ I) ∧ J i σ₁ ∧ i ≤ n ∧ m = n + 1 - i := by
      rintro ⟨σ'', hle, hj⟩
      exact ⟨n + 1 - (i + 1), by omega, i + 1, σ'', vm₄, mine₄, fz₄, h₄, tk₄, rfl, hsz, hS₄.le hle, hw₄, hl₄, hj, hlt, rfl⟩
    cases o with
    | next =>
      cases fl <;> first | exact hr₄.elim | skip
      exact again hp₄
    | cont =>
      cases fl <;> first | exact hr₄.elim | skip
      exact again hp₄
    | brk =>
      cases fl <;> first | exact hr₄.elim | skip
      exact hQ .next σ' .next h₄ tk₄ vm₄ mine₄ fz₄ hp₄ hS₄ hsz trivial
    | ret a =>
      cases fl <;> first | exact hr₄.elim | skip
      exact hQ (.ret a) σ' _ h₄ tk₄ vm₄ mine₄ fz₄ hp₄ hS₄ hsz hr₄
  · have hin : i = n := by omega
    subst hin
    refine W.done _ _ _ hw₁ fun h₂ tk₂ hk₂ => wpAny_execs_nil ?_
    exact hQ .next σ₁ .next h₂ tk₂ vm₁ mine₁ fz₁ (done σ₁ hJ₁) (S₁.off hL hh hl₁ hk₂) hs₁ trivial

abbrev TurnP (J : Nat → St → Prop) (i : Nat) (P : Out → St → Prop) : Out → St → Prop := fun o σ' => match o with
  | .next | .cont => ∃ σ'', σ'.le σ'' ∧ J (i + 1) σ''
  | .brk => P .next σ'
  | .ret a => P (.ret a) σ'

theorem Sta.below (S : Sta c σ h vm mine rest fz) : (∀ p ∈ mine ++ rest ++ fz, p.1 < h.objs.size) ∧ c.env.locals < h.objs.size ∧ (∀ b o, c.h₀.get? b = some o → b < h.objs.size) :=
  ⟨fun p hp => Heap.lt_size (S.news p hp).1, S.lt, fun b o e => by
    obtain ⟨m, F, _⟩ := S.fr
    exact Heap.lt_size (F.keep b o e)⟩
theorem Sta.atSize (S : Sta c σ h vm mine rest fz) : h.objs.size ≠ c.env.locals ∧ c.h₀.get? h.objs.size = none ∧ ∀ p ∈ mine ++ rest ++ fz, p.1 ≠ h.objs.size := by
  obtain ⟨h1, h2, h3⟩ := S.below
  refine ⟨Nat.ne_of_gt h2, ?_, fun p hp => Nat.ne_of_lt (h1 p hp)⟩
  cases e : c.h₀.get? h.objs.size with
  | none => rfl
  | some o => exact absurd (h3 _ _ e) (Nat.lt_irrefl _)
theorem Kp.push (h : Heap) (o : Obj) : Kp h (h.push o) := fun _ _ e => Heap.get?_push_of_some _ e
theorem none_at_size (h : Heap) : h.get? h.objs.size = none := by
  cases e : h.get? h.objs.size with
  | none => rfl
  | some o => exact absurd (Heap.lt_size e) (Nat.lt_irrefl _)

theorem Ex_for_list {k : Nat} {x : Str} {px pos : Pos} {iter : Expr} {body : List Stmt} {xs : List AV} (J : Nat → St → Prop) {P : Out → St → Prop} (ok : c.Ok g k) (he : Ev g c σ iter (.list xs)) (hk : c.env.kindOf x = some .local)
    (hJ : J 0 σ)
    (turn : ∀ i σ a, xs[i]? = some a → J i σ → ownsNot x σ.ω = true ∧ Exs g c { σ with ρ := (x, a) :: σ.ρ } body (TurnP J i P))
    (done : ∀ σ, J xs.length σ → P .next σ) (hs : ∀ x, foldedSetIterable iter c.env x = pure x := by intro _; rfl) : Ex g c σ (.For (.Name x px) iter body [] pos) P := by
  intro s vm mine rest fz S Q E hQ
  refine wpAny_For (he s vm mine rest fz S _ _ fun v h' tk' fz' S' hs' hv => ?_) hs
  obtain ⟨a, o, vs, rfl, hm, ⟨n, rfl⟩, hr⟩ := Rep.list_iff.mp hv
  have hg := S'.get hm
  refine wpAny_pyIter_list (items := vs.toArray) ⟨_, hg, rfl, n, rfl⟩ ?_
  obtain ⟨a1, a2, a3⟩ := S'.atSize
  have hne : a ≠ h'.objs.size := Nat.ne_of_lt (Heap.lt_size hg)
  have W := Walks.list (prog := g.prog) (w := g.w) ok.handled h'.objs.size a hne vs.toArray
  have hlen : vs.toArray.size = xs.length := by simp [hr.length]
  rw [hlen] at W
  refine for_walk ok W (fun i h ⟨⟨o, e, _⟩, _⟩ => ⟨o, e⟩) (fun i => xs.getD i .none) J hk ?_ done (s := { s with heap := h'.push _, toks := tk' }) (S'.keeps (Kp.push _ _)) ?_ ?_ hJ ?_ a1 a2 a3 fun o σ' fl h₂ tk₂ vm₂ mine₂ fz₂ hp S₂ hs₂ hr₂ => hQ o σ' fl h₂ tk₂ vm₂ mine₂ fz₂ hp S₂ (fun p q => hs₂ p (hs' p q)) hr₂
  · intro i σ hi hj
    refine turn i σ _ ?_ hj
    simp [hi]
  · intro b hb
    rcases List.mem_cons.mp hb with rfl | hb
    · exact .inl rfl
    · exact .inr ⟨_, List.mem_singleton.mp hb ▸ hm⟩
  · intro i v hi hP
    have hP' : vs[i]? = some v := by simpa using hP
    obtain ⟨x', hx', hrep⟩ := hr.get' hP'
    simpa [hx'] using hrep
  · exact ⟨⟨_, Heap.get?_push_size _ rfl, rfl, rfl⟩, ⟨_, Heap.get?_push_of_some _ hg, rfl, n, rfl⟩⟩

/-- what range(..) gives -/
def EvR (g : Gl) (c : Fx) (σ : St) (e : Expr) (a b d : Int) : Prop :=
  ∀ (s : Shared) vm mine rest fz, Sta c σ s.heap vm mine rest fz → ∀ (Q E : Value → Shared → Prop),
    (∀ r t u v h' tk' fz', Sta c σ h' vm mine rest fz' → (∀ p ∈ fz, p ∈ fz') → IsRange h' r a b d t u v → Q (.ref r) { s with heap := h', toks := tk' }) →
    wpAny (model g.prog g.w) c.A (eval e c.env) Q E s

theorem Ex_for_range {k : Nat} {x : Str} {px pos : Pos} {iter : Expr} {body : List Stmt} {a b d : Int} {n : Nat} (J : Nat → St → Prop) {P : Out → St → Prop} (ok : c.Ok g k) (he : EvR g c σ iter a b d) (hsm : Builtin.Range.small a b d = true) (hn : Builtin.Range.rangeSize a b d = (n : Int)) (hk : c.env.kindOf x = some .local)
    (hJ : J 0 σ)
    (turn : ∀ i σ, i < n → J i σ → ownsNot x σ.ω = true ∧ Exs g c { σ with ρ := (x, .int (a + (i : Int) * d)) :: σ.ρ } body (TurnP J i P))
    (done : ∀ σ, J n σ → P .next σ) (hs : ∀ x, foldedSetIterable iter c.env x = pure x := by intro _; rfl) : Ex g c σ (.For (.Name x px) iter body [] pos) P := by
  intro s vm mine rest fz S Q E hQ
  refine wpAny_For (he s vm mine rest fz S _ _ fun r t u v h' tk' fz' S' hs' hr => ?_) hs
  refine wpAny_pyIter_range hr hsm ?_
  obtain ⟨a1, a2, a3⟩ := S'.atSize
  have W := Walks.range (prog := g.prog) (w := g.w) ok.handled h'.objs.size a d n
  refine for_walk ok W (fun i h e => ⟨_, e⟩) (fun i => .int (a + (i : Int) * d)) J hk turn done (s := { s with heap := h'.push _, toks := tk' }) (S'.keeps (Kp.push _ _)) ?_ ?_ hJ ?_ a1 a2 a3 fun o σ' fl h₂ tk₂ vm₂ mine₂ fz₂ hp S₂ hs₂ hr₂ => hQ o σ' fl h₂ tk₂ vm₂ mine₂ fz₂ hp S₂ (fun p q => hs₂ p (hs' p q)) hr₂
  · intro b hb
    exact .inl (List.mem_singleton.mp hb)
  · rintro i v hi ⟨t, rfl⟩
    exact Rep.int_iff.mpr ⟨t, rfl⟩
  · show IsRangeIter _ _ _ _ _
    rw [hn]
    simpa using Heap.get?_push_size _ rfl

/-- while -/
theorem Ex_while {test : Expr} {body : List Stmt} {pos : Pos} (J : Nat → St → Prop) {P : Out → St → Prop} {n : Nat} (hJ : J n σ)
    (turn : ∀ n σ, J n σ → ∃ b, EvB g c σ test b ∧ (b = true → Exs g c σ body (fun o σ' => match o with
      | .next | .cont => ∃ m σ'', m < n ∧ σ'.le σ'' ∧ J m σ''
      | .brk => P .next σ'
      | .ret a => P (.ret a) σ')) ∧ (b = false → P .next σ)) : Ex g c σ (.While test body [] pos) P := by
  intro s vm mine rest fz S Q E hQ
  refine wpAny_While (codeAny_whileLoop (fun kk s' => ∃ σ₁ vm₁ mine₁ fz₁ h₁ tk₁, s' = { s with heap := h₁, toks := tk₁ } ∧ (∀ p ∈ fz, p ∈ fz₁) ∧ Sta c σ₁ h₁ vm₁ mine₁ rest fz₁ ∧ J kk σ₁) ?_ n ⟨σ, vm, mine, fz, s.heap, s.toks, rfl, fun _ h => h, S, hJ⟩)
  rintro kk s' ⟨σ₁, vm₁, mine₁, fz₁, h₁, tk₁, rfl, hs₁, S₁, hJ₁⟩
  obtain ⟨b, ht, h1, h2⟩ := turn kk σ₁ hJ₁
  refine ht _ vm₁ mine₁ rest fz₁ S₁ _ _ fun h₂ tk₂ fz₂ S₂ hs₂ => ?_
  cases b with
  | true =>
    rw [if_pos rfl]
    refine h1 rfl _ vm₁ mine₁ rest fz₂ S₂ _ _ fun o σ' fl h₄ tk₄ vm₄ mine₄ fz₄ hp₄ S₄ hs₄ hr₄ => ?_
    have hsz : ∀ p ∈ fz, p ∈ fz₄ := fun p hp => hs₄ p (hs₂ p (hs₁ p hp))
    have again : (∃ m σ'', m < kk ∧ σ'.le σ'' ∧ J m σ'') → ∃ m, m < kk ∧ ∃ σ₁ vm₁ mine₁ fz₁ h₁ tk₁, ({ s with heap := h₄, toks := tk₄ } : Shared) = { s with heap := h₁, toks := tk₁ } ∧ (∀ p ∈ fz, p ∈ fz₁) ∧ Sta c σ₁ h₁ vm₁ mine₁ rest fz₁ ∧ J m σ₁ := by
      rintro ⟨m, σ'', hm, hle, hj⟩
      exact ⟨m, hm, σ'', vm₄, mine₄, fz₄, h₄, tk₄, rfl, hsz, S₄.le hle, hj⟩
    cases o with
    | next =>
      cases fl <;> first | exact hr₄.elim | skip
      exact again hp₄
    | cont =>
      cases fl <;> first | exact hr₄.elim | skip
      exact again hp₄
    | brk =>
      cases fl <;> first | exact hr₄.elim | skip
      exact hQ .next σ' .next h₄ tk₄ vm₄ mine₄ fz₄ hp₄ S₄ hsz trivial
    | ret a =>
      cases fl <;> first | exact hr₄.elim | skip
      exact hQ (.ret a) σ' _ h₄ tk₄ vm₄ mine₄ fz₄ hp₄ S₄ hsz hr₄
  | false =>
    rw [if_neg (by decide)]
    exact wpAny_execs_nil (hQ .next σ₁ .next h₂ tk₂ vm₁ mine₁ fz₂ (h2 rfl) S₂ (fun p hp => hs₂ p (hs₁ p hp)) trivial)
end
end
section

theorem Sta.grow {c : Fx} {σ : St} {h h' : Heap} {vm : Str → Option Value} {mine rest fz fz' : Led} (S : Sta c σ h vm mine rest fz) (hs : ∀ p ∈ fz, p ∈ fz') (fr : ∃ m, Fr c.h₀ c.env.locals h' m ∧ ∀ x, c.env.kindOf x = some .local → m x = vm x)
    (news : News c.h₀ c.env.locals h' (mine ++ rest ++ fz')) (dis : ∀ p ∈ mine ++ rest, ∀ q ∈ fz', p.1 ≠ q.1) : Sta c σ h' vm mine rest fz' :=
  { fr, news, dis, dmr := S.dmr, nd := S.nd, rho := fun x a e => let ⟨v, h1, h2⟩ := S.rho x a e; ⟨v, h1, h2.mono hs⟩, own := S.own.mono hs }

/-- the contract of a def, for one row of arguments -/
def FnV (g : Gl) (f : Addr) (k : Nat) (args : List AV) (r : AV) : Prop :=
  ∀ (c : Fx), c.Ok g k → ∀ (σ : St) (s : Shared) vm mine rest fz, Sta c σ s.heap vm mine rest fz → ∀ vs, Reps fz args vs → ∀ (Q E : Value → Shared → Prop),
    (∀ v h' tk' fz', Sta c σ h' vm mine rest fz' → (∀ p ∈ fz, p ∈ fz') → Rep fz' r v → Q v { s with heap := h', toks := tk' }) →
    wpAny (model g.prog g.w) c.A (call (.ref f) vs) Q E s

theorem FnV.more {g : Gl} {f : Addr} {k k' : Nat} {args : List AV} {r : AV} (hf : FnV g f k args r) (h : k ≤ k') : FnV g f k' args r :=
  fun c ok => hf c (ok.less h)

theorem ItemsR.vals {fz : Led} : ∀ {as : List AV} {vs : List Value} {pend : Led}, ItemsR fz (as.map .val) vs pend → Reps fz as vs ∧ pend = []
  | [], _, _, h => by
    simp only [List.map_nil, ItemsR] at h
    exact ⟨Reps.nil_iff.mpr h.1, h.2⟩
  | a :: as, _, _, h => by
    simp only [List.map_cons, ItemsR] at h
    obtain ⟨v, r, rfl, h1, h2⟩ := h
    obtain ⟨h3, h4⟩ := ItemsR.vals h2
    exact ⟨Reps.cons_iff.mpr ⟨v, r, rfl, h1, h3⟩, h4⟩

section
variable {g : Gl} {c : Fx} {σ σ' : St}

theorem EvV.use {es : List Expr} {as : List AV} (he : EvV g c σ es as) (pos : Pos) {s : Shared} {vm : Str → Option Value} {mine rest fz : Led} (S : Sta c σ s.heap vm mine rest fz) {Q : List Value → Shared → Prop} {E : Value → Shared → Prop}
    (hQ : ∀ vs h' tk' fz', Sta c σ h' vm mine rest fz' → (∀ p ∈ fz, p ∈ fz') → Reps fz' as vs → Q vs { s with heap := h', toks := tk' }) : wpAny (model g.prog g.w) c.A (spliced (backTo pos (starEach es c.env))) Q E s := by
  refine he pos s vm mine rest fz S _ _ fun vs pend h' tk' fz' S' hs hi _ _ => ?_
  obtain ⟨h1, rfl⟩ := hi.vals
  exact hQ vs h' tk' fz' S' hs h1

theorem Ev_call {k : Nat} {x : Str} {p0 pos : Pos} {e : Expr} {es : List Expr} {f : Addr} {args : List AV} {r : AV} (ok : c.Ok g k) (hf : FnV g f k args r) (hx : nsIn g.K mainGlobals x = some (some (.ref f))) (hkeep : keepIn g.K (.ref f) = true)
    (he : EvV g c σ (e :: es) args) (hk : c.env.kindOf x = some .globalImplicit) (hd : (x == ("__debug__" : Str)) = false := by decide)
    (hst : starEach (e :: es) c.env = (false, eval e c.env) :: starEach es c.env := by rfl) (hany : ((backTo pos (starEach es c.env)).any fun x => x.1) = false := by rfl)
    (hev : eval (.Call (.Name x p0) (e :: es) [] pos) c.env = (do callWith pos (← eval (.Name x p0) c.env) [] (backTo pos (starEach (e :: es) c.env)) (backToKw pos (keywordEach [] c.env))) := by rfl) : Ev g c σ (.Call (.Name x p0) (e :: es) [] pos) r := by
  intro s vm mine rest fz S Q E hQ
  refine Call_ (Ev_glob (pos := p0) ok hx hk hd s vm mine rest fz S _ _ fun v h' tk' fz' S' hs hv => ?_) hev
  rw [Rep.raw_iff] at hv; subst hv
  refine callWith_K (h₀ := c.h₀) ok.inK hkeep (he.use pos S' fun vs h₂ tk₂ fz₂ S₂ hs₂ hr => ⟨?_, ?_⟩) hst hany
  · obtain ⟨m, F, _⟩ := S₂.fr
    exact ok.inK.keeps F.keep
  · rw [List.nil_append]
    exact hf c ok σ _ vm mine rest fz₂ S₂ vs hr _ _ fun v h₃ tk₃ fz₃ S₃ hs₃ hv => hQ v h₃ tk₃ fz₃ S₃ (fun p q => hs₃ p (hs₂ p (hs p q))) hv
end

theorem lookup_append {l l' : List (Str × Value)} {x : Str} : (l ++ l').lookup x = (l.lookup x).or (l'.lookup x) := by
  induction l with
  | nil => rfl
  | cons p l ih =>
    obtain ⟨y, v⟩ := p
    rw [List.cons_append, List.lookup_cons, List.lookup_cons]
    cases x == y <;> simp [ih]
theorem lookup_none {l : List (Str × Value)} {x : Str} (h : x ∉ l.map (·.1)) : l.lookup x = none := by
  induction l with
  | nil => rfl
  | cons p l ih =>
    obtain ⟨y, v⟩ := p
    simp only [List.map_cons, List.mem_cons, not_or] at h
    rw [List.lookup_cons]
    have : (x == y) = false := by simpa using h.1
    rw [this]; exact ih h.2
theorem lookup_reverse {x : Str} : ∀ {l : List (Str × Value)}, (l.map (·.1)).Nodup → l.reverse.lookup x = l.lookup x
  | [], _ => rfl
  | (y, v) :: l, h => by
    simp only [List.map_cons, List.nodup_cons] at h
    rw [List.reverse_cons, lookup_append, lookup_reverse h.2, List.lookup_cons, List.lookup_cons]
    by_cases q : x = y
    · subst q
      rw [lookup_none h.1]
      simp
    · have : (x == y) = false := by simpa using q
      rw [this]
      cases l.lookup x <;> rfl

theorem rho_of_args {fz : Led} {x : Str} {a : AV} : ∀ {ns : List Str} {args : List AV} {vs : List Value}, Reps fz args vs → look x (ns.zip args) = some a → ∃ v, (ns.zip vs).lookup x = some v ∧ Rep fz a v
  | [], _, _, _, h => by simp [look] at h
  | n :: ns, [], _, _, h => by simp [look] at h
  | n :: ns, b :: args, _, hr, h => by
    obtain ⟨v, r, rfl, h1, h2⟩ := Reps.cons_iff.mp hr
    simp only [List.zip_cons_cons, look] at h
    rw [List.zip_cons_cons, List.lookup_cons]
    by_cases q : n = x
    · rw [if_pos q] at h; cases h
      subst q
      exact ⟨v, by simp, h1⟩
    · rw [if_neg q] at h
      have : (x == n) = false := by simpa using Ne.symm q
      rw [this]
      exact rho_of_args h2 h

theorem fn_of {g : Gl} {k : Nat} {f : Addr} {name qual : Str} {params : Arguments} {body : List Stmt} {scope : Scope} {dV kV doc pm cdv ct oc : Value} {an od : Option Addr} {osl : Array (Option Value)} {args : List AV} {r : AV} (ns : List Str)
    (ho : g.K.lookup f = some ⟨oc, od, .func (fnOf name qual params body scope dV kV doc pm an cdv ct), osl⟩) (hcd : codeIn g.K cdv qual = true)
    (hb : ∀ vs : List Value, vs.length = ns.length → bindArgs (fnOf name qual params body scope dV kV doc pm an cdv ct) ⟨vs, []⟩ = pure (ns.zip vs))
    (hn : args.length = ns.length) (hnd : ns.Nodup) (hloc : ∀ y ∈ ns, scope.names.lookup y = some .local)
    (hco : scope.isCoroutine = false) (hgen : scope.isGenerator = false) (hk : scope.kind = .function) (hcell : ∀ x ∈ scope.names, x.2 ≠ .cell)
    (hbody : ∀ (c : Fx) (L : Addr), c.Ok g k → c.env = envOf qual scope L f cdv → Exs g c { ρ := ns.zip args, ω := [] } body (fun o _ => o = .ret r)) : FnV g f (k + 1) args r := by
  intro c ok σ s vm mine rest fz S vs hr Q E hQ
  obtain ⟨m, F, em⟩ := S.fr
  have hvl : vs.length = ns.length := by rw [hr.length, hn]
  have hkeys : (ns.zip vs).map (·.1) = ns := by
    rw [List.map_fst_zip]; omega
  have hdep := ok.depth
  have hun := ok.units
  refine wpAny_call ?_
  refine code_def (news := mine ++ rest ++ fz) (binds := ns.zip vs) ok.below F ok.inK S.news ok.top ok.frames ok.frame ok.kind ho hcd (by omega) (BindsTo.of_eq (hb vs hvl)) (fun y hy => hloc _ (by rw [← hkeys]; exact List.mem_map_of_mem hy)) ?_ hco hgen hk hcell
  intro g' L' h₁ FG F' N' B' X' T'
  let c' : Fx := { A := c.A.deeper (envOf qual scope L' f cdv), env := envOf qual scope L' f cdv, h₀ := g', A₀ := c.A, base := c.base, outer := c.env :: c.outer }
  have ok' : c'.Ok g k :=
    { below := B', frames := by show (c.A.deeper _).frames = _; rw [Around.deeper, ok.frames]; rfl
      handled := ok.handled, frame := rfl, kind := hk, globals := rfl, builtins := rfl, inK := X', inB := ok.inB, top := T'
      depth := by show c.A.depth + 1 + k < _; omega
      units := by show c.A.units + 3 + 10 * k + 20 < _; omega }
  have S' : Sta c' { ρ := ns.zip args, ω := [] } h₁ (fun y => (ns.zip vs).reverse.lookup y) [] (mine ++ rest) fz :=
    { fr := ⟨_, F', fun _ _ => rfl⟩, news := N', dis := S.dis, dmr := fun _ h => (by cases h), nd := .nil
      rho := fun x a hx => by
        obtain ⟨v, h1, h2⟩ := rho_of_args hr hx
        exact ⟨v, by rw [lookup_reverse (by rw [hkeys]; exact hnd)]; exact h1, h2⟩
      own := trivial }
  refine hbody c' L' ok' rfl { s with heap := h₁, toks := s.toks + (ns.zip vs).length } _ _ _ _ S' _ _ ?_
  rintro o σ'' fl h₂ tk₂ vm₂ mine₂ fz₂ rfl S₂ hs₂ hfl
  cases fl <;> first | exact hfl.elim | skip
  rename_i v
  obtain ⟨m₂, F₂, _⟩ := S₂.fr
  refine leaveK_ (news' := mine ++ rest ++ fz₂) F₂ (fun p hp => S₂.news p ?_) fun Fb Nb => ?_
  · rcases List.mem_append.mp hp with q | q
    · exact List.mem_append_left _ (List.mem_append_right _ q)
    · exact List.mem_append_right _ q
  · exact hQ v h₂ tk₂ fz₂ (S.grow hs₂ ⟨m, Fb, em⟩ Nb fun p hp => S₂.dis p (List.mem_append_right _ hp)) hs₂ hfl
end
section

section
variable {g : Gl} {c : Fx} {σ : St} {a b : Int}

theorem Op2.ofInt {t : Value → Value → Sem Value} {a b r : Int} (h : ∀ (s : Shared) (u v : Tok) (Q E : Value → Shared → Prop), Q (.int r s.toks) { s with toks := s.toks + 1 } → wpAny (model g.prog g.w) c.A (t (.int a u) (.int b v)) Q E s) : Op2 g c t (.int a) (.int b) (.int r) := by
  intro s fz hf va vb ha hb Q E hQ
  obtain ⟨u, rfl⟩ := Rep.int_iff.mp ha
  obtain ⟨v, rfl⟩ := Rep.int_iff.mp hb
  exact h s u v Q E (hQ _ _ _ (Kp.refl _) (Rep.int_iff.mpr ⟨_, rfl⟩))
theorem Op2.ofCmp {t : Value → Value → Sem Value} {a b : Int} {r : Bool} (h : ∀ (s : Shared) (u v : Tok) (Q E : Value → Shared → Prop), Q (.bool r) s → wpAny (model g.prog g.w) c.A (t (.int a u) (.int b v)) Q E s) : Op2 g c t (.int a) (.int b) (.bool r) := by
  intro s fz hf va vb ha hb Q E hQ
  obtain ⟨u, rfl⟩ := Rep.int_iff.mp ha
  obtain ⟨v, rfl⟩ := Rep.int_iff.mp hb
  exact h s u v Q E (hQ _ _ _ (Kp.refl _) (Rep.bool_iff.mpr rfl))
theorem Op2.ofCmpB {t : Value → Value → Sem Value} {a b : Bool} {r : Bool} (h : ∀ (s : Shared) (Q E : Value → Shared → Prop), Q (.bool r) s → wpAny (model g.prog g.w) c.A (t (.bool a) (.bool b)) Q E s) : Op2 g c t (.bool a) (.bool b) (.bool r) := by
  intro s fz hf va vb ha hb Q E hQ
  obtain rfl := Rep.bool_iff.mp ha
  obtain rfl := Rep.bool_iff.mp hb
  exact h s Q E (hQ _ _ _ (Kp.refl _) (Rep.bool_iff.mpr rfl))
theorem Op2.ofIdiv {t : Value → Value → Sem Value} {a b r : Int} (h : ∀ (s : Shared) (u v : Tok) (Q E : Value → Shared → Prop), Q (.int r s.toks) { s with toks := s.toks + 1 } → wpAny (model g.prog g.w) c.A (t (.int a u) (.int b v)) Q E s) : Op2 g c t (.int a) (.int b) (.int r) := Op2.ofInt h

theorem op_add : Op2 g c (binaryOp .Add) (.int a) (.int b) (.int (a + b)) := .ofInt fun _ _ _ _ _ h => PyProof.Rows.add_int h
theorem op_sub : Op2 g c (binaryOp .Sub) (.int a) (.int b) (.int (a - b)) := .ofInt fun _ _ _ _ _ h => PyProof.Rows.sub_int h
theorem op_mul (hm : IntMulOk a b) : Op2 g c (binaryOp .Mult) (.int a) (.int b) (.int (a * b)) := .ofInt fun _ _ _ _ _ h => PyProof.Rows.mul_int h hm
theorem op_div (hb : 0 < b) (hs : b.natAbs.log2 < 9000) : Op2 g c (binaryOp .FloorDiv) (.int a) (.int b) (.int (a / b)) := .ofInt fun s u v Q E h => by
  refine PyProof.Rows.floordiv_int (by omega) ?_ (.inl (PyProof.noPylong_of_log2 hs))
  rw [Int.fdiv_eq_ediv_of_nonneg a (by omega)]; exact h
theorem op_mod (hb : 0 < b) : Op2 g c (binaryOp .Mod) (.int a) (.int b) (.int (a % b)) := .ofInt fun s u v Q E h => by
  refine PyProof.Rows.mod_int' (by omega) ?_
  rw [Int.fmod_eq_emod_of_nonneg a (by omega)]; exact h
theorem op_imod (hb : 0 < b) : Op2 g c (inplaceOp .Mod) (.int a) (.int b) (.int (a % b)) := .ofInt fun s u v Q E h => by
  refine PyProof.Rows.imod_int (by omega) ?_
  rw [Int.fmod_eq_emod_of_nonneg a (by omega)]; exact h
theorem op_shr (hb : 0 ≤ b) : Op2 g c (binaryOp .RShift) (.int a) (.int b) (.int (a / 2 ^ b.toNat)) := .ofInt fun s u v Q E h => by
  refine PyProof.Rows.rshift_int hb ?_
  rw [Int.fdiv_eq_ediv_of_nonneg a (Int.le_of_lt (Int.pow_pos (by decide)))]; exact h
theorem op_ishr (hb : 0 ≤ b) : Op2 g c (inplaceOp .RShift) (.int a) (.int b) (.int (a / 2 ^ b.toNat)) := .ofInt fun s u v Q E h => by
  refine PyProof.Rows.irshift_int hb ?_
  rw [Int.fdiv_eq_ediv_of_nonneg a (Int.le_of_lt (Int.pow_pos (by decide)))]; exact h
theorem op_shl (hb : 0 ≤ b) (hb' : b ≤ 1000000) (ha : a.natAbs < 2 ^ 64) : Op2 g c (binaryOp .LShift) (.int a) (.int b) (.int (a * 2 ^ b.toNat)) := .ofInt fun s u v Q E h => PyProof.Rows.lshift_int_small hb hb' ha h
theorem op_and : Op2 g c (binaryOp .BitAnd) (.int a) (.int b) (.int (Builtin.bitAnd a b)) := .ofInt fun _ _ _ _ _ h => PyProof.Rows.and_int h
theorem op_or : Op2 g c (binaryOp .BitOr) (.int a) (.int b) (.int (Builtin.bitOr a b)) := .ofInt fun _ _ _ _ _ h => PyProof.Rows.or_int h
theorem op_ior : Op2 g c (inplaceOp .BitOr) (.int a) (.int b) (.int (Builtin.bitOr a b)) := .ofInt fun _ _ _ _ _ h => PyProof.Rows.ior_int h
theorem op_pow (hb : 0 ≤ b) (hs : (Builtin.Int.intBits a : Int) * b ≤ 2 ^ 27) : Op2 g c (binaryOp .Pow) (.int a) (.int b) (.int (a ^ b.toNat)) := .ofInt fun _ _ _ _ _ h => PyProof.Rows.pow_int hb hs h
theorem op_iadd : Op2 g c (inplaceOp .Add) (.int a) (.int b) (.int (a + b)) := .ofInt fun _ _ _ _ _ h => PyProof.Rows.iadd_int h
theorem op_isub : Op2 g c (inplaceOp .Sub) (.int a) (.int b) (.int (a - b)) := .ofInt fun _ _ _ _ _ h => PyProof.Rows.isub_int h
theorem op_lt : Op2 g c (compareOp .Lt) (.int a) (.int b) (.bool (decide (a < b))) := .ofCmp fun _ _ _ _ _ h => PyProof.Rows.lt_int h
theorem op_gt : Op2 g c (compareOp .Gt) (.int a) (.int b) (.bool (decide (b < a))) := .ofCmp fun _ _ _ _ _ h => PyProof.Rows.gt_int h
theorem op_le : Op2 g c (compareOp .LtE) (.int a) (.int b) (.bool (decide (a ≤ b))) := .ofCmp fun _ _ _ _ _ h => PyProof.Rows.le_int h
theorem op_ge : Op2 g c (compareOp .GtE) (.int a) (.int b) (.bool (decide (b ≤ a))) := .ofCmp fun _ _ _ _ _ h => PyProof.Rows.ge_int h
theorem op_eq : Op2 g c (compareOp .Eq) (.int a) (.int b) (.bool (decide (a = b))) := .ofCmp fun _ _ _ _ _ h => PyProof.Rows.eq_int (by rw [show (a == b) = decide (a = b) from rfl]; exact h)
theorem op_ne : Op2 g c (compareOp .NotEq) (.int a) (.int b) (.bool (decide (a ≠ b))) := .ofCmp fun _ _ _ _ _ h => PyProof.Rows.ne_int (by rw [show (a != b) = decide (a ≠ b) by by_cases h : a = b <;> simp [h]]; exact h)
theorem op_neb {a b : Bool} : Op2 g c (compareOp .NotEq) (.bool a) (.bool b) (.bool (a != b)) := .ofCmpB fun _ _ _ h => PyProof.Rows.ne_bool h
theorem op_neg : Op1 g c (unaryOp .USub) (.int a) (.int (-a)) := by
  intro s fz hf va ha Q E hQ
  obtain ⟨u, rfl⟩ := Rep.int_iff.mp ha
  exact PyProof.Rows.neg_int (hQ _ _ _ (Kp.refl _) (Rep.int_iff.mpr ⟨_, rfl⟩))

/-! lists -/
theorem op_nel {k : Nat} {xs ys : List Int} (ok : c.Ok g k) (hk : 5 ≤ k) : Op2 g c (compareOp .NotEq) (aints xs) (aints ys) (.bool (decide (xs ≠ ys))) := by
  intro s fz hf va vb ha hb Q E hQ
  obtain ⟨l, o, vs, rfl, hm, ⟨n, rfl⟩, hr⟩ := Rep.list_iff.mp ha
  obtain ⟨l', o', vs', rfl, hm', ⟨n', rfl⟩, hr'⟩ := Rep.list_iff.mp hb
  refine ne_intsK ⟨_, hf _ hm, rfl, n, rfl⟩ hr.intsAre ⟨_, hf _ hm', rfl, n', rfl⟩ hr'.intsAre (by have := ok.units; omega) ?_
  rw [show (!decide (xs = ys)) = decide (xs ≠ ys) by by_cases h : xs = ys <;> simp [h]]
  exact hQ _ _ _ (Kp.refl _) (Rep.bool_iff.mpr rfl)

/-- x[i] -/
theorem Ev_item {v i : Expr} {pos : Pos} {xs : List AV} {k : Int} {x : AV} (hv : Ev g c σ v (.list xs)) (hi : Ev g c σ i (.int k)) (h0 : 0 ≤ k) (hx : xs[k.toNat]? = some x) (hfit : k < 2 ^ 63)
    (hs : ∀ l u, subscripted i false (.ref l) (.int k u) = operate [.ref l, .int k u] (getItem (.ref l) (.int k u)) := by with_unfolding_all (intro _ _; rfl)) : Ev g c σ (.Subscript v i pos) x := by
  refine Tv.two (f := subscriptTail v i) hv hi ?_ fun _ _ _ h => Subscript_ h
  intro s fz hf va vb ha hb Q E hQ
  obtain ⟨l, o, vs, rfl, hm, ⟨n, rfl⟩, hr⟩ := Rep.list_iff.mp ha
  obtain ⟨u, rfl⟩ := Rep.int_iff.mp hb
  obtain ⟨w, hw, hrep⟩ := hr.get hx
  have hl : s.heap.IsList l vs.toArray := ⟨_, hf _ hm, rfl, n, rfl⟩
  exact tail_any hl.typeIs slot_list_getitem.lookup (wpAny_getItem_list hl h0 hfit (by simpa using hw) (hQ _ _ _ (Kp.refl _) hrep)) (hs l u)
/-- x[-1] .. -/
theorem Ev_item_neg {v i : Expr} {pos : Pos} {xs : List AV} {k : Int} {x : AV} (hv : Ev g c σ v (.list xs)) (hi : Ev g c σ i (.int k)) (h0 : k < 0) (hk : -(xs.length : Int) ≤ k) (hx : xs[(k + xs.length).toNat]? = some x) (hfit : -2 ^ 63 ≤ k)
    (hs : ∀ l u, subscripted i false (.ref l) (.int k u) = operate [.ref l, .int k u] (getItem (.ref l) (.int k u)) := by with_unfolding_all (intro _ _; rfl)) : Ev g c σ (.Subscript v i pos) x := by
  refine Tv.two (f := subscriptTail v i) hv hi ?_ fun _ _ _ h => Subscript_ h
  intro s fz hf va vb ha hb Q E hQ
  obtain ⟨l, o, vs, rfl, hm, ⟨n, rfl⟩, hr⟩ := Rep.list_iff.mp ha
  obtain ⟨u, rfl⟩ := Rep.int_iff.mp hb
  obtain ⟨w, hw, hrep⟩ := hr.get hx
  have hl : s.heap.IsList l vs.toArray := ⟨_, hf _ hm, rfl, n, rfl⟩
  have hlen := hr.length
  exact tail_any hl.typeIs slot_list_getitem.lookup (wpAny_getItem_list_neg hl h0 (by simpa [hlen] using hk) hfit (by simpa [hlen] using hw) (hQ _ _ _ (Kp.refl _) hrep)) (hs l u)

/-- a builtin of one argument that makes nothing -/
def Bi1 (g : Gl) (c : Fx) (f : Value) (a r : AV) : Prop := Op1 g c (fun v => call f [v]) a r
theorem bi_len {xs : List AV} (h : xs.length < 2 ^ 62) : Bi1 g c (.builtin "len") (.list xs) (.int xs.length) := by
  intro s fz hf va ha Q E hQ
  obtain ⟨l, o, vs, rfl, hm, ⟨n, rfl⟩, hr⟩ := Rep.list_iff.mp ha
  have hlen := hr.length
  refine Calls.call_len_list (items := vs.toArray) ⟨_, hf _ hm, rfl, n, rfl⟩ (by simp [hlen]; omega) ?_
  exact hQ _ _ _ (Kp.refl _) (Rep.int_iff.mpr ⟨_, by simp [hlen]; rfl⟩)
theorem bi_abs : Bi1 g c (.builtin "abs") (.int a) (.int (a.natAbs : Int)) := by
  intro s fz hf va ha Q E hQ
  obtain ⟨u, rfl⟩ := Rep.int_iff.mp ha
  refine PyProof.Rows.call_abs_int fun u tk => hQ _ _ _ (Kp.refl _) (Rep.int_iff.mpr ⟨u, ?_⟩)
  congr 1
  split <;> omega
theorem bi_int : Bi1 g c (.type "int") (.int a) (.int a) := by
  intro s fz hf va ha Q E hQ
  obtain ⟨u, rfl⟩ := Rep.int_iff.mp ha
  exact call_int_int (hQ _ _ _ (Kp.refl _) (Rep.int_iff.mpr ⟨_, rfl⟩))
theorem bi_intb {b : Bool} : Bi1 g c (.type "int") (.bool b) (.int (if b then 1 else 0)) := by
  intro s fz hf va ha Q E hQ
  obtain rfl := Rep.bool_iff.mp ha
  exact call_int_bool (hQ _ _ _ (Kp.refl _) (Rep.int_iff.mpr ⟨_, rfl⟩))

theorem Ev_bi {k : Nat} {x : Str} {p0 pos : Pos} {e : Expr} {id : String} {a r : AV} (ok : c.Ok g k) (hb : Bi1 g c (.builtin id) a r) (he : Ev g c σ e a)
    (hx : nsIn g.K mainGlobals x = some none) (hv : bootBuiltins x = some (.builtin id)) (hn : x ≠ "__name__") (hk : c.env.kindOf x = some .globalImplicit) (hd : (x == ("__debug__" : Str)) = false := by decide)
    (hst : starEach [e] c.env = (false, eval e c.env) :: starEach [] c.env := by rfl) (hany : ((backTo pos (starEach [] c.env)).any fun x => x.1) = false := by rfl)
    (hev : eval (.Call (.Name x p0) [e] [] pos) c.env = (do callWith pos (← eval (.Name x p0) c.env) [] (backTo pos (starEach [e] c.env)) (backToKw pos (keywordEach [] c.env))) := by rfl) : Ev g c σ (.Call (.Name x p0) [e] [] pos) r := by
  intro s vm mine rest fz S Q E hQ
  refine Call_ (Ev_built (pos := p0) ok hx hv hn hk hd s vm mine rest fz S _ _ fun v h' tk' fz' S' hs hv => ?_) hev
  rw [Rep.raw_iff] at hv; subst hv
  refine PyProof.Rows.callWith_builtin1 (args_cons (he _ vm mine rest fz' S' _ _ fun v h₂ tk₂ fz₂ S₂ hs₂ hv => args_nil ?_) hst) hst hany
  exact hb _ fz₂ (fun p hp => S₂.get hp) v hv _ _ fun u h₃ tk₃ kp hu => hQ u h₃ tk₃ fz₂ (S₂.keeps kp) (fun p q => hs₂ p (hs p q)) hu
theorem Ev_ty {k : Nat} {x : Str} {p0 pos : Pos} {e : Expr} {id : String} {a r : AV} (ok : c.Ok g k) (hb : Bi1 g c (.type id) a r) (he : Ev g c σ e a)
    (hx : nsIn g.K mainGlobals x = some none) (hv : bootBuiltins x = some (.type id)) (hn : x ≠ "__name__") (hk : c.env.kindOf x = some .globalImplicit) (hd : (x == ("__debug__" : Str)) = false := by decide)
    (hst : starEach [e] c.env = (false, eval e c.env) :: starEach [] c.env := by rfl) (hany : ((backTo pos (starEach [] c.env)).any fun x => x.1) = false := by rfl)
    (hev : eval (.Call (.Name x p0) [e] [] pos) c.env = (do callWith pos (← eval (.Name x p0) c.env) [] (backTo pos (starEach [e] c.env)) (backToKw pos (keywordEach [] c.env))) := by rfl) : Ev g c σ (.Call (.Name x p0) [e] [] pos) r := by
  intro s vm mine rest fz S Q E hQ
  refine Call_ (Ev_built (pos := p0) ok hx hv hn hk hd s vm mine rest fz S _ _ fun v h' tk' fz' S' hs hv => ?_) hev
  rw [Rep.raw_iff] at hv; subst hv
  refine PyProof.Rows.callWith_type1 (args_cons (he _ vm mine rest fz' S' _ _ fun v h₂ tk₂ fz₂ S₂ hs₂ hv => args_nil ?_) hst) hst hany
  exact hb _ fz₂ (fun p hp => S₂.get hp) v hv _ _ fun u h₃ tk₃ kp hu => hQ u h₃ tk₃ fz₂ (S₂.keeps kp) (fun p q => hs₂ p (hs p q)) hu

/-! slices: a part of a slice is nothing or an int -/
def EvP (g : Gl) (c : Fx) (σ : St) (e : Option Expr) (p : Option Int) : Prop :=
  ∀ (s : Shared) vm mine rest fz, Sta c σ s.heap vm mine rest fz → ∀ (Q E : Value → Shared → Prop),
    (∀ v h' tk' fz', Sta c σ h' vm mine rest fz' → (∀ p ∈ fz, p ∈ fz') → IsPart v p → Q v { s with heap := h', toks := tk' }) →
    wpAny (model g.prog g.w) c.A (evalPart e c.env) Q E s
theorem EvP_none : EvP g c σ none none := by
  intro s vm mine rest fz S Q E hQ
  exact wpAny_evalPart_none (hQ _ _ _ _ S (fun _ h => h) .none)
theorem EvP_some {e : Expr} {k : Int} (he : Ev g c σ e (.int k)) : EvP g c σ (some e) (some k) := by
  intro s vm mine rest fz S Q E hQ
  refine wpAny_evalPart_some (he s vm mine rest fz S _ _ fun v h' tk' fz' S' hs hv => ?_)
  obtain ⟨t, rfl⟩ := Rep.int_iff.mp hv
  exact hQ _ _ _ _ S' hs (.int _ _)

theorem EvF_slice {v : Expr} {lo hi : Option Expr} {p pos : Pos} {xs ys : List AV} {a b : Option Int} (hv : Ev g c σ v (.list xs)) (h1 : EvP g c σ lo a) (h2 : EvP g c σ hi b) (hsz : xs.length ≤ sizeLine)
    (hpick : ∀ (fz : Led) (vs : List Value), Reps fz xs vs → Reps fz ys (slicePick vs.toArray a b none).toList)
    (hlet : ∀ (o r : Value), letTemporaryGo v o r = pure () := by intro _ _; rfl) : EvF g c σ (.Subscript v (.Slice lo hi none p) pos) ys := by
  intro s vm mine rest fz S Q E hQ
  refine wpAny_Subscript_list_slice (hv s vm mine rest fz S _ _ fun o h' tk' fz' S' hs ho => ?_) hlet
  refine h1 _ vm mine rest fz' S' _ _ fun vl h₂ tk₂ fz₂ S₂ hs₂ hl => ?_
  refine h2 _ vm mine rest fz₂ S₂ _ _ fun vu h₃ tk₃ fz₃ S₃ hs₃ hu => ?_
  obtain ⟨l, ob, vs, rfl, hm, ⟨n, rfl⟩, hr⟩ := Rep.list_iff.mp ho
  have hm₃ := hs₃ _ (hs₂ _ hm)
  have hr₃ : Reps fz₃ xs vs := Reps.mono (fun p hp => hs₃ _ (hs₂ _ hp)) xs hr
  refine ⟨l, vs.toArray, a, b, rfl, ⟨_, S₃.get hm₃, rfl, n, rfl⟩, by simpa [hr.length] using hsz, hl, hu, ?_⟩
  have kp : Kp h₃ ((h₃.push { cls := .type "slice", data := .fields #[vl, vu, .none] }).push { cls := .type "list", data := .seq (slicePick vs.toArray a b none) }) := (Kp.push _ _).trans (Kp.push _ _)
  have hnone : h₃.get? (h₃.objs.size + 1) = none := by
    cases e : h₃.get? (h₃.objs.size + 1) with
    | none => rfl
    | some o => exact absurd (Heap.lt_size e) (Nat.not_lt.mpr (Nat.le_succ _))
  have hnew : ((h₃.push { cls := .type "slice", data := .fields #[vl, vu, .none] }).push { cls := .type "list", data := .seq (slicePick vs.toArray a b none) }).get? (h₃.objs.size + 1) = some (listOf (slicePick vs.toArray a b none).toList.toArray 0) := by
    have := Heap.get?_push_size (h₃.push { cls := .type "slice", data := .fields #[vl, vu, .none] }) (o := { cls := .type "list", data := .seq (slicePick vs.toArray a b none) }) rfl
    rw [Heap.size_push] at this
    simpa using this
  exact hQ _ _ _ _ fz₃ (S₃.fresh kp hnone hnew ⟨0, rfl⟩ (hpick fz₃ vs hr₃)) (fun p hp => hs₃ _ (hs₂ _ (hs p hp)))

theorem pick_all {xs : List AV} (fz : Led) (vs : List Value) (h : Reps fz xs vs) : Reps fz xs (slicePick vs.toArray none none none).toList := by
  rw [slicePick_all]; exact h
theorem pick_upto {xs : List AV} {k : Int} (h0 : 0 ≤ k) (fz : Led) (vs : List Value) (h : Reps fz xs vs) : Reps fz (xs.take k.toNat) (slicePick vs.toArray none (some k) none).toList := by
  obtain ⟨n, rfl⟩ := Int.eq_ofNat_of_zero_le h0
  rw [slicePick_upto']
  exact h.take n
theorem pick_from {xs : List AV} {k : Int} (h0 : 0 ≤ k) (fz : Led) (vs : List Value) (h : Reps fz xs vs) : Reps fz (xs.drop k.toNat) (slicePick vs.toArray (some k) none none).toList := by
  obtain ⟨n, rfl⟩ := Int.eq_ofNat_of_zero_le h0
  rw [slicePick_from']
  exact h.drop n

theorem EvF_list {es : List Expr} {pos : Pos} {as : List AV} (he : EvV g c σ es as) (hsz : as.length ≤ sizeLine) : EvF g c σ (.List es pos) as := by
  intro s vm mine rest fz S Q E hQ
  refine List_ (he.use pos S fun vs h' tk' fz' S' hs hr => ?_)
  refine wpAny_newObj_type ?_ (by
    show vs.toArray.size ≤ sizeLine
    have : vs.toArray.size = as.length := by simp [hr.length]
    rw [this]; exact hsz)
  exact hQ _ _ _ tk' fz' (S'.fresh (Kp.push _ _) (none_at_size _) (Heap.get?_push_size _ rfl) ⟨0, rfl⟩ hr) hs
theorem Ev_tuple {es : List Expr} {kk : Nat} {pos : Pos} {as : List AV} (he : EvV g c σ es as) (hsz : as.length ≤ sizeLine) : Ev g c σ (.Tuple es kk pos) (.tup as) := by
  intro s vm mine rest fz S Q E hQ
  refine Tuple_ (he.use pos S fun vs h' tk' fz' S' hs hr => ?_)
  refine wpAny_newObj_type ?_ (by
    show vs.toArray.size ≤ sizeLine
    have : vs.toArray.size = as.length := by simp [hr.length]
    rw [this]; exact hsz)
  refine hQ _ _ tk' _ (S'.add (Kp.push _ _) (none_at_size _) (Heap.get?_push_size _ rfl)) (fun p hp => .tail _ (hs p hp)) ?_
  exact Rep.tup_iff.mpr ⟨_, _, vs, rfl, .head _, ⟨0, rfl⟩, hr.mono fun p hp => .tail _ hp⟩
end
end
section
set_option maxHeartbeats 8000000
abbrev pw : Program := PySem.Challenge.pw_sj0075_01
/-- the text but for its two stores of a name of the start-up's (statements 0 and 23) -/
def vw : Program := view pw [1, 2, 3, 4, 5, 6, 7, 8, 9, 10, 11, 12, 13, 14, 15, 16, 17, 18, 19, 20, 21, 22, 24, 25, 26, 27, 28, 29, 30, 31]
abbrev rowO : OpenRow := PySem.Challenge.rw_sj0075_01.row
theorem boot_here (w : World) : (fencedOpening treeTable pw w 3188).map (fun s => (s.heap, s.gens, s.drawn, s.toks)) = some (boot_heap w.params, Array.mk [], boot_drawn, boot_toks) :=
  boot_open (p := pw) (by kernel_rfl) (by decide) (fun s => by kernel_rfl) w
theorem boot_fits (w : World) : ((boot_heap w.params).isNs mainGlobals && (Array.mk [] : Array GenState).size == 0) = true := by kernel_rfl
/-- the top run at one go -/
theorem left_gen {p q : Program} {loose : List Str} {α : Type} {Xt : Shared → Bool} {Yf : Shared → α} {Ya : World → α} {N : Nat} {H₀ : Params → Heap} {d₀ : Drawn} {k₀ : Nat} (b : ∀ w : World, (fencedOpening treeTable p w N).map (fun s => (s.heap, s.gens, s.drawn, s.toks)) = some (H₀ w.params, Array.mk [], d₀, k₀))
    (z : ∀ w : World, ((H₀ w.params).isNs mainGlobals && (Array.mk [] : Array GenState).size == 0) = true)
    (h : ∀ (w : World) (os : OsState), (topRun treeTable p w (H₀ w.params).objs.size ((H₀ w.params).nsMap mainGlobals "__annotations__") N ⟨H₀ w.params, Array.mk [], d₀, k₀, os⟩ (topStub p)).map
        (fun s => (staticsOk (importedModules p.main.body) (H₀ w.params) s.heap && namesBound p s.heap && gensDone s && laidKept (H₀ w.params) s.heap, openSeen q loose (importedModules p.main.body) Xt true s, Yf s)) =
      some (true, openGood q loose, Ya w)) : LeftO p q loose Xt Yf Ya N true := fun w => by
  obtain ⟨⟨hp, gs, d, k, os⟩, e, e'⟩ := Option.map_eq_some_iff.mp (b w)
  obtain ⟨rfl, rfl, rfl, rfl⟩ : hp = H₀ w.params ∧ gs = Array.mk [] ∧ d = d₀ ∧ k = k₀ := by simpa using e'
  obtain ⟨s, h1, h2⟩ := Option.map_eq_some_iff.mp (h w os)
  have t : topFrom treeTable p w N ⟨H₀ w.params, Array.mk [], d, k, os⟩ = some s := by
    unfold topFrom
    dsimp only
    rw [z w, h1]
    show (match staticsOk (importedModules p.main.body) (H₀ w.params) s.heap && namesBound p s.heap && gensDone s && laidKept (H₀ w.params) s.heap with | true => some s | false => none) = _
    rw [(Prod.mk.inj h2).1]
  unfold openEnds
  rw [e]
  show (topFrom treeTable p w N _).map _ = _
  rw [t]
  exact congrArg some (Prod.mk.inj h2).2
/-- the same on the library's twins of the step's words -/
theorem left_twin {p q : Program} {loose : List Str} {α : Type} {Xt : Shared → Bool} {Yf : Shared → α} {Ya : World → α} {N : Nat} {H₀ : Params → Heap} {d₀ : Drawn} {k₀ : Nat} (b : ∀ w : World, (fencedOpening treeTable p w N).map (fun s => (s.heap, s.gens, s.drawn, s.toks)) = some (H₀ w.params, Array.mk [], d₀, k₀))
    (z : ∀ w : World, ((H₀ w.params).isNs mainGlobals && (Array.mk [] : Array GenState).size == 0) = true)
    (h : ∀ (w : World) (os : OsState), (Fast.tw14082659384304107361 Fast.tw14364793385576792824 p w (H₀ w.params).objs.size ((H₀ w.params).nsMap mainGlobals "__annotations__") N ⟨H₀ w.params, Array.mk [], d₀, k₀, os⟩ (topStub p)).map
        (fun s => (staticsOk (importedModules p.main.body) (H₀ w.params) s.heap && namesBound p s.heap && gensDone s && laidKept (H₀ w.params) s.heap, Fast.tw4187177175401517315 q loose (importedModules p.main.body) Xt true s, Yf s)) =
      some (true, openGood q loose, Ya w)) : LeftO p q loose Xt Yf Ya N true :=
  left_gen b z fun w os => by
    rw [Fast.te14082659384304107361, Fast.te14364793385576792824, Fast.te4187177175401517315]
    exact h w os
theorem left_once {α : Type} {Xt : Shared → Bool} {Yf : Shared → α} {Ya : World → α}
    (h : ∀ (w : World) (os : OsState), (Fast.tw14082659384304107361 Fast.tw14364793385576792824 pw w (boot_heap w.params).objs.size ((boot_heap w.params).nsMap mainGlobals "__annotations__") 3188 ⟨boot_heap w.params, Array.mk [], boot_drawn, boot_toks, os⟩ (topStub pw)).map
        (fun s => (staticsOk (importedModules pw.main.body) (boot_heap w.params) s.heap && namesBound pw s.heap && gensDone s && laidKept (boot_heap w.params) s.heap, Fast.tw4187177175401517315 vw [] (importedModules pw.main.body) Xt true s, Yf s)) =
      some (true, openGood vw [], Ya w)) : LeftO pw vw [] Xt Yf Ya 3188 true := left_twin boot_here boot_fits h
local macro_rules | `(tactic| o_head (kmHook $k $a $e $t)) => `(tactic| (
  refine holds_open (q := vw) (loose := []) (Xt := fun s => xlAt vw [] s && recOk (RowW.records rowO.toRowW) s) (XP := XL vw []) (Yf := Hook.obs (kmHook $k $a $e $t)) (Ya := Hook.val (kmHook $k $a $e $t)) (YP := Hook.says (kmHook $k $a $e $t)) (N := 3188) ?hl
    (Hook.of (kmHook $k $a $e $t)) (Hook.keeps (kmHook $k $a $e $t)) (fun s e => xl_of s (Bool.and_eq_true_iff.mp e).1) XL.keeps (by rfl) (by rfl) (by rfl) (fun s e => recFacts_of (Bool.and_eq_true_iff.mp e).2) (by rfl) (by first | assumption | decide +kernel) (by decide +kernel) ⟨rfl, rfl, rfl, rfl, rfl, by decide +kernel⟩ ?hw ?hc
  case hl => exact left_once fun w os => by kernel_rfl))
open_top hd for PySem.Challenge.rw_sj0075_01
end
section
abbrev Gl.Is (g : Gl) : Prop := g.K = hd.heap_39 g.w.params

section
variable {g : Gl} {c : Fx} {σ : St}
theorem E_len {k : Nat} {p0 pos : Pos} {e : Expr} {xs : List AV} (hK : g.Is) (ok : c.Ok g k) (he : Ev g c σ e (.list xs)) (hsz : xs.length < 2 ^ 62) (hk : c.env.kindOf "len" = some .globalImplicit)
    (hst : starEach [e] c.env = (false, eval e c.env) :: starEach [] c.env) (hany : ((backTo pos (starEach [] c.env)).any fun x => x.1) = false)
    (hev : eval (.Call (.Name "len" p0) [e] [] pos) c.env = (do callWith pos (← eval (.Name "len" p0) c.env) [] (backTo pos (starEach [e] c.env)) (backToKw pos (keywordEach [] c.env)))) : Ev g c σ (.Call (.Name "len" p0) [e] [] pos) (.int xs.length) :=
  Ev_bi ok (bi_len hsz) he (by rw [hK]; exact rfl) boot_len (by decide) hk (by decide) hst hany hev
end

theorem exs_next {g : Gl} {c : Fx} {σ : St} {sts : List Stmt} {P : Out → St → Prop} (h : Exs g c σ sts P) : (fun o σ' => match o with | .next => Exs g c σ' sts P | o => P o σ') Out.next σ := h
theorem exs_ret {g : Gl} {c : Fx} {σ : St} {a : AV} {sts : List Stmt} {P : Out → St → Prop} (h : P (.ret a) σ) : (fun o σ' => match o with | .next => Exs g c σ' sts P | o => P o σ') (Out.ret a) σ := h
theorem le_nil {σ : St} {w : List (Str × Option (List AV))} (h : w = σ.ω) : σ.le ⟨[], w⟩ := ⟨fun _ _ e => by simp [look] at e, h⟩
theorem le_cons {σ : St} {x : Str} {a : AV} {r : Vars} {w : List (Str × Option (List AV))} (h : look x σ.ρ = some a) (hl : σ.le ⟨r, w⟩) : σ.le ⟨(x, a) :: r, w⟩ :=
  ⟨fun y b e => by
    simp only [look] at e
    by_cases q : x = y
    · rw [if_pos q] at e; cases e; rw [← q]; exact h
    · rw [if_neg q] at e; exact hl.1 y b e, hl.2⟩
theorem toNat_lt_of {i : Int} {n : Nat} (h0 : 0 ≤ i) (h : i < n) : i.toNat < n := by omega
theorem ints_get {xs : List Int} {k : Nat} {x : Int} (h : xs[k]? = some x) : (xs.map AV.int)[k]? = some (.int x) := by simp [h]
theorem ints_getD {xs : List Int} {k : Nat} (h : k < xs.length) : (xs.map AV.int)[k]? = some (.int (xs.getD k 0)) := by simp [h]
end
section

def lmN (b : Nat) (n : Nat) : List Int :=
  if h : n = 0 ∨ b < 2 then [] else ((n % b : Nat) : Int) :: lmN b (n / b)
termination_by n
decreasing_by exact Nat.div_lt_self (by omega) (by omega)

/-- the row of n -/
def lm (b : Nat) (n : Int) : List Int := lmN b n.toNat

def val (b : Nat) : List Int → Int
  | [] => 0
  | x :: r => x + b * val b r

def Dig (b : Nat) (xs : List Int) : Prop := ∀ x ∈ xs, 0 ≤ x ∧ x < b
def Nrm (xs : List Int) : Prop := xs.getLast? ≠ some 0

theorem lm_zero {b : Nat} : lm b 0 = [] := by unfold lm; rw [show (0 : Int).toNat = 0 from rfl, lmN]; simp
theorem lm_pos {b : Nat} (hb : 2 ≤ b) {n : Int} (h : 0 < n) : lm b n = (n % b) :: lm b (n / b) := by
  unfold lm
  rw [lmN, dif_neg (by omega)]
  obtain ⟨m, rfl⟩ := Int.eq_ofNat_of_zero_le (Int.le_of_lt h)
  congr 1

theorem dig_cons {b : Nat} {x : Int} {r : List Int} (h : Dig b (x :: r)) : 0 ≤ x ∧ x < b ∧ Dig b r := ⟨(h x (.head _)).1, (h x (.head _)).2, fun y hy => h y (.tail _ hy)⟩
theorem dig_nil {b : Nat} : Dig b [] := fun _ h => nomatch h
theorem dig_of {b : Nat} {x : Int} {r : List Int} (h0 : 0 ≤ x) (h1 : x < b) (h : Dig b r) : Dig b (x :: r) := fun y hy => by
  rcases List.mem_cons.mp hy with rfl | hy
  · exact ⟨h0, h1⟩
  · exact h y hy
theorem dig_append {b : Nat} {xs ys : List Int} (h : Dig b xs) (h' : Dig b ys) : Dig b (xs ++ ys) := fun y hy => by
  rcases List.mem_append.mp hy with q | q
  · exact h y q
  · exact h' y q
theorem dig_snoc {b : Nat} {xs : List Int} {x : Int} (h : Dig b xs) (h0 : 0 ≤ x) (h1 : x < b) : Dig b (xs ++ [x]) := dig_append h (dig_of h0 h1 dig_nil)
theorem dig_take {b : Nat} {xs : List Int} (h : Dig b xs) (k : Nat) : Dig b (xs.take k) := fun y hy => h y (List.mem_of_mem_take hy)
theorem dig_drop {b : Nat} {xs : List Int} (h : Dig b xs) (k : Nat) : Dig b (xs.drop k) := fun y hy => h y (List.mem_of_mem_drop hy)
theorem dig_getD {b : Nat} {xs : List Int} (h : Dig b xs) (hb : 0 < b) (k : Nat) : 0 ≤ xs.getD k 0 ∧ xs.getD k 0 < b := by
  rw [List.getD_eq_getElem?_getD]
  cases e : xs[k]? with
  | none => simp; omega
  | some x => exact h x (List.mem_of_getElem? e)

theorem val_append {b : Nat} {xs ys : List Int} : val b (xs ++ ys) = val b xs + (b : Int) ^ xs.length * val b ys := by
  induction xs with
  | nil => simp [val]
  | cons x r ih =>
    rw [List.cons_append, val, ih, val, List.length_cons, Int.pow_succ]
    grind
theorem val_snoc {b : Nat} {xs : List Int} {x : Int} : val b (xs ++ [x]) = val b xs + (b : Int) ^ xs.length * x := by
  rw [val_append]; simp [val]

theorem val_nonneg {b : Nat} : ∀ {xs : List Int}, Dig b xs → 0 ≤ val b xs
  | [], _ => Int.le_refl _
  | x :: r, h => by
    have h1 := dig_cons h
    have h2 := val_nonneg h1.2.2
    have : 0 ≤ (b : Int) * val b r := Int.mul_nonneg (by omega) h2
    rw [val]; omega
theorem val_lt {b : Nat} : ∀ {xs : List Int}, Dig b xs → val b xs < (b : Int) ^ xs.length
  | [], _ => by simp [val]
  | x :: r, h => by
    have h1 := dig_cons h
    have h2 := val_lt h1.2.2
    have : (b : Int) * (val b r + 1) ≤ b * (b : Int) ^ r.length := Int.mul_le_mul_of_nonneg_left (by omega) (by omega)
    rw [Int.mul_add] at this
    rw [val, List.length_cons, Int.pow_succ, Int.mul_comm _ (b : Int)]
    omega
theorem val_zero {b : Nat} (hb : 0 < b) : ∀ {xs : List Int}, Dig b xs → Nrm xs → val b xs = 0 → xs = []
  | [], _, _, _ => rfl
  | x :: r, h, hn, hv => by
    exfalso
    have h1 := dig_cons h
    have h2 := val_nonneg h1.2.2
    have h3 : 0 ≤ (b : Int) * val b r := Int.mul_nonneg (by omega) h2
    rw [val] at hv
    have hx : x = 0 := by omega
    have hr : val b r = 0 := by
      have h4 : (b : Int) * val b r = 0 := by omega
      rcases Int.mul_eq_zero.mp h4 with h5 | h5
      · omega
      · exact h5
    have hnr : Nrm r := fun e => hn (by
      cases r with
      | nil => simp at e
      | cons y q => rw [List.getLast?_cons_cons]; exact e)
    have := val_zero hb h1.2.2 hnr hr
    subst this
    exact hn (by simp [hx])

/-- a row without noughts at its end is the row of its value -/
theorem lm_val {b : Nat} (hb : 2 ≤ b) : ∀ {xs : List Int}, Dig b xs → Nrm xs → lm b (val b xs) = xs
  | [], _, _ => lm_zero
  | x :: r, h, hn => by
    have h1 := dig_cons h
    have hnr : Nrm r := fun e => hn (by
      cases r with
      | nil => simp at e
      | cons y q => rw [List.getLast?_cons_cons]; exact e)
    have ih := lm_val hb h1.2.2 hnr
    have h0 := val_nonneg h
    have hne : val b (x :: r) ≠ 0 := fun e => by
      have := val_zero (by omega) h hn e
      cases this
    have e1 : val b (x :: r) % b = x := by
      rw [val, Int.add_mul_emod_self_left]; exact Int.emod_eq_of_lt h1.1 h1.2.1
    have e2 : val b (x :: r) / b = val b r := by
      rw [val, Int.add_mul_ediv_left _ _ (by omega), Int.ediv_eq_zero_of_lt h1.1 h1.2.1, Int.zero_add]
    rw [lm_pos hb (by omega), e1, e2, ih]
theorem lm_of {b : Nat} (hb : 2 ≤ b) {xs : List Int} {n : Int} (h : Dig b xs) (hn : Nrm xs) (hv : val b xs = n) : xs = lm b n := by rw [← hv, lm_val hb h hn]

theorem lm_facts {b : Nat} (hb : 2 ≤ b) (m : Nat) : Dig b (lmN b m) ∧ Nrm (lmN b m) ∧ val b (lmN b m) = m := by
  induction m using Nat.strongRecOn with
  | _ m ih =>
    rw [lmN]
    by_cases h : m = 0
    · rw [dif_pos (.inl h)]
      exact ⟨dig_nil, by simp [Nrm], by simp [val, h]⟩
    · rw [dif_neg (by omega)]
      obtain ⟨h1, h2, h3⟩ := ih (m / b) (Nat.div_lt_self (by omega) (by omega))
      refine ⟨dig_of (by omega) (by have := Nat.mod_lt m (show 0 < b by omega); omega) h1, ?_, ?_⟩
      · intro e
        cases hq : lmN b (m / b) with
        | nil =>
          rw [hq] at e h3
          simp [val] at e h3
          have h4 : m / b = 0 := by omega
          have h5 := Nat.div_add_mod m b
          rw [h4, Nat.mul_zero] at h5
          omega
        | cons y q =>
          rw [hq, List.getLast?_cons_cons] at e
          rw [hq] at h2
          exact h2 e
      · rw [val, h3]
        have := Nat.div_add_mod m b
        have e : ((b * (m / b) + m % b : Nat) : Int) = (m : Int) := by rw [this]
        rw [Int.natCast_add, Int.natCast_mul] at e
        omega
theorem dig_lm {b : Nat} (hb : 2 ≤ b) (n : Int) : Dig b (lm b n) := (lm_facts hb _).1
theorem nrm_lm {b : Nat} (hb : 2 ≤ b) (n : Int) : Nrm (lm b n) := (lm_facts hb _).2.1
theorem val_lm {b : Nat} (hb : 2 ≤ b) {n : Int} (h : 0 ≤ n) : val b (lm b n) = n := by
  have := (lm_facts hb n.toNat).2.2
  unfold lm; rw [this]; omega

theorem nrm_ge {b : Nat} (hb : 2 ≤ b) {xs : List Int} (h : Dig b xs) (hn : Nrm xs) (h0 : xs ≠ []) : (b : Int) ^ (xs.length - 1) ≤ val b xs := by
  have e := List.dropLast_concat_getLast h0
  have hd : Dig b xs.dropLast := fun y hy => h y ((List.dropLast_sublist _).mem hy)
  have hl : xs.getLast h0 ≠ 0 := fun q => hn (by rw [List.getLast?_eq_some_getLast h0, q])
  have hl2 := h _ (List.getLast_mem h0)
  have hv := val_nonneg hd
  have hlen : xs.dropLast.length = xs.length - 1 := List.length_dropLast
  have : val b xs = val b xs.dropLast + (b : Int) ^ (xs.length - 1) * xs.getLast h0 := by
    conv => lhs; rw [← e]
    rw [val_snoc, hlen]
  rw [this]
  have hp : 0 < (b : Int) ^ (xs.length - 1) := Int.pow_pos (by omega)
  have : (b : Int) ^ (xs.length - 1) * 1 ≤ (b : Int) ^ (xs.length - 1) * xs.getLast h0 := Int.mul_le_mul_of_nonneg_left (by omega) (by omega)
  omega
/-- the last limb is no nought where the value is large -/
theorem nrm_of_ge {b : Nat} (hb : 2 ≤ b) {xs : List Int} (h : Dig b xs) (hv : xs = [] ∨ (b : Int) ^ (xs.length - 1) ≤ val b xs) : Nrm xs := fun e => by
  rcases hv with rfl | hv
  · simp at e
  · have h0 : xs ≠ [] := by rintro rfl; simp at e
    have hq := List.dropLast_concat_getLast h0
    have hl : xs.getLast h0 = 0 := by rw [List.getLast?_eq_some_getLast h0] at e; exact Option.some.inj e
    have hd : Dig b xs.dropLast := fun y hy => h y ((List.dropLast_sublist _).mem hy)
    have h1 := val_lt hd
    have hlen : xs.dropLast.length = xs.length - 1 := List.length_dropLast
    have : val b xs = val b xs.dropLast + (b : Int) ^ (xs.length - 1) * xs.getLast h0 := by
      conv => lhs; rw [← hq]
      rw [val_snoc, hlen]
    rw [hl, Int.mul_zero] at this
    rw [hlen] at h1
    omega
theorem pow_le {b : Nat} (hb : 2 ≤ b) {i j : Nat} (h : i ≤ j) : (b : Int) ^ i ≤ (b : Int) ^ j := by
  have := Nat.pow_le_pow_right (show 0 < b by omega) h
  exact_mod_cast this
theorem pow_pos {b : Nat} (hb : 2 ≤ b) (i : Nat) : 0 < (b : Int) ^ i := Int.pow_pos (by omega)
theorem lm_len_le {b : Nat} (hb : 2 ≤ b) {n : Int} {k : Nat} (h0 : 0 ≤ n) (h : n < (b : Int) ^ k) : (lm b n).length ≤ k := by
  by_cases h1 : lm b n = []
  · rw [h1]; simp
  · have h2 := nrm_ge hb (dig_lm hb n) (nrm_lm hb n) h1
    rw [val_lm hb h0] at h2
    have h3 : ¬ k ≤ (lm b n).length - 1 := fun q => by have := pow_le hb q; omega
    have : 0 < (lm b n).length := List.length_pos_iff.mpr h1
    omega
theorem lm_lt {b : Nat} (hb : 2 ≤ b) {n : Int} (h0 : 0 ≤ n) : n < (b : Int) ^ (lm b n).length := by
  have := val_lt (dig_lm hb n)
  rwa [val_lm hb h0] at this
theorem lm_ge {b : Nat} (hb : 2 ≤ b) {n : Int} (h0 : 0 < n) : (b : Int) ^ ((lm b n).length - 1) ≤ n := by
  have h1 : lm b n ≠ [] := by rw [lm_pos hb h0]; simp
  have := nrm_ge hb (dig_lm hb n) (nrm_lm hb n) h1
  rwa [val_lm hb (Int.le_of_lt h0)] at this
theorem lm_ne {b : Nat} (hb : 2 ≤ b) {n : Int} (h0 : 0 < n) : lm b n ≠ [] := by rw [lm_pos hb h0]; simp

theorem val_take_drop {b : Nat} (xs : List Int) (k : Nat) (hk : k ≤ xs.length) : val b xs = val b (xs.take k) + (b : Int) ^ k * val b (xs.drop k) := by
  conv => lhs; rw [← List.take_append_drop k xs]
  rw [val_append, List.length_take, Nat.min_eq_left hk]
theorem val_take {b : Nat} (hb : 2 ≤ b) {xs : List Int} (h : Dig b xs) (k : Nat) : val b (xs.take k) = val b xs % (b : Int) ^ k := by
  by_cases hk : k ≤ xs.length
  · have h1 := val_lt (dig_take h k)
    have h2 := val_nonneg (dig_take h k)
    rw [List.length_take, Nat.min_eq_left hk] at h1
    rw [val_take_drop xs k hk, Int.add_mul_emod_self_left, Int.emod_eq_of_lt h2 h1]
  · rw [List.take_of_length_le (by omega)]
    have h1 := val_lt h
    have h2 := pow_le hb (show xs.length ≤ k by omega)
    rw [Int.emod_eq_of_lt (val_nonneg h) (by omega)]
theorem val_drop {b : Nat} (hb : 2 ≤ b) {xs : List Int} (h : Dig b xs) (k : Nat) : val b (xs.drop k) = val b xs / (b : Int) ^ k := by
  by_cases hk : k ≤ xs.length
  · have h1 := val_lt (dig_take h k)
    have h2 := val_nonneg (dig_take h k)
    rw [List.length_take, Nat.min_eq_left hk] at h1
    have hp := pow_pos hb k
    rw [val_take_drop xs k hk, Int.add_mul_ediv_left _ _ (by omega), Int.ediv_eq_zero_of_lt h2 h1, Int.zero_add]
  · rw [List.drop_of_length_le (by omega)]
    have h1 := val_lt h
    have h2 := pow_le hb (show xs.length ≤ k by omega)
    rw [Int.ediv_eq_zero_of_lt (val_nonneg h) (by omega)]; rfl
theorem nrm_drop {xs : List Int} (h : Nrm xs) (k : Nat) : Nrm (xs.drop k) := fun e => by
  rw [List.getLast?_drop] at e
  split at e
  · cases e
  · exact h e
theorem lm_drop {b : Nat} (hb : 2 ≤ b) {n : Int} (h0 : 0 ≤ n) (k : Nat) : (lm b n).drop k = lm b (n / (b : Int) ^ k) :=
  lm_of hb (dig_drop (dig_lm hb n) k) (nrm_drop (nrm_lm hb n) k) (by rw [val_drop hb (dig_lm hb n), val_lm hb h0])
theorem val_getD {b : Nat} (hb : 2 ≤ b) {xs : List Int} (h : Dig b xs) (k : Nat) : xs.getD k 0 = val b xs / (b : Int) ^ k % b := by
  rw [← val_drop hb h]
  have hd := dig_drop h k
  rw [List.getD_eq_getElem?_getD, ← List.head?_drop]
  cases e : xs.drop k with
  | nil => simp [val]
  | cons x r =>
    rw [e] at hd
    have h1 := dig_cons hd
    rw [val, Int.add_mul_emod_self_left, Int.emod_eq_of_lt h1.1 h1.2.1]; rfl
theorem take_succ_getD {xs : List Int} {k : Nat} (h : k < xs.length) : xs.take (k + 1) = xs.take k ++ [xs.getD k 0] := by
  rw [List.take_add_one]; simp [h]
theorem val_take_succ {b : Nat} {xs : List Int} {k : Nat} (h : k < xs.length) : val b (xs.take (k + 1)) = val b (xs.take k) + (b : Int) ^ k * xs.getD k 0 := by
  rw [take_succ_getD h, val_snoc, List.length_take, Nat.min_eq_left (by omega)]

def normalF (xs : List Int) : List Int := (xs.reverse.dropWhile (fun x => decide (x = 0))).reverse
theorem normalF_snoc0 (xs : List Int) : normalF (xs ++ [0]) = normalF xs := by simp [normalF]
theorem normalF_snoc (xs : List Int) {x : Int} (h : x ≠ 0) : normalF (xs ++ [x]) = xs ++ [x] := by simp [normalF, h]
theorem normalF_facts {b : Nat} : ∀ (n : Nat) {xs : List Int}, xs.length = n → Dig b xs → Dig b (normalF xs) ∧ Nrm (normalF xs) ∧ val b (normalF xs) = val b xs := by
  intro n
  induction n with
  | zero => intro xs h hd; have := List.length_eq_zero_iff.mp h; subst this; exact ⟨hd, by simp [Nrm, normalF], rfl⟩
  | succ n ih =>
    intro xs h hd
    have h0 : xs ≠ [] := by rintro rfl; simp at h
    have e := List.dropLast_concat_getLast h0
    have hd' : Dig b xs.dropLast := fun y hy => hd y ((List.dropLast_sublist _).mem hy)
    obtain ⟨h1, h2, h3⟩ := ih (xs := xs.dropLast) (by rw [List.length_dropLast]; omega) hd'
    by_cases hz : xs.getLast h0 = 0
    · rw [← e, hz, normalF_snoc0]
      exact ⟨h1, h2, by rw [h3, val_snoc, Int.mul_zero, Int.add_zero]⟩
    · rw [← e, normalF_snoc _ hz, e]
      exact ⟨hd, fun q => hz (by rw [List.getLast?_eq_some_getLast h0] at q; exact Option.some.inj q), rfl⟩
theorem normalF_eq {b : Nat} (hb : 2 ≤ b) {xs : List Int} (h : Dig b xs) : normalF xs = lm b (val b xs) := by
  obtain ⟨h1, h2, h3⟩ := normalF_facts _ rfl h
  exact lm_of hb h1 h2 h3
theorem normalF_lm {b : Nat} (hb : 2 ≤ b) {xs : List Int} {n : Int} (h : Dig b xs) (hv : val b xs = n) : normalF xs = lm b n := by rw [normalF_eq hb h, hv]

/-- one step of a carry -/
theorem carry_step {b : Nat} (hb : 2 ≤ b) {F : List Int} {c T : Int} {i : Nat} (hl : F.length = i) (h : val b F + (b : Int) ^ i * c = T) :
    val b (F ++ [c % b]) + (b : Int) ^ (i + 1) * (c / b) = T := by
  rw [val_snoc, hl, ← h, Int.pow_succ]
  have := Int.emod_add_mul_ediv c b
  generalize c % (b : Int) = m at *
  generalize c / (b : Int) = q at *
  subst this
  grind

theorem cmp_len {b : Nat} (hb : 2 ≤ b) {xs ys : List Int} (hx : Dig b xs) (hy : Dig b ys) (hn : Nrm ys) (h : xs.length < ys.length) : val b xs < val b ys := by
  have h1 := val_lt hx
  have h2 := nrm_ge hb hy hn (by rintro rfl; simp at h)
  have h3 := pow_le hb (show xs.length ≤ ys.length - 1 by omega)
  omega
theorem cmp_at {b : Nat} (hb : 2 ≤ b) {xs ys : List Int} (hx : Dig b xs) (hy : Dig b ys) {p : Nat} (hp : p < xs.length) (hp' : p < ys.length) (hd : xs.drop (p + 1) = ys.drop (p + 1)) (hlt : xs.getD p 0 < ys.getD p 0) : val b xs < val b ys := by
  rw [val_take_drop xs (p + 1) (by omega), val_take_drop ys (p + 1) (by omega), hd, val_take_succ hp, val_take_succ hp']
  have h1 := val_lt (dig_take hx p)
  rw [List.length_take, Nat.min_eq_left (by omega)] at h1
  have h2 := val_nonneg (dig_take hy p)
  have h3 : (b : Int) ^ p * (xs.getD p 0 + 1) ≤ (b : Int) ^ p * ys.getD p 0 := Int.mul_le_mul_of_nonneg_left (by omega) (Int.le_of_lt (pow_pos hb p))
  rw [Int.mul_add] at h3
  omega
theorem drop_eq_cons {xs : List Int} {p : Nat} (h : p < xs.length) : xs.drop p = xs.getD p 0 :: xs.drop (p + 1) := by
  rw [List.drop_eq_getElem_cons h]; simp [h]

theorem carry_end {b : Nat} (hb : 2 ≤ b) {F : List Int} {c T : Int} (hd : Dig b F) (hc0 : 0 ≤ c) (hcb : c < b) (h : val b F + (b : Int) ^ F.length * c = T) (hge : F = [] ∨ (b : Int) ^ (F.length - 1) ≤ T) :
    (0 < c → F ++ [c] = lm b T) ∧ (c = 0 → F = lm b T) := by
  refine ⟨fun hc => lm_of hb (dig_snoc hd hc0 hcb) (by simp [Nrm]; omega) (by rw [val_snoc, h]), fun hc => ?_⟩
  subst hc
  rw [Int.mul_zero, Int.add_zero] at h
  exact lm_of hb hd (nrm_of_ge hb hd (hge.imp id fun q => by rw [h]; exact q)) h
theorem lm_len_pos {b : Nat} (hb : 2 ≤ b) {n : Int} (h0 : 0 ≤ n) : lm b n = [] ∨ 0 < n := by
  by_cases h : n = 0
  · left; rw [h, lm_zero]
  · right; omega
theorem lm_ge' {b : Nat} (hb : 2 ≤ b) {n : Int} (h0 : 0 ≤ n) : lm b n = [] ∨ (b : Int) ^ ((lm b n).length - 1) ≤ n := (lm_len_pos hb h0).imp id (lm_ge hb)

theorem val_take_succ' {b : Nat} (xs : List Int) (k : Nat) : val b (xs.take (k + 1)) = val b (xs.take k) + (b : Int) ^ k * xs.getD k 0 := by
  by_cases h : k < xs.length
  · exact val_take_succ h
  · rw [List.take_of_length_le (by omega), List.take_of_length_le (by omega)]
    have : xs.getD k 0 = 0 := by rw [List.getD_eq_getElem?_getD, List.getElem?_eq_none (by omega)]; rfl
    rw [this]; simp
theorem getD_ge {xs : List Int} {k : Nat} (h : xs.length ≤ k) : xs.getD k 0 = 0 := by rw [List.getD_eq_getElem?_getD, List.getElem?_eq_none (by omega)]; rfl
/-- one step of a borrow -/
theorem borrow_step {b : Nat} {F : List Int} {br br' d x y T : Int} {i : Nat} (hl : F.length = i) (h : val b F - (b : Int) ^ i * br = T) (hd : d - b * br' = x - br - y) :
    val b (F ++ [d]) - (b : Int) ^ (i + 1) * br' = T + (b : Int) ^ i * x - (b : Int) ^ i * y := by
  rw [val_snoc, hl, ← h, Int.pow_succ]
  have : d = x - br - y + b * br' := by omega
  subst this
  grind
theorem len_le_of_le {b : Nat} (hb : 2 ≤ b) {n m : Int} (h0 : 0 ≤ n) (h : n ≤ m) : (lm b n).length ≤ (lm b m).length := lm_len_le hb h0 (by have := lm_lt hb (show 0 ≤ m by omega); omega)
end
section

/-- 2 to the w, as a number of nought or more -/
abbrev B2 (w : Nat) : Nat := 2 ^ w
theorem B2_ge {w : Nat} (h : 1 ≤ w) : 2 ≤ B2 w := by
  have := Nat.pow_le_pow_right (show 0 < 2 by decide) h
  simpa [B2] using this
theorem B2_cast (w : Nat) : ((B2 w : Nat) : Int) = 2 ^ w := by simp [B2]
abbrev Mk (w : Nat) : Int := 1 * 2 ^ (w : Int).toNat - 1
theorem mask_eq (w : Nat) (x : Int) : Builtin.bitAnd x (Mk w) = x % (B2 w : Int) := by
  rw [Mk, Int.toNat_natCast, Int.one_mul, kbt_mask, B2_cast]
theorem shr_eq (w : Nat) (x : Int) : x / 2 ^ (w : Int).toNat = x / (B2 w : Int) := by rw [Int.toNat_natCast, B2_cast]
abbrev row (w : Nat) (n : Int) : AV := aints (lm (B2 w) n)

theorem one_ok : (1 : Int).natAbs < 2 ^ 64 := by decide


theorem line16 : sizeLine = 16777216 := rfl
theorem lm_snoc_step {b : Nat} (hb : 2 ≤ b) {F : List Int} {c n : Int} (h : 0 < c) (hi : F ++ lm b c = lm b n) : (F ++ [c % b]) ++ lm b (c / b) = lm b n := by
  rw [← hi, lm_pos hb h]; simp
theorem ediv_lt_self {b : Nat} (hb : 2 ≤ b) {c : Int} (h : 0 < c) : (c / b).toNat < c.toNat := by
  have h1 : 0 ≤ c / (b : Int) := Int.ediv_nonneg (by omega) (by omega)
  have h2 : c / (b : Int) < c := Int.ediv_lt_self_of_pos_of_ne_one h (by omega)
  omega
theorem getElem_intmap {xs : List Int} {i : Nat} {a : AV} (hx : (xs.map AV.int)[i]? = some a) : i < xs.length ∧ a = .int (xs.getD i 0) := by
  have hi : i < xs.length := by have := (List.getElem?_eq_some_iff.mp hx).1; simpa using this
  have := ints_getD hi
  rw [this] at hx
  exact ⟨hi, (Option.some.inj hx).symm⟩

section
variable {g : Gl} {c : Fx} {σ : St}
theorem R_range {k : Nat} {p0 pos : Pos} {e : Expr} {es : List Expr} {as : List AV} {a b d : Int} (hK : g.Is) (ok : c.Ok g k) (he : EvV g c σ (e :: es) as)
    (hc : ∀ (s : Shared) (fz : Led) vs, Reps fz as vs → ∀ (Q E : Value → Shared → Prop), (∀ t u v tk, Q (.ref s.heap.objs.size) { s with heap := s.heap.push { cls := .type "range", data := .fields #[.int a t, .int b u, .int d v] }, toks := tk }) → wpAny (model g.prog g.w) c.A (call (.type "range") vs) Q E s)
    (hk : c.env.kindOf "range" = some .globalImplicit)
    (hst : starEach (e :: es) c.env = (false, eval e c.env) :: starEach es c.env) (hany : ((backTo pos (starEach es c.env)).any fun x => x.1) = false)
    (hev : eval (.Call (.Name "range" p0) (e :: es) [] pos) c.env = (do callWith pos (← eval (.Name "range" p0) c.env) [] (backTo pos (starEach (e :: es) c.env)) (backToKw pos (keywordEach [] c.env)))) : EvR g c σ (.Call (.Name "range" p0) (e :: es) [] pos) a b d := by
  intro s vm mine rest fz S Q E hQ
  refine Call_ (Ev_built (pos := p0) ok (show nsIn g.K mainGlobals "range" = some none by rw [hK]; exact rfl) (show bootBuiltins "range" = some (.type "range") from boot_range) (by decide) hk (by decide) s vm mine rest fz S _ _ fun v h' tk' fz' S' hs hv => ?_) hev
  rw [Rep.raw_iff] at hv; subst hv
  refine PyProof.Rows.callWith_type1 (he.use pos S' fun vs h₂ tk₂ fz₂ S₂ hs₂ hr => ?_) hst hany
  refine hc _ fz₂ vs hr _ _ fun t u v tk => ?_
  exact hQ _ t u v _ tk fz₂ (S₂.keeps (Kp.push _ _)) (fun p hp => hs₂ p (hs p hp)) (IsRange.new ..)
theorem rc1 {n : Int} (s : Shared) (fz : Led) (vs : List Value) (hr : Reps fz [.int n] vs) (Q E : Value → Shared → Prop) (h : ∀ t u v tk, Q (.ref s.heap.objs.size) { s with heap := s.heap.push { cls := .type "range", data := .fields #[.int 0 t, .int n u, .int 1 v] }, toks := tk }) : wpAny (model g.prog g.w) c.A (call (.type "range") vs) Q E s := by
  obtain ⟨v, r, rfl, hv, h2⟩ := Reps.cons_iff.mp hr
  rw [Reps.nil_iff] at h2; subst h2
  obtain ⟨t, rfl⟩ := Rep.int_iff.mp hv
  exact call_range_1 (h _ _ _ _)
theorem rc2 {a b : Int} (s : Shared) (fz : Led) (vs : List Value) (hr : Reps fz [.int a, .int b] vs) (Q E : Value → Shared → Prop) (h : ∀ t u v tk, Q (.ref s.heap.objs.size) { s with heap := s.heap.push { cls := .type "range", data := .fields #[.int a t, .int b u, .int 1 v] }, toks := tk }) : wpAny (model g.prog g.w) c.A (call (.type "range") vs) Q E s := by
  obtain ⟨v, r, rfl, hv, h2⟩ := Reps.cons_iff.mp hr
  obtain ⟨v', r', rfl, hv', h3⟩ := Reps.cons_iff.mp h2
  rw [Reps.nil_iff] at h3; subst h3
  obtain ⟨t, rfl⟩ := Rep.int_iff.mp hv
  obtain ⟨t', rfl⟩ := Rep.int_iff.mp hv'
  exact call_range_2 (h _ _ _ _)
theorem rc3 {a b : Int} (s : Shared) (fz : Led) (vs : List Value) (hr : Reps fz [.int a, .int b, .int (-1)] vs) (Q E : Value → Shared → Prop) (h : ∀ t u v tk, Q (.ref s.heap.objs.size) { s with heap := s.heap.push { cls := .type "range", data := .fields #[.int a t, .int b u, .int (-1) v] }, toks := tk }) : wpAny (model g.prog g.w) c.A (call (.type "range") vs) Q E s := by
  obtain ⟨v, r, rfl, hv, h2⟩ := Reps.cons_iff.mp hr
  obtain ⟨v', r', rfl, hv', h3⟩ := Reps.cons_iff.mp h2
  obtain ⟨v'', r'', rfl, hv'', h4⟩ := Reps.cons_iff.mp h3
  rw [Reps.nil_iff] at h4; subst h4
  obtain ⟨t, rfl⟩ := Rep.int_iff.mp hv
  obtain ⟨t', rfl⟩ := Rep.int_iff.mp hv'
  obtain ⟨t'', rfl⟩ := Rep.int_iff.mp hv''
  exact call_range_3 (by decide) (h _ _ _ _) (.inl (PyProof.noPylong_of_log2 (by decide +kernel)))
end
theorem range_size_up {a b : Int} {n : Nat} (h : b - a = n) : Builtin.Range.rangeSize a b 1 = n := by
  rw [rangeSize_one]; split <;> omega
theorem range_small_up {a b : Int} (h1 : 0 ≤ a) (h2 : a ≤ 1000000) (h3 : 0 ≤ b) (h4 : b ≤ 1000000) : Builtin.Range.small a b 1 = true := small_one (by omega) (by omega) (by omega) (by omega)
theorem range_size_down (n : Nat) : Builtin.Range.rangeSize ((n : Int) - 1) (-1) (-1) = n := by
  unfold Builtin.Range.rangeSize
  rw [if_neg (by decide), show (-(-1) : Int) = 1 from rfl, Int.ediv_one]
  split <;> omega
theorem range_small_down {n : Nat} (h : n ≤ 1000000) : Builtin.Range.small ((n : Int) - 1) (-1) (-1) = true := by
  unfold Builtin.Range.small
  rw [range_size_down, if_neg (by decide)]
  simp only [Builtin.Range.rangeFitsLong, Bool.and_eq_true, Bool.or_eq_true, decide_eq_true_eq, beq_iff_eq]
  omega

/-- one statement that goes on in a known state -/
theorem Exs_seq {g : Gl} {c : Fx} {σ : St} (σ' : St) {st : Stmt} {sts : List Stmt} {P : Out → St → Prop} (h1 : Ex g c σ st fun o σ'' => o = .next ∧ σ''.le σ') (h2 : Exs g c σ' sts P) : Exs g c σ (st :: sts) P :=
  Exs_cons (h1.mono fun o σ'' h => by obtain ⟨rfl, hl⟩ := h; exact WpS.le hl h2)

/-- if v > 0: found.append(v) .. return found -/
theorem tail_carry {pl : Sem Bool} {g : Gl} {c : Fx} {σ : St} {k : Nat} {v : Str} {cc : Int} {F R : List Int} {p1 p2 p3 p4 p5 p6 p7 p8 p9 p10 p11 : Pos} {k1 : Nat} (ok : c.Ok g k) (hkv : c.env.kindOf v = some .local) (hkf : c.env.kindOf "found" = some .local) (hvd : (v == ("__debug__" : Str)) = false)
    (hl : look v σ.ρ = some (.int cc)) (hω : σ.ω = [(("found" : Str), some (F.map AV.int))]) (h0 : 0 ≤ cc) (hsz : F.length ≤ 1000000) (h1 : 0 < cc → F ++ [cc] = R) (h2 : cc = 0 → F = R)
    (hi : interactive c.env = false)
    (hm : eval (.Call (.Attribute (.Name "found" p4) "append" p5) [.Name v p6] [] p7) c.env = (do
          let ov ← eval (.Name "found" p4) c.env
          standAt p5.atName
          let __x ← holding [ov] (getMethod ov "append" pl)
          match __x with
            | (f, first) => callWith p7 f first (backTo p7 (starEach [.Name v p6] c.env)) [])) :
    Exs g c σ [.If (.Compare (.Name v p1) [.Gt] [.Constant (.int 0) k1 p2] p3) [.Expr (.Call (.Attribute (.Name "found" p4) "append" p5) [.Name v p6] [] p7) p8] [] p9, .Return (some (.Name "found" p10)) p11] (fun o _ => o = .ret (aints R)) := by
  apply Exs_cons
  apply Ex_if (r := decide (0 < cc)) (EvB_cmp (Ev_name ok hl hkv hvd) Ev_int op_gt)
  · intro h
    simp only [decide_eq_true_eq] at h
    apply Exs_cons
    refine Ex_append (a := .int cc) (xs := F.map .int) (pre := []) (post := []) ok hω (.inl hkf) (Ev_name ok hl hkv hvd) (by simp [line16]; omega) ?_ (hi := hi) (hm := hm)
    apply Exs_nil
    apply Exs_cons
    apply WpS.freeze (pre := []) (post := []) rfl
    have e : (F.map AV.int ++ [.int cc]) = R.map .int := by rw [← h1 h]; simp
    rw [e]
    exact Ex_return (Ev_name ok rfl hkf) rfl
  · intro h
    simp only [decide_eq_false_iff_not] at h
    apply Exs_nil
    apply Exs_cons
    apply WpS.freeze (pre := []) (post := []) hω
    rw [h2 (by omega)]
    exact Ex_return (Ev_name ok rfl hkf) rfl

/-- an item of a list of ints -/
theorem Ev_itemI {g : Gl} {c : Fx} {σ : St} {v i : Expr} {pos : Pos} {xs : List Int} {k : Int} (hv : Ev g c σ v (aints xs)) (hi : Ev g c σ i (.int k)) (h0 : 0 ≤ k) (hx : k < (xs.length : Int)) (hfit : xs.length ≤ 1000000)
    (hs : ∀ l u, subscripted i false (.ref l) (.int k u) = operate [.ref l, .int k u] (getItem (.ref l) (.int k u)) := by with_unfolding_all (intro _ _; rfl)) : Ev g c σ (.Subscript v i pos) (.int (xs.getD k.toNat 0)) :=
  Ev_item hv hi h0 (ints_getD (by omega)) (by omega) hs

/-! where the defs stand -/
theorem ns58 {g : Gl} (hK : g.Is) : nsIn g.K mainGlobals "normal" = some (some (.ref 58)) ∧ keepIn g.K (.ref 58) = true := by rw [hK]; exact ⟨rfl, rfl⟩
theorem ns65 {g : Gl} (hK : g.Is) : nsIn g.K mainGlobals "nat_of" = some (some (.ref 65)) ∧ keepIn g.K (.ref 65) = true := by rw [hK]; exact ⟨rfl, rfl⟩
theorem ns72 {g : Gl} (hK : g.Is) : nsIn g.K mainGlobals "is_even" = some (some (.ref 72)) ∧ keepIn g.K (.ref 72) = true := by rw [hK]; exact ⟨rfl, rfl⟩
theorem ns79 {g : Gl} (hK : g.Is) : nsIn g.K mainGlobals "compare" = some (some (.ref 79)) ∧ keepIn g.K (.ref 79) = true := by rw [hK]; exact ⟨rfl, rfl⟩
theorem ns86 {g : Gl} (hK : g.Is) : nsIn g.K mainGlobals "add" = some (some (.ref 86)) ∧ keepIn g.K (.ref 86) = true := by rw [hK]; exact ⟨rfl, rfl⟩
theorem ns93 {g : Gl} (hK : g.Is) : nsIn g.K mainGlobals "sub" = some (some (.ref 93)) ∧ keepIn g.K (.ref 93) = true := by rw [hK]; exact ⟨rfl, rfl⟩
theorem ns100 {g : Gl} (hK : g.Is) : nsIn g.K mainGlobals "add_limb" = some (some (.ref 100)) ∧ keepIn g.K (.ref 100) = true := by rw [hK]; exact ⟨rfl, rfl⟩
theorem ns107 {g : Gl} (hK : g.Is) : nsIn g.K mainGlobals "sub_limb" = some (some (.ref 107)) ∧ keepIn g.K (.ref 107) = true := by rw [hK]; exact ⟨rfl, rfl⟩
theorem ns114 {g : Gl} (hK : g.Is) : nsIn g.K mainGlobals "add_at" = some (some (.ref 114)) ∧ keepIn g.K (.ref 114) = true := by rw [hK]; exact ⟨rfl, rfl⟩
theorem ns121 {g : Gl} (hK : g.Is) : nsIn g.K mainGlobals "mul_limb" = some (some (.ref 121)) ∧ keepIn g.K (.ref 121) = true := by rw [hK]; exact ⟨rfl, rfl⟩
theorem ns128 {g : Gl} (hK : g.Is) : nsIn g.K mainGlobals "add_mul" = some (some (.ref 128)) ∧ keepIn g.K (.ref 128) = true := by rw [hK]; exact ⟨rfl, rfl⟩
theorem ns135 {g : Gl} (hK : g.Is) : nsIn g.K mainGlobals "divrem_limb" = some (some (.ref 135)) ∧ keepIn g.K (.ref 135) = true := by rw [hK]; exact ⟨rfl, rfl⟩
theorem ns142 {g : Gl} (hK : g.Is) : nsIn g.K mainGlobals "shift_left" = some (some (.ref 142)) ∧ keepIn g.K (.ref 142) = true := by rw [hK]; exact ⟨rfl, rfl⟩
theorem ns149 {g : Gl} (hK : g.Is) : nsIn g.K mainGlobals "shift_right" = some (some (.ref 149)) ∧ keepIn g.K (.ref 149) = true := by rw [hK]; exact ⟨rfl, rfl⟩
theorem ns156 {g : Gl} (hK : g.Is) : nsIn g.K mainGlobals "bits" = some (some (.ref 156)) ∧ keepIn g.K (.ref 156) = true := by rw [hK]; exact ⟨rfl, rfl⟩
theorem ns163 {g : Gl} (hK : g.Is) : nsIn g.K mainGlobals "bit" = some (some (.ref 163)) ∧ keepIn g.K (.ref 163) = true := by rw [hK]; exact ⟨rfl, rfl⟩
theorem ns170 {g : Gl} (hK : g.Is) : nsIn g.K mainGlobals "low" = some (some (.ref 170)) ∧ keepIn g.K (.ref 170) = true := by rw [hK]; exact ⟨rfl, rfl⟩
theorem ns177 {g : Gl} (hK : g.Is) : nsIn g.K mainGlobals "split" = some (some (.ref 177)) ∧ keepIn g.K (.ref 177) = true := by rw [hK]; exact ⟨rfl, rfl⟩
theorem ns184 {g : Gl} (hK : g.Is) : nsIn g.K mainGlobals "trailing" = some (some (.ref 184)) ∧ keepIn g.K (.ref 184) = true := by rw [hK]; exact ⟨rfl, rfl⟩
theorem ns191 {g : Gl} (hK : g.Is) : nsIn g.K mainGlobals "_law_notched" = some (some (.ref 191)) ∧ keepIn g.K (.ref 191) = true := by rw [hK]; exact ⟨rfl, rfl⟩
theorem ns198 {g : Gl} (hK : g.Is) : nsIn g.K mainGlobals "_law_limbs" = some (some (.ref 198)) ∧ keepIn g.K (.ref 198) = true := by rw [hK]; exact ⟨rfl, rfl⟩
theorem ns205 {g : Gl} (hK : g.Is) : nsIn g.K mainGlobals "_law_done" = some (some (.ref 205)) ∧ keepIn g.K (.ref 205) = true := by rw [hK]; exact ⟨rfl, rfl⟩
theorem ns212 {g : Gl} (hK : g.Is) : nsIn g.K mainGlobals "_law_due" = some (some (.ref 212)) ∧ keepIn g.K (.ref 212) = true := by rw [hK]; exact ⟨rfl, rfl⟩
theorem ns219 {g : Gl} (hK : g.Is) : nsIn g.K mainGlobals "_law_undone" = some (some (.ref 219)) ∧ keepIn g.K (.ref 219) = true := by rw [hK]; exact ⟨rfl, rfl⟩
theorem ns226 {g : Gl} (hK : g.Is) : nsIn g.K mainGlobals "_law_refused" = some (some (.ref 226)) ∧ keepIn g.K (.ref 226) = true := by rw [hK]; exact ⟨rfl, rfl⟩
theorem ns233 {g : Gl} (hK : g.Is) : nsIn g.K mainGlobals "_law_are_told" = some (some (.ref 233)) ∧ keepIn g.K (.ref 233) = true := by rw [hK]; exact ⟨rfl, rfl⟩
end
section
theorem mulok_s {x y : Int} (h0 : 0 ≤ x) (h : x ≤ 1000000) : IntMulOk x y := IntMulOk.of_left (intBits_le_64 (by omega) (by omega))
theorem B2_le8 {w : Nat} (h : w ≤ 8) : B2 w ≤ 256 := Nat.pow_le_pow_right (show 0 < 2 by decide) h
theorem log2_small {x : Int} (h : x.natAbs < 1073741824) : x.natAbs.log2 < 9000 := by
  by_cases h0 : x.natAbs = 0
  · rw [h0]; decide +kernel
  · have : x.natAbs.log2 < 30 := (Nat.log2_lt h0).mpr h
    omega

theorem bitAnd_disj : ∀ (k : Nat) (x y : Int), 0 ≤ y → y < 2 ^ k → Builtin.bitAnd (x * 2 ^ k) y = 0
  | 0, x, y, h0, h1 => by
    have : y = 2 ^ 0 - 1 := by simp at h1 ⊢; omega
    rw [this, kbt_mask]; simp [Int.emod_one]
  | k + 1, x, y, h0, h1 => by
    rw [kbt_halves]
    have e1 : x * 2 ^ (k + 1) = 2 * (x * 2 ^ k) := by rw [Int.pow_succ]; grind
    have e2 : x * 2 ^ (k + 1) / 2 = x * 2 ^ k := by rw [e1]; omega
    have e3 : x * 2 ^ (k + 1) % 2 = 0 := by rw [e1]; omega
    rw [Int.pow_succ] at h1
    rw [e2, e3, bitAnd_disj k x (y / 2) (by omega) (by omega)]
    simp
theorem bitOr_disj (k : Nat) (x y : Int) (h0 : 0 ≤ y) (h1 : y < 2 ^ k) : Builtin.bitOr (x * 2 ^ k) y = x * 2 ^ k + y := by
  have h2 := bitXor_and (x * 2 ^ k) y
  unfold Builtin.bitXor at h2
  have h3 := bitAnd_disj k x y h0 h1
  omega

theorem foldl_rep (v : Value) : ∀ (n : Nat) (acc : Array Value), (List.foldl (fun x1 x2 => x1 ++ x2) acc (List.replicate n #[v])).toList = acc.toList ++ List.replicate n v
  | 0, acc => by simp
  | n + 1, acc => by
    rw [List.replicate_succ, List.foldl_cons, foldl_rep v n]
    simp [List.replicate_succ]

/-- [e] * n -/
theorem EvF_mul {g : Gl} {c : Fx} {σ : St} {es : List Expr} {p1 pos : Pos} {r : Expr} {a : AV} {n : Int} (he : EvV g c σ es [a]) (hr : Ev g c σ r (.int n)) (h0 : 0 ≤ n) (hn : n ≤ 1000000) :
    EvF g c σ (.BinOp (.List es p1) .Mult r pos) (List.replicate n.toNat a) := by
  intro s vm mine rest fz S Q E hQ
  refine wpAny_BinOp (List_ (he.use p1 S fun vs h' tk' fz' S' hs hv => ?_))
  obtain ⟨v, r', rfl, hv1, hv2⟩ := Reps.cons_iff.mp hv
  rw [Reps.nil_iff] at hv2; subst hv2
  refine wpAny_newObj_type ?_ (by show (#[v]).size ≤ sizeLine; simp [line16])
  have hg : (h'.push { cls := .type "list", data := .seq [v].toArray }).get? h'.objs.size = some { cls := .type "list", data := .seq #[v] 0 } := Heap.get?_push_size _ rfl
  have S1 := S'.add (Kp.push _ _) (none_at_size _) hg
  refine hr _ vm mine rest _ S1 _ _ fun u h₂ tk₂ fz₂ S₂ hs₂ hu => ?_
  obtain ⟨t, rfl⟩ := Rep.int_iff.mp hu
  obtain ⟨m, F, em⟩ := S₂.fr
  have off := S₂.atSize
  refine mul_list F S₂.news (S₂.get (hs₂ _ (.head _))) (by omega) (by omega) (by simp; omega) fun h₃ F₃ N₃ => ?_
  have e : List.foldl (fun x1 x2 => x1 ++ x2) #[] (List.replicate (if (#[v]).isEmpty = true then 0 else n.toNat) #[v]) = (List.replicate n.toNat v).toArray := by
    apply Array.toList_inj.mp
    have : (if (#[v]).isEmpty = true then 0 else n.toNat) = n.toNat := by simp
    rw [this, foldl_rep]; simp
  rw [e] at N₃
  have hs3 : ∀ p ∈ fz, p ∈ fz₂ := fun p hp => hs₂ p (.tail _ (hs p hp))
  refine hQ _ _ h₃ tk₂ fz₂ ⟨{ S₂ with fr := ⟨m, F₃, em⟩, news := fun p hp => N₃ p (.tail _ hp) }, N₃ _ (.head _), off.2.2, _, ⟨0, rfl⟩, ?_⟩ hs3
  exact Reps.replicate (hv1.mono fun p hp => hs₂ p (.tail _ hp)) _

/-- x[i] = e -/
theorem Ex_setitem {g : Gl} {c : Fx} {σ : St} {k : Nat} {x : Str} {p0 p1 pos : Pos} {i e : Expr} {n : Int} {a : AV} {xs : List AV} {pre post : List (Str × Option (List AV))} {P : Out → St → Prop} (ok : c.Ok g k) (hω : σ.ω = pre ++ (x, some xs) :: post) (hr : Readable c σ x)
    (he : Ev g c σ e a) (hi : Ev g c σ i (.int n)) (h0 : 0 ≤ n) (h1 : n < (xs.length : Int)) (hfit : xs.length ≤ 1000000) (hp : P .next { σ with ω := pre ++ (x, some (xs.set n.toNat a)) :: post })
    (hd : (x == ("__debug__" : Str)) = false := by decide)
    (hsw : swapsWith e (some (.Subscript (.Name x p0) i p1)) pos.line c.env = pure false := by rfl) :
    Ex g c σ (.Assign [.Subscript (.Name x p0) i p1] e pos) P := by
  intro s vm mine rest fz S Q E hQ
  refine wpAny_Assign_Subscript (he s vm mine rest fz S _ _ fun v h' tk' fz' S' hs' hv => ?_) hsw
  obtain ⟨mpre, b, m, vs, mpost, rfl, hvm, hre, ho1, ho3, hg⟩ := S'.held hω
  refine wpAny_Name (load_var ok (s := { s with heap := h', toks := tk' }) S' hr hvm ?_) hd
  refine hi _ vm _ rest fz' S' _ _ fun u h₂ tk₂ fz₂ S₂ hs₂ hu => ?_
  obtain ⟨t, rfl⟩ := Rep.int_iff.mp hu
  have hg₂ := S₂.getMine (a := b) (List.mem_append_right _ (.head _))
  refine ki_setAt hg₂ h0 (by omega) (by simp [hre.length]; omega) ?_
  have hset : (Obj.mapSeq (fun x => x.setIfInBounds n.toNat v) (listOf vs.toArray m)) = listOf (vs.set n.toNat v).toArray m := by
    have e1 : vs.toArray.setIfInBounds n.toNat v = (vs.set n.toNat v).toArray := by
      apply Array.toList_inj.mp; simp
    have e2 := PySem.IsL.update (n := m) hg₂ (fun x => x.setIfInBounds n.toNat v)
    have e3 := Heap.get?_update_self (Obj.mapSeq (fun x => x.setIfInBounds n.toNat v)) hg₂ (by rfl)
    rw [← e1]
    simp [Obj.mapSeq]
  have hnew := Heap.get?_update_self (Obj.mapSeq (fun x => x.setIfInBounds n.toNat v)) hg₂ (by rw [hset]; rfl)
  rw [hset] at hnew
  have S₃ := S₂.change (σ' := { σ with ω := pre ++ (x, some (xs.set n.toNat a)) :: post }) (vm' := vm) (Heap.SameBut.update ..) hnew (fun _ _ => rfl) S₂.rho
    (OwnR.join (e := (x, some (xs.set n.toNat a))) (by
      simp only [OwnR]
      exact ⟨⟨vs.set n.toNat v, ⟨m, rfl⟩, (Reps.mono hs₂ xs hre).set (hv.mono hs₂), hvm⟩, trivial⟩) (ho3.mono hs₂) (ho1.mono hs₂))
  exact hQ .next _ .next _ tk₂ vm _ fz₂ hp S₃ (fun p hp => hs₂ p (hs' p hp)) trivial
end
section
section
variable {g : Gl} {c : Fx} {σ : St}
/-- x = (a new list) -/
theorem Ex_assignF {k : Nat} {x : Str} {p' pos : Pos} {e : Expr} {xs : List AV} {P : Out → St → Prop} (ok : c.Ok g k) (he : EvF g c σ e xs) (hx : CanSt c x σ.ω)
    (hp : P .next { ρ := unvar x σ.ρ, ω := (x, some xs) :: σ.ω }) (hsw : swapsWith e (some (.Name x p')) pos.line c.env = pure false := by rfl) : Ex g c σ (.Assign [.Name x p'] e pos) P := by
  intro s vm mine rest fz S Q E hQ
  refine wpAny_Assign_Name (he s vm mine rest fz S _ _ fun r o h' tk' fz' F hs => ?_) hsw
  obtain ⟨us, h1, h2⟩ := F.vals
  exact store_own ok (s := { s with heap := h', toks := tk' }) F.pend (fun q hq e => F.off q (List.mem_append_left _ (List.mem_append_right _ hq)) e.symm) h1 h2 hx fun h'' tk'' vm'' mine'' S'' => hQ .next _ .next h'' tk'' vm'' mine'' fz' hp S'' hs trivial

/-- a + b, of lists -/
theorem EvF_add {l r : Expr} {pos : Pos} {xs ys : List AV} (h1 : Ev g c σ l (.list xs)) (h2 : Ev g c σ r (.list ys)) (hsz : xs.length + ys.length ≤ 1000000) : EvF g c σ (.BinOp l .Add r pos) (xs ++ ys) := by
  intro s vm mine rest fz S Q E hQ
  refine wpAny_BinOp (h1 s vm mine rest fz S _ _ fun v h' tk' fz' S' hs hv => ?_)
  refine h2 _ vm mine rest fz' S' _ _ fun u h₂ tk₂ fz₂ S₂ hs₂ hu => ?_
  obtain ⟨a, o, vs, rfl, hm, ⟨n, rfl⟩, hr⟩ := Rep.list_iff.mp hv
  obtain ⟨b, o', us, rfl, hm', ⟨n', rfl⟩, hr'⟩ := Rep.list_iff.mp hu
  have hm₂ := hs₂ _ hm
  have hr₂ : Reps fz₂ xs vs := Reps.mono hs₂ xs hr
  obtain ⟨m, F, em⟩ := S₂.fr
  have off := S₂.atSize
  refine add_arrays F S₂.news ⟨_, S₂.get hm₂, rfl, n, rfl⟩ ⟨_, S₂.get hm', rfl, n', rfl⟩ (fun h₃ F₃ N₃ => ?_) (by simp [hr.length, hr'.length, line16]; omega)
  refine hQ _ _ h₃ tk₂ fz₂ ⟨{ S₂ with fr := ⟨m, F₃, em⟩, news := fun p hp => N₃ p (.tail _ hp) }, N₃ _ (.head _), off.2.2, _, ⟨0, rfl⟩, ?_⟩ (fun p hp => hs₂ p (hs p hp))
  simpa using hr₂.append hr'

/-- e.bit_length() -/
theorem Ev_bitlen {e : Expr} {p1 pos : Pos} {n : Int} {pl : Sem Bool} (he : Ev g c σ e (.int n))
    (hm : eval (.Call (.Attribute e "bit_length" p1) [] [] pos) c.env = (do
          let ov ← eval e c.env
          standAt p1.atName
          let __x ← holding [ov] (getMethod ov "bit_length" pl)
          match __x with
            | (f, first) => callWith pos f first (backTo pos (starEach [] c.env)) [])) : Ev g c σ (.Call (.Attribute e "bit_length" p1) [] [] pos) (.int (Builtin.Int.intBits n : Nat)) := by
  intro s vm mine rest fz S Q E hQ
  refine MethodCall_ (he s vm mine rest fz S _ _ fun v h' tk' fz' S' hs hv => ?_) hm
  obtain ⟨t, rfl⟩ := Rep.int_iff.mp hv
  refine PyProof.Rows.getMethod_int_bit_length (callWith_method0 (PyProof.Rows.call_int_bit_length ?_))
  exact hQ _ _ _ _ S' hs (Rep.int_iff.mpr ⟨_, rfl⟩)

/-- max(a, b) -/
theorem Ev_max {k : Nat} {p0 pos : Pos} {e1 e2 : Expr} {a b : Int} (hK : g.Is) (ok : c.Ok g k) (he : EvV g c σ [e1, e2] [.int a, .int b]) (hk : c.env.kindOf "max" = some .globalImplicit)
    (hst : starEach [e1, e2] c.env = (false, eval e1 c.env) :: starEach [e2] c.env := by rfl) (hany : ((backTo pos (starEach [e2] c.env)).any fun x => x.1) = false := by rfl)
    (hev : eval (.Call (.Name "max" p0) [e1, e2] [] pos) c.env = (do callWith pos (← eval (.Name "max" p0) c.env) [] (backTo pos (starEach [e1, e2] c.env)) (backToKw pos (keywordEach [] c.env))) := by rfl) :
    Ev g c σ (.Call (.Name "max" p0) [e1, e2] [] pos) (.int (if a < b then b else a)) := by
  intro s vm mine rest fz S Q E hQ
  refine Call_ (Ev_built (pos := p0) ok (show nsIn g.K mainGlobals "max" = some none by rw [hK]; exact rfl) (show bootBuiltins "max" = some (.builtin "max") from boot_max) (by decide) hk (by decide) s vm mine rest fz S _ _ fun v h' tk' fz' S' hs hv => ?_) hev
  rw [Rep.raw_iff] at hv; subst hv
  refine PyProof.Rows.callWith_builtin1 (he.use pos S' fun vs h₂ tk₂ fz₂ S₂ hs₂ hr => ?_) hst hany
  obtain ⟨v, r, rfl, hv, h2⟩ := Reps.cons_iff.mp hr
  obtain ⟨v', r', rfl, hv', h3⟩ := Reps.cons_iff.mp h2
  rw [Reps.nil_iff] at h3; subst h3
  obtain ⟨t, rfl⟩ := Rep.int_iff.mp hv
  obtain ⟨t', rfl⟩ := Rep.int_iff.mp hv'
  refine max_two_ints ok.handled fun h₃ tk₃ kp => ?_
  refine hQ _ h₃ tk₃ fz₂ (S₂.keeps kp) (fun p hp => hs₂ p (hs p hp)) (Rep.int_iff.mpr ?_)
  by_cases q : a < b
  · exact ⟨t', by rw [if_pos q, if_pos q]⟩
  · exact ⟨t, by rw [if_neg q, if_neg q]⟩
end

theorem range_size_sub (a b : Nat) : Builtin.Range.rangeSize (a : Int) (b : Int) 1 = ((b - a : Nat) : Int) := by
  rw [rangeSize_one]; split <;> omega
theorem emod_mul' {x a b : Int} (hx : 0 ≤ x) (ha : 0 < a) (hb : 0 < b) : x % (a * b) = x % a + a * (x / a % b) := by
  obtain ⟨x, rfl⟩ := Int.eq_ofNat_of_zero_le hx
  obtain ⟨a, rfl⟩ := Int.eq_ofNat_of_zero_le (Int.le_of_lt ha)
  obtain ⟨b, rfl⟩ := Int.eq_ofNat_of_zero_le (Int.le_of_lt hb)
  exact_mod_cast Nat.mod_mul
theorem ediv_mul' {x a b : Int} (ha : 0 < a) (hb : 0 < b) : x / (a * b) = x / a / b := (Int.ediv_ediv_of_nonneg (Int.le_of_lt ha)).symm
theorem shift_eq' (w k : Nat) : (B2 w : Int) ^ (k / w) * 2 ^ (k % w) = 2 ^ k := by
  rw [B2_cast, ← Int.pow_mul, ← Int.pow_add, Nat.div_add_mod]
/-- a limb of what is moved down -/
theorem shr_limb {w f : Nat} (hf : f ≤ w) (M : Int) : M / 2 ^ f % (B2 w : Int) = (M % B2 w / 2 ^ f + (M / B2 w % B2 w) * 2 ^ (w - f)) % B2 w := by
  have hB : (B2 w : Int) = 2 ^ f * 2 ^ (w - f) := by rw [B2_cast, ← Int.pow_add]; congr 1; omega
  have hp : (0 : Int) < 2 ^ f := Int.pow_pos (by decide)
  have h1 : M / 2 ^ f = M % B2 w / 2 ^ f + 2 ^ (w - f) * (M / B2 w) := by
    conv => lhs; rw [← Int.emod_add_mul_ediv M (B2 w)]
    rw [show (B2 w : Int) * (M / (B2 w : Int)) = 2 ^ f * (2 ^ (w - f) * (M / (B2 w : Int))) by rw [← Int.mul_assoc, ← hB]]
    rw [Int.add_mul_ediv_left _ _ (by omega)]
  rw [h1]
  generalize M / (B2 w : Int) = q
  have h2 := Int.emod_add_mul_ediv q (B2 w)
  generalize hq1 : q % (B2 w : Int) = q1 at *
  generalize q / (B2 w : Int) = q2 at *
  rw [← h2]
  rw [show M % (B2 w : Int) / 2 ^ f + 2 ^ (w - f) * (q1 + (B2 w : Int) * q2) = M % (B2 w : Int) / 2 ^ f + q1 * 2 ^ (w - f) + (B2 w : Int) * (2 ^ (w - f) * q2) by grind]
  rw [Int.add_mul_emod_self_left]
end
section
section
variable {g : Gl} {c : Fx} {σ : St} {h h' : Heap} {vm : Str → Option Value} {mine rest fz : Led}
theorem Sta.off2 (S : Sta c σ h vm mine rest fz) {I J : Addr} (hL : I ≠ c.env.locals) (h0 : c.h₀.get? I = none) (hl : ∀ p ∈ mine ++ rest ++ fz, p.1 ≠ I) (hL' : J ≠ c.env.locals) (h0' : c.h₀.get? J = none) (hl' : ∀ p ∈ mine ++ rest ++ fz, p.1 ≠ J)
    (k : ∀ b o, b ≠ I → b ≠ J → h.get? b = some o → h'.get? b = some o) : Sta c σ h' vm mine rest fz := by
  refine { S with fr := ?_, news := fun p hp => ⟨k _ _ (hl p hp) (hl' p hp) (S.news p hp).1, (S.news p hp).2⟩ }
  obtain ⟨m, F, e⟩ := S.fr
  refine ⟨m, ⟨F.ns.at' fun o e => k _ o (Ne.symm hL) (Ne.symm hL') e, fun b o q => k b o (fun z => ?_) (fun z => ?_) (F.keep b o q), F.above⟩, e⟩
  · rw [z, h0] at q; cases q
  · rw [z, h0'] at q; cases q

theorem Ex_for_enum {k : Nat} {xi xv : Str} {pi pv pt p0 pc pos : Pos} {x1 : Nat} {e : Expr} {body : List Stmt} {xs : List AV} (J : Nat → St → Prop) {P : Out → St → Prop} (hK : g.Is) (ok : c.Ok g k) (he : Ev g c σ e (.list xs))
    (hki : c.env.kindOf xi = some .local) (hkv : c.env.kindOf xv = some .local) (hk : c.env.kindOf "enumerate" = some .globalImplicit)
    (hJ : J 0 σ) (turn : ∀ i σ a, xs[i]? = some a → J i σ → ownsNot xi σ.ω = true ∧ ownsNot xv σ.ω = true ∧ Exs g c { σ with ρ := (xv, a) :: (xi, .int i) :: σ.ρ } body (TurnP J i P))
    (done : ∀ σ, J xs.length σ → P .next σ)
    (hst : starEach [e] c.env = (false, eval e c.env) :: starEach [] c.env := by rfl) (hany : ((backTo pc (starEach [] c.env)).any fun x => x.1) = false := by rfl)
    (hev : eval (.Call (.Name "enumerate" p0) [e] [] pc) c.env = (do callWith pc (← eval (.Name "enumerate" p0) c.env) [] (backTo pc (starEach [e] c.env)) (backToKw pc (keywordEach [] c.env))) := by rfl)
    (hs : ∀ x, foldedSetIterable (.Call (.Name "enumerate" p0) [e] [] pc) c.env x = pure x := by intro _; rfl)
    (hae : assignEach [.Name xi pi, .Name xv pv] c.env = [(false, assign (.Name xi pi) c.env), (false, assign (.Name xv pv) c.env)] := by rfl) :
    Ex g c σ (.For (.Tuple [.Name xi pi, .Name xv pv] x1 pt) (.Call (.Name "enumerate" p0) [e] [] pc) body [] pos) P := by
  intro s vm mine rest fz S Q E hQ
  refine wpAny_For (Call_ (Ev_built (pos := p0) ok (show nsIn g.K mainGlobals "enumerate" = some none by rw [hK]; exact rfl) (show bootBuiltins "enumerate" = some (.type "enumerate") from boot_enumerate) (by decide) hk (by decide) s vm mine rest fz S _ _ fun v h' tk' fz' S' hs hv => ?_) hev) hs
  rw [Rep.raw_iff] at hv; subst hv
  refine PyProof.Rows.callWith_type1 (args_cons (he _ vm mine rest fz' S' _ _ fun v h₂ tk₂ fz₂ S₂ hs₂ hv => args_nil ?_) hst) hst hany
  obtain ⟨l, o, vs, rfl, hm, ⟨n, rfl⟩, hr⟩ := Rep.list_iff.mp hv
  have hg := S₂.get hm
  obtain ⟨b1, b2, b3⟩ := S₂.below
  refine call_enumerate_list (items := vs.toArray) ⟨_, hg, rfl, n, rfl⟩ fun h₃ hen hit hz kp => ?_
  have S₃ := S₂.keeps kp
  refine wpAny_pyIter_enum hen ?_
  generalize hI : h₂.objs.size = I at *
  have up : ∀ a, I ≤ a → a ≠ c.env.locals ∧ c.h₀.get? a = none ∧ ∀ p ∈ mine ++ rest ++ fz₂, p.1 ≠ a := fun a ha => by
    refine ⟨fun e => ?_, ?_, fun p hp e => ?_⟩
    · rw [e] at ha; exact absurd b2 (Nat.not_lt.mpr ha)
    · cases q : c.h₀.get? a with
      | none => rfl
      | some o => exact absurd (b3 _ _ q) (Nat.not_lt.mpr ha)
    · have := b1 p hp; rw [e] at this; exact absurd this (Nat.not_lt.mpr ha)
  obtain ⟨i1, i2, i3⟩ := up I (Nat.le_refl _)
  obtain ⟨e1, e2, e3⟩ := up (I + 1) (Nat.le_succ _)
  have hlI : l < I := hI ▸ Heap.lt_size hg
  have hlen : vs.length = xs.length := hr.length
  refine codeAny_forLoop_any (fun kk s' => ∃ i σ₁ vm₁ mine₁ fz₁ h₁ tk₁ old, s' = { s with heap := h₁, toks := tk₁ } ∧ (∀ p ∈ fz₂, p ∈ fz₁) ∧ Sta c σ₁ h₁ vm₁ mine₁ rest fz₁ ∧ IsEnum h₁ (I + 1) I ((i : Nat) : Int) old ∧ h₁.IsListIter I l i ∧
      (∀ p ∈ mine₁ ++ rest ++ fz₁, p.1 ≠ I) ∧ (∀ p ∈ mine₁ ++ rest ++ fz₁, p.1 ≠ I + 1) ∧ J i σ₁ ∧ i ≤ xs.length ∧ kk = xs.length + 1 - i) ?_ (xs.length + 1)
    ⟨0, σ, vm, mine, fz₂, h₃, tk₂, .none, rfl, fun _ h => h, S₃, hen, hit, i3, e3, hJ, Nat.zero_le _, rfl⟩
  rintro kk s' ⟨i, σ₁, vm₁, mine₁, fz₁, h₁, tk₁, old, rfl, hs₁, S₁, hen₁, hit₁, o1, o2, hJ₁, hi, rfl⟩
  have hgl := S₁.get (hs₁ _ hm)
  have hne : I + 1 ≠ I := Nat.succ_ne_self I
  by_cases hlt : i < xs.length
  · have hv : vs.toArray[i]? = some vs[i] := by simp [hlen, hlt]
    refine wpAny_pyNext_enum_item hen₁ hit₁ ⟨_, hgl, rfl, n, rfl⟩ hv hne fun h₄ hout hit₄ ht₄ hz₄ k₄ => ?_
    have S₄ := S₁.off2 e1 e2 o2 i1 i2 o1 k₄
    have htne : h₁.objs.size ≠ I + 1 := Nat.ne_of_gt (Heap.lt_size hen₁)
    refine wpAny_letOwnedTupleGo_enum hout fun h₅ hen₅ hs₅ => ?_
    replace hs₅ : Heap.SameBut (I + 1) h₄ h₅ := hs₅
    have S₅ := S₄.off2 (h' := h₅) e1 e2 o2 i1 i2 o1 fun b o hb _ e => (hs₅.2 b hb).trans e
    have ht₅ : h₅.IsTuple h₁.objs.size #[.int i tk₁, vs[i]] := ⟨_, (hs₅.2 _ htne).trans ht₄, rfl, _, rfl⟩
    have hit₅ : h₅.IsListIter I l (i + 1) := hit₄.extBut hs₅.extBut (Ne.symm hne)
    refine wpAny_assign_Tuple ok.handled ht₅ (by rw [hae]; rfl) (by rw [hae]; rfl) fun h₆ hx₆ => ?_
    have kp₆ : Kp h₅ h₆ := fun b o e => hx₆ b o (Nat.ne_of_lt (Heap.lt_size e)) e
    have S₆ := S₅.keeps kp₆
    have hen₆ : IsEnum h₆ (I + 1) I ((i : Int) + 1) vs[i] := kp₆ _ _ hen₅
    obtain ⟨oi, hoi, hoi'⟩ := id hit₅
    have hoi₆ := kp₆ _ _ hoi
    have S₇ := S₆.withRest hoi₆ i1 i2 o1
    have S₈ := S₇.withRest (I := I + 1) hen₆ e1 e2 (fun p hp => by
      rcases List.mem_append.mp hp with q | q
      · rcases List.mem_append.mp q with q | q
        · exact o2 p (List.mem_append_left _ (List.mem_append_left _ q))
        · rcases List.mem_cons.mp q with rfl | q
          · exact Ne.symm hne
          · exact o2 p (List.mem_append_left _ (List.mem_append_right _ q))
      · exact o2 p (List.mem_append_right _ q))
    obtain ⟨oi1, oi2, hturn⟩ := turn i σ₁ xs[i] (by simp [hlt]) hJ₁
    have hrep : Rep fz₁ xs[i] vs[i] := by
      obtain ⟨v', hv', hrv⟩ := (Reps.mono hs₁ xs hr).get (i := i) (x := xs[i]) (by simp [hlt])
      have : vs[i]? = some vs[i] := by simp [hlen, hlt]
      rw [this] at hv'; cases hv'; exact hrv
    rw [hae]
    refine storesV ok [(xi, .int i), (xv, xs[i])] (tgs := [assign (.Name xi pi) c.env, assign (.Name xv pv) c.env]) (vs := [.int i tk₁, vs[i]]) (s := { s with heap := h₆, toks := tk₁ + 1 })
      ⟨fun v s Q E h => assign_Name h, fun v s Q E h => assign_Name h, trivial⟩
      (Reps.cons_iff.mpr ⟨_, _, rfl, Rep.int_iff.mpr ⟨_, rfl⟩, Reps.one hrep⟩) ⟨.inl ⟨hki, oi1⟩, .inl ⟨hkv, oi2⟩, trivial⟩ S₈ fun h₇ tk₇ vm₇ mine₇ S₉ => ?_
    refine hturn { s with heap := h₇, toks := tk₇ } vm₇ mine₇ _ fz₁ S₉ _ _ fun o σ' fl h₈ tk₈ vm₈ mine₈ fz₈ hp₈ SA hs₈ hr₈ => ?_
    have hSA : Sta c σ' h₈ vm₈ mine₈ rest fz₈ := SA.sub fun p hp => .tail _ (.tail _ hp)
    have hsz : ∀ p ∈ fz, p ∈ fz₈ := fun p hp => hs₈ p (hs₁ p (hs₂ p (hs p hp)))
    have off₁ : ∀ p ∈ mine₈ ++ rest ++ fz₈, p.1 ≠ I := fun p hp => by
      rcases List.mem_append.mp hp with q | q
      · rcases List.mem_append.mp q with q | q
        · exact SA.dmr p q (I, oi) (.tail _ (.head _))
        · exact o1 p (List.mem_append_left _ (List.mem_append_right _ q))
      · exact fun e => SA.dis (I, oi) (List.mem_append_right _ (.tail _ (.head _))) p q e.symm
    have off₂ : ∀ p ∈ mine₈ ++ rest ++ fz₈, p.1 ≠ I + 1 := fun p hp => by
      rcases List.mem_append.mp hp with q | q
      · rcases List.mem_append.mp q with q | q
        · exact SA.dmr p q (I + 1, _) (.head _)
        · exact o2 p (List.mem_append_left _ (List.mem_append_right _ q))
      · exact fun e => SA.dis (I + 1, _) (List.mem_append_right _ (.head _)) p q e.symm
    have again : (∃ σ'', σ'.le σ'' ∧ J (i + 1) σ'') → ∃ m, m < xs.length + 1 - i ∧ ∃ i σ₁ vm₁ mine₁ fz₁ h₁ tk₁ old, ({ s with heap := h₈, toks := tk₈ } : Shared) = { s with heap := h₁, toks := tk₁ } ∧ (∀ p ∈ fz₂, p ∈ fz₁) ∧ Sta c σ₁ h₁ vm₁ mine₁ rest fz₁ ∧
        IsEnum h₁ (I + 1) I ((i : Nat) : Int) old ∧ h₁.IsListIter I l i ∧ (∀ p ∈ mine₁ ++ rest ++ fz₁, p.1 ≠ I) ∧ (∀ p ∈ mine₁ ++ rest ++ fz₁, p.1 ≠ I + 1) ∧ J i σ₁ ∧ i ≤ xs.length ∧ m = xs.length + 1 - i := by
      rintro ⟨σ'', hle, hj⟩
      refine ⟨xs.length + 1 - (i + 1), by omega, i + 1, σ'', vm₈, mine₈, fz₈, h₈, tk₈, vs[i], rfl, fun p hp => hs₈ p (hs₁ p hp), hSA.le hle, ?_, ?_, off₁, off₂, hj, hlt, rfl⟩
      · have := (SA.news (I + 1, _) (List.mem_append_left _ (List.mem_append_right _ (.head _)))).1
        have e : (((i + 1 : Nat) : Int)) = (i : Int) + 1 := by push_cast; rfl
        rw [e]; exact this
      · have := (SA.news (I, oi) (List.mem_append_left _ (List.mem_append_right _ (.tail _ (.head _))))).1
        exact ⟨oi, this, hoi'⟩
    cases o with
    | next =>
      cases fl <;> first | exact hr₈.elim | skip
      exact again hp₈
    | cont =>
      cases fl <;> first | exact hr₈.elim | skip
      exact again hp₈
    | brk =>
      cases fl <;> first | exact hr₈.elim | skip
      exact hQ .next σ' .next h₈ tk₈ vm₈ mine₈ fz₈ hp₈ hSA hsz trivial
    | ret a =>
      cases fl <;> first | exact hr₈.elim | skip
      exact hQ (.ret a) σ' _ h₈ tk₈ vm₈ mine₈ fz₈ hp₈ hSA hsz hr₈
  · have hin : i = xs.length := by omega
    subst hin
    refine wpAny_pyNext_enum_end ok.handled hen₁ hit₁ ⟨_, hgl, rfl, n, rfl⟩ (by simp [hlen]) fun h₂ kx => wpAny_execs_nil ?_
    exact hQ .next σ₁ .next h₂ tk₁ vm₁ mine₁ fz₁ (done σ₁ hJ₁) (S₁.off2 (h' := h₂) e1 e2 o2 i1 i2 o1 fun b o _ hb e => kx b o hb e) (fun p hp => hs₁ p (hs₂ p (hs p hp))) trivial
end
end
section
section
variable {g : Gl} {c : Fx} {σ σ' : St}

/-! a held list, read -/
theorem Ev_own_item {k0 : Nat} {x : Str} {p0 pos : Pos} {i : Expr} {pre post : List (Str × Option (List AV))} {xs : List AV} {k : Int} {a : AV} (ok : c.Ok g k0) (hω : σ.ω = pre ++ (x, some xs) :: post) (hr : Readable c σ x)
    (hi : Ev g c σ i (.int k)) (h0 : 0 ≤ k) (hx : xs[k.toNat]? = some a) (hfit : k < 2 ^ 63) (hd : (x == ("__debug__" : Str)) = false := by decide)
    (hs : ∀ l u, subscripted i false (.ref l) (.int k u) = operate [.ref l, .int k u] (getItem (.ref l) (.int k u)) := by with_unfolding_all (intro _ _; rfl)) : Ev g c σ (.Subscript (.Name x p0) i pos) a := by
  intro s vm mine rest fz S Q E hQ
  obtain ⟨mpre, b, m, vs, mpost, rfl, hvm, hre, ho1, ho3, hg⟩ := S.held hω
  refine Subscript_ (wpAny_Name (load_var ok S hr hvm ?_) hd)
  refine hi _ vm _ rest fz S _ _ fun u h₂ tk₂ fz₂ S₂ hs₂ hu => ?_
  obtain ⟨t, rfl⟩ := Rep.int_iff.mp hu
  have hg₂ := S₂.getMine (a := b) (List.mem_append_right _ (.head _))
  have hre₂ := Reps.mono hs₂ xs hre
  obtain ⟨w, hw, hrep⟩ := hre₂.get hx
  have hl : h₂.IsList b vs.toArray := ⟨_, hg₂, rfl, m, rfl⟩
  exact tail_any hl.typeIs slot_list_getitem.lookup (wpAny_getItem_list hl h0 hfit (by simpa using hw) (hQ _ _ tk₂ fz₂ S₂ hs₂ hrep)) (hs b t)
theorem Ev_own_item_neg {k0 : Nat} {x : Str} {p0 pos : Pos} {i : Expr} {pre post : List (Str × Option (List AV))} {xs : List AV} {k : Int} {a : AV} (ok : c.Ok g k0) (hω : σ.ω = pre ++ (x, some xs) :: post) (hr : Readable c σ x)
    (hi : Ev g c σ i (.int k)) (h0 : k < 0) (hk : -(xs.length : Int) ≤ k) (hx : xs[(k + xs.length).toNat]? = some a) (hfit : -2 ^ 63 ≤ k) (hd : (x == ("__debug__" : Str)) = false := by decide)
    (hs : ∀ l u, subscripted i false (.ref l) (.int k u) = operate [.ref l, .int k u] (getItem (.ref l) (.int k u)) := by with_unfolding_all (intro _ _; rfl)) : Ev g c σ (.Subscript (.Name x p0) i pos) a := by
  intro s vm mine rest fz S Q E hQ
  obtain ⟨mpre, b, m, vs, mpost, rfl, hvm, hre, ho1, ho3, hg⟩ := S.held hω
  refine Subscript_ (wpAny_Name (load_var ok S hr hvm ?_) hd)
  refine hi _ vm _ rest fz S _ _ fun u h₂ tk₂ fz₂ S₂ hs₂ hu => ?_
  obtain ⟨t, rfl⟩ := Rep.int_iff.mp hu
  have hg₂ := S₂.getMine (a := b) (List.mem_append_right _ (.head _))
  have hre₂ := Reps.mono hs₂ xs hre
  have hlen := hre₂.length
  obtain ⟨w, hw, hrep⟩ := hre₂.get hx
  have hl : h₂.IsList b vs.toArray := ⟨_, hg₂, rfl, m, rfl⟩
  exact tail_any hl.typeIs slot_list_getitem.lookup (wpAny_getItem_list_neg hl h0 (by simpa [hlen] using hk) hfit (by simpa [hlen] using hw) (hQ _ _ tk₂ fz₂ S₂ hs₂ hrep)) (hs b t)
theorem Ev_own_len {k0 : Nat} {x : Str} {p0 p1 pos : Pos} {pre post : List (Str × Option (List AV))} {xs : List AV} (hK : g.Is) (ok : c.Ok g k0) (hω : σ.ω = pre ++ (x, some xs) :: post) (hr : Readable c σ x) (hsz : xs.length < 2 ^ 62)
    (hk : c.env.kindOf "len" = some .globalImplicit) (hd : (x == ("__debug__" : Str)) = false := by decide)
    (hst : starEach [.Name x p1] c.env = (false, eval (.Name x p1) c.env) :: starEach [] c.env := by rfl) (hany : ((backTo pos (starEach [] c.env)).any fun x => x.1) = false := by rfl)
    (hev : eval (.Call (.Name "len" p0) [.Name x p1] [] pos) c.env = (do callWith pos (← eval (.Name "len" p0) c.env) [] (backTo pos (starEach [.Name x p1] c.env)) (backToKw pos (keywordEach [] c.env))) := by rfl) : Ev g c σ (.Call (.Name "len" p0) [.Name x p1] [] pos) (.int xs.length) := by
  intro s vm mine rest fz S Q E hQ
  refine Call_ (Ev_built (pos := p0) ok (show nsIn g.K mainGlobals "len" = some none by rw [hK]; exact rfl) boot_len (by decide) hk (by decide) s vm mine rest fz S _ _ fun v h' tk' fz' S' hs hv => ?_) hev
  rw [Rep.raw_iff] at hv; subst hv
  obtain ⟨mpre, b, m, vs, mpost, rfl, hvm, hre, ho1, ho3, hg⟩ := S'.held hω
  refine PyProof.Rows.callWith_builtin1 (args_cons (wpAny_Name (load_var ok (s := { s with heap := h', toks := tk' }) S' hr hvm ?_) hd) hst) hst hany
  refine args_nil ?_
  have hlen := hre.length
  refine Calls.call_len_list (items := vs.toArray) ⟨_, hg, rfl, m, rfl⟩ (by simp [hlen]; omega) ?_
  exact hQ _ _ _ fz' S' hs (Rep.int_iff.mpr ⟨_, by simp [hlen]; rfl⟩)

/-! what turns a held list and gives a value -/
def EvC (g : Gl) (c : Fx) (σ : St) (e : Expr) (a : AV) (σ' : St) : Prop :=
  ∀ (s : Shared) vm mine rest fz, Sta c σ s.heap vm mine rest fz → ∀ (Q E : Value → Shared → Prop),
    (∀ v h' tk' mine' fz', Sta c σ' h' vm mine' rest fz' → (∀ p ∈ fz, p ∈ fz') → Rep fz' a v → Q v { s with heap := h', toks := tk' }) →
    wpAny (model g.prog g.w) c.A (eval e c.env) Q E s

theorem EvC_own {k : Nat} {x f0 : Str} {p0 p1 pos : Pos} {e : Expr} {f : Addr} {name qual : Str} {params : Arguments} {body : List Stmt} {scope : Scope} {dV kV doc pm cdv ct oc : Value} {an od : Option Addr} {osl : Array (Option Value)} {xs xs' : List AV} {b r : AV} {pre post : List (Str × Option (List AV))} (y1 y2 : Str)
    (ok : c.Ok g (k + 1)) (hω : σ.ω = pre ++ (x, some xs) :: post) (hr : Readable c σ x) (he : Ev g c σ e b)
    (ho : g.K.lookup f = some ⟨oc, od, .func (fnOf name qual params body scope dV kV doc pm an cdv ct), osl⟩) (hcd : codeIn g.K cdv qual = true)
    (hb : ∀ v1 v2 : Value, bindArgs (fnOf name qual params body scope dV kV doc pm an cdv ct) ⟨[v1, v2], []⟩ = pure [(y1, v1), (y2, v2)]) (hne : y1 ≠ y2)
    (hl1 : scope.names.lookup y1 = some .local) (hl2 : scope.names.lookup y2 = some .local)
    (hco : scope.isCoroutine = false) (hgen : scope.isGenerator = false) (hk : scope.kind = .function) (hcell : ∀ x ∈ scope.names, x.2 ≠ .cell)
    (hx : nsIn g.K mainGlobals f0 = some (some (.ref f))) (hkeep : keepIn g.K (.ref f) = true) (hkf : c.env.kindOf f0 = some .globalImplicit)
    (hbody : ∀ (c' : Fx) (L a : Addr), c'.Ok g k → c'.env = envOf qual scope L f cdv → Exs g c' { ρ := [(y1, .raw (.ref a)), (y2, b)], ω := [(y1, some xs)] } body (fun o σ' => o = .ret r ∧ look y1 σ'.ρ = some (.raw (.ref a)) ∧ σ'.ω = [(y1, some xs')]))
    (hdf : (f0 == ("__debug__" : Str)) = false := by decide) (hd : (x == ("__debug__" : Str)) = false := by decide)
    (hst : starEach [.Name x p1, e] c.env = (false, eval (.Name x p1) c.env) :: starEach [e] c.env := by rfl) (hst2 : starEach [e] c.env = (false, eval e c.env) :: starEach [] c.env := by rfl) (hany : ((backTo pos (starEach [e] c.env)).any fun x => x.1) = false := by rfl)
    (hev : eval (.Call (.Name f0 p0) [.Name x p1, e] [] pos) c.env = (do callWith pos (← eval (.Name f0 p0) c.env) [] (backTo pos (starEach [.Name x p1, e] c.env)) (backToKw pos (keywordEach [] c.env))) := by rfl) :
    EvC g c σ (.Call (.Name f0 p0) [.Name x p1, e] [] pos) r { σ with ω := pre ++ (x, some xs') :: post } := by
  intro s vm mine rest fz S Q E hQ
  refine Call_ (Ev_glob (pos := p0) ok hx hkf hdf s vm mine rest fz S _ _ fun v h' tk' fz' S' hs hv => ?_) hev
  rw [Rep.raw_iff] at hv; subst hv
  obtain ⟨mpre, a, n, us, mpost, rfl, hvm, _, _, _, _⟩ := S'.held hω
  refine callWith_K (h₀ := c.h₀) ok.inK hkeep (args_cons (wpAny_Name (load_var ok (s := { s with heap := h', toks := tk' }) S' hr hvm ?_) hd) hst) hst hany
  refine args_cons (he _ vm _ rest fz' S' _ _ fun v h₂ tk₂ fz₂ S₂ hs₂ hv => args_nil ⟨?_, ?_⟩) hst2
  · obtain ⟨m, F, _⟩ := S₂.fr
    exact ok.inK.keeps F.keep
  rw [List.nil_append]
  obtain ⟨mpre', a', n', us', mpost', hm', hvm', hre, ho1, ho3, hg⟩ := S₂.held hω
  obtain rfl : a' = a := by rw [hvm] at hvm'; cases hvm'; rfl
  rw [hm'] at S₂
  clear hm' S' S
  obtain ⟨m, F, em⟩ := S₂.fr
  have hnd := S₂.nd
  rw [List.map_append, List.map_cons] at hnd
  have hnd' := List.nodup_append.mp hnd
  have hpre : ∀ p ∈ mpre', p.1 ≠ a' := fun p hp => hnd'.2.2 _ (List.mem_map_of_mem hp) _ (.head _)
  have hpost : ∀ p ∈ mpost', p.1 ≠ a' := fun p hp e => (List.nodup_cons.mp hnd'.2.1).1 (e ▸ List.mem_map_of_mem (f := (·.1)) hp)
  have hin : (a', listOf us'.toArray n') ∈ mpre' ++ (a', listOf us'.toArray n') :: mpost' := List.mem_append_right _ (.head _)
  have hdep := ok.depth
  have hun := ok.units
  refine wpAny_call ?_
  refine code_def (news := (mpre' ++ (a', listOf us'.toArray n') :: mpost') ++ rest ++ fz₂) (binds := [(y1, .ref a'), (y2, v)]) ok.below F ok.inK S₂.news ok.top ok.frames ok.frame ok.kind ho hcd (by omega) (BindsTo.of_eq (hb _ _)) ?_ ?_ hco hgen hk hcell
  · intro y hy
    rcases List.mem_cons.mp hy with rfl | hy
    · exact hl1
    · rw [List.mem_singleton.mp hy]; exact hl2
  intro g' L' h₁ FG F' N' B' X' T'
  let c' : Fx := { A := c.A.deeper (envOf qual scope L' f cdv), env := envOf qual scope L' f cdv, h₀ := g', A₀ := c.A, base := c.base, outer := c.env :: c.outer }
  have ok' : c'.Ok g k :=
    { below := B', frames := by show (c.A.deeper _).frames = _; rw [Around.deeper, ok.frames]; rfl
      handled := ok.handled, frame := rfl, kind := hk, globals := rfl, builtins := rfl, inK := X', inB := ok.inB, top := T'
      depth := by show c.A.depth + 1 + k < _; omega
      units := by show c.A.units + 3 + 10 * k + 20 < _; omega }
  have hy2 : (y2 == y1) = false := by simpa using Ne.symm hne
  have hy1 : (y1 == y2) = false := by simpa using hne
  have e1 : ([(y1, Value.ref a'), (y2, v)] : List (Str × Value)).reverse.lookup y1 = some (.ref a') := by simp [List.lookup_cons, hy1]
  have e2 : ([(y1, Value.ref a'), (y2, v)] : List (Str × Value)).reverse.lookup y2 = some v := by simp [List.lookup_cons]
  have S' : Sta c' { ρ := [(y1, .raw (.ref a')), (y2, b)], ω := [(y1, some xs)] } h₁ (fun y => ([(y1, Value.ref a'), (y2, v)] : List (Str × Value)).reverse.lookup y) [(a', listOf us'.toArray n')] ((mpre' ++ mpost') ++ rest) fz₂ :=
    { fr := ⟨_, F', fun _ _ => rfl⟩
      news := fun p hp => N' p (by
        simp only [List.mem_append, List.mem_cons, List.not_mem_nil, or_false] at hp ⊢
        rcases hp with (rfl | ((q | q) | q)) | q
        · exact .inl (.inl (.inr (.inl rfl)))
        · exact .inl (.inl (.inl q))
        · exact .inl (.inl (.inr (.inr q)))
        · exact .inl (.inr q)
        · exact .inr q)
      dis := fun p hp => S₂.dis p (by
        simp only [List.mem_append, List.mem_cons, List.not_mem_nil, or_false] at hp ⊢
        rcases hp with rfl | ((q | q) | q)
        · exact .inl (.inr (.inl rfl))
        · exact .inl (.inl q)
        · exact .inl (.inr (.inr q))
        · exact .inr q)
      dmr := fun p hp q hq => by
        rw [List.mem_singleton.mp hp]
        simp only [List.mem_append] at hq
        rcases hq with (q' | q') | q'
        · exact fun e => hpre q q' e.symm
        · exact fun e => hpost q q' e.symm
        · exact S₂.dmr _ hin q q'
      nd := by simp
      rho := fun y z hz => by
        simp only [look] at hz
        by_cases q1 : y1 = y
        · rw [if_pos q1] at hz; cases hz; subst q1
          exact ⟨_, e1, Rep.raw_iff.mpr rfl⟩
        · rw [if_neg q1] at hz
          by_cases q2 : y2 = y
          · rw [if_pos q2] at hz; cases hz; subst q2
            exact ⟨_, e2, hv⟩
          · rw [if_neg q2] at hz; cases hz
      own := by
        simp only [OwnR]
        exact ⟨⟨us', ⟨n', rfl⟩, hre, e1⟩, trivial⟩ }
  refine hbody c' L' a' ok' rfl { s with heap := h₁, toks := tk₂ + 2 } _ _ _ _ S' _ _ ?_
  rintro o σ'' fl h₃ tk₃ vm₃ mine₃ fz₃ ⟨rfl, hlk, hω₃⟩ S₃ hs₃ hfl
  cases fl <;> first | exact hfl.elim | skip
  rename_i u
  obtain ⟨z, hz1, hz2⟩ := S₃.rho _ _ hlk
  rw [Rep.raw_iff] at hz2; subst hz2
  have ow₃ := S₃.own
  rw [hω₃] at ow₃
  obtain ⟨ao, rfl⟩ : ∃ p, mine₃ = [p] := by
    match mine₃, ow₃ with
    | [], h => simp [OwnR] at h
    | [p], _ => exact ⟨p, rfl⟩
    | (a, o) :: q :: r, h => simp [OwnR] at h
  obtain ⟨a₃, o₃⟩ := ao
  simp only [OwnR] at ow₃
  obtain ⟨⟨ws, hlo, hrs, hva⟩, _⟩ := ow₃
  obtain rfl : a₃ = a' := by rw [hz1] at hva; cases hva; rfl
  obtain ⟨m₃, F₃, _⟩ := S₃.fr
  have mem3 : ∀ p ∈ (mpre' ++ (a₃, o₃) :: mpost') ++ rest ++ fz₃, p ∈ [(a₃, o₃)] ++ ((mpre' ++ mpost') ++ rest) ++ fz₃ := fun p hp => by
    simp only [List.mem_append, List.mem_cons, List.not_mem_nil, or_false] at hp ⊢
    rcases hp with ((q | (rfl | q)) | q) | q
    · exact .inl (.inr (.inl (.inl q)))
    · exact .inl (.inl rfl)
    · exact .inl (.inr (.inl (.inr q)))
    · exact .inl (.inr (.inr q))
    · exact .inr q
  refine leaveK_ (news' := (mpre' ++ (a₃, o₃) :: mpost') ++ rest ++ fz₃) F₃ (fun p hp => S₃.news p (mem3 p hp)) fun Fb Nb => ?_
  have hs₄ : ∀ p ∈ fz₂, p ∈ fz₃ := hs₃
  refine hQ u h₃ tk₃ (mpre' ++ (a₃, o₃) :: mpost') fz₃ ?_ (fun p q => hs₄ p (hs₂ p (hs p q))) hfl
  have hadr : ∀ p ∈ mpre' ++ (a₃, o₃) :: mpost', ∃ q ∈ mpre' ++ (a₃, listOf us'.toArray n') :: mpost', q.1 = p.1 := fun p hp => by
    rcases List.mem_append.mp hp with q | q
    · exact ⟨p, List.mem_append_left _ q, rfl⟩
    · rcases List.mem_cons.mp q with rfl | q
      · exact ⟨_, hin, rfl⟩
      · exact ⟨p, List.mem_append_right _ (.tail _ q), rfl⟩
  refine ⟨⟨m, Fb, em⟩, Nb, fun p hp => ?_, fun p hp => ?_, ?_, fun y z hz => ?_, ?_⟩
  · exact S₃.dis p (by
      simp only [List.mem_append, List.mem_cons, List.not_mem_nil, or_false] at hp ⊢
      rcases hp with (q | (rfl | q)) | q
      · exact .inr (.inl (.inl q))
      · exact .inl rfl
      · exact .inr (.inl (.inr q))
      · exact .inr (.inr q))
  · obtain ⟨q, hq, e⟩ := hadr p hp
    rw [← e]; exact S₂.dmr q hq
  · have : (mpre' ++ (a₃, o₃) :: mpost').map (·.1) = (mpre' ++ (a₃, listOf us'.toArray n') :: mpost').map (·.1) := by simp
    rw [this]; exact S₂.nd
  · obtain ⟨u, hu, hr'⟩ := S₂.rho y z hz
    exact ⟨u, hu, hr'.mono hs₄⟩
  · refine OwnR.join (e := (x, some xs')) ?_ (ho3.mono hs₄) (ho1.mono hs₄)
    simp only [OwnR]
    exact ⟨⟨ws, hlo, hrs, hvm⟩, trivial⟩
end
end
section
section
variable {g : Gl} {c : Fx} {σ σ' : St} {h h' : Heap} {vm vm' : Str → Option Value} {mine rest fz : Led}

theorem EvC.of_ev {e : Expr} {a : AV} (he : Ev g c σ e a) : EvC g c σ e a σ := by
  intro s vm mine rest fz S Q E hQ
  exact he s vm mine rest fz S _ _ fun v h' tk' fz' S' hs hv => hQ v h' tk' mine fz' S' hs hv
theorem EvC_bin {l r : Expr} {op : Operator} {pos : Pos} {a b z : AV} (h1 : Ev g c σ l a) (h2 : EvC g c σ r b σ') (h3 : Op2 g c (binaryOp op) a b z) : EvC g c σ (.BinOp l op r pos) z σ' := by
  intro s vm mine rest fz S Q E hQ
  refine wpAny_BinOp (h1 s vm mine rest fz S _ _ fun x h' tk' fz' S' hs hx => ?_)
  refine h2 _ vm mine rest fz' S' _ _ fun y h'' tk'' mine'' fz'' S'' hs' hy => ?_
  refine h3 _ fz'' (fun p hp => S''.get hp) _ _ (hx.mono hs') hy _ _ fun v h₃ tk₃ k hv => ?_
  exact hQ v h₃ tk₃ mine'' fz'' (S''.keeps k) (fun p hp => hs' p (hs p hp)) hv

theorem Ex_assignC {k : Nat} {x : Str} {p' pos : Pos} {e : Expr} {a : AV} {P : Out → St → Prop} (ok : c.Ok g k) (he : EvC g c σ e a σ') (hx : CanSt c x σ'.ω)
    (hp : P .next { σ' with ρ := (x, a) :: σ'.ρ }) (hsw : swapsWith e (some (.Name x p')) pos.line c.env = pure false := by rfl) : Ex g c σ (.Assign [.Name x p'] e pos) P := by
  intro s vm mine rest fz S Q E hQ
  refine wpAny_Assign_Name (he s vm mine rest fz S _ _ fun v h' tk' mine' fz' S' hs hv => ?_) hsw
  exact store_val ok (s := { s with heap := h', toks := tk' }) S' hx hv fun h'' tk'' vm'' mine'' S'' => hQ .next _ .next h'' tk'' vm'' mine'' fz' hp S'' hs trivial
theorem Ex_assignV {k : Nat} {x : Str} {p' pos : Pos} {e : Expr} {a : AV} {P : Out → St → Prop} (ok : c.Ok g k) (he : Ev g c σ e a) (hx : CanSt c x σ.ω)
    (hp : P .next { σ with ρ := (x, a) :: σ.ρ }) (hsw : swapsWith e (some (.Name x p')) pos.line c.env = pure false := by rfl) : Ex g c σ (.Assign [.Name x p'] e pos) P :=
  Ex_assignC ok (.of_ev he) hx hp hsw

def EvFC (g : Gl) (c : Fx) (σ : St) (e : Expr) (xs : List AV) (σ' : St) : Prop :=
  ∀ (s : Shared) vm mine rest fz, Sta c σ s.heap vm mine rest fz → ∀ (Q E : Value → Shared → Prop),
    (∀ r o h' tk' mine' fz', Fresh c σ' h' vm mine' rest fz' r o xs → (∀ p ∈ fz, p ∈ fz') → Q (.ref r) { s with heap := h', toks := tk' }) →
    wpAny (model g.prog g.w) c.A (eval e c.env) Q E s
/-- [e] -/
theorem EvFC_list1 {e : Expr} {pos : Pos} {a : AV} (he : EvC g c σ e a σ') (hst : starEach [e] c.env = (false, eval e c.env) :: starEach [] c.env := by rfl) : EvFC g c σ (.List [e] pos) [a] σ' := by
  intro s vm mine rest fz S Q E hQ
  refine List_ (args_cons (he s vm mine rest fz S _ _ fun v h' tk' mine' fz' S' hs hv => args_nil ?_) hst)
  refine wpAny_newObj_type ?_ (by show (#[v]).size ≤ sizeLine; simp [line16])
  have hg : (h'.push { cls := .type "list", data := .seq [v].toArray }).get? h'.objs.size = some { cls := .type "list", data := .seq #[v] 0 } := Heap.get?_push_size _ rfl
  exact hQ _ _ _ tk' mine' fz' (S'.fresh (Kp.push _ _) (none_at_size _) hg ⟨0, rfl⟩ (Reps.one hv)) hs

def EvLC (g : Gl) (c : Fx) (σ : St) (es : List Expr) (is : List Item) (σ' : St) : Prop :=
  ∀ (pos : Pos) (s : Shared) vm mine rest fz, Sta c σ s.heap vm mine rest fz → ∀ (Q : List Value → Shared → Prop) (E : Value → Shared → Prop),
    (∀ vs pend h' tk' mine' fz', Sta c σ' h' vm mine' (pend ++ rest) fz' → (∀ p ∈ fz, p ∈ fz') → ItemsR fz' is vs pend → (pend.map (·.1)).Nodup → (∀ p ∈ pend, ∀ q ∈ rest, p.1 ≠ q.1) → Q vs { s with heap := h', toks := tk' }) →
    wpAny (model g.prog g.w) c.A (spliced (backTo pos (starEach es c.env))) Q E s
theorem EvLC.of {es : List Expr} {is : List Item} (hl : EvL g c σ es is) : EvLC g c σ es is σ := by
  intro pos s vm mine rest fz S Q E hQ
  exact hl pos s vm mine rest fz S _ _ fun vs pend h' tk' fz' S' hs hi hn hp => hQ vs pend h' tk' mine fz' S' hs hi hn hp
theorem EvLC_val {σ'' : St} {e : Expr} {es : List Expr} {a : AV} {is : List Item} (he : EvC g c σ e a σ') (hl : EvLC g c σ' es is σ'') (hst : starEach (e :: es) c.env = (false, eval e c.env) :: starEach es c.env := by rfl) : EvLC g c σ (e :: es) (.val a :: is) σ'' := by
  intro pos s vm mine rest fz S Q E hQ
  refine args_cons (he s vm mine rest fz S _ _ fun v h' tk' mine' fz' S' hs hv => ?_) hst
  refine hl pos _ vm mine' rest fz' S' _ _ fun vs pend h'' tk'' mine'' fz'' S'' hs' hi hn hp => ?_
  refine hQ (v :: vs) pend h'' tk'' mine'' fz'' S'' (fun p q => hs' p (hs p q)) ?_ hn hp
  simp only [ItemsR]
  exact ⟨v, vs, rfl, hv.mono hs', hi⟩
theorem EvLC_own {σ'' : St} {e : Expr} {es : List Expr} {xs : List AV} {is : List Item} (he : EvFC g c σ e xs σ') (hl : EvLC g c σ' es is σ'') (hst : starEach (e :: es) c.env = (false, eval e c.env) :: starEach es c.env := by rfl) : EvLC g c σ (e :: es) (.own xs :: is) σ'' := by
  intro pos s vm mine rest fz S Q E hQ
  refine args_cons (he s vm mine rest fz S _ _ fun r o h' tk' mine' fz' F hs => ?_) hst
  refine hl pos _ vm mine' ((r, o) :: rest) fz' F.pend _ _ fun vs pend h'' tk'' mine'' fz'' S'' hs' hi hn hp => ?_
  obtain ⟨us, h1, h2⟩ := F.vals
  refine hQ (.ref r :: vs) ((r, o) :: pend) h'' tk'' mine'' fz'' (S''.sub fun p hp => ?_) (fun p q => hs' p (hs p q)) ?_ ?_ ?_
  · rcases List.mem_cons.mp hp with rfl | hp
    · exact List.mem_append_right _ (.head _)
    · rcases List.mem_append.mp hp with q | q
      · exact List.mem_append_left _ q
      · exact List.mem_append_right _ (.tail _ q)
  · simp only [ItemsR]
    exact ⟨r, o, us, vs, pend, rfl, rfl, h1, Reps.mono hs' xs h2, hi⟩
  · refine List.nodup_cons.mpr ⟨fun hm => ?_, hn⟩
    obtain ⟨p, hp', e⟩ := List.mem_map.mp hm
    exact hp p hp' (r, o) (.head _) e
  · intro p hp' q hq
    rcases List.mem_cons.mp hp' with rfl | hp'
    · exact fun e => F.off q (List.mem_append_left _ (List.mem_append_right _ hq)) e.symm
    · exact hp p hp' q (.tail _ hq)

/-- a, b = x, y : the stores from behind -/
theorem Ex_tup_swapC {k kk kk' : Nat} {elts es : List Expr} {tp vp pos : Pos} {l : List (Str × Item)} {is : List Item} {P : Out → St → Prop} (ok : c.Ok g k) (he : EvLC g c σ es is σ') (hc : CanAll c σ' l) (hsz : es.length ≤ 8)
    (hp : P .next (storeAll σ' l)) (hw : swappedStores [.Tuple elts kk tp] (.Tuple es kk' vp) c.env = pure (some (l.map (·.1)).reverse) := by rfl)
    (hs : swapsWithSole [.Tuple elts kk tp] (.Tuple es kk' vp) pos.line c.env = pure false := by rfl) (hlen : l.length = es.length := by rfl) (hl : is = (l.map (·.2)).reverse := by rfl) : Ex g c σ (.Assign [.Tuple elts kk tp] (.Tuple es kk' vp) pos) P := by
  subst hl
  intro s vm mine rest fz S Q E hQ
  refine Assign_Tuple_swapped (names := (l.map (·.1)).reverse) (Tuple_ (he vp s vm mine rest fz S _ _ fun vs pend h' tk' mine' fz' S' hs' hi hn ho => ?_)) hs hw
  have hlv : vs.length = l.length := by rw [hi.length]; simp
  refine wpAny_newObj_type ?_ (by
    have e1 : vs.toArray.size = es.length := by simp [hlv, hlen]
    show vs.toArray.size ≤ sizeLine
    rw [e1]; exact Nat.le_trans hsz (by decide))
  have hnl : (l.map (·.1)).reverse.length = vs.toArray.size := by simp [hlv]
  rw [hnl]
  refine wpAny_unpackItems_tuple ok.handled ⟨_, Heap.get?_push_size _ rfl, rfl, _, rfl⟩ fun h'' he' => ?_
  rw [List.reverse_reverse]
  have kp : Kp h' h'' := fun b o e => by
    refine he' b o ?_ (Heap.get?_push_of_some _ e)
    have h1 := Heap.lt_size e
    show b ≠ (h'.push _).objs.size
    rw [Heap.size_push]
    exact Nat.ne_of_lt (Nat.lt_succ_of_lt h1)
  have S'' := S'.keeps kp
  have hi' : ItemsR fz' (l.map (·.2)) vs.reverse pend.reverse := by have := hi.reverse; rwa [List.reverse_reverse] at this
  refine stores ok (fun x v => bindName c.env x v) (fun x v s Q E h => wpAny_bindName h) l (pend := pend.reverse) (rest := rest) (s := { s with heap := h'', toks := tk' }) hi' hc (S''.sub fun p hp => ?_) ?_ ?_ ?_
  · rcases List.mem_append.mp hp with q | q
    · exact List.mem_append_left _ (List.mem_reverse.mp q)
    · exact List.mem_append_right _ q
  · rw [List.map_reverse]; exact (List.reverse_perm _).nodup_iff.mpr hn
  · exact fun p hp => ho p (List.mem_reverse.mp hp)
  · exact fun h₃ tk₃ vm₃ mine₃ S₃ => hQ .next _ .next h₃ tk₃ vm₃ mine₃ fz' hp S₃ hs' trivial

/-! range(..) of what turns a held list -/
def EvRC (g : Gl) (c : Fx) (σ : St) (e : Expr) (a b d : Int) (σ' : St) : Prop :=
  ∀ (s : Shared) vm mine rest fz, Sta c σ s.heap vm mine rest fz → ∀ (Q E : Value → Shared → Prop),
    (∀ r t u v h' tk' mine' fz', Sta c σ' h' vm mine' rest fz' → (∀ p ∈ fz, p ∈ fz') → IsRange h' r a b d t u v → Q (.ref r) { s with heap := h', toks := tk' }) →
    wpAny (model g.prog g.w) c.A (eval e c.env) Q E s
theorem R_rangeC1 {k : Nat} {p0 pos : Pos} {e : Expr} {n : Int} (hK : g.Is) (ok : c.Ok g k) (he : EvC g c σ e (.int n) σ')
    (hk : c.env.kindOf "range" = some .globalImplicit)
    (hst : starEach [e] c.env = (false, eval e c.env) :: starEach [] c.env := by rfl) (hany : ((backTo pos (starEach [] c.env)).any fun x => x.1) = false := by rfl)
    (hev : eval (.Call (.Name "range" p0) [e] [] pos) c.env = (do callWith pos (← eval (.Name "range" p0) c.env) [] (backTo pos (starEach [e] c.env)) (backToKw pos (keywordEach [] c.env))) := by rfl) : EvRC g c σ (.Call (.Name "range" p0) [e] [] pos) 0 n 1 σ' := by
  intro s vm mine rest fz S Q E hQ
  refine Call_ (Ev_built (pos := p0) ok (show nsIn g.K mainGlobals "range" = some none by rw [hK]; exact rfl) (show bootBuiltins "range" = some (.type "range") from boot_range) (by decide) hk (by decide) s vm mine rest fz S _ _ fun v h' tk' fz' S' hs hv => ?_) hev
  rw [Rep.raw_iff] at hv; subst hv
  refine PyProof.Rows.callWith_type1 (args_cons (he _ vm mine rest fz' S' _ _ fun v h₂ tk₂ mine₂ fz₂ S₂ hs₂ hv => args_nil ?_) hst) hst hany
  refine rc1 (n := n) _ fz₂ [v] (Reps.one hv) _ _ fun t u v tk => ?_
  exact hQ _ t u v _ tk mine₂ fz₂ (S₂.keeps (Kp.push _ _)) (fun p hp => hs₂ p (hs p hp)) (IsRange.new ..)
theorem Ex_for_rangeC {k : Nat} {x : Str} {px pos : Pos} {iter : Expr} {body : List Stmt} {a b d : Int} {n : Nat} (J : Nat → St → Prop) {P : Out → St → Prop} (ok : c.Ok g k) (he : EvRC g c σ iter a b d σ') (hsm : Builtin.Range.small a b d = true) (hn : Builtin.Range.rangeSize a b d = (n : Int)) (hk : c.env.kindOf x = some .local)
    (hJ : J 0 σ')
    (turn : ∀ i σ, i < n → J i σ → ownsNot x σ.ω = true ∧ Exs g c { σ with ρ := (x, .int (a + (i : Int) * d)) :: σ.ρ } body (TurnP J i P))
    (done : ∀ σ, J n σ → P .next σ) (hs : ∀ x, foldedSetIterable iter c.env x = pure x := by intro _; rfl) : Ex g c σ (.For (.Name x px) iter body [] pos) P := by
  intro s vm mine rest fz S Q E hQ
  refine wpAny_For (he s vm mine rest fz S _ _ fun r t u v h' tk' mine' fz' S' hs' hr => ?_) hs
  refine wpAny_pyIter_range hr hsm ?_
  obtain ⟨a1, a2, a3⟩ := S'.atSize
  have W := Walks.range (prog := g.prog) (w := g.w) ok.handled h'.objs.size a d n
  refine for_walk ok W (fun i h e => ⟨_, e⟩) (fun i => .int (a + (i : Int) * d)) J hk turn done (s := { s with heap := h'.push _, toks := tk' }) (S'.keeps (Kp.push _ _)) ?_ ?_ hJ ?_ a1 a2 a3 fun o σ' fl h₂ tk₂ vm₂ mine₂ fz₂ hp S₂ hs₂ hr₂ => hQ o σ' fl h₂ tk₂ vm₂ mine₂ fz₂ hp S₂ (fun p q => hs₂ p (hs' p q)) hr₂
  · intro b hb
    exact .inl (List.mem_singleton.mp hb)
  · rintro i v hi ⟨t, rfl⟩
    exact Rep.int_iff.mpr ⟨t, rfl⟩
  · show IsRangeIter _ _ _ _ _
    rw [hn]
    simpa using Heap.get?_push_size _ rfl
end
end
section

/-! what is raised -/
abbrev fsOf (l : List Env) : List Addr := l.filterMap (·.frame)
/-- an exception on its way out of the frames l: the heap G is kept, but for the slots of the frames; the ledger is kept -/
def Fly (G : Heap) (l : List Env) (e : Addr) (C : Value) (led : Led) (h : Heap) : Prop :=
  (∃ B t, (∀ b o, G.get? b = some o → b ∉ fsOf l → B.get? b = some o) ∧ (∀ q ∈ led, B.get? q.1 = some q.2) ∧ Heap.FlyingW B l e C (.ref t) h) ∧ G.UpToSlots h
theorem Fly.less {G : Heap} {l : List Env} {e : Addr} {C : Value} {led led' : Led} {h : Heap} (Y : Fly G l e C led' h) (hl : ∀ q ∈ led, q ∈ led') : Fly G l e C led h := by
  obtain ⟨⟨B, t, h1, h2, h3⟩, h4⟩ := Y
  exact ⟨⟨B, t, h1, fun q hq => h2 q (hl q hq), h3⟩, h4⟩

section
variable {g : Gl} {c : Fx} {σ σ' : St} {k : Nat} {M : Model} {E : Value → Shared → Prop} {s' : Shared}

theorem fs_mem {l : List Env} {env : Env} {L b : Addr} (hf : env.frame = some L) (hm : b ∈ fsOf (env :: l)) : b = L ∨ b ∈ fsOf l := by
  obtain ⟨env', he, hf'⟩ := List.mem_filterMap.mp hm
  rcases List.mem_cons.mp he with rfl | he
  · rw [hf] at hf'; exact .inl (Option.some.inj hf').symm
  · exact .inr (List.mem_filterMap.mpr ⟨env', he, hf'⟩)
theorem fs_tail {l : List Env} {env : Env} {b : Addr} (hm : b ∈ fsOf l) : b ∈ fsOf (env :: l) := by
  obtain ⟨env', he, hf'⟩ := List.mem_filterMap.mp hm
  exact List.mem_filterMap.mpr ⟨env', .tail _ he, hf'⟩
theorem fs_head {l : List Env} {env : Env} {L : Addr} (hf : env.frame = some L) : L ∈ fsOf (env :: l) := List.mem_filterMap.mpr ⟨env, .head _, hf⟩
theorem fr_self {h₀ h : Heap} {L : Addr} {m : Str → Option Value} (F : Fr h₀ L h m) : h₀.get? L = none := Heap.get?_none_of_le F.above
theorem news_off (ok : c.Ok g k) {h : Heap} {led : Led} (N : News c.h₀ c.env.locals h led) {q : Addr × Obj} (hq : q ∈ led) : q.1 ∉ fsOf (c.env :: c.outer) := fun hm => by
  rcases fs_mem ok.frame hm with z | z
  · exact (N q hq).2.1 z
  · obtain ⟨_, o, ho, _⟩ := ok.below.frames.mem z
    rw [(N q hq).2.2] at ho; cases ho

theorem leave_made (ok : c.Ok g k) {hm : Heap} {m : Str → Option Value} {e : Addr} {C : Value} {vs : List Value} {led : Led} {Q : Unit → Shared → Prop} (F : Fr c.h₀ c.env.locals hm m) (N : News c.h₀ c.env.locals hm led) (hx : Heap.MadeExcOf hm s'.heap e C vs)
    (hQ : ∀ h', Fly c.h₀ c.outer e C led h' → Q () { s' with heap := h' }) : wpAny M c.A (leaving c.env (.ref e)) Q E s' := by
  have K' := pushX ok.below F ok.frame ok.kind
  have hin : ∀ env ∈ (c.env :: c.outer), ∀ a, env.frame = some a → a ∈ fsOf (c.env :: c.outer) := fun env he a hf => List.mem_filterMap.mpr ⟨env, he, hf⟩
  refine wpAny_leaves_madeW (base := hideAll hm (fsOf (c.env :: c.outer))) ok.frames ok.frame (fun b o q => of_hideAll _ q) (funFrames_hide K'.frames hin) hx fun h' t x1 x2 x3 x4 =>
    hQ h' ⟨⟨_, t, fun b o hb hn => hideAll_get _ (F.keep b o hb) fun hm' => ?_, fun q hq => hideAll_get _ (N q hq).1 (news_off ok N hq), x1⟩, ((Heap.UpToSlots.of_keeps F.keep).trans (Heap.UpToSlots.of_keeps hx.keeps)).trans x4⟩
  rcases fs_mem ok.frame hm' with z | z
  · rw [z, fr_self F] at hb; cases hb
  · exact hn z

theorem leave_fly (ok : c.Ok g k) {G : Heap} {m : Str → Option Value} {e : Addr} {C : Value} {led : Led} {Q : Unit → Shared → Prop} (F : Fr c.h₀ c.env.locals G m) (Y : Fly G (c.env :: c.outer) e C led s'.heap)
    (hQ : ∀ h', Fly c.h₀ c.outer e C led h' → Q () { s' with heap := h' }) : wpAny M c.A (leaving c.env (.ref e)) Q E s' := by
  obtain ⟨⟨B, t, h1, h2, h3⟩, h4⟩ := Y
  refine wpAny_leaves_onW ok.frames ok.frame h3 fun h' x1 x2 => hQ h' ⟨⟨B, t, fun b o hb hn => h1 b o (F.keep b o hb) fun hm => ?_, h2, x1⟩, ((Heap.UpToSlots.of_keeps F.keep).trans h4).trans x2⟩
  rcases fs_mem ok.frame hm with z | z
  · rw [z, fr_self F] at hb; cases hb
  · exact hn z

/-- an exception of the class C, raised in the frame or come into it -/
def Bad (c : Fx) (led : Led) (e : Addr) (C : Value) (h' : Heap) : Prop :=
  (∃ hm m vs, Fr c.h₀ c.env.locals hm m ∧ News c.h₀ c.env.locals hm led ∧ Heap.MadeExcOf hm h' e C vs) ∨ (∃ G m, Fr c.h₀ c.env.locals G m ∧ Fly G (c.env :: c.outer) e C led h')
theorem Bad.less {led led' : Led} {e : Addr} {C : Value} {h' : Heap} (hb : Bad c led' e C h') (hl : ∀ q ∈ led, q ∈ led') : Bad c led e C h' := by
  rcases hb with ⟨hm, m, vs, F, N, hx⟩ | ⟨G, m, F, Y⟩
  · exact .inl ⟨hm, m, vs, F, fun p hp => N p (hl p hp), hx⟩
  · exact .inr ⟨G, m, F, Y.less hl⟩
theorem leave_bad (ok : c.Ok g k) {e : Addr} {C : Value} {led : Led} {Q : Unit → Shared → Prop} (hb : Bad c led e C s'.heap)
    (hQ : ∀ h', Fly c.h₀ c.outer e C led h' → Q () { s' with heap := h' }) : wpAny M c.A (leaving c.env (.ref e)) Q E s' := by
  rcases hb with ⟨hm, m, vs, F, N, hx⟩ | ⟨G, m, F, Y⟩
  · exact leave_made ok F N hx hQ
  · exact leave_fly ok F Y hQ

def TvX (g : Gl) (c : Fx) (σ : St) (t : Sem Value) (C : Value) : Prop :=
  ∀ (s : Shared) vm mine rest fz, Sta c σ s.heap vm mine rest fz → ∀ (Q E : Value → Shared → Prop),
    (∀ e h' tk', Bad c (mine ++ rest ++ fz) e C h' → E (.ref e) { s with heap := h', toks := tk' }) → wpAny (model g.prog g.w) c.A t Q E s
abbrev EvX (g : Gl) (c : Fx) (σ : St) (e : Expr) (C : Value) : Prop := TvX g c σ (eval e c.env) C
def WpX (g : Gl) (c : Fx) (σ : St) (t : Sem Flow) (C : Value) : Prop :=
  ∀ (s : Shared) vm mine rest fz, Sta c σ s.heap vm mine rest fz → ∀ (Q : Flow → Shared → Prop) (E : Value → Shared → Prop),
    (∀ e h' tk', Bad c (rest ++ fz) e C h' → E (.ref e) { s with heap := h', toks := tk' }) → wpAny (model g.prog g.w) c.A t Q E s
abbrev ExX (g : Gl) (c : Fx) (σ : St) (st : Stmt) (C : Value) : Prop := WpX g c σ (exec st c.env) C
abbrev ExsX (g : Gl) (c : Fx) (σ : St) (sts : List Stmt) (C : Value) : Prop := WpX g c σ (execs sts c.env) C

theorem ExsX_head {st : Stmt} {sts : List Stmt} {C : Value} (h : ExX g c σ st C) : ExsX g c σ (st :: sts) C := by
  intro s vm mine rest fz S Q E hE
  exact wpAny_execs_cons (h s vm mine rest fz S _ _ hE)
theorem ExsX_seq {st : Stmt} {sts : List Stmt} {C : Value} (σ' : St) (h1 : Ex g c σ st fun o σ'' => o = .next ∧ σ''.le σ') (h2 : ExsX g c σ' sts C) : ExsX g c σ (st :: sts) C := by
  intro s vm mine rest fz S Q E hE
  refine wpAny_execs_cons (h1 s vm mine rest fz S _ _ ?_)
  rintro o σ'' fl h' tk' vm' mine' fz' ⟨rfl, hle⟩ S' hs hr
  cases fl <;> first | exact hr.elim | skip
  exact h2 _ vm' mine' rest fz' (S'.le hle) _ _ fun e h'' tk'' hb => hE e h'' tk'' (hb.less fun q hq => by
    rcases List.mem_append.mp hq with z | z
    · exact List.mem_append_left _ z
    · exact List.mem_append_right _ (hs q z))
theorem ExX_ifT {t : Expr} {b o : List Stmt} {pos : Pos} {C : Value} (ht : EvB g c σ t true) (h1 : ExsX g c σ b C) : ExX g c σ (.If t b o pos) C := by
  intro s vm mine rest fz S Q E hE
  refine wpAny_If (ht s vm mine rest fz S _ _ fun h' tk' fz' S' hs => ?_)
  rw [if_pos rfl]
  exact h1 _ vm mine rest fz' S' _ _ fun e h'' tk'' hb => hE e h'' tk'' (hb.less fun q hq => by
    rcases List.mem_append.mp hq with z | z
    · exact List.mem_append_left _ z
    · exact List.mem_append_right _ (hs q z))
theorem ExX_return {e : Expr} {pos : Pos} {C : Value} (he : EvX g c σ e C) : ExX g c σ (.Return (some e) pos) C := by
  intro s vm mine rest fz S Q E hE
  exact wpAny_Return_some (he s vm mine rest fz S _ _ fun e h' tk' hb => hE e h' tk' (hb.less fun q hq => by
    rcases List.mem_append.mp hq with z | z
    · exact List.mem_append_left _ (List.mem_append_right _ z)
    · exact List.mem_append_right _ z))

/-- raise X("..") -/
theorem ExX_raise {name : Str} {scope : Scope} {L a C : Addr} {cd : Value} {x msg : Str} {kk : Nat} {p0 p1 cpos pos : Pos} (ok : c.Ok g k) (he : c.env = envOf name scope L a cd) (hx : nsIn g.K mainGlobals x = some (some (.ref C))) (hq : excIn g.K C [.type "Exception", .type "BaseException", .type "object"] "Exception.__new__" = true)
    (hk : scope.kind = .function) (hkx : (envOf name scope L a cd).kindOf x = some .globalImplicit) (hd : (x == ("__debug__" : Str)) = false := by decide) :
    ExX g c σ (.Raise (some (.Call (.Name x p0) [.Constant (.str msg) kk p1] [] cpos)) none pos) (.ref C) := by
  intro s vm mine rest fz S Q E hE
  obtain ⟨m, F, em⟩ := S.fr
  have hL : c.env.locals = L := by rw [he]; rfl
  have F' : Fr c.h₀ L s.heap m := hL ▸ F
  rw [he]
  refine Raise_own F' ok.top.g (own_of_in ok.inK (topRead_of ok.top) hx hq) PySem.F.excBase_Exception ok.handled ?_ rfl rfl hk hkx hd
  refine args_cons (wpAny_Constant_str (args_nil ⟨by show 1 ≤ sizeLine; simp [line16], F.keep, fun h' e hm => ?_⟩)) rfl
  exact hE e h' (s.toks + 1) (.inl ⟨s.heap, m, _, F, fun p hp => S.news p (by
    rcases List.mem_append.mp hp with q | q
    · exact List.mem_append_left _ (List.mem_append_right _ q)
    · exact List.mem_append_right _ q), hm⟩)

/-- the contract of a def that raises -/
def FnR (g : Gl) (f : Addr) (k : Nat) (args : List AV) (C : Value) : Prop :=
  ∀ (c : Fx), c.Ok g k → ∀ (σ : St) (s : Shared) vm mine rest fz, Sta c σ s.heap vm mine rest fz → ∀ vs, Reps fz args vs → ∀ (Q E : Value → Shared → Prop),
    (∀ G m e h' tk', Fr c.h₀ c.env.locals G m → (∀ x, c.env.kindOf x = some .local → m x = vm x) → Fly G (c.env :: c.outer) e C (mine ++ rest ++ fz) h' → E (.ref e) { s with heap := h', toks := tk' }) →
    wpAny (model g.prog g.w) c.A (call (.ref f) vs) Q E s
theorem FnR.more {f : Addr} {k k' : Nat} {args : List AV} {C : Value} (hf : FnR g f k args C) (h : k ≤ k') : FnR g f k' args C := fun c ok => hf c (ok.less h)

theorem EvX_call {x : Str} {p0 pos : Pos} {e : Expr} {es : List Expr} {f : Addr} {args : List AV} {C : Value} (ok : c.Ok g k) (hf : FnR g f k args C) (hx : nsIn g.K mainGlobals x = some (some (.ref f))) (hkeep : keepIn g.K (.ref f) = true)
    (he : EvV g c σ (e :: es) args) (hk : c.env.kindOf x = some .globalImplicit) (hd : (x == ("__debug__" : Str)) = false := by decide)
    (hst : starEach (e :: es) c.env = (false, eval e c.env) :: starEach es c.env := by rfl) (hany : ((backTo pos (starEach es c.env)).any fun x => x.1) = false := by rfl)
    (hev : eval (.Call (.Name x p0) (e :: es) [] pos) c.env = (do callWith pos (← eval (.Name x p0) c.env) [] (backTo pos (starEach (e :: es) c.env)) (backToKw pos (keywordEach [] c.env))) := by rfl) : EvX g c σ (.Call (.Name x p0) (e :: es) [] pos) C := by
  intro s vm mine rest fz S Q E hE
  refine Call_ (Ev_glob (pos := p0) ok hx hk hd s vm mine rest fz S _ _ fun v h' tk' fz' S' hs hv => ?_) hev
  rw [Rep.raw_iff] at hv; subst hv
  refine callWith_K (h₀ := c.h₀) ok.inK hkeep (he.use pos S' fun vs h₂ tk₂ fz₂ S₂ hs₂ hr => ⟨?_, ?_⟩) hst hany
  · obtain ⟨m, F, _⟩ := S₂.fr
    exact ok.inK.keeps F.keep
  · rw [List.nil_append]
    refine hf c ok σ _ vm mine rest fz₂ S₂ vs hr _ _ fun G m e h₃ tk₃ F _ Y => hE e h₃ tk₃ (.inr ⟨G, m, F, Y.less fun q hq => ?_⟩)
    rcases List.mem_append.mp hq with z | z
    · exact List.mem_append_left _ z
    · exact List.mem_append_right _ (hs₂ q (hs q z))
end

theorem fnR_of {g : Gl} {k : Nat} {f : Addr} {name qual : Str} {params : Arguments} {body : List Stmt} {scope : Scope} {dV kV doc pm cdv ct oc : Value} {an od : Option Addr} {osl : Array (Option Value)} {args : List AV} {C : Value} (ns : List Str)
    (ho : g.K.lookup f = some ⟨oc, od, .func (fnOf name qual params body scope dV kV doc pm an cdv ct), osl⟩) (hcd : codeIn g.K cdv qual = true)
    (hb : ∀ vs : List Value, vs.length = ns.length → bindArgs (fnOf name qual params body scope dV kV doc pm an cdv ct) ⟨vs, []⟩ = pure (ns.zip vs))
    (hn : args.length = ns.length) (hnd : ns.Nodup) (hloc : ∀ y ∈ ns, scope.names.lookup y = some .local)
    (hco : scope.isCoroutine = false) (hgen : scope.isGenerator = false) (hk : scope.kind = .function) (hcell : ∀ x ∈ scope.names, x.2 ≠ .cell)
    (hbody : ∀ (c : Fx) (L : Addr), c.Ok g k → c.env = envOf qual scope L f cdv → ExsX g c { ρ := ns.zip args, ω := [] } body C) : FnR g f (k + 1) args C := by
  intro c ok σ s vm mine rest fz S vs hr Q E hE
  obtain ⟨m, F, em⟩ := S.fr
  have hvl : vs.length = ns.length := by rw [hr.length, hn]
  have hkeys : (ns.zip vs).map (·.1) = ns := by
    rw [List.map_fst_zip]; omega
  have hdep := ok.depth
  have hun := ok.units
  refine wpAny_call ?_
  refine code_def (news := mine ++ rest ++ fz) (binds := ns.zip vs) ok.below F ok.inK S.news ok.top ok.frames ok.frame ok.kind ho hcd (by omega) (BindsTo.of_eq (hb vs hvl)) (fun y hy => hloc _ (by rw [← hkeys]; exact List.mem_map_of_mem hy)) ?_ hco hgen hk hcell
  intro g' L' h₁ FG F' N' B' X' T'
  let c' : Fx := { A := c.A.deeper (envOf qual scope L' f cdv), env := envOf qual scope L' f cdv, h₀ := g', A₀ := c.A, base := c.base, outer := c.env :: c.outer }
  have ok' : c'.Ok g k :=
    { below := B', frames := by show (c.A.deeper _).frames = _; rw [Around.deeper, ok.frames]; rfl
      handled := ok.handled, frame := rfl, kind := hk, globals := rfl, builtins := rfl, inK := X', inB := ok.inB, top := T'
      depth := by show c.A.depth + 1 + k < _; omega
      units := by show c.A.units + 3 + 10 * k + 20 < _; omega }
  have S' : Sta c' { ρ := ns.zip args, ω := [] } h₁ (fun y => (ns.zip vs).reverse.lookup y) [] (mine ++ rest) fz :=
    { fr := ⟨_, F', fun _ _ => rfl⟩, news := N', dis := S.dis, dmr := fun _ h => (by cases h), nd := .nil
      rho := fun x a hx => by
        obtain ⟨v, h1, h2⟩ := rho_of_args hr hx
        exact ⟨v, by rw [lookup_reverse (by rw [hkeys]; exact hnd)]; exact h1, h2⟩
      own := trivial }
  refine hbody c' L' ok' rfl { s with heap := h₁, toks := s.toks + (ns.zip vs).length } _ _ _ _ S' _ _ fun e h₂ tk₂ hb => ?_
  exact leave_bad (s' := { s with heap := h₂, toks := tk₂ }) ok' hb fun h₃ Y => hE g' m e h₃ tk₂ FG em Y
end
section

/-- calling f raises C, in every frame from which the ledger is seen -/
def Task (g : Gl) (k : Nat) (f : Addr) (C : Value) (led : Led) : Prop :=
  ∀ (c : Fx), c.Ok g k → ∀ (s : Shared) (m : Str → Option Value), Fr c.h₀ c.env.locals s.heap m → News c.h₀ c.env.locals s.heap led → ∀ (Q E : Value → Shared → Prop),
    (∀ G e h' tk', Fr c.h₀ c.env.locals G m → Fly G (c.env :: c.outer) e C led h' → E (.ref e) { s with heap := h', toks := tk' }) → wpAny (model g.prog g.w) c.A (call (.ref f) []) Q E s

section
variable {g : Gl} {c : Fx} {σ : St} {k : Nat} {h : Heap} {vm : Str → Option Value} {mine rest fz : Led}

theorem OwnR.pick {cells : List (Str × Addr)} (keep : Str × Option (List AV) → Bool) : ∀ {ω : List (Str × Option (List AV))} {mine : Led}, OwnR cells vm fz mine ω → ∃ own others, OwnR cells vm fz own (ω.filter keep) ∧ mine.Perm (own ++ others)
  | [], [], _ => ⟨[], [], trivial, .refl _⟩
  | (x, some xs) :: q, (a, o) :: r, h => by
    simp only [OwnR] at h
    obtain ⟨own, others, h1, h2⟩ := OwnR.pick keep h.2
    by_cases hk : keep (x, some xs) = true
    · refine ⟨(a, o) :: own, others, ?_, h2.cons _⟩
      rw [List.filter_cons_of_pos hk]
      simp only [OwnR]
      exact ⟨h.1, h1⟩
    · refine ⟨own, (a, o) :: others, ?_, (h2.cons _).trans List.perm_middle.symm⟩
      rw [List.filter_cons_of_neg hk]
      exact h1
  | (x, none) :: q, (a, o) :: r, h => by
    simp only [OwnR] at h
    obtain ⟨own, others, h1, h2⟩ := OwnR.pick keep h.2
    by_cases hk : keep (x, none) = true
    · refine ⟨(a, o) :: own, others, ?_, h2.cons _⟩
      rw [List.filter_cons_of_pos hk]
      simp only [OwnR]
      exact ⟨h.1, h1⟩
    · refine ⟨own, (a, o) :: others, ?_, (h2.cons _).trans List.perm_middle.symm⟩
      rw [List.filter_cons_of_neg hk]
      exact h1
  | [], _ :: _, h => by simp [OwnR] at h
  | (_, s) :: _, [], h => by cases s <;> simp [OwnR] at h
theorem OwnR.recell {cells cl : List (Str × Addr)} : ∀ {ω : List (Str × Option (List AV))} {mine : Led}, OwnR cells vm fz mine ω → (∀ x, (x, none) ∈ ω → cl.lookup x = cells.lookup x) → OwnR cl vm fz mine ω
  | [], [], _, _ => trivial
  | (x, some xs) :: q, (a, o) :: r, h, e => by
    simp only [OwnR] at h ⊢
    exact ⟨h.1, h.2.recell fun y hy => e y (.tail _ hy)⟩
  | (x, none) :: q, (a, o) :: r, h, e => by
    simp only [OwnR] at h ⊢
    refine ⟨?_, h.2.recell fun y hy => e y (.tail _ hy)⟩
    have h1 := h.1
    unfold CellR at h1 ⊢
    rw [e x (.head _)]
    exact h1
  | [], _ :: _, h, _ => by simp [OwnR] at h
  | (_, s) :: _, [], h, _ => by cases s <;> simp [OwnR] at h

/-- a free name -/
theorem Ev_free {x : Str} {pos : Pos} {a : AV} (ok : c.Ok g k) (ha : look x σ.ρ = some a) (hk : c.env.kindOf x = some .free) (hm : (x, none) ∈ σ.ω) (hq : tabQ x = none) (hd : (x == ("__debug__" : Str)) = false := by decide) (hn : (x == ("__classdict__" : Str)) = false := by decide) : Ev g c σ (.Name x pos) a := by
  intro s vm mine rest fz S Q E hQ
  obtain ⟨v, hv, hrep⟩ := S.rho x a ha
  obtain ⟨b, o, hm', hcr⟩ := S.own.cell hm
  obtain ⟨hdat, hc⟩ := (CellR.cell hq).mp hcr
  exact wpAny_Name (wpAny_loadName_free ok.kind hk hc ⟨o, S.getMine hm', by rw [hdat, hv]⟩ (hQ v s.heap s.toks fz S (fun _ h => h) hrep) hn) hd

theorem task_of {f c' : Addr} {q : Str} {params : Arguments} {body : Expr} {scope : Scope} {cl : List (Str × Addr)} {pm ctv : Value} {C : Value} {oc : Obj} {us : Array Value} {t : Tok} (keep : Str × Option (List AV) → Bool)
    (S : Sta c σ h vm mine rest fz)
    (hf : (f, kla_obj "<lambda>" q params body scope cl pm c' ctv) ∈ mine ++ rest ++ fz) (hc : (c', oc) ∈ mine ++ rest ++ fz) (hdat : oc.data = .fields us) (hq : us[1]? = some (.str q t))
    (hcl : ∀ x, (x, none) ∈ σ.ω.filter keep → cl.lookup x = c.env.cells.lookup x)
    (hbind : bindArgs (kla_fn "<lambda>" q params body scope cl pm (.ref c') ctv) ⟨[], []⟩ = pure [])
    (hco : scope.isCoroutine = false) (hgen : scope.isGenerator = false) (hk : scope.kind = .function) (hcell : ∀ x ∈ scope.names, x.2 ≠ .cell) (hloc : ∀ x ∈ scope.names, x.2 ≠ .local)
    (hbody : ∀ (c₁ : Fx) (L' : Addr), c₁.Ok g k → c₁.env = envX q scope L' f (.ref c') cl → EvX g c₁ ⟨σ.ρ, σ.ω.filter keep⟩ body C) : Task g (k + 1) f C (mine ++ rest ++ fz) := by
  intro c₀ ok s m F N Q E hE
  have hdep := ok.depth
  have hun := ok.units
  obtain ⟨own, others, ho, hperm⟩ := S.own.pick keep
  have hmem : ∀ p, p ∈ mine ↔ p ∈ own ∨ p ∈ others := fun p => by rw [hperm.mem_iff, List.mem_append]
  have hnd : ((own ++ others).map (·.1)).Nodup := (hperm.map (·.1)).nodup_iff.mp S.nd
  rw [List.map_append] at hnd
  have hnd' := List.nodup_append.mp hnd
  refine wpAny_call ?_
  refine kla_code (news := mine ++ rest ++ fz) (binds := []) ok.below F ok.inK N ok.top ok.frames ok.frame ok.kind hf ⟨c', oc, us, t, rfl, (N _ hc).1, hdat, hq⟩ (by omega) hbind (fun y hy => nomatch hy) ?_ hco hgen hk hcell
  intro g' L' h₁ FG F' N' B' X' T'
  let c₁ : Fx := { A := c₀.A.deeper (envX q scope L' f (.ref c') cl), env := envX q scope L' f (.ref c') cl, h₀ := g', A₀ := c₀.A, base := c₀.base, outer := c₀.env :: c₀.outer }
  have ok' : c₁.Ok g k :=
    { below := B', frames := by show (c₀.A.deeper _).frames = _; rw [Around.deeper, ok.frames]; rfl
      handled := ok.handled, frame := rfl, kind := hk, globals := rfl, builtins := rfl, inK := X', inB := ok.inB, top := T'
      depth := by show c₀.A.depth + 1 + k < _; omega
      units := by show c₀.A.units + 3 + 10 * k + 20 < _; omega }
  have S' : Sta c₁ ⟨σ.ρ, σ.ω.filter keep⟩ h₁ vm own (others ++ rest) fz :=
    { fr := ⟨_, F', fun x hx => by
        exfalso
        have hx' : scope.names.lookup x = some .local := hx
        have : ∀ (l : List (Str × NameKind)), l.lookup x = some .local → ∃ p ∈ l, p.2 = .local := by
          intro l
          induction l with
          | nil => intro e; simp at e
          | cons p l ih =>
            obtain ⟨y, z⟩ := p
            intro e
            rw [List.lookup_cons] at e
            cases q : x == y with
            | true => rw [q] at e; cases e; exact ⟨_, .head _, rfl⟩
            | false => rw [q] at e; obtain ⟨p, hp, hp'⟩ := ih e; exact ⟨p, .tail _ hp, hp'⟩
        obtain ⟨p, hp, hp'⟩ := this _ hx'
        exact hloc p hp hp'⟩
      news := fun p hp => N' p (by
        simp only [List.mem_append, hmem] at hp ⊢
        rcases hp with (q | q | q) | q
        · exact .inl (.inl (.inl q))
        · exact .inl (.inl (.inr q))
        · exact .inl (.inr q)
        · exact .inr q)
      dis := fun p hp => S.dis p (by
        simp only [List.mem_append, hmem] at hp ⊢
        rcases hp with q | q | q
        · exact .inl (.inl q)
        · exact .inl (.inr q)
        · exact .inr q)
      dmr := fun p hp q hq => by
        rcases List.mem_append.mp hq with z | z
        · exact hnd'.2.2 _ (List.mem_map_of_mem hp) _ (List.mem_map_of_mem z)
        · exact S.dmr p ((hmem p).mpr (.inl hp)) q z
      nd := hnd'.1
      rho := S.rho
      own := ho.recell hcl }
  refine hbody c₁ L' ok' rfl { s with heap := h₁, toks := _ } _ _ _ _ S' _ _ fun e h₂ tk₂ hb => ?_
  refine leave_bad (s' := { s with heap := h₂, toks := tk₂ }) ok' hb fun h₃ Y => hE g' e h₃ tk₂ FG (Y.less fun q hq => ?_)
  simp only [List.mem_append, hmem] at hq ⊢
  rcases hq with ((q | q) | q) | q
  · exact .inl (.inl q)
  · exact .inl (.inr (.inl q))
  · exact .inl (.inr (.inr q))
  · exact .inr q

/-- what is left of a frame behind a caught exception -/
structure Soft (c : Fx) (m : Str → Option Value) (led : Led) (h' : Heap) : Prop where
  keep : ∀ b o, c.h₀.get? b = some o → b ∉ fsOf c.outer → h'.get? b = some o
  slots : c.h₀.UpToSlots h'
  ns : h'.Ns c.env.locals m
  led : ∀ p ∈ led, h'.get? p.1 = some p.2

theorem Soft.sta {m : Str → Option Value} (hout : c.outer = []) (hm : ∀ x, c.env.kindOf x = some .local → m x = vm x) (S : Sta c σ h vm mine rest fz) {h' : Heap} (hs : Soft c m (mine ++ rest ++ fz) h') : Sta c σ h' vm mine rest fz := by
  obtain ⟨m', F, _⟩ := S.fr
  exact { S with
    fr := ⟨m, ⟨hs.ns, fun b o e => hs.keep b o e (by rw [hout]; simp), F.above⟩, hm⟩
    news := fun p hp => ⟨hs.led p hp, (S.news p hp).2⟩ }

theorem exc_there {K : Frag} {C : Addr} {bmB : List Value} {n : String} (q : excIn K C bmB n = true) : ∃ o, K.lookup C = some o := by
  unfold excIn at q
  split at q
  · rename_i dd cd sl ho
    exact ⟨_, ho⟩
  · cases q

theorem refused_gen {fR : Addr} {oc : Value} {od : Option Addr} {params : Arguments} {p1 p2 p3 p4 p5 p6 p7 p8 : Pos} {kk : Nat} {last : Stmt} {dV kV doc pm cdv ct : Value} {an : Option Addr} {osl : Array (Option Value)} (ok : c.Ok g (k + 1)) {s : Shared} {m : Str → Option Value} {led : Led} {f C : Addr} {x : Str} (F : Fr c.h₀ c.env.locals s.heap m) (N : News c.h₀ c.env.locals s.heap led) (T : Task g k f (.ref C) led)
    {fo : Obj} {fd : FuncData} (hfo : (f, fo) ∈ led) (hfd : fo.data = .func fd)
    (hx : nsIn g.K mainGlobals x = some (some (.ref C))) (hq : excIn g.K C [.type "Exception", .type "BaseException", .type "object"] "Exception.__new__" = true) {Q E : Value → Shared → Prop}
    (ho : g.K.lookup fR = some ⟨oc, od, .func (fnOf "_law_refused" "_law_refused" params [.Try [.Expr (.Call (.Name "task" p1) [] [] p2) p3] [.ExceptHandler (some (.Name "errors" p4)) none [.Return (some (.Constant (.bool true) kk p5)) p6] p7] [] [] p8, last]
      { kind := .function, names := [("task", .local), ("errors", .local)], isGenerator := false, isCoroutine := false, more := [] } dV kV doc pm an cdv ct), osl⟩) (hcd : codeIn g.K cdv "_law_refused" = true)
    (hb : ∀ v1 v2 : Value, bindArgs (fnOf "_law_refused" "_law_refused" params [.Try [.Expr (.Call (.Name "task" p1) [] [] p2) p3] [.ExceptHandler (some (.Name "errors" p4)) none [.Return (some (.Constant (.bool true) kk p5)) p6] p7] [] [] p8, last]
      { kind := .function, names := [("task", .local), ("errors", .local)], isGenerator := false, isCoroutine := false, more := [] } dV kV doc pm an cdv ct) ⟨[v1, v2], []⟩ = pure [(("task" : Str), v1), (("errors" : Str), v2)])
    (hQ : ∀ h' tk', Soft c m led h' → Q (.bool true) { s with heap := h', toks := tk' }) : wpAny (model g.prog g.w) c.A (call (.ref fR) [.ref f, .ref C]) Q E s := by
  have hdep := ok.depth
  have hun := ok.units
  have X := ok.inK.keeps F.keep
  obtain ⟨FG, BG, st, _⟩ := groundX (R := fun _ _ => True) ok.below F N ok.frames ok.frame ok.kind
  generalize hG0 : hideAll s.heap (led.map (·.1)) = G0 at *
  refine wpAny_call ?_
  refine codeAny_call_def (binds := [("task", .ref f), ("errors", .ref C)]) (by omega) (X _ _ ho) rfl (ok.top.nolimit.keeps F.keep) (codeRec_of X hcd) rfl (BindsTo.of_eq (hb _ _)) (by show ∀ x ∈ ([("task", NameKind.local), ("errors", NameKind.local)] : List (Str × NameKind)), x.2 ≠ .cell; decide) (by
    intro y hy
    rcases List.mem_cons.mp hy with rfl | hy
    · rfl
    · rw [List.mem_singleton.mp hy]; rfl) (fun h₁ hns hk₁ => ?_) rfl rfl rfl
  let env' : Env := envOf "_law_refused" { kind := .function, names := [("task", .local), ("errors", .local)], isGenerator := false, isCoroutine := false, more := [] } s.heap.objs.size fR cdv
  let c' : Fx := { A := c.A.deeper env', env := env', h₀ := G0, A₀ := c.A, base := c.base, outer := c.env :: c.outer }
  have ok' : c'.Ok g k :=
    { below := BG, frames := by show (c.A.deeper _).frames = _; rw [Around.deeper, ok.frames]; rfl
      handled := ok.handled, frame := rfl, kind := rfl, globals := rfl, builtins := rfl, inK := ok.inK.keeps st, inB := ok.inB, top := ok.top.keeps st
      depth := by show c.A.depth + 1 + k < _; omega
      units := by show c.A.units + 3 + 10 * k + 20 < _; omega }
  have F' : Fr G0 s.heap.objs.size h₁ (fun y => ([("task", Value.ref f), ("errors", .ref C)] : List (Str × Value)).reverse.lookup y) := ⟨hns, fun b o e => hk₁ b o (of_hideAll _ (hG0 ▸ e)), by rw [← hG0]; exact Nat.le_of_eq (hideAll_size _ _)⟩
  have N' : News G0 s.heap.objs.size h₁ led := fun p hp => ⟨hk₁ _ _ (N p hp).1, Nat.ne_of_lt (Heap.lt_size (N p hp).1), by rw [← hG0]; exact hideAll_none _ (List.mem_map_of_mem hp)⟩
  show wpAny (model g.prog g.w) c'.A (execs _ c'.env) _ _ _
  refine wpAny_execs_cons (wpAny_Try_except (wpAny_execs_cons (wpAny_Expr_any (Call_ (wpAny_Name (wpAny_loadName_local rfl rfl F'.ns (v := .ref f) rfl ?_) (by decide)) rfl) rfl rfl)))
  refine callWith_meth0 (o := fo) hfd (N' _ hfo).1 ?_
  refine T c' ok' (Shared.mk h₁ _ _ _ _) _ F' N' _ _ fun G e h' tk' FG' Y => ?_
  obtain ⟨⟨B, t, h1, h2, h3⟩, h4⟩ := Y
  have hbf : ∀ b o, c.base.get? b = some o → b ∉ fsOf (c'.env :: c'.outer) := fun b o e hm => by
    have e0 : G0.get? b = some o := st b o (ok.below.stays b o e)
    rcases fs_mem ok'.frame hm with z | z
    · have z : b = s.heap.objs.size := z
      rw [z, fr_self F'] at e0; cases e0
    · rw [(BG.frames.mem z).1] at e; cases e
  have hBb : ∀ b o, c.base.get? b = some o → B.get? b = some o := fun b o e => h1 b o (FG'.keep b o (st b o (ok.below.stays b o e))) (hbf b o e)
  refine wpAny_looks_onW ok'.frames rfl h3 fun h₄ held₄ sm₄ => wpAny_landsW held₄ fun h₅ fly₅ sm₅ => ?_
  have hns5 := ((h4.trans sm₄).trans sm₅).ns FG'.ns
  obtain ⟨ob, hob, hobc⟩ := fly₅.there
  have hns5' : h₅.Ns c'.env.locals (fun y => ([("task", Value.ref f), ("errors", .ref C)] : List (Str × Value)).reverse.lookup y) := hns5
  refine wpAny_handleBy_cons (codeAny_handlers_test (wpAny_Name (wpAny_loadName_local rfl rfl hns5' (v := .ref C) rfl ?_) (by decide))) (by intro q; cases q)
  obtain ⟨bm, Nn, nm, qn, bs, hdct, sn, sub, ab, col, dd, k0, k1, k2, k3, k5, mN, hC, hN, hni, TL⟩ := (own_of_in ok.inK (topRead_of ok.top) hx hq).obj
  obtain ⟨co, hco⟩ := exc_there hq
  have hCb : c.base.get? C = some co := ok.inB _ _ hco
  have hCe := ok.below.stays _ _ hCb
  rw [hC] at hCe; cases hCe
  refine wpAny_excMatches_sub_self (fly₅.1 _ _ (hBb _ _ hCb)) hob hobc (TL.hasType rfl) (codeAny_handlers_suite ?_)
  refine lands_againW fly₅ fun h₆ fly₆ sm₆ => ?_
  refine wpAny_execs_cons (wpAny_Return_some (Constant_bool ?_))
  have hsm := ((h4.trans sm₄).trans sm₅).trans sm₆
  refine hQ h₆ tk' ⟨fun b o e hn => ?_, ?_, ?_, fun p hp => fly₆.1 _ _ (h2 p hp)⟩
  · refine fly₆.1 _ _ (h1 b o (FG'.keep b o (st b o e)) fun hm => ?_)
    rcases fs_mem ok'.frame hm with z | z
    · have z : b = s.heap.objs.size := z
      have := st b o e
      rw [z, fr_self F'] at this; cases this
    · rcases fs_mem ok.frame z with z | z
      · rw [z, fr_self F] at e; cases e
      · exact hn z
  · exact ((Heap.UpToSlots.of_keeps st).trans (Heap.UpToSlots.of_keeps FG'.keep)).trans hsm
  · exact hsm.ns (FG.ns.keeps FG'.keep)

theorem refused_runs (hK : g.Is) (ok : c.Ok g (k + 1)) {s : Shared} {m : Str → Option Value} {led : Led} {f C : Addr} {x : Str} (F : Fr c.h₀ c.env.locals s.heap m) (N : News c.h₀ c.env.locals s.heap led) (T : Task g k f (.ref C) led)
    {fo : Obj} {fd : FuncData} (hfo : (f, fo) ∈ led) (hfd : fo.data = .func fd)
    (hx : nsIn g.K mainGlobals x = some (some (.ref C))) (hq : excIn g.K C [.type "Exception", .type "BaseException", .type "object"] "Exception.__new__" = true) {Q E : Value → Shared → Prop}
    (hQ : ∀ h' tk', Soft c m led h' → Q (.bool true) { s with heap := h', toks := tk' }) : wpAny (model g.prog g.w) c.A (call (.ref 226) [.ref f, .ref C]) Q E s :=
  refused_gen ok F N T hfo hfd hx hq (by rw [hK]; exact rfl) (by rw [hK]; exact rfl) (fun _ _ => rfl) hQ
end
end
section

theorem updF_mid {P : Addr} {o : Obj} {post : Led} (h2 : ∀ p ∈ post, p.1 ≠ P) : ∀ {pre : Led}, (∀ p ∈ pre, p.1 ≠ P) → UpdF P o (pre ++ (P, o) :: post) (fun o' => pre ++ (P, o') :: post)
  | [], _ => .head h2
  | p :: pre, h1 => .tail (h1 p (.head _)) (updF_mid h2 fun q hq => h1 q (.tail _ hq))

theorem triples_snoc {l c v : Value} {a b : Int} {ta tb : Tok} (ha : l = .int a ta) (hb : c = .int b tb) : ∀ (ps : List Value), TriplesOk ps → TriplesOk (ps ++ [l, c, v])
  | [], _ => by subst ha hb; simp [TriplesOk]
  | .int _ _ :: .int _ _ :: _ :: rest, h => by
    simp only [TriplesOk, List.cons_append] at h ⊢
    exact triples_snoc ha hb rest h
  | [.int _ _], h => by simp [TriplesOk] at h
  | [.int _ _, .int _ _], h => by simp [TriplesOk] at h
theorem among_snoc {l c v u : Value} {a b : Int} {ta tb : Tok} {pos : Pos} (ha : l = .int a ta) (hb : c = .int b tb) : ∀ (ps : List Value), TriplesOk ps → codeAmong pos (ps ++ [l, c, v]) = some u → codeAmong pos ps = some u ∨ u = v
  | [], _, e => by
    subst ha hb
    simp only [List.nil_append, codeAmong] at e
    split at e
    · cases e; exact .inr rfl
    · cases e
  | .int _ _ :: .int _ _ :: _ :: rest, h, e => by
    simp only [TriplesOk] at h
    simp only [List.cons_append, codeAmong] at e ⊢
    split at e
    · rename_i q; rw [if_pos q]; exact .inl e
    · rename_i q; rw [if_neg q]; exact among_snoc ha hb rest h e
  | [.int _ _], h, _ => by simp [TriplesOk] at h
  | [.int _ _, .int _ _], h, _ => by simp [TriplesOk] at h

section
variable {g : Gl} {c : Fx} {σ : St} {k : Nat} {h : Heap} {vm : Str → Option Value} {mine rest fz : Led}

/-- lambda: .. -/
theorem lam_makes {cn : Str} {cs : Scope} {L a cd P : Addr} {cl : List (Str × Addr)} {tn q : Str} {pre post : List (Str × Option (List AV))} {params : Arguments} {body : Expr} {scope : Scope} {pos : Pos} {clos : List (Str × Addr)} (ok : c.Ok g k) {s : Shared} (S : Sta c σ s.heap vm mine rest fz)
    (henv : c.env = envX cn cs L a (.ref cd) cl) (hq : tabQ tn = some q) (hω : σ.ω = pre ++ (tn, none) :: post) (hP : look tn σ.ρ = some (.raw (.ref P))) (hC : CodeHd c.h₀ cd P) (hqual : (envX cn cs L a (.ref cd) cl).qual ++ "<lambda>" = q)
    (hcl : closureFor scope (envX cn cs L a (.ref cd) cl) = pure clos) (hdef : defaultsOf params (envX cn cs L a (.ref cd) cl) = ([], [])) {Q E : Value → Shared → Prop}
    (hQ : ∀ f c' pm ctv oc us t h' tk' mine' fz', Sta c σ h' vm mine' rest fz' → (∀ p ∈ fz, p ∈ fz') → (f, kla_obj "<lambda>" q params body scope clos pm c' ctv) ∈ fz' → (c', oc) ∈ fz' → oc.data = .fields us → us[1]? = some (.str q t) → Q (.ref f) { s with heap := h', toks := tk' }) :
    wpAny (model g.prog g.w) c.A (eval (.Lambda params body scope pos) c.env) Q E s := by
  rw [henv]
  refine kla_eval hdef ?_
  rw [hqual]
  obtain ⟨m, F, em⟩ := S.fr
  have hL : c.env.locals = L := by rw [henv]
  have ow := S.own
  rw [hω] at ow
  obtain ⟨mpre, p, mpost, rfl, o1, o2, o3⟩ := ow.split
  obtain ⟨aP, oP⟩ := p
  simp only [OwnR, CellR.tab hq] at o2
  obtain ⟨⟨hvP, ps, rfl, hT⟩, _⟩ := o2
  obtain ⟨v, hv, hr⟩ := S.rho _ _ hP
  rw [Rep.raw_iff] at hr; subst hr
  obtain rfl : aP = P := by rw [hv] at hvP; cases hvP; rfl
  have hnd := S.nd
  rw [List.map_append, List.map_cons] at hnd
  have hnd' := List.nodup_append.mp hnd
  have hin : (aP, tabObj ps) ∈ mpre ++ (aP, tabObj ps) :: mpost := List.mem_append_right _ (.head _)
  have hpre : ∀ p ∈ mpre, p.1 ≠ aP := fun p hp => hnd'.2.2 _ (List.mem_map_of_mem hp) _ (.head _)
  have hpost : ∀ p ∈ mpost, p.1 ≠ aP := fun p hp e => (List.nodup_cons.mp hnd'.2.1).1 (e ▸ List.mem_map_of_mem (f := (·.1)) hp)
  have hrest : ∀ p ∈ rest, p.1 ≠ aP := fun p hp e => S.dmr _ hin p hp e.symm
  have hfz : ∀ p ∈ fz, p.1 ≠ aP := fun p hp e => S.dis _ (List.mem_append_left _ hin) p hp e.symm
  cases hamong : codeAmong pos ps.toList with
  | some v =>
    obtain ⟨c', oc, us, t, rfl, hc1, hc2, hc3⟩ := hT.2 _ _ hamong
    refine kla_hit (h₀ := c.h₀) (c := cd) (P := aP) (ps := ps) (news := (mpre ++ (aP, tabObj ps) :: mpost) ++ rest ++ fz) (m := m) (hL ▸ F) (hL ▸ S.news) ok.top hC rfl (List.mem_append_left _ (List.mem_append_left _ hin)) hT.1 hamong hcl fun f ctv h' tk F' N' hlt => ?_
    have hs : ∀ p ∈ fz, p ∈ (f, kla_obj "<lambda>" q params body scope clos ((g.mg "__name__").getD .none) c' ctv) :: fz := fun p hp => .tail _ hp
    refine hQ f c' _ ctv oc us t h' tk _ _ (S.grow (fz' := (f, kla_obj "<lambda>" q params body scope clos ((g.mg "__name__").getD .none) c' ctv) :: fz) hs ⟨m, hL.symm ▸ F', em⟩ (fun p hp => ?_) fun p hp q' hq' => ?_) hs (.head _) (.tail _ hc1) hc2 hc3
    · have N'' : News c.h₀ c.env.locals h' _ := hL.symm ▸ N'
      refine N'' p ?_
      rcases List.mem_append.mp hp with z | z
      · exact .tail _ (List.mem_append_left _ z)
      · rcases List.mem_cons.mp z with rfl | z
        · exact .head _
        · exact .tail _ (List.mem_append_right _ z)
    · rcases List.mem_cons.mp hq' with rfl | hq'
      · exact Nat.ne_of_lt (hlt p (List.mem_append_left _ hp))
      · exact S.dis p hp q' hq'
  | none =>
    have U : UpdF aP (tabObj ps) ((mpre ++ (aP, tabObj ps) :: mpost) ++ rest ++ fz) (fun o' => (mpre ++ (aP, o') :: mpost) ++ rest ++ fz) := by
      have := updF_mid (P := aP) (o := tabObj ps) (post := mpost ++ (rest ++ fz)) (pre := mpre) (fun p hp => by
        rcases List.mem_append.mp hp with z | z
        · exact hpost p z
        · rcases List.mem_append.mp z with z | z
          · exact hrest p z
          · exact hfz p z) hpre
      simpa [List.append_assoc] using this
    refine kla_nest (h₀ := c.h₀) (c := cd) (P := aP) (ps := ps) (m := m) (hL ▸ F) (hL ▸ S.news) ok.top hC rfl U hT.1 hamong hcl fun f c' oc us t ctv h' tk F' N' hd hv hlt hlt2 => ?_
    have hs : ∀ p ∈ fz, p ∈ (f, kla_obj "<lambda>" q params body scope clos ((g.mg "__name__").getD .none) c' ctv) :: (c', oc) :: fz := fun p hp => .tail _ (.tail _ hp)
    have N'' : News c.h₀ c.env.locals h' _ := hL.symm ▸ N'
    have hadr : ∀ p ∈ mpre ++ (aP, tabObj (ps ++ #[rawInt pos.line, rawInt pos.col, .ref c'])) :: mpost, ∃ q ∈ mpre ++ (aP, tabObj ps) :: mpost, q.1 = p.1 := fun p hp => by
      rcases List.mem_append.mp hp with q | q
      · exact ⟨p, List.mem_append_left _ q, rfl⟩
      · rcases List.mem_cons.mp q with rfl | q
        · exact ⟨_, hin, rfl⟩
        · exact ⟨p, List.mem_append_right _ (.tail _ q), rfl⟩
    have hadr2 : ∀ p ∈ (mpre ++ (aP, tabObj (ps ++ #[rawInt pos.line, rawInt pos.col, .ref c'])) :: mpost) ++ rest, ∃ q ∈ (mpre ++ (aP, tabObj ps) :: mpost) ++ rest, q.1 = p.1 := fun p hp => by
      rcases List.mem_append.mp hp with z | z
      · obtain ⟨q, h1, h2⟩ := hadr p z; exact ⟨q, List.mem_append_left _ h1, h2⟩
      · exact ⟨p, List.mem_append_right _ z, rfl⟩
    refine hQ f c' _ ctv oc us t h' tk (mpre ++ (aP, tabObj (ps ++ #[rawInt pos.line, rawInt pos.col, .ref c'])) :: mpost) _ ⟨⟨m, hL.symm ▸ F', em⟩, fun p hp => ?_, fun p hp q' hq' => ?_, fun p hp q' hq' => ?_, ?_, fun x a e => ?_, ?_⟩ hs (.head _) (.tail _ (.head _)) hd hv
    · refine N'' p ?_
      rcases List.mem_append.mp hp with z | z
      · exact .tail _ (.tail _ (List.mem_append_left _ z))
      · rcases List.mem_cons.mp z with rfl | z
        · exact .head _
        · rcases List.mem_cons.mp z with rfl | z
          · exact .tail _ (.head _)
          · exact .tail _ (.tail _ (List.mem_append_right _ z))
    · obtain ⟨p', hp', e⟩ := hadr2 p hp
      rw [← e]
      have l1 := hlt p' (List.mem_append_left _ hp')
      rcases List.mem_cons.mp hq' with rfl | hq'
      · exact Nat.ne_of_lt (Nat.lt_trans l1 hlt2)
      · rcases List.mem_cons.mp hq' with rfl | hq'
        · exact Nat.ne_of_lt l1
        · exact S.dis p' hp' q' hq'
    · obtain ⟨p', hp', e⟩ := hadr p hp
      rw [← e]
      exact S.dmr p' hp' q' hq'
    · have : (mpre ++ (aP, tabObj (ps ++ #[rawInt pos.line, rawInt pos.col, .ref c'])) :: mpost).map (·.1) = (mpre ++ (aP, tabObj ps) :: mpost).map (·.1) := by simp
      rw [this]; exact S.nd
    · obtain ⟨u, h1, h2⟩ := S.rho x a e
      exact ⟨u, h1, h2.mono hs⟩
    · rw [hω]
      refine OwnR.join (e := (tn, none)) ?_ (o3.mono hs) (o1.mono hs)
      simp only [OwnR, CellR.tab hq]
      refine ⟨⟨hvP, _, rfl, ?_⟩, trivial⟩
      rw [TabOk, Array.toList_append]
      refine ⟨triples_snoc rfl rfl _ hT.1, fun pos' v e => ?_⟩
      rcases among_snoc rfl rfl _ hT.1 e with e | rfl
      · obtain ⟨c₂, o₂, us₂, t₂, h1, h2, h3⟩ := hT.2 _ _ e
        exact ⟨c₂, o₂, us₂, t₂, h1, hs _ h2, h3⟩
      · exact ⟨c', oc, us, t, rfl, .tail _ (.head _), hd, hv⟩
end
end
section

def SoftSta (c : Fx) (σ : St) (h : Heap) (vm : Str → Option Value) (mine rest fz : Led) : Prop :=
  ∃ h0 m, Sta c σ h0 vm mine rest fz ∧ (∀ x, c.env.kindOf x = some .local → m x = vm x) ∧ Soft c m (mine ++ rest ++ fz) h

theorem Sta.soft {c : Fx} {σ : St} {h : Heap} {vm : Str → Option Value} {mine rest fz : Led} (S : Sta c σ h vm mine rest fz) : SoftSta c σ h vm mine rest fz := by
  obtain ⟨m, F, em⟩ := S.fr
  exact ⟨h, m, S, em, fun b o e _ => F.keep b o e, Heap.UpToSlots.of_keeps F.keep, F.ns, fun p hp => (S.news p hp).1⟩

abbrev toldSc : Scope :=
  { kind := .function, names := [("row", .cell), ("number", .local), ("place", .local), ("w", .cell), ("many", .local), ("_law_limbs", .globalImplicit), ("bits", .globalImplicit), ("is_even", .globalImplicit), ("bit", .globalImplicit),
      ("_law_refused", .globalImplicit), ("OutOfRange", .globalImplicit), ("trailing", .globalImplicit)], isGenerator := false, isCoroutine := false, more := [] }
abbrev toldω : List (Str × Option (List AV)) := [("w", none), ("row", none), ("#are", none)]

theorem told_of {g : Gl} {c : Fx} {σ : St} {k : Nat} {vm : Str → Option Value} {mine rest fz : Led} {f cd P : Addr} {params : Arguments} {body : List Stmt} {dV kV doc pm ct oc : Value} {an od : Option Addr} {osl : Array (Option Value)} {a1 a2 a3 a4 r : AV} {pre post : List (Str × Option (List AV))}
    (ok : c.Ok g (k + 1)) (hout : c.outer = []) {s : Shared} (S : Sta c σ s.heap vm mine rest fz) (hω : σ.ω = pre ++ (("#are" : Str), none) :: post) (hP : look "#are" σ.ρ = some (.raw (.ref P))) (hC : CodeHd c.h₀ cd P)
    (ho : g.K.lookup f = some ⟨oc, od, .func (fnOf "_law_are_told" "_law_are_told" params body toldSc dV kV doc pm an (.ref cd) ct), osl⟩) (hcd : codeIn g.K (.ref cd) "_law_are_told" = true)
    (hb : ∀ v1 v2 v3 v4 : Value, bindArgs (fnOf "_law_are_told" "_law_are_told" params body toldSc dV kV doc pm an (.ref cd) ct) ⟨[v1, v2, v3, v4], []⟩ = pure [(("row" : Str), v1), ("number", v2), ("place", v3), ("w", v4)])
    {vs : List Value} (hr : Reps fz [a1, a2, a3, a4] vs)
    (hbody : ∀ (c' : Fx) (L' : Addr), c'.Ok g k → c'.env = envOfC "_law_are_told" toldSc L' f (.ref cd) → CodeHd c'.h₀ cd P → ∀ (s' : Shared) vm' mine' rest' fz', Sta c' { ρ := [("row", a1), ("number", a2), ("place", a3), ("w", a4), ("#are", .raw (.ref P))], ω := toldω } s'.heap vm' mine' rest' fz' →
      ∀ (Q : Flow → Shared → Prop) (E : Value → Shared → Prop), (∀ σ₁ v h' tk' vm'' mine'' fz'', σ₁.ω = toldω → look "#are" σ₁.ρ = some (.raw (.ref P)) → SoftSta c' σ₁ h' vm'' mine'' rest' fz'' → (∀ p ∈ fz', p ∈ fz'') → Rep fz'' r v → Q (.ret v) { s' with heap := h', toks := tk' }) →
        wpAny (model g.prog g.w) c'.A (execs body c'.env) Q E s')
    {Q E : Value → Shared → Prop} (hQ : ∀ v h' tk' mine' fz', Sta c σ h' vm mine' rest fz' → (∀ p ∈ fz, p ∈ fz') → Rep fz' r v → Q v { s with heap := h', toks := tk' }) : wpAny (model g.prog g.w) c.A (call (.ref f) vs) Q E s := by
  obtain ⟨v1, r1, rfl, hv1, hr⟩ := Reps.cons_iff.mp hr
  obtain ⟨v2, r2, rfl, hv2, hr⟩ := Reps.cons_iff.mp hr
  obtain ⟨v3, r3, rfl, hv3, hr⟩ := Reps.cons_iff.mp hr
  obtain ⟨v4, r4, rfl, hv4, hr⟩ := Reps.cons_iff.mp hr
  rw [Reps.nil_iff] at hr; subst hr
  obtain ⟨m, F, em⟩ := S.fr
  have hdep := ok.depth
  have hun := ok.units
  have X := ok.inK.keeps F.keep
  have N := S.news
  have ow := S.own
  rw [hω] at ow
  obtain ⟨mpre, p, mpost, rfl, o1, o2, o3⟩ := ow.split
  obtain ⟨aP, oP⟩ := p
  have htq : tabQ "#are" = some "_law_are_told.<locals>.<lambda>" := by decide
  simp only [OwnR, CellR.tab htq] at o2
  obtain ⟨⟨hvP, ps, rfl, hT⟩, _⟩ := o2
  obtain ⟨v, hv, hrP⟩ := S.rho _ _ hP
  rw [Rep.raw_iff] at hrP; subst hrP
  obtain rfl : aP = P := by rw [hv] at hvP; cases hvP; rfl
  have hnd := S.nd
  rw [List.map_append, List.map_cons] at hnd
  have hnd' := List.nodup_append.mp hnd
  have hin : (aP, tabObj ps) ∈ mpre ++ (aP, tabObj ps) :: mpost := List.mem_append_right _ (.head _)
  have hpre : ∀ p ∈ mpre, p.1 ≠ aP := fun p hp => hnd'.2.2 _ (List.mem_map_of_mem hp) _ (.head _)
  have hpost : ∀ p ∈ mpost, p.1 ≠ aP := fun p hp e => (List.nodup_cons.mp hnd'.2.1).1 (e ▸ List.mem_map_of_mem (f := (·.1)) hp)
  obtain ⟨FG, BG, st, _⟩ := groundX (R := fun _ _ => True) ok.below F N ok.frames ok.frame ok.kind
  generalize hG0 : hideAll s.heap (((mpre ++ (aP, tabObj ps) :: mpost) ++ rest ++ fz).map (·.1)) = G0 at *
  refine wpAny_call ?_
  refine codeAny_call_function (by omega) (X _ _ ho) rfl rfl rfl rfl (codeRec_of X hcd) ((BindsTo.of_eq (s := s) (hb v1 v2 v3 v4)) _ _ _ _ ?_)
  refine wpAny_newFunctionEnv_cells rfl (fun x hx => ?_) fun env' he s' x => ?_
  · simp only [List.mem_cons, List.not_mem_nil, or_false] at hx
    rcases hx with rfl | rfl | rfl | rfl
    · exact .inr ⟨rfl, rfl⟩
    · exact .inl rfl
    · exact .inl rfl
    · exact .inr ⟨rfl, rfl⟩
  subst he
  refine ⟨(ok.top.nolimit.keeps F.keep).keeps x.toInCall.keep, codeAny_func ?_⟩
  obtain ⟨h₁, tk, rfl, _⟩ := x.done
  have hk₁ := x.toInCall.keep
  obtain ⟨cells, NC, Y⟩ := Cl.news (h₀ := s.heap) (Nat.le_refl _) (cs := cellsFrom (s.heap.objs.size + 1) toldSc.names []) fun n c hm => ⟨x.cell n c (lookup_of_mem_nodup (cellsFrom_names toldSc.names 0 (s.heap.objs.size + 1) [] [] rfl ▸ (by decide : ((cellsFrom 0 toldSc.names []).map (·.1)).Nodup)) hm), x.above n c hm⟩
  obtain ⟨ow, orow, rfl, hdw, hdr⟩ := CellsAre.two Y
  let env' : Env := envOfC "_law_are_told" toldSc s.heap.objs.size f (.ref cd)
  let c' : Fx := { A := c.A.deeper env', env := env', h₀ := G0, A₀ := c.A, base := c.base, outer := c.env :: c.outer }
  have ok' : c'.Ok g k :=
    { below := BG, frames := by show (c.A.deeper _).frames = _; rw [Around.deeper, ok.frames]; rfl
      handled := ok.handled, frame := rfl, kind := rfl, globals := rfl, builtins := rfl, inK := ok.inK.keeps st, inB := ok.inB, top := ok.top.keeps st
      depth := by show c.A.depth + 1 + k < _; omega
      units := by show c.A.units + 3 + 10 * k + 20 < _; omega }
  have hG : ∀ b, G0.get? b = none → s.heap.get? b = none ∨ b ∈ ((mpre ++ (aP, tabObj ps) :: mpost) ++ rest ++ fz).map (·.1) := fun b e => by
    by_cases hm : b ∈ ((mpre ++ (aP, tabObj ps) :: mpost) ++ rest ++ fz).map (·.1)
    · exact .inr hm
    · left
      cases q : s.heap.get? b with
      | none => rfl
      | some o => have := hideAll_get _ q hm; rw [hG0, e] at this; cases this
  have hG' : ∀ b, s.heap.get? b = none → G0.get? b = none := fun b e => by
    cases q : G0.get? b with
    | none => rfl
    | some o => rw [← hG0] at q; have := of_hideAll _ q; rw [e] at this; cases this
  let vm' : Str → Option Value := fun y => if y = "row" then some v1 else if y = "number" then some v2 else if y = "place" then some v3 else if y = "w" then some v4 else if y = "#are" then some (.ref aP) else none
  have NL : News G0 s.heap.objs.size h₁ ((mpre ++ (aP, tabObj ps) :: mpost) ++ rest ++ fz) := fun p hp => ⟨hk₁ _ _ (N p hp).1, Nat.ne_of_lt (Heap.lt_size (N p hp).1), by rw [← hG0]; exact hideAll_none _ (List.mem_map_of_mem hp)⟩
  have NC' : News G0 s.heap.objs.size h₁ [(s.heap.objs.size + 2, ow), (s.heap.objs.size + 1, orow)] := fun p hp => ⟨(NC p hp).1, (NC p hp).2.1, hG' _ (NC p hp).2.2⟩
  have cellOff : ∀ p ∈ [(s.heap.objs.size + 2, ow), (s.heap.objs.size + 1, orow)], ∀ q ∈ (mpre ++ (aP, tabObj ps) :: mpost) ++ rest ++ fz, p.1 ≠ q.1 := fun p hp q hq e => by
    have h1 := (NC p hp).2.2
    rw [e, (N q hq).1] at h1; cases h1
  have F' : Fr G0 s.heap.objs.size h₁ _ := ⟨x.toInCall.ns, fun b o e => hk₁ b o (of_hideAll _ (hG0 ▸ e)), by rw [← hG0]; exact Nat.le_of_eq (hideAll_size _ _)⟩
  have S' : Sta c' { ρ := [("row", a1), ("number", a2), ("place", a3), ("w", a4), ("#are", .raw (.ref aP))], ω := toldω } h₁ vm' [(s.heap.objs.size + 2, ow), (s.heap.objs.size + 1, orow), (aP, tabObj ps)] ((mpre ++ mpost) ++ rest) fz := by
    refine ⟨⟨_, F', ?_⟩, ?_, ?_, ?_, ?_, ?_, ?_⟩
    · intro y hy
      have hy : toldSc.names.lookup y = some .local := hy
      show bindL _ [("row", v1), ("number", v2), ("place", v3), ("w", v4)] (fun _ => none) y = _
      have e1 : bindL (fun y => toldSc.names.lookup y) [("row", v1), ("number", v2), ("place", v3), ("w", v4)] (fun _ => none) y = if y = "place" then some v3 else if y = "number" then some v2 else none := rfl
      refine Eq.trans e1 ?_
      simp only [vm']
      by_cases q1 : y = "row"
      · rw [q1] at hy; exact absurd hy (by decide)
      by_cases q2 : y = "w"
      · rw [q2] at hy; exact absurd hy (by decide)
      by_cases q3 : y = "#are"
      · rw [q3] at hy; exact absurd hy (by decide)
      rw [if_neg q1, if_neg q2, if_neg q3]
      by_cases q4 : y = "place"
      · subst q4; rfl
      · rw [if_neg q4, if_neg q4]
    · intro p hp
      simp only [List.mem_append, List.mem_cons, List.not_mem_nil, or_false] at hp
      rcases hp with ((rfl | rfl | rfl) | ((hp | hp) | hp)) | hp
      · exact NC' _ (.head _)
      · exact NC' _ (.tail _ (.head _))
      · exact NL _ (List.mem_append_left _ (List.mem_append_left _ hin))
      · exact NL _ (List.mem_append_left _ (List.mem_append_left _ (List.mem_append_left _ hp)))
      · exact NL _ (List.mem_append_left _ (List.mem_append_left _ (List.mem_append_right _ (.tail _ hp))))
      · exact NL _ (List.mem_append_left _ (List.mem_append_right _ hp))
      · exact NL _ (List.mem_append_right _ hp)
    · intro p hp q hq
      simp only [List.mem_append, List.mem_cons, List.not_mem_nil, or_false] at hp
      rcases hp with (rfl | rfl | rfl) | ((hp | hp) | hp)
      · exact cellOff _ (.head _) q (List.mem_append_right _ hq)
      · exact cellOff _ (.tail _ (.head _)) q (List.mem_append_right _ hq)
      · exact S.dis _ (List.mem_append_left _ hin) q hq
      · exact S.dis _ (List.mem_append_left _ (List.mem_append_left _ hp)) q hq
      · exact S.dis _ (List.mem_append_left _ (List.mem_append_right _ (.tail _ hp))) q hq
      · exact S.dis _ (List.mem_append_right _ hp) q hq
    · intro p hp q hq
      have hq' : q ∈ (mpre ++ (aP, tabObj ps) :: mpost) ++ rest := by
        simp only [List.mem_append, List.mem_cons] at hq ⊢
        rcases hq with (hq | hq) | hq
        · exact .inl (.inl hq)
        · exact .inl (.inr (.inr hq))
        · exact .inr hq
      simp only [List.mem_cons, List.not_mem_nil, or_false] at hp
      rcases hp with rfl | rfl | rfl
      · exact cellOff _ (.head _) q (List.mem_append_left _ hq')
      · exact cellOff _ (.tail _ (.head _)) q (List.mem_append_left _ hq')
      · simp only [List.mem_append] at hq
        rcases hq with (hq | hq) | hq
        · exact fun e => hpre q hq e.symm
        · exact fun e => hpost q hq e.symm
        · exact S.dmr _ hin q hq
    · have c1 := cellOff _ (.head _) _ (List.mem_append_left fz (List.mem_append_left rest hin))
      have c2 := cellOff _ (.tail _ (.head _)) _ (List.mem_append_left fz (List.mem_append_left rest hin))
      have c3 : s.heap.objs.size + 2 ≠ s.heap.objs.size + 1 := by omega
      simp only [List.map_cons, List.map_nil, List.nodup_cons, List.mem_cons, List.not_mem_nil, or_false, not_or, not_false_eq_true, List.nodup_nil, and_true]
      exact ⟨⟨c3, c1⟩, c2⟩
    · intro y b hy
      simp only [look] at hy
      by_cases q1 : ("row" : Str) = y
      · rw [if_pos q1] at hy; cases hy; subst q1; exact ⟨v1, rfl, hv1⟩
      rw [if_neg q1] at hy
      by_cases q2 : ("number" : Str) = y
      · rw [if_pos q2] at hy; cases hy; subst q2; exact ⟨v2, rfl, hv2⟩
      rw [if_neg q2] at hy
      by_cases q3 : ("place" : Str) = y
      · rw [if_pos q3] at hy; cases hy; subst q3; exact ⟨v3, rfl, hv3⟩
      rw [if_neg q3] at hy
      by_cases q4 : ("w" : Str) = y
      · rw [if_pos q4] at hy; cases hy; subst q4; exact ⟨v4, rfl, hv4⟩
      rw [if_neg q4] at hy
      by_cases q5 : ("#are" : Str) = y
      · rw [if_pos q5] at hy; cases hy; subst q5; exact ⟨.ref aP, rfl, Rep.raw_iff.mpr rfl⟩
      rw [if_neg q5] at hy; cases hy
    · simp only [OwnR]
      refine ⟨(CellR.cell (by decide)).mpr ⟨hdw.trans rfl, rfl⟩, (CellR.cell (by decide)).mpr ⟨hdr.trans rfl, rfl⟩, (CellR.tab htq).mpr ⟨rfl, ps, rfl, hT⟩, trivial⟩
  refine hbody c' s.heap.objs.size ok' rfl (hC.keeps st) (Shared.mk h₁ _ _ _ _) vm' _ _ _ S' _ _ ?_
  rintro σ₁ u h₂ tk₂ vm₂ mine₂ fz₂ hω₁ hP₁ ⟨h0, m₀, S₀, em₀, Y⟩ hs₂ hru
  have ow₀ := S₀.own
  rw [hω₁] at ow₀
  obtain ⟨p1, p2, p3, rfl⟩ : ∃ p1 p2 p3, mine₂ = [p1, p2, p3] := by
    match mine₂, ow₀ with
    | [p1, p2, p3], _ => exact ⟨p1, p2, p3, rfl⟩
    | [], h => simp [OwnR] at h
    | [_], h => simp [OwnR] at h
    | [_, _], h => simp [OwnR] at h
    | _ :: _ :: _ :: _ :: _, h => simp [OwnR] at h
  obtain ⟨b3, o₃⟩ := p3
  simp only [OwnR, CellR.tab htq] at ow₀
  obtain ⟨_, _, ⟨hv3', ps', rfl, hT'⟩, _⟩ := ow₀
  obtain ⟨z, hz, hrz⟩ := S₀.rho _ _ hP₁
  rw [Rep.raw_iff] at hrz; subst hrz
  obtain rfl : b3 = aP := by rw [hz] at hv3'; cases hv3'; rfl
  have hadr : ∀ p ∈ mpre ++ (b3, tabObj ps') :: mpost, ∃ q ∈ mpre ++ (b3, tabObj ps) :: mpost, q.1 = p.1 := fun p hp => by
    rcases List.mem_append.mp hp with q | q
    · exact ⟨p, List.mem_append_left _ q, rfl⟩
    · rcases List.mem_cons.mp q with rfl | q
      · exact ⟨_, hin, rfl⟩
      · exact ⟨p, List.mem_append_right _ (.tail _ q), rfl⟩
  have in0 : ∀ p ∈ (mpre ++ (b3, tabObj ps') :: mpost) ++ rest, p ∈ [p1, p2, (b3, tabObj ps')] ++ ((mpre ++ mpost) ++ rest) := fun p hp => by
    simp only [List.mem_append, List.mem_cons, List.not_mem_nil, or_false] at hp ⊢
    rcases hp with (hp | rfl | hp) | hp
    · exact .inr (.inl (.inl hp))
    · exact .inl (.inr (.inr rfl))
    · exact .inr (.inl (.inr hp))
    · exact .inr (.inr hp)
  have hfs : ∀ b, b ∈ fsOf c'.outer → b = c.env.locals := fun b hb => by
    rcases fs_mem ok.frame hb with z | z
    · exact z
    · rw [hout] at z; simp at z
  have hnL : ∀ p ∈ (mpre ++ (b3, tabObj ps') :: mpost) ++ rest ++ fz₂, p.1 ≠ c.env.locals ∧ c.h₀.get? p.1 = none := fun p hp => by
    have hnews : G0.get? p.1 = none := by
      refine (S₀.news p ?_).2.2
      rcases List.mem_append.mp hp with q | q
      · exact List.mem_append_left _ (in0 p q)
      · exact List.mem_append_right _ q
    constructor
    · intro e
      obtain ⟨oL, _, _, eL, _⟩ := FG.ns
      rw [← e, hnews] at eL; cases eL
    · cases q : c.h₀.get? p.1 with
      | none => rfl
      | some o => have := st _ _ q; rw [hnews] at this; cases this
  refine hQ u h₂ tk₂ (mpre ++ (b3, tabObj ps') :: mpost) fz₂ ⟨⟨m, ⟨Y.slots.ns FG.ns, fun b o e => Y.keep b o (st b o e) fun hb => ?_, F.above⟩, em⟩, fun p hp => ⟨?_, hnL p hp⟩, fun p hp q hq => ?_, fun p hp q hq => ?_, ?_, fun y b hy => ?_, ?_⟩ hs₂ hru
  · rw [hfs b hb, fr_self F] at e; cases e
  · refine Y.led p ?_
    rcases List.mem_append.mp hp with q | q
    · exact List.mem_append_left _ (in0 p q)
    · exact List.mem_append_right _ q
  · exact S₀.dis p (in0 p hp) q hq
  · obtain ⟨p', hp', e⟩ := hadr p hp
    rw [← e]; exact S.dmr p' hp' q hq
  · have : (mpre ++ (b3, tabObj ps') :: mpost).map (·.1) = (mpre ++ (b3, tabObj ps) :: mpost).map (·.1) := by simp
    rw [this]; exact S.nd
  · obtain ⟨w, h1, h2⟩ := S.rho y b hy
    exact ⟨w, h1, h2.mono hs₂⟩
  · rw [hω]
    refine OwnR.join (e := (("#are" : Str), none)) ?_ (o3.mono hs₂) (o1.mono hs₂)
    simp only [OwnR, CellR.tab htq]
    exact ⟨⟨hvP, ps', rfl, hT'⟩, trivial⟩
end
section
section
variable {g : Gl} {c : Fx} {σ σ' : St} {k : Nat}

/-- statements behind which slots may have turned -/
def WpT (g : Gl) (c : Fx) (σ : St) (t : Sem Flow) (P : Out → St → Prop) : Prop :=
  ∀ (s : Shared) vm mine rest fz, Sta c σ s.heap vm mine rest fz → ∀ (Q : Flow → Shared → Prop) (E : Value → Shared → Prop),
    (∀ o σ' fl h' tk' vm' mine' fz', P o σ' → SoftSta c σ' h' vm' mine' rest fz' → (∀ p ∈ fz, p ∈ fz') → Rfl fz' o fl → Q fl { s with heap := h', toks := tk' }) →
    wpAny (model g.prog g.w) c.A t Q E s
theorem WpT.of {t : Sem Flow} {P : Out → St → Prop} (hw : WpS g c σ t P) : WpT g c σ t P :=
  fun s vm mine rest fz S Q E hQ => hw s vm mine rest fz S Q E fun o σ' fl h' tk' vm' mine' fz' p S' => hQ o σ' fl h' tk' vm' mine' fz' p S'.soft
theorem ExsT_seq {st : Stmt} {sts : List Stmt} {P : Out → St → Prop} (σ' : St) (h1 : Ex g c σ st fun o σ'' => o = .next ∧ σ''.le σ') (h2 : WpT g c σ' (execs sts c.env) P) : WpT g c σ (execs (st :: sts) c.env) P := by
  intro s vm mine rest fz S Q E hQ
  refine wpAny_execs_cons (h1 s vm mine rest fz S _ _ ?_)
  rintro o σ'' fl h' tk' vm' mine' fz' ⟨rfl, hle⟩ S' hs hr
  cases fl <;> first | exact hr.elim | skip
  exact h2 _ vm' mine' rest fz' (S'.le hle) _ _ fun o₂ σ₂ fl₂ h₂ tk₂ vm₂ mine₂ fz₂ p₂ S₂ hs₂ r₂ => hQ o₂ σ₂ fl₂ h₂ tk₂ vm₂ mine₂ fz₂ p₂ S₂ (fun p q => hs₂ p (hs p q)) r₂
theorem ExsT_ret {st : Stmt} {sts : List Stmt} {P : Out → St → Prop} (h1 : WpT g c σ (exec st c.env) fun o σ'' => ∃ a, o = .ret a ∧ P o σ'') : WpT g c σ (execs (st :: sts) c.env) P := by
  intro s vm mine rest fz S Q E hQ
  refine wpAny_execs_cons (h1 s vm mine rest fz S _ _ ?_)
  rintro o σ'' fl h' tk' vm' mine' fz' ⟨a, rfl, hp⟩ S' hs hr
  cases fl <;> first | exact hr.elim | skip
  exact hQ (.ret a) σ'' _ h' tk' vm' mine' fz' hp S' hs hr
theorem ExT_ifT {t : Expr} {b o : List Stmt} {pos : Pos} {P : Out → St → Prop} (ht : EvB g c σ t true) (h1 : WpT g c σ (execs b c.env) P) : WpT g c σ (exec (.If t b o pos) c.env) P := by
  intro s vm mine rest fz S Q E hQ
  refine wpAny_If (ht s vm mine rest fz S _ _ fun h' tk' fz' S' hs => ?_)
  rw [if_pos rfl]
  exact h1 _ vm mine rest fz' S' _ _ fun o₂ σ₂ fl₂ h₂ tk₂ vm₂ mine₂ fz₂ p₂ S₂ hs₂ r₂ => hQ o₂ σ₂ fl₂ h₂ tk₂ vm₂ mine₂ fz₂ p₂ S₂ (fun p q => hs₂ p (hs p q)) r₂

def EvT (g : Gl) (c : Fx) (σ : St) (e : Expr) (a : AV) (σ' : St) : Prop :=
  ∀ (s : Shared) vm mine rest fz, Sta c σ s.heap vm mine rest fz → ∀ (Q E : Value → Shared → Prop),
    (∀ v h' tk' mine' fz', SoftSta c σ' h' vm mine' rest fz' → (∀ p ∈ fz, p ∈ fz') → Rep fz' a v → Q v { s with heap := h', toks := tk' }) →
    wpAny (model g.prog g.w) c.A (eval e c.env) Q E s
theorem ExT_return {e : Expr} {pos : Pos} {a : AV} {P : Out → St → Prop} (he : EvT g c σ e a σ') (hp : P (.ret a) σ') : WpT g c σ (exec (.Return (some e) pos) c.env) P := by
  intro s vm mine rest fz S Q E hQ
  exact wpAny_Return_some (he s vm mine rest fz S _ _ fun v h' tk' mine' fz' S' hs hv => hQ (.ret a) σ' (.ret v) h' tk' vm mine' fz' hp S' hs hv)
theorem EvC.of_soft {e : Expr} {a : AV} (hout : c.outer = []) (he : EvT g c σ e a σ') : EvC g c σ e a σ' := by
  intro s vm mine rest fz S Q E hQ
  refine he s vm mine rest fz S _ _ fun v h' tk' mine' fz' ⟨h0, m, S', em, Y⟩ hs hv => hQ v h' tk' mine' fz' (Y.sta hout em S') hs hv

theorem EvT_refused {cn : Str} {cs : Scope} {L a cd P C : Addr} {cl : List (Str × Addr)} {tn q x : Str} {pre post : List (Str × Option (List AV))} {params : Arguments} {body : Expr} {scope : Scope} {lpos p0 px pos : Pos} {clos : List (Str × Addr)} (keep : Str × Option (List AV) → Bool)
    (hK : g.Is) (ok : c.Ok g (k + 2)) (henv : c.env = envX cn cs L a (.ref cd) cl) (hq : tabQ tn = some q) (hω : σ.ω = pre ++ (tn, none) :: post) (hP : look tn σ.ρ = some (.raw (.ref P))) (hC : CodeHd c.h₀ cd P) (hqual : (envX cn cs L a (.ref cd) cl).qual ++ "<lambda>" = q)
    (hclos : closureFor scope (envX cn cs L a (.ref cd) cl) = pure clos) (hdef : defaultsOf params (envX cn cs L a (.ref cd) cl) = ([], []))
    (hcl : ∀ x, (x, none) ∈ σ.ω.filter keep → clos.lookup x = c.env.cells.lookup x)
    (hbind : ∀ pm c' ctv, bindArgs (kla_fn "<lambda>" q params body scope clos pm (.ref c') ctv) ⟨[], []⟩ = pure [])
    (hco : scope.isCoroutine = false) (hgen : scope.isGenerator = false) (hk : scope.kind = .function) (hcell : ∀ x ∈ scope.names, x.2 ≠ .cell) (hloc : ∀ x ∈ scope.names, x.2 ≠ .local)
    (hbody : ∀ (c₁ : Fx) (L' f c' : Addr), c₁.Ok g k → c₁.env = envX q scope L' f (.ref c') clos → EvX g c₁ ⟨σ.ρ, σ.ω.filter keep⟩ body (.ref C))
    (hx : nsIn g.K mainGlobals x = some (some (.ref C))) (hexc : excIn g.K C [.type "Exception", .type "BaseException", .type "object"] "Exception.__new__" = true)
    (hkr : c.env.kindOf "_law_refused" = some .globalImplicit) (hkx : c.env.kindOf x = some .globalImplicit) (hd : (x == ("__debug__" : Str)) = false)
    (hst : starEach [.Lambda params body scope lpos, .Name x px] c.env = (false, eval (.Lambda params body scope lpos) c.env) :: starEach [.Name x px] c.env) (hst2 : starEach [.Name x px] c.env = (false, eval (.Name x px) c.env) :: starEach [] c.env)
    (hany : ((backTo pos (starEach [.Name x px] c.env)).any fun x => x.1) = false)
    (hev : eval (.Call (.Name "_law_refused" p0) [.Lambda params body scope lpos, .Name x px] [] pos) c.env = (do callWith pos (← eval (.Name "_law_refused" p0) c.env) [] (backTo pos (starEach [.Lambda params body scope lpos, .Name x px] c.env)) (backToKw pos (keywordEach [] c.env)))) :
    EvT g c σ (.Call (.Name "_law_refused" p0) [.Lambda params body scope lpos, .Name x px] [] pos) (.bool true) σ := by
  intro s vm mine rest fz S Q E hQ
  refine Call_ (Ev_glob (pos := p0) ok (ns226 hK).1 hkr (by decide) s vm mine rest fz S _ _ fun v h' tk' fz' S' hs hv => ?_) hev
  rw [Rep.raw_iff] at hv; subst hv
  refine callWith_K (h₀ := c.h₀) ok.inK (ns226 hK).2 (args_cons (lam_makes (s := { s with heap := h', toks := tk' }) ok S' henv hq hω hP hC hqual hclos hdef fun f c' pm ctv oc us t h₂ tk₂ mine₂ fz₂ S₂ hs₂ hf hc hd1 hd2 => ?_) hst) hst hany
  refine args_cons (Ev_glob (pos := px) ok hx hkx hd (Shared.mk h₂ _ _ _ _) vm mine₂ rest fz₂ S₂ _ _ fun v h₃ tk₃ fz₃ S₃ hs₃ hv => args_nil ⟨?_, ?_⟩) hst2
  · obtain ⟨m, F, _⟩ := S₃.fr
    exact ok.inK.keeps F.keep
  rw [Rep.raw_iff] at hv; subst hv
  rw [List.nil_append]
  obtain ⟨m, F, em⟩ := S₃.fr
  have T : Task g (k + 1) f (.ref C) (mine₂ ++ rest ++ fz₃) := task_of keep S₃ (List.mem_append_right _ (hs₃ _ hf)) (List.mem_append_right _ (hs₃ _ hc)) hd1 hd2 hcl (hbind _ _ _) hco hgen hk hcell hloc fun c₁ L' ok₁ he₁ => hbody c₁ L' f c' ok₁ he₁
  exact refused_runs hK ok (s := Shared.mk h₃ _ _ _ _) F S₃.news T (List.mem_append_right _ (hs₃ _ hf)) rfl hx hexc fun h₄ tk₄ Y => hQ (.bool true) h₄ tk₄ mine₂ fz₃ ⟨h₃, m, S₃, em, Y⟩ (fun p hp => hs₃ p (hs₂ p (hs p hp))) (Rep.bool_iff.mpr rfl)
end
end
section
section
variable {g : Gl} {c : Fx} {σ : St} {k : Nat}

theorem EvF_comp {elt iter : Expr} {x : Str} {px : Pos} {scope : Scope} {cl : List (Str × Addr)} {pos : Pos} {xs ys : List AV} (ok : c.Ok g k) (hi : Ev g c σ iter (.list xs)) (hsz : xs.length ≤ 1000000) (hlen : ys.length = xs.length)
    (hclos : closureFor scope c.env = pure cl) (hcell : ∀ y ∈ scope.names, y.2 ≠ .cell) (hkind : scope.kind = .function) (hnames : ∀ y ∈ scope.names, y.2 = .local → scope.names.lookup y.1 = some .local) (hx : scope.names.lookup x = some .local)
    (turn : ∀ (i : Nat) (a b : AV), xs[i]? = some a → ys[i]? = some b → ∀ (s : Shared) vm mine rest fz C oC m₂ v, Sta c σ s.heap vm mine rest fz → (C, oC) ∈ rest → LCg.NsObj oC m₂ → m₂ x = some v → Rep fz a v → ∀ (Q E : Value → Shared → Prop),
      (∀ y h' tk' fz', Sta c σ h' vm mine rest fz' → (∀ p ∈ fz, p ∈ fz') → Rep fz' b y → Q y { s with heap := h', toks := tk' }) → wpAny (model g.prog g.w) c.A (eval elt (compEnvC scope cl C c.env)) Q E s)
    (hs : ∀ x, foldedSetIterable iter c.env x = pure x := by intro _; rfl) : EvF g c σ (.ListComp elt [⟨.Name x px, iter, [], 0⟩] scope pos) ys := by
  intro s vm mine rest fz S Q E hQ
  rw [eval_ListComp]
  refine wpAny_comprehension_free (use := none) rfl hs hclos hkind hnames (hi s vm mine rest fz S _ _ fun v h' tk' fz' S' hs' hv => ?_)
  obtain ⟨l, o, vs, rfl, hm, ⟨n, rfl⟩, hr⟩ := Rep.list_iff.mp hv
  have hg := S'.get hm
  have hlt := Heap.lt_size hg
  have hvl : vs.length = xs.length := hr.length
  refine wpAny_pyIter_list (items := vs.toArray) ⟨_, hg, rfl, n, rfl⟩ ?_
  have W := Walks.list (prog := g.prog) (w := g.w) ok.handled h'.objs.size l (Nat.ne_of_lt hlt) vs.toArray
  have a3 := S'.atSize
  generalize hH1 : h'.push { cls := .type "list_iterator", data := .fields #[.ref l, .int 0 0] } = H1
  have k1 : Kp h' H1 := by rw [← hH1]; exact Kp.push _ _
  have s1 : H1.objs.size = h'.objs.size + 1 := by rw [← hH1, Heap.size_push]
  have it1 : H1.IsListIter h'.objs.size l 0 := by rw [← hH1]; exact ⟨_, Heap.get?_push_size _ rfl, rfl, rfl⟩
  have S₁ := S'.keeps k1
  have a3' := S₁.atSize
  refine wpAny_newObj_type (wpAny_newFunctionEnv hcell (by intro y hy; simp at hy) (fun h₁ hns₁ hsb₁ => ?_) hkind)
  dsimp only at hns₁ hsb₁ ⊢
  generalize hH2 : H1.push { cls := .type "list", dict := none, data := .seq ([] : List Value).toArray } = H2 at hns₁ hsb₁ ⊢
  have hC : H2.objs.size = H1.objs.size + 1 := by rw [← hH2, Heap.size_push]
  have old : Kp H1 h₁ := fun b o e => hsb₁.extBut b o (by rw [hC]; exact Nat.ne_of_lt (Nat.lt_succ_of_lt (Heap.lt_size e))) (Heap.get?_push_of_some _ (hH2 ▸ Heap.get?_push_of_some _ e))
  have hacc : h₁.get? H1.objs.size = some (LCg.lst []) := hsb₁.extBut _ _ (by rw [hC]; exact Nat.ne_of_lt (Nat.lt_succ_self _)) (Heap.get?_push_of_some _ (hH2 ▸ Heap.get?_push_size _ rfl))
  have S₂ := S₁.keeps old
  have up : ∀ a, h'.objs.size ≤ a → a ≠ c.env.locals ∧ c.h₀.get? a = none ∧ ∀ p ∈ mine ++ rest ++ fz', p.1 ≠ a := fun a ha => by
    obtain ⟨b1, b2, b3⟩ := S'.below
    refine ⟨fun e => ?_, ?_, fun p hp e => ?_⟩
    · rw [e] at ha; exact absurd b2 (Nat.not_lt.mpr ha)
    · cases q : c.h₀.get? a with
      | none => rfl
      | some o => exact absurd (b3 _ _ q) (Nat.not_lt.mpr ha)
    · have := b1 p hp; rw [e] at this; exact absurd this (Nat.not_lt.mpr ha)
  generalize hI : h'.objs.size = I at *
  have uI := up I (Nat.le_refl _)
  have uD := up H1.objs.size (by rw [s1]; exact Nat.le_succ _)
  have uC := up H2.objs.size (by rw [hC, s1]; exact Nat.le_trans (Nat.le_succ _) (Nat.le_succ _))
  have hDC : H1.objs.size ≠ H2.objs.size := by rw [hC]; exact Nat.ne_of_lt (Nat.lt_succ_self _)
  have hID : I ≠ H1.objs.size := by rw [s1]; exact Nat.ne_of_lt (Nat.lt_succ_self _)
  have hIC : I ≠ H2.objs.size := by rw [hC, s1]; exact Nat.ne_of_lt (Nat.lt_succ_of_lt (Nat.lt_succ_self _))
  generalize H1.objs.size = D at *
  generalize H2.objs.size = C at *
  have hlI : l ≠ I := Nat.ne_of_lt hlt
  have hlC : l ≠ C := fun e => uC.2.2 _ (List.mem_append_right _ hm) e
  have loop : ∀ s₃ : Shared, s₃ = Shared.mk h₁ s.gens s.drawn (tk' + ([] : List (Str × Value)).length) s.os →
      codeAny (model g.prog g.w) c.A (.compLoop (.ListComp elt [⟨.Name x px, iter, [], 0⟩] scope pos) 0 (.ref I) (.ref D) (compEnvC scope cl C c.env))
        (compPost (model g.prog g.w) c.A E none Q (.ref D) C) s₃ := by
    rintro s₃ rfl
    refine codeAny_compLoop_tests
      (fun kk s' => ∃ h tk i vals m' fz₁, s' = Shared.mk h s.gens s.drawn tk s.os ∧ i ≤ xs.length ∧ kk = xs.length + 1 - i ∧ vals.length = i ∧ (h.IsListIter I l i ∧ h.IsList l vs.toArray) ∧ Sta c σ h vm mine rest fz₁ ∧ (∀ p ∈ fz', p ∈ fz₁) ∧ h.Ns C m' ∧
        h.get? D = some (LCg.lst vals) ∧ Reps fz₁ (ys.take i) vals ∧ (∀ p ∈ mine ++ rest ++ fz₁, p.1 ≠ I ∧ p.1 ≠ C ∧ p.1 ≠ D)) ?_ (xs.length + 1)
      ⟨h₁, _, 0, [], _, fz', rfl, Nat.zero_le _, rfl, rfl, ⟨⟨it1.choose, old _ _ it1.choose_spec.1, it1.choose_spec.2⟩, ⟨_, S₂.get hm, rfl, n, rfl⟩⟩, S₂, fun _ h => h, hns₁, hacc, by rw [List.take_zero]; exact Reps.nil_iff.mpr rfl, fun p hp => ⟨uI.2.2 p hp, uC.2.2 p hp, uD.2.2 p hp⟩⟩
    rintro kk s' ⟨h, tk, i, vals, m', fz₁, rfl, hi', rfl, hvals, hst, Sx, hsx, hnC, hD, hreps, off⟩
    have hWsz : vs.toArray.size = xs.length := by simp [hvl]
    by_cases hlt' : i < xs.length
    · refine W.item i _ _ _ (by rw [hWsz]; exact hlt') hst fun v h₂ tk₂ hPv hst₂ hk₂ => ?_
      have Sy := Sx.off uI.1 uI.2.1 (fun p hp => (off p hp).1) hk₂
      refine wpAny_assign_Name (wpAny_storeName_local (lookup_relabel_local hx) (hnC.at' fun o e => hk₂ _ o (by simpa using Ne.symm hIC) e) (fun h₃ hn₃ hs₃ => ?_) (by simp [compEnvC, relabel, hkind]))
      refine wpAny_tests_nil ?_
      simp only [if_true]
      obtain ⟨oI, heI⟩ : ∃ o, h₃.get? I = some o := by
        obtain ⟨o, e, _⟩ := hst₂.1
        exact ⟨o, hs₃.extBut _ _ hIC e⟩
      have hst₃ : h₃.IsListIter I l (i + 1) ∧ h₃.IsList l vs.toArray := by
        obtain ⟨⟨o, e, r⟩, ⟨o', e', r'⟩⟩ := hst₂
        exact ⟨⟨o, hs₃.extBut _ _ hIC e, r⟩, ⟨o', hs₃.extBut _ _ hlC e', r'⟩⟩
      obtain ⟨oC, heC, hoC⟩ := LCg.ns_obj hn₃
      have Sz : Sta c σ h₃ vm mine rest fz₁ := Sy.off (I := C) uC.1 uC.2.1 (fun p hp => (off p hp).2.1) fun b o hb e => hs₃.extBut b o (fun q => hb (List.mem_singleton.mpr q)) e
      have hD₃ : h₃.get? D = some (LCg.lst vals) := hs₃.extBut _ _ hDC (hk₂ _ _ (by simpa using Ne.symm hID) hD)
      have Sr1 := Sz.withRest hD₃ uD.1 uD.2.1 fun p hp => (off p hp).2.2
      have off2 : ∀ p ∈ mine ++ ((D, LCg.lst vals) :: rest) ++ fz₁, p.1 ≠ I ∧ p.1 ≠ C := fun p hp => by
        simp only [List.mem_append, List.mem_cons] at hp
        rcases hp with (hp | rfl | hp) | hp
        · have := off p (List.mem_append_left _ (List.mem_append_left _ hp)); exact ⟨this.1, this.2.1⟩
        · exact ⟨Ne.symm hID, hDC⟩
        · have := off p (List.mem_append_left _ (List.mem_append_right _ hp)); exact ⟨this.1, this.2.1⟩
        · have := off p (List.mem_append_right _ hp); exact ⟨this.1, this.2.1⟩
      have Sr2 := Sr1.withRest heC uC.1 uC.2.1 fun p hp => (off2 p hp).2
      have Sr3 := Sr2.withRest heI uI.1 uI.2.1 fun p hp => by
        simp only [List.mem_append, List.mem_cons] at hp
        rcases hp with (hp | rfl | hp) | hp
        · exact (off2 p (List.mem_append_left _ (List.mem_append_left _ hp))).1
        · exact Ne.symm hIC
        · exact (off2 p (List.mem_append_left _ (List.mem_append_right _ (by simpa using hp)))).1
        · exact (off2 p (List.mem_append_right _ hp)).1
      have hPv' : vs[i]? = some v := by simpa using hPv
      obtain ⟨a, ha, hra⟩ := hr.get' hPv'
      have hb : ys[i]? = some ys[i] := by simp
      refine turn i a _ ha hb (Shared.mk h₃ s.gens s.drawn _ s.os) vm mine _ fz₁ C oC _ v Sr3 (.tail _ (.head _)) hoC (by simp) (hra.mono hsx) _ _ fun y h₄ tk₄ fz₄ S₄ hs₄ hy => ?_
      have gI := (S₄.news (I, oI) (List.mem_append_left _ (List.mem_append_right _ (.head _)))).1
      have gC := (S₄.news (C, oC) (List.mem_append_left _ (List.mem_append_right _ (.tail _ (.head _))))).1
      have gD := (S₄.news (D, LCg.lst vals) (List.mem_append_left _ (List.mem_append_right _ (.tail _ (.tail _ (.head _)))))).1
      have hsz' : vals.length ≤ sizeLine := by rw [line16]; omega
      refine append_at (s := Shared.mk h₄ s.gens s.drawn tk₄ s.os) (hsz := by show vals.toArray.size ≤ sizeLine; rw [List.size_toArray]; exact hsz') gD fun h₅ hs₅ hD₅ => ?_
      have S₅ : Sta c σ h₄ vm mine rest fz₄ := S₄.sub fun p hp => .tail _ (.tail _ (.tail _ hp))
      have off5 : ∀ p ∈ mine ++ rest ++ fz₄, p.1 ≠ I ∧ p.1 ≠ C ∧ p.1 ≠ D := fun p hp => by
        simp only [List.mem_append] at hp
        rcases hp with (hp | hp) | hp
        · exact off p (List.mem_append_left _ (List.mem_append_left _ hp))
        · exact off p (List.mem_append_left _ (List.mem_append_right _ hp))
        · exact ⟨fun e => S₄.dis (I, oI) (List.mem_append_right _ (.head _)) p hp e.symm, fun e => S₄.dis (C, oC) (List.mem_append_right _ (.tail _ (.head _))) p hp e.symm,
            fun e => S₄.dis (D, LCg.lst vals) (List.mem_append_right _ (.tail _ (.tail _ (.head _)))) p hp e.symm⟩
      have S₆ : Sta c σ h₅ vm mine rest fz₄ := S₅.off (I := D) uD.1 uD.2.1 (fun p hp => (off5 p hp).2.2) fun b o hb e => hs₅.extBut b o (fun q => hb (List.mem_singleton.mpr q)) e
      refine ⟨xs.length + 1 - (i + 1), by omega, h₅, tk₄, i + 1, vals ++ [y], _, fz₄, rfl, hlt', rfl, by simp [hvals], ⟨?_, ⟨_, S₆.get (hs₄ _ (hsx _ hm)), rfl, n, rfl⟩⟩, S₆, fun p hp => hs₄ p (hsx p hp), (hoC.ns gC).sameBut hs₅ (Ne.symm hDC), hD₅.trans (congrArg some (LCg.lst_snoc vals y)), ?_, off5⟩
      · obtain ⟨o, e, r⟩ := hst₃.1
        rw [heI] at e; cases e
        exact ⟨oI, hs₅.extBut _ _ hID gI, r⟩
      · rw [List.take_succ, hb]
        exact (Reps.mono hs₄ _ hreps).append (Reps.one hy)
    · obtain rfl : i = xs.length := Nat.le_antisymm hi' (Nat.not_lt.mp hlt')
      rw [← hWsz] at hst
      refine W.done _ _ _ hst fun h₂ tk₂ hk₂ => ?_
      have Sy := Sx.off uI.1 uI.2.1 (fun p hp => (off p hp).1) hk₂
      refine ⟨m', hnC.at' fun o e => hk₂ _ o (by simpa using Ne.symm hIC) e, fun h'' hs'' => ?_⟩
      have Sz : Sta c σ h'' vm mine rest fz₁ := Sy.off (I := C) uC.1 uC.2.1 (fun p hp => (off p hp).2.1) fun b o hb e => hs''.extBut b o (fun q => hb (List.mem_singleton.mpr q)) e
      have hD'' : h''.get? D = some (LCg.lst vals) := hs''.extBut _ _ hDC (hk₂ _ _ (by simpa using Ne.symm hID) hD)
      rw [← hlen, List.take_length] at hreps
      exact hQ D _ h'' tk₂ fz₁ ⟨Sz, ⟨hD'', uD.1, uD.2.1⟩, fun p hp => (off p hp).2.2, vals, ⟨_, rfl⟩, hreps⟩ fun p hp => hsx p (hs' p hp)
  exact codeAny_compStart_list (loop _ rfl) (W.self 0 _ _ _ ⟨⟨it1.choose, old _ _ it1.choose_spec.1, it1.choose_spec.2⟩, ⟨_, S₂.get hm, rfl, n, rfl⟩⟩ (loop _ rfl))
end
end
local macro_rules | `(tactic| walk_at "tv") => `(tactic| first
  | ((with_reducible show Tv _ _ _ (eval (Expr.Name _ _) _) _); with_reducible apply Ev_name)
  | ((with_reducible show Tv _ _ _ (eval (Expr.Constant _ _ _) _) _); first | with_reducible exact Ev_int | with_reducible exact Ev_bool | with_reducible exact Ev_none)
  | ((with_reducible show Tv _ _ _ (eval (Expr.BinOp _ _ _ _) _) _); with_reducible apply Ev_bin)
  | ((with_reducible show Tv _ _ _ (eval (Expr.Subscript _ _ _) _) _); with_reducible apply Ev_itemI)
  | ((with_reducible show Tv _ _ _ (eval (Expr.Call _ _ _ _) _) _); with_reducible apply E_len)
  | ((with_reducible show Tv _ _ _ (eval (Expr.Compare _ _ _ _) _) _); with_reducible apply Ev_cmp)
  | ((with_reducible show Tv _ _ _ (eval (Expr.UnaryOp _ _ _) _) _); with_reducible apply Ev_un)
  | ((with_reducible show Tv _ _ _ (eval (Expr.List _ _) _) _); with_reducible apply Ev_ofF)
  | ((with_reducible show Tv _ _ _ (eval (Expr.Tuple _ _ _) _) _); with_reducible apply Ev_tuple)
  )
local macro_rules | `(tactic| walk_at "op2") => `(tactic| first
  | ((with_reducible show Op2 _ _ (binaryOp _) _ _ _); first
    | with_reducible exact op_add
    | with_reducible exact op_sub
    | with_reducible exact op_and
    | with_reducible exact op_or
    | with_reducible apply op_mul
    | with_reducible apply op_shr
    | with_reducible apply op_shl
    | with_reducible apply op_mod
    | with_reducible apply op_div
    | with_reducible apply op_pow)
  | ((with_reducible show Op2 _ _ (compareOp _) _ _ _); first
    | with_reducible exact op_gt
    | with_reducible exact op_lt
    | with_reducible exact op_eq
    | with_reducible exact op_ne
    | with_reducible exact op_le
    | with_reducible exact op_ge
    | with_reducible exact op_neb
    | with_reducible apply op_nel)
  | ((with_reducible show Op2 _ _ (inplaceOp _) _ _ _); first
    | with_reducible exact op_iadd
    | with_reducible exact op_isub
    | with_reducible apply op_ishr
    | with_reducible exact op_ior
    | with_reducible apply op_imod)
  )
local macro_rules | `(tactic| walk_at "eq") => `(tactic| first
  | ((with_reducible show look _ _ = _); exact rfl)
  | ((with_reducible show Env.kindOf _ _ = _); exact rfl)
  | ((with_reducible show starEach _ _ = _); exact rfl)
  | ((with_reducible show List.any _ _ = _); exact rfl)
  | ((with_reducible show (BEq.beq _ _ : Bool) = false); decide)
  | ((with_reducible show behindInMarks _ _ = _); with_unfolding_all exact rfl)
  | ((with_reducible show ownsNot _ _ = _); exact rfl)
  | ((with_reducible show eval _ _ = _); exact rfl)
  | ((with_reducible show swapsWith _ _ _ _ = _); exact rfl)
  | ((with_reducible show interactive _ = _); exact rfl)
  | ((with_reducible show isTrue _ _ _ = _); exact rfl)
  )
local macro_rules | `(tactic| walk_at "ev") => `(tactic| first
  | ((with_reducible show Tv _ _ _ _ _); walk_at "tv")
  | ((with_reducible show _ = _); walk_at "eq")
  | ((with_reducible show Fx.Ok _ _ _); assumption)
  | ((with_reducible show Op2 _ _ _ _ _ _); walk_at "op2")
  | ((with_reducible show Gl.Is _); assumption)
  | ((with_reducible show EvBw _ _ _ _ _ _); with_reducible apply EvB_cmp)
  | ((with_reducible show EvV _ _ _ _ _); first | with_reducible exact EvV_nil | with_reducible apply EvV_cons)
  | ((with_reducible show EvL _ _ _ _ _); first | with_reducible exact EvL_nil | with_reducible apply EvL_own | with_reducible apply EvL_val)
  | ((with_reducible show EvF _ _ _ _ _); with_reducible apply EvF_list)
  | ((with_reducible show EvP _ _ _ _ _); first | with_reducible exact EvP_none | with_reducible apply EvP_some)
  | ((with_reducible show EvR _ _ _ _ _ _ _); with_reducible apply R_range)
  | ((with_reducible show Op1 _ _ _ _ _); with_reducible exact op_neg)
  | ((with_reducible show Readable _ _ _); exact Or.inl rfl)
  | with_reducible exact rc1
  | with_reducible exact rc2
  | with_reducible exact rc3
  | (intro _ _; (with_reducible show subscripted _ _ _ _ = _); with_unfolding_all exact rfl)
  | (intro _ _; (with_reducible show letTemporaryGo _ _ _ = _); exact rfl)
  | (intro _; (with_reducible show foldedSetIterable _ _ _ = _); exact rfl)
  )
local macro_rules | `(tactic| walk_at "le") => `(tactic| first
  | exact le_nil rfl
  | exact le_nil (by simp)
  | (refine le_cons rfl ?_; walk_at "le")
  )

section
set_option maxHeartbeats 8000000


theorem fn_normal {g : Gl} (hK : g.Is) (xs : List Int) (hl : xs.length ≤ 1000000) : FnV g 58 1 [aints xs] (aints (normalF xs)) := by
  refine fn_of ["a"] (by rw [hK]; exact rfl) (by rw [hK]; exact rfl) ?_ rfl (by decide) (by decide) rfl rfl rfl (by decide) ?_
  · intro vs h
    match vs, h with
    | [a], _ => rfl
  · intro c L ok he
    obtain ⟨A, env, h₀, A₀, base, outer⟩ := c
    dsimp only at he
    subst he
    apply Exs_cons
    apply Ex_assign ok (a := .int xs.length)
    · have : (xs.length : Int) = ((xs.map AV.int).length : Int) := by simp
      rw [this]
      repeat' walk_at "ev"
      simp; omega
    · exact rfl
    · exact rfl
    · apply Exs_cons
      refine Ex_while (fun n σ => ∃ e : Int, 0 ≤ e ∧ e ≤ xs.length ∧ n = e.toNat ∧ normalF (xs.take e.toNat) = normalF xs ∧ σ = ⟨[("end", .int e), ("a", aints xs)], []⟩) (n := xs.length)
        ⟨xs.length, by omega, by omega, by omega, by simp, rfl⟩ ?_
      rintro n σ ⟨e, h0, h1, rfl, hn, rfl⟩
      refine ⟨_, EvB_and2 (by repeat' walk_at "ev") (b' := decide (xs.getD (e - 1).toNat 0 = 0)) ?_, ?_, ?_⟩
      · intro h
        simp only [decide_eq_true_eq] at h
        apply EvB_cmp (a := .int (xs.getD (e - 1).toNat 0)) (b := .int 0)
        · apply Ev_item (k := e - 1) (xs := xs.map .int)
          · repeat' walk_at "ev"
          · repeat' walk_at "ev"
          · omega
          · exact ints_getD (by omega)
          · omega
        · repeat' walk_at "ev"
        · repeat' walk_at "ev"
      · intro h
        simp only [Bool.and_eq_true, decide_eq_true_eq] at h
        apply Exs_cons
        apply Ex_aug (a := .int e) (b := .int 1) (r := .int (e - 1)) ok
        any_goals (repeat' walk_at "ev")
        apply Exs_nil
        refine ⟨(e - 1).toNat, ⟨[("end", .int (e - 1)), ("a", aints xs)], []⟩, by omega, le_cons rfl (le_cons rfl (le_nil rfl)), e - 1, by omega, by omega, rfl, ?_, rfl⟩
        rw [← hn]
        have e1 : e.toNat = (e - 1).toNat + 1 := by omega
        rw [e1, take_succ_getD (by omega), h.2, normalF_snoc0]
      · intro h
        apply Exs_cons
        apply Ex_return (a := aints (normalF xs))
        · refine Ev_ofF (EvF_slice (xs := xs.map .int) (a := none) (b := some e) ?_ ?_ ?_ ?_ ?_)
          any_goals (repeat' walk_at "ev")
          · simp; exact Nat.le_trans hl (by decide)
          · intro fz vs hr
            have := pick_upto h0 fz vs hr
            rw [← List.map_take] at this
            have e2 : normalF xs = xs.take e.toNat := by
              rw [← hn]
              by_cases h3 : 0 < e
              · have h4 : xs.getD (e - 1).toNat 0 ≠ 0 := by simpa [h3] using h
                have e1 : e.toNat = (e - 1).toNat + 1 := by omega
                rw [e1, take_succ_getD (by omega), normalF_snoc _ h4]
              · have : e.toNat = 0 := by omega
                rw [this]; rfl
            rw [e2]; exact this
        · exact rfl
end
section
set_option maxHeartbeats 8000000


theorem fn_add_limb {g : Gl} (hK : g.Is) (w : Nat) (hw : 1 ≤ w) (hw' : w ≤ 8) (n l : Int) (h0 : 0 ≤ n) (hl : 0 ≤ l) (hlb : l < B2 w) (hsz : (lm (B2 w) n).length ≤ 1000000) :
    FnV g 100 1 [row w n, .int l, .int w] (row w (n + l)) := by
  refine fn_of ["a", "limb", "w"] (by rw [hK]; exact rfl) (by rw [hK]; exact rfl) ?_ rfl (by decide) (by decide) rfl rfl rfl (by decide) ?_
  · intro vs h
    match vs, h with
    | [v0, v1, v2], _ => rfl
  intro c L ok he
  obtain ⟨A, env, h₀, A₀, base, outer⟩ := c
  dsimp only at he
  subst he
  have hb := B2_ge hw
  have hd := dig_lm hb n
  have hv := val_lm hb h0
  dsimp only [row]
  generalize hxs : lm (B2 w) n = xs at *
  apply Exs_cons
  apply Ex_tup_swap (l := [("mask", .val (.int (Mk w))), ("found", .own [])]) (is := [.own [], .val (.int (Mk w))]) ok
  · repeat' walk_at "ev"
    · decide
    · omega
    · omega
    · exact one_ok
  · exact ⟨.inl ⟨rfl, rfl⟩, .inl ⟨rfl, rfl⟩, trivial⟩
  · decide
  · apply Exs_cons
    apply WpS.le (σ' := ⟨[("limb", .int l), ("a", aints xs), ("mask", .int (Mk w)), ("w", .int w)], [("found", some [])]⟩) (le_cons rfl (le_cons rfl (le_cons rfl (le_cons rfl (le_nil rfl)))))
    refine Ex_for_list (xs := xs.map .int) (fun i σ => ∃ (F : List Int) (c : Int), F.length = i ∧ Dig (B2 w) F ∧ 0 ≤ c ∧ c < B2 w ∧ val (B2 w) F + (B2 w : Int) ^ i * c = val (B2 w) (xs.take i) + l ∧
      σ = ⟨[("limb", .int c), ("a", aints xs), ("mask", .int (Mk w)), ("w", .int w)], [("found", some (F.map .int))]⟩) ok ?_ rfl ⟨[], l, rfl, dig_nil, hl, hlb, by simp [val], rfl⟩ ?_ ?_
    · repeat' walk_at "ev"
    · rintro i σ a hx ⟨F, c, hF, hdF, hc0, hcb, hinv, rfl⟩
      have hi : i < xs.length := by have := (List.getElem?_eq_some_iff.mp hx).1; simpa using this
      have hxi : a = .int (xs.getD i 0) := by
        have := ints_getD hi; rw [this] at hx; exact (Option.some.inj hx).symm
      subst hxi
      obtain ⟨hx0, hxb⟩ := dig_getD hd (by omega) i
      have hts := val_take_succ (b := B2 w) hi
      generalize xs.getD i 0 = x at *
      refine ⟨rfl, ?_⟩
      apply Exs_cons
      apply Ex_aug (a := .int c) (b := .int x) (r := .int (c + x)) ok
      any_goals (repeat' walk_at "ev")
      apply Exs_cons
      apply Ex_append (pre := []) (post := []) ok rfl
      any_goals (repeat' walk_at "ev")
      · simp [hF]; have : sizeLine = 16777216 := rfl; omega
      apply Exs_cons
      apply Ex_aug (a := .int (c + x)) (b := .int w) (r := .int ((c + x) / 2 ^ (w : Int).toNat)) ok
      any_goals (repeat' walk_at "ev")
      · omega
      apply Exs_nil
      refine ⟨_, ?le, F ++ [Builtin.bitAnd (c + x) (Mk w)], (c + x) / 2 ^ (w : Int).toNat, ?_, ?_, ?_, ?_, ?_, rfl⟩
      case le => walk_at "le"
      · simp [hF]
      · rw [mask_eq]
        exact dig_snoc hdF (Int.emod_nonneg _ (by omega)) (Int.emod_lt_of_pos _ (by omega))
      · rw [shr_eq]; exact Int.ediv_nonneg (by omega) (by omega)
      · rw [shr_eq]; exact Int.ediv_lt_of_lt_mul (by omega) (by have : (B2 w : Int) * 2 ≤ B2 w * B2 w := Int.mul_le_mul_of_nonneg_left (by omega) (by omega); omega)
      · rw [mask_eq, shr_eq]
        refine carry_step hb hF ?_
        rw [hts, Int.mul_add, ← Int.add_assoc, hinv]; omega
    · rintro σ ⟨F, c, hF, hdF, hc0, hcb, hinv, rfl⟩
      simp only [List.length_map] at hF hinv
      rw [List.take_length, hv] at hinv
      have hge : F = [] ∨ (B2 w : Int) ^ (F.length - 1) ≤ n := by
        by_cases h : F = []
        · exact .inl h
        · right
          have : 0 < n := by
            have h1 : 0 < xs.length := by rw [← hF]; exact List.length_pos_iff.mpr h
            by_cases h2 : n = 0
            · rw [h2, lm_zero] at hxs; rw [← hxs] at h1; simp at h1
            · omega
          rw [hF, ← hxs]; exact lm_ge hb this
      apply Exs_cons
      apply Ex_if (r := decide (0 < c))
      · repeat' walk_at "ev"
      · intro h
        simp only [decide_eq_true_eq] at h
        apply Exs_cons
        apply Ex_append (pre := []) (post := []) ok rfl
        any_goals (repeat' walk_at "ev")
        · simp [hF]; have : sizeLine = 16777216 := rfl; omega
        apply Exs_nil
        apply Exs_cons
        apply WpS.freeze (pre := []) (post := []) rfl
        have e : (F.map AV.int ++ [.int c]) = (lm (B2 w) (n + l)).map .int := by
          have : F ++ [c] = lm (B2 w) (n + l) := by
            refine lm_of hb (dig_snoc hdF hc0 hcb) (by simp [Nrm]; omega) ?_
            rw [val_snoc, hF, hinv]
          rw [← this]; simp
        rw [e]
        apply Ex_return (a := row w (n + l))
        · repeat' walk_at "ev"
        · rfl
      · intro h
        simp only [decide_eq_false_iff_not] at h
        apply Exs_nil
        apply Exs_cons
        apply WpS.freeze (pre := []) (post := []) rfl
        have hc : c = 0 := by omega
        subst hc
        rw [Int.mul_zero, Int.add_zero] at hinv
        have e : F = lm (B2 w) (n + l) := lm_of hb hdF (nrm_of_ge hb hdF (hge.imp id fun q => by rw [hinv]; omega)) hinv
        rw [e]
        apply Ex_return (a := row w (n + l))
        · repeat' walk_at "ev"
        · rfl
end
section
set_option maxHeartbeats 8000000


theorem fn_nat_of {g : Gl} (hK : g.Is) (w : Nat) (hw : 1 ≤ w) (hw' : w ≤ 8) (n : Int) (h0 : 0 ≤ n) (hsz : (lm (B2 w) n).length ≤ 1000) :
    FnV g 65 1 [.int n, .int w] (row w n) := by
  refine fn_of ["number", "w"] (by rw [hK]; exact rfl) (by rw [hK]; exact rfl) ?_ rfl (by decide) (by decide) rfl rfl rfl (by decide) ?_
  · intro vs h
    match vs, h with
    | [v0, v1], _ => rfl
  intro c L ok he
  obtain ⟨A, env, h₀, A₀, base, outer⟩ := c
  dsimp only at he
  subst he
  have hb := B2_ge hw
  dsimp only [row]
  apply Exs_cons
  apply Ex_if (r := decide (n < 0))
  · repeat' walk_at "ev"
  · intro h; simp at h; omega
  · intro _
    apply Exs_nil
    apply Exs_cons
    apply Ex_tup_swap (l := [("mask", .val (.int (Mk w))), ("found", .own [])]) (is := [.own [], .val (.int (Mk w))]) ok
    · repeat' walk_at "ev"
      · decide
      · omega
      · omega
      · exact one_ok
    · exact ⟨.inl ⟨rfl, rfl⟩, .inl ⟨rfl, rfl⟩, trivial⟩
    · decide
    · apply Exs_cons
      apply WpS.le (σ' := ⟨[("number", .int n), ("mask", .int (Mk w)), ("w", .int w)], [("found", some [])]⟩) (by walk_at "le")
      refine Ex_while (fun m σ => ∃ (F : List Int) (c : Int), 0 ≤ c ∧ m = c.toNat ∧ F ++ lm (B2 w) c = lm (B2 w) n ∧
        σ = ⟨[("number", .int c), ("mask", .int (Mk w)), ("w", .int w)], [("found", some (F.map .int))]⟩) (n := n.toNat) ⟨[], n, h0, rfl, rfl, rfl⟩ ?_
      rintro m σ ⟨F, c, hc0, rfl, hi, rfl⟩
      refine ⟨decide (0 < c), by repeat' walk_at "ev", ?_, ?_⟩
      · intro h
        simp only [decide_eq_true_eq] at h
        apply Exs_cons
        apply Ex_append (pre := []) (post := []) ok rfl
        any_goals (repeat' walk_at "ev")
        · have := congrArg List.length hi
          simp at this; simp [line16]; omega
        apply Exs_cons
        apply Ex_aug (a := .int c) (b := .int w) (r := .int (c / 2 ^ (w : Int).toNat)) ok
        any_goals (repeat' walk_at "ev")
        · omega
        apply Exs_nil
        refine ⟨_, _, ?_, ?le, F ++ [Builtin.bitAnd c (Mk w)], c / 2 ^ (w : Int).toNat, ?_, rfl, ?_, rfl⟩
        case le => walk_at "le"
        · rw [shr_eq]; exact ediv_lt_self hb h
        · rw [shr_eq]; exact Int.ediv_nonneg (by omega) (by omega)
        · rw [shr_eq, mask_eq]; exact lm_snoc_step hb h hi
      · intro h
        simp only [decide_eq_false_iff_not] at h
        have hc : c = 0 := by omega
        subst hc
        rw [lm_zero, List.append_nil] at hi
        subst hi
        apply Exs_cons
        apply WpS.freeze (pre := []) (post := []) rfl
        apply Ex_return (a := aints (lm (B2 w) n))
        · repeat' walk_at "ev"
        · rfl

theorem fn_is_even {g : Gl} (hK : g.Is) (w : Nat) (hw : 1 ≤ w) (n : Int) (h0 : 0 ≤ n) (hsz : (lm (B2 w) n).length ≤ 1000) :
    FnV g 72 1 [row w n] (.bool (decide (n % 2 = 0))) := by
  refine fn_of ["a"] (by rw [hK]; exact rfl) (by rw [hK]; exact rfl) ?_ rfl (by decide) (by decide) rfl rfl rfl (by decide) ?_
  · intro vs h
    match vs, h with
    | [v0], _ => rfl
  intro c L ok he
  obtain ⟨A, env, h₀, A₀, base, outer⟩ := c
  dsimp only at he
  subst he
  have hb := B2_ge hw
  have hd := dig_lm hb n
  have hv := val_lm hb h0
  dsimp only [row]
  apply Exs_cons
  have key : decide (n % 2 = 0) = (decide (((List.map AV.int (lm (B2 w) n)).length : Int) = 0) || decide (Builtin.bitAnd ((lm (B2 w) n).getD 0 0) 1 = 0)) := by
    rw [bitAnd_m1]
    by_cases hn : n = 0
    · subst hn; simp [lm_zero]
    · have : (lm (B2 w) n).getD 0 0 = n % (B2 w : Int) := by
        rw [val_getD hb hd, hv]; simp
      rw [this]
      have h2 : (2 : Int) ∣ (B2 w : Int) := by
        obtain ⟨k, rfl⟩ := Nat.exists_eq_add_of_le hw
        rw [B2_cast, Nat.add_comm, Int.pow_succ]
        exact Int.dvd_mul_left _ _
      rw [Int.emod_emod_of_dvd _ h2]
      have h3 := lm_ne hb (show 0 < n by omega)
      have h4 : decide (((List.map AV.int (lm (B2 w) n)).length : Int) = 0) = false := by simp [h3]
      rw [h4, Bool.false_or]
  rw [key]
  refine Ex_return (a := .bool (decide (((List.map AV.int (lm (B2 w) n)).length : Int) = 0) || decide (Builtin.bitAnd ((lm (B2 w) n).getD 0 0) 1 = 0))) (Ev_or_bool ?_ ?_) rfl
  · repeat' walk_at "ev"
    simp; omega
  · intro h
    apply Ev_cmp (a := .int (Builtin.bitAnd ((lm (B2 w) n).getD 0 0) 1)) (b := .int 0)
    · apply Ev_bin (a := .int ((lm (B2 w) n).getD 0 0)) (b := .int 1)
      · apply Ev_item (k := 0) (xs := (lm (B2 w) n).map .int)
        · repeat' walk_at "ev"
        · repeat' walk_at "ev"
        · decide
        · refine ints_getD ?_
          simp at h
          exact List.length_pos_iff.mpr h
        · decide
      · repeat' walk_at "ev"
      · repeat' walk_at "ev"
    · repeat' walk_at "ev"
    · repeat' walk_at "ev"
end
section
set_option maxHeartbeats 8000000


def cmpI (n m : Int) : Int := if n < m then -1 else if m < n then 1 else 0

theorem fn_compare {g : Gl} (hK : g.Is) (w : Nat) (hw : 1 ≤ w) (n m : Int) (h0 : 0 ≤ n) (h0' : 0 ≤ m) (hsz : (lm (B2 w) n).length ≤ 1000) (hsz' : (lm (B2 w) m).length ≤ 1000) :
    FnV g 79 1 [row w n, row w m] (.int (cmpI n m)) := by
  refine fn_of ["a", "b"] (by rw [hK]; exact rfl) (by rw [hK]; exact rfl) ?_ rfl (by decide) (by decide) rfl rfl rfl (by decide) ?_
  · intro vs h
    match vs, h with
    | [v0, v1], _ => rfl
  intro c L ok he
  obtain ⟨A, env, h₀, A₀, base, outer⟩ := c
  dsimp only at he
  subst he
  have hb := B2_ge hw
  have hd := dig_lm hb n
  have hv := val_lm hb h0
  have hn := nrm_lm hb n
  have hd' := dig_lm hb m
  have hv' := val_lm hb h0'
  have hn' := nrm_lm hb m
  dsimp only [row]
  generalize lm (B2 w) n = xs at *
  generalize lm (B2 w) m = ys at *
  apply Exs_cons
  apply Ex_if (r := decide (((xs.map AV.int).length : Int) ≠ ((ys.map AV.int).length : Int)))
  · repeat' walk_at "ev"
    · simp; omega
    · simp; omega
  · intro h
    simp at h
    apply Exs_cons
    refine Ex_return (a := .int (cmpI n m)) (Ev_if (r := decide (((xs.map AV.int).length : Int) < ((ys.map AV.int).length : Int))) ?_ ?_ ?_) rfl
    · repeat' walk_at "ev"
      · simp; omega
      · simp; omega
    · intro h2
      simp at h2
      have : n < m := by rw [← hv, ← hv']; exact cmp_len hb hd hd' hn' h2
      rw [show cmpI n m = -1 by simp [cmpI, this]]
      repeat' walk_at "ev"
    · intro h2
      simp at h2
      have : m < n := by rw [← hv, ← hv']; exact cmp_len hb hd' hd hn (by omega)
      rw [show cmpI n m = 1 by unfold cmpI; rw [if_neg (by omega), if_pos this]]
      repeat' walk_at "ev"
  · intro h
    simp at h
    apply Exs_nil
    apply Exs_cons
    apply WpS.le (σ' := ⟨[("a", aints xs), ("b", aints ys)], []⟩) (by walk_at "le")
    refine Ex_for_range (a := ((xs.map AV.int).length : Int) - 1) (b := -1) (d := -1) (n := xs.length) (fun i σ => i ≤ xs.length ∧ xs.drop (xs.length - i) = ys.drop (xs.length - i) ∧ σ = ⟨[("a", aints xs), ("b", aints ys)], []⟩) ok ?_ ?_ ?_ rfl
      ⟨by omega, by simp; omega, rfl⟩ ?_ ?_
    · repeat' walk_at "ev"
      simp; omega
    · rw [List.length_map]; exact range_small_down (by omega)
    · rw [List.length_map]; exact range_size_down _
    · rintro i σ hi ⟨_, hdr, rfl⟩
      refine ⟨rfl, ?_⟩
      rw [List.length_map]
      have hp : ((xs.length : Int) - 1 + (i : Int) * -1) = ((xs.length - 1 - i : Nat) : Int) := by omega
      rw [hp]
      have hp1 : xs.length - i = (xs.length - 1 - i) + 1 := by omega
      rw [hp1] at hdr
      generalize hpp : xs.length - 1 - i = p at *
      have hpx : p < xs.length := by omega
      have hpy : p < ys.length := by omega
      apply Exs_cons
      apply Ex_if (r := decide (xs.getD (p : Int).toNat 0 ≠ ys.getD (p : Int).toNat 0))
      · repeat' walk_at "ev"
        all_goals omega
      · intro h2
        simp only [decide_eq_true_eq, Int.toNat_natCast] at h2
        apply Exs_cons
        refine Ex_return (a := .int (cmpI n m)) (Ev_if (r := decide (xs.getD (p : Int).toNat 0 < ys.getD (p : Int).toNat 0)) ?_ ?_ ?_) rfl
        · repeat' walk_at "ev"
          all_goals omega
        · intro h3
          simp only [decide_eq_true_eq, Int.toNat_natCast] at h3
          have : n < m := by rw [← hv, ← hv']; exact cmp_at hb hd hd' hpx hpy hdr h3
          rw [show cmpI n m = -1 by simp [cmpI, this]]
          repeat' walk_at "ev"
        · intro h3
          simp only [decide_eq_false_iff_not, Int.toNat_natCast] at h3
          have : m < n := by rw [← hv, ← hv']; exact cmp_at hb hd' hd hpy hpx hdr.symm (by omega)
          rw [show cmpI n m = 1 by unfold cmpI; rw [if_neg (by omega), if_pos this]]
          repeat' walk_at "ev"
      · intro h2
        simp only [decide_eq_false_iff_not, Int.toNat_natCast, Decidable.not_not] at h2
        apply Exs_nil
        apply Exs_nil
        refine ⟨_, ?le, by omega, ?_, rfl⟩
        case le => walk_at "le"
        have e3 : xs.length - (i + 1) = p := by omega
        rw [e3, drop_eq_cons hpx, drop_eq_cons hpy, hdr]
        rw [h2]
    · rintro σ ⟨_, hdr, rfl⟩
      rw [Nat.sub_self, List.drop_zero, List.drop_zero] at hdr
      have : n = m := by rw [← hv, ← hv', hdr]
      apply Exs_cons
      apply Ex_return (a := .int (cmpI n m))
      · rw [show cmpI n m = 0 by simp [cmpI, this]]
        repeat' walk_at "ev"
      · rfl
end
section
set_option maxHeartbeats 8000000


theorem mulok_small {x y : Int} (h0 : 0 ≤ x) (h : x ≤ 1000000) : IntMulOk x y := IntMulOk.of_left (intBits_le_64 (by omega) (by omega))
theorem B2_le {w : Nat} (h : w ≤ 8) : B2 w ≤ 256 := Nat.pow_le_pow_right (show 0 < 2 by decide) h

theorem fn_mul_limb {g : Gl} (hK : g.Is) (w : Nat) (hw : 1 ≤ w) (hw' : w ≤ 8) (n l : Int) (h0 : 0 ≤ n) (hl : 0 < l) (hlb : l < B2 w) (hsz : (lm (B2 w) n).length ≤ 1000) :
    FnV g 121 1 [row w n, .int l, .int w] (row w (n * l)) := by
  refine fn_of ["a", "limb", "w"] (by rw [hK]; exact rfl) (by rw [hK]; exact rfl) ?_ rfl (by decide) (by decide) rfl rfl rfl (by decide) ?_
  · intro vs h
    match vs, h with
    | [v0, v1, v2], _ => rfl
  intro c L ok he
  obtain ⟨A, env, h₀, A₀, base, outer⟩ := c
  dsimp only at he
  subst he
  have hb := B2_ge hw
  have hb' := B2_le hw'
  have hd := dig_lm hb n
  have hv := val_lm hb h0
  have hge := lm_ge' hb h0
  dsimp only [row]
  generalize hxs : lm (B2 w) n = xs at *
  apply Exs_cons
  apply Ex_if (r := decide (l = 0))
  · repeat' walk_at "ev"
  · intro h; simp at h; omega
  intro _
  apply Exs_nil
  apply Exs_cons
  apply Ex_tup_swap (l := [("mask", .val (.int (Mk w))), ("carry", .val (.int 0)), ("found", .own [])]) (is := [.own [], .val (.int 0), .val (.int (Mk w))]) ok
  · repeat' walk_at "ev"
    · decide
    · omega
    · omega
    · exact one_ok
  · exact ⟨.inl ⟨rfl, rfl⟩, .inl ⟨rfl, rfl⟩, .inl ⟨rfl, rfl⟩, trivial⟩
  · decide
  apply Exs_cons
  apply WpS.le (σ' := ⟨[("carry", .int 0), ("a", aints xs), ("mask", .int (Mk w)), ("w", .int w), ("limb", .int l)], [("found", some [])]⟩) (by walk_at "le")
  refine Ex_for_list (xs := xs.map .int) (fun i σ => ∃ (F : List Int) (c : Int), F.length = i ∧ Dig (B2 w) F ∧ 0 ≤ c ∧ c < B2 w ∧ val (B2 w) F + (B2 w : Int) ^ i * c = val (B2 w) (xs.take i) * l ∧
    σ = ⟨[("carry", .int c), ("a", aints xs), ("mask", .int (Mk w)), ("w", .int w), ("limb", .int l)], [("found", some (F.map .int))]⟩) ok ?_ rfl ⟨[], 0, rfl, dig_nil, by omega, by omega, by simp [val], rfl⟩ ?_ ?_
  · repeat' walk_at "ev"
  · rintro i σ a hx ⟨F, c, hF, hdF, hc0, hcb, hinv, rfl⟩
    obtain ⟨hi, rfl⟩ := getElem_intmap hx
    obtain ⟨hx0, hxb⟩ := dig_getD hd (by omega) i
    have hts := val_take_succ (b := B2 w) hi
    generalize xs.getD i 0 = x at *
    refine ⟨rfl, ?_⟩
    have hxl0 : 0 ≤ x * l := Int.mul_nonneg hx0 (by omega)
    have hxl : x * l ≤ (B2 w - 1) * (B2 w - 1) := Int.mul_le_mul (by omega) (by omega) (by omega) (by omega)
    have hxl2 : ((B2 w : Int) - 1) * (B2 w - 1) = B2 w * B2 w - 2 * B2 w + 1 := by grind
    apply Exs_cons
    apply Ex_aug (a := .int c) (b := .int (x * l)) (r := .int (c + x * l)) ok
    any_goals (repeat' walk_at "ev")
    · exact mulok_small hx0 (by omega)
    apply Exs_cons
    apply Ex_append (pre := []) (post := []) ok rfl
    any_goals (repeat' walk_at "ev")
    · simp [line16]; omega
    apply Exs_cons
    apply Ex_aug (a := .int (c + x * l)) (b := .int w) (r := .int ((c + x * l) / 2 ^ (w : Int).toNat)) ok
    any_goals (repeat' walk_at "ev")
    · omega
    apply Exs_nil
    refine ⟨_, ?le, F ++ [Builtin.bitAnd (c + x * l) (Mk w)], (c + x * l) / 2 ^ (w : Int).toNat, ?_, ?_, ?_, ?_, ?_, rfl⟩
    case le => walk_at "le"
    · simp [hF]
    · rw [mask_eq]
      exact dig_snoc hdF (Int.emod_nonneg _ (by omega)) (Int.emod_lt_of_pos _ (by omega))
    · rw [shr_eq]; exact Int.ediv_nonneg (by omega) (by omega)
    · rw [shr_eq]; exact Int.ediv_lt_of_lt_mul (by omega) (by omega)
    · rw [mask_eq, shr_eq]
      refine carry_step hb hF ?_
      rw [hts, Int.mul_add, ← Int.add_assoc, hinv, Int.add_mul, Int.mul_assoc]
  · rintro σ ⟨F, c, hF, hdF, hc0, hcb, hinv, rfl⟩
    simp only [List.length_map] at hF hinv
    rw [List.take_length, hv, ← hF] at hinv
    have hend := carry_end hb hdF hc0 hcb hinv (by
      rcases hge with h | h
      · left; rw [h] at hF; exact List.length_eq_zero_iff.mp hF
      · right; rw [hF]
        have : n * 1 ≤ n * l := Int.mul_le_mul_of_nonneg_left (by omega) h0
        omega)
    exact tail_carry (v := "carry") (cc := c) (F := F) ok rfl rfl (by decide) rfl rfl hc0 (by omega) hend.1 hend.2 rfl rfl

theorem fn_add {g : Gl} (hK : g.Is) (w : Nat) (hw : 1 ≤ w) (hw' : w ≤ 8) (n m : Int) (h0 : 0 ≤ n) (h0' : 0 ≤ m) (hsz : (lm (B2 w) n).length ≤ 1000) (hsz' : (lm (B2 w) m).length ≤ 1000) :
    FnV g 86 1 [row w n, row w m, .int w] (row w (n + m)) := by
  refine fn_of ["a", "b", "w"] (by rw [hK]; exact rfl) (by rw [hK]; exact rfl) ?_ rfl (by decide) (by decide) rfl rfl rfl (by decide) ?_
  · intro vs h
    match vs, h with
    | [v0, v1, v2], _ => rfl
  intro c L ok he
  obtain ⟨A, env, h₀, A₀, base, outer⟩ := c
  dsimp only at he
  subst he
  have hb := B2_ge hw
  have hd := dig_lm hb n
  have hv := val_lm hb h0
  have hge := lm_ge' hb h0
  have hd' := dig_lm hb m
  have hv' := val_lm hb h0'
  have hge' := lm_ge' hb h0'
  dsimp only [row]
  generalize hxs : lm (B2 w) n = xs at *
  generalize hys : lm (B2 w) m = ys at *
  obtain ⟨X, Y, hXY, dX, dY, lX, hYX, hV, hG⟩ : ∃ X Y : List Int, (X = (if xs.length < ys.length then ys else xs) ∧ Y = (if xs.length < ys.length then xs else ys)) ∧ Dig (B2 w) X ∧ Dig (B2 w) Y ∧ X.length ≤ 1000 ∧ Y.length ≤ X.length ∧
      val (B2 w) X + val (B2 w) Y = n + m ∧ (X = [] ∨ (B2 w : Int) ^ (X.length - 1) ≤ n + m) := by
    refine ⟨_, _, ⟨rfl, rfl⟩, ?_⟩
    by_cases h : xs.length < ys.length
    · rw [if_pos h, if_pos h]
      exact ⟨hd', hd, by omega, by omega, by omega, hge'.imp id fun q => by omega⟩
    · rw [if_neg h, if_neg h]
      exact ⟨hd, hd', by omega, by omega, by omega, hge.imp id fun q => by omega⟩
  apply Exs_seq ⟨[("a", aints X), ("b", aints Y), ("w", .int w)], []⟩
  · apply Ex_if (r := decide (((xs.map AV.int).length : Int) < ((ys.map AV.int).length : Int)))
    · repeat' walk_at "ev"
      · simp; omega
      · simp; omega
    · intro h
      simp at h
      rw [if_pos h, if_pos h] at hXY
      obtain ⟨rfl, rfl⟩ := hXY
      apply Exs_cons
      apply Ex_tup_swap (l := [("b", .val (aints Y)), ("a", .val (aints X))]) (is := [.val (aints X), .val (aints Y)]) ok
      · repeat' walk_at "ev"
      · exact ⟨.inl ⟨rfl, rfl⟩, .inl ⟨rfl, rfl⟩, trivial⟩
      · decide
      · apply Exs_nil
        exact ⟨rfl, by walk_at "le"⟩
    · intro h
      simp at h
      rw [if_neg (by omega), if_neg (by omega)] at hXY
      obtain ⟨rfl, rfl⟩ := hXY
      apply Exs_nil
      exact ⟨rfl, by walk_at "le"⟩
  clear hXY
  apply Exs_cons
  apply Ex_tup_swap (l := [("mask", .val (.int (Mk w))), ("carry", .val (.int 0)), ("found", .own [])]) (is := [.own [], .val (.int 0), .val (.int (Mk w))]) ok
  · repeat' walk_at "ev"
    · decide
    · omega
    · omega
    · exact one_ok
  · exact ⟨.inl ⟨rfl, rfl⟩, .inl ⟨rfl, rfl⟩, .inl ⟨rfl, rfl⟩, trivial⟩
  · decide
  apply Exs_cons
  apply WpS.le (σ' := ⟨[("carry", .int 0), ("a", aints X), ("b", aints Y), ("mask", .int (Mk w)), ("w", .int w)], [("found", some [])]⟩) (by walk_at "le")
  refine Ex_for_range (a := 0) (b := ((Y.map AV.int).length : Int)) (d := 1) (n := Y.length) (fun i σ => ∃ (F : List Int) (c : Int), F.length = i ∧ Dig (B2 w) F ∧ 0 ≤ c ∧ c ≤ 1 ∧ val (B2 w) F + (B2 w : Int) ^ i * c = val (B2 w) (X.take i) + val (B2 w) (Y.take i) ∧
    σ = ⟨[("carry", .int c), ("a", aints X), ("b", aints Y), ("mask", .int (Mk w)), ("w", .int w)], [("found", some (F.map .int))]⟩) ok ?_ ?_ ?_ rfl ⟨[], 0, rfl, dig_nil, by omega, by omega, by simp [val], rfl⟩ ?_ ?_
  · repeat' walk_at "ev"
    simp; omega
  · exact range_small_up (by omega) (by omega) (by omega) (by simp; omega)
  · exact range_size_up (by simp)
  · rintro i σ hi ⟨F, c, hF, hdF, hc0, hcb, hinv, rfl⟩
    refine ⟨rfl, ?_⟩
    rw [show (0 : Int) + (i : Int) * 1 = i by omega]
    obtain ⟨hx0, hxb⟩ := dig_getD dX (by omega) i
    obtain ⟨hy0, hyb⟩ := dig_getD dY (by omega) i
    have hts := val_take_succ (b := B2 w) (show i < X.length by omega)
    have hts' := val_take_succ (b := B2 w) hi
    apply Exs_cons
    apply Ex_aug (a := .int c) (b := .int (X.getD (i : Int).toNat 0 + Y.getD (i : Int).toNat 0)) (r := .int (c + (X.getD (i : Int).toNat 0 + Y.getD (i : Int).toNat 0))) ok
    any_goals (repeat' walk_at "ev")
    any_goals omega
    rw [Int.toNat_natCast]
    generalize X.getD i 0 = x at *
    generalize Y.getD i 0 = y at *
    apply Exs_cons
    apply Ex_append (pre := []) (post := []) ok rfl
    any_goals (repeat' walk_at "ev")
    · simp [line16]; omega
    apply Exs_cons
    apply Ex_aug (a := .int (c + (x + y))) (b := .int w) (r := .int ((c + (x + y)) / 2 ^ (w : Int).toNat)) ok
    any_goals (repeat' walk_at "ev")
    · omega
    apply Exs_nil
    refine ⟨_, ?le, F ++ [Builtin.bitAnd (c + (x + y)) (Mk w)], (c + (x + y)) / 2 ^ (w : Int).toNat, ?_, ?_, ?_, ?_, ?_, rfl⟩
    case le => walk_at "le"
    · simp [hF]
    · rw [mask_eq]
      exact dig_snoc hdF (Int.emod_nonneg _ (by omega)) (Int.emod_lt_of_pos _ (by omega))
    · rw [shr_eq]; exact Int.ediv_nonneg (by omega) (by omega)
    · rw [shr_eq]
      have : (c + (x + y)) / (B2 w : Int) < 2 := Int.ediv_lt_of_lt_mul (by omega) (by omega)
      omega
    · rw [mask_eq, shr_eq]
      refine carry_step hb hF ?_
      rw [hts, hts', Int.mul_add, ← Int.add_assoc, hinv, Int.mul_add]; omega
  · rintro σ ⟨F, c, hF, hdF, hc0, hcb, hinv, rfl⟩
    rw [List.take_of_length_le (Nat.le_refl Y.length)] at hinv
    apply Exs_cons
    refine Ex_for_range (a := ((Y.map AV.int).length : Int)) (b := ((X.map AV.int).length : Int)) (d := 1) (n := X.length - Y.length) (fun i σ => ∃ (F : List Int) (c : Int), F.length = Y.length + i ∧ Dig (B2 w) F ∧ 0 ≤ c ∧ c ≤ 1 ∧ val (B2 w) F + (B2 w : Int) ^ (Y.length + i) * c = val (B2 w) (X.take (Y.length + i)) + val (B2 w) Y ∧
      σ = ⟨[("carry", .int c), ("a", aints X), ("b", aints Y), ("mask", .int (Mk w)), ("w", .int w)], [("found", some (F.map .int))]⟩) ok ?_ ?_ ?_ rfl ⟨F, c, hF, hdF, hc0, hcb, hinv, rfl⟩ ?_ ?_
    · repeat' walk_at "ev"
      · simp; omega
      · simp; omega
    · exact range_small_up (by omega) (by simp; omega) (by omega) (by simp; omega)
    · exact range_size_up (by simp; omega)
    · clear hF hdF hc0 hcb hinv F c
      rintro i σ hi ⟨F, c, hF, hdF, hc0, hcb, hinv, rfl⟩
      refine ⟨rfl, ?_⟩
      rw [show ((Y.map AV.int).length : Int) + (i : Int) * 1 = ((Y.length + i : Nat) : Int) by simp]
      have hj : Y.length + i < X.length := by omega
      generalize hjj : Y.length + i = j at *
      obtain ⟨hx0, hxb⟩ := dig_getD dX (by omega) j
      have hts := val_take_succ (b := B2 w) hj
      apply Exs_cons
      apply Ex_aug (a := .int c) (b := .int (X.getD (j : Int).toNat 0)) (r := .int (c + X.getD (j : Int).toNat 0)) ok
      any_goals (repeat' walk_at "ev")
      any_goals omega
      rw [Int.toNat_natCast]
      generalize X.getD j 0 = x at *
      apply Exs_cons
      apply Ex_append (pre := []) (post := []) ok rfl
      any_goals (repeat' walk_at "ev")
      · simp [line16]; omega
      apply Exs_cons
      apply Ex_aug (a := .int (c + x)) (b := .int w) (r := .int ((c + x) / 2 ^ (w : Int).toNat)) ok
      any_goals (repeat' walk_at "ev")
      · omega
      apply Exs_nil
      refine ⟨_, ?le, F ++ [Builtin.bitAnd (c + x) (Mk w)], (c + x) / 2 ^ (w : Int).toNat, ?_, ?_, ?_, ?_, ?_, rfl⟩
      case le => walk_at "le"
      · simp [hF]; omega
      · rw [mask_eq]
        exact dig_snoc hdF (Int.emod_nonneg _ (by omega)) (Int.emod_lt_of_pos _ (by omega))
      · rw [shr_eq]; exact Int.ediv_nonneg (by omega) (by omega)
      · rw [shr_eq]
        have : (c + x) / (B2 w : Int) < 2 := Int.ediv_lt_of_lt_mul (by omega) (by omega)
        omega
      · rw [mask_eq, shr_eq, show Y.length + (i + 1) = j + 1 by omega]
        refine carry_step hb hF ?_
        rw [hts, Int.mul_add, ← Int.add_assoc, hinv]; omega
    · clear hF hdF hc0 hcb hinv F c
      rintro σ ⟨F, c, hF, hdF, hc0, hcb, hinv, rfl⟩
      rw [show Y.length + (X.length - Y.length) = X.length by omega] at hF hinv
      rw [List.take_length, hV, ← hF] at hinv
      have hend := carry_end hb hdF hc0 (by omega) hinv (hG.imp (fun h => by rw [h] at hF; exact List.length_eq_zero_iff.mp hF) fun h => by rw [hF]; exact h)
      exact tail_carry (v := "carry") (cc := c) (F := F) ok rfl rfl (by decide) rfl rfl hc0 (by omega) hend.1 hend.2 rfl rfl
end
section
set_option maxHeartbeats 8000000


theorem fn_sub {g : Gl} (hK : g.Is) (w : Nat) (hw : 1 ≤ w) (hw' : w ≤ 8) (n m : Int) (h0 : m ≤ n) (h0' : 0 ≤ m) (hsz : (lm (B2 w) n).length ≤ 1000) :
    FnV g 93 2 [row w n, row w m, .int w] (row w (n - m)) := by
  refine fn_of ["a", "b", "w"] (by rw [hK]; exact rfl) (by rw [hK]; exact rfl) ?_ rfl (by decide) (by decide) rfl rfl rfl (by decide) ?_
  · intro vs h
    match vs, h with
    | [v0, v1, v2], _ => rfl
  intro c L ok he
  obtain ⟨A, env, h₀, A₀, base, outer⟩ := c
  dsimp only at he
  subst he
  have hb := B2_ge hw
  have hd := dig_lm hb n
  have hv := val_lm hb (show 0 ≤ n by omega)
  have hd' := dig_lm hb m
  have hv' := val_lm hb h0'
  have hlen := len_le_of_le hb h0' h0
  apply Exs_cons
  apply Ex_if (r := decide (cmpI n m < 0))
  · apply EvB_cmp (a := .int (cmpI n m)) (b := .int 0)
    · refine Ev_call ok (fn_compare hK w hw n m (by omega) h0' hsz (by omega)) (ns79 hK).1 (ns79 hK).2 ?_ rfl
      repeat' walk_at "ev"
    · repeat' walk_at "ev"
    · repeat' walk_at "ev"
  · intro h; simp only [decide_eq_true_eq] at h; unfold cmpI at h; split at h
    · omega
    · split at h <;> omega
  intro _
  apply Exs_nil
  dsimp only [row]
  generalize lm (B2 w) n = xs at *
  generalize lm (B2 w) m = ys at *
  apply Exs_cons
  apply Ex_tup_swap (l := [("base", .val (.int (1 * 2 ^ (w : Int).toNat))), ("borrow", .val (.int 0)), ("found", .own [])]) (is := [.own [], .val (.int 0), .val (.int (1 * 2 ^ (w : Int).toNat))]) ok
  · repeat' walk_at "ev"
    · decide
    · omega
    · omega
    · exact one_ok
  · exact ⟨.inl ⟨rfl, rfl⟩, .inl ⟨rfl, rfl⟩, .inl ⟨rfl, rfl⟩, trivial⟩
  · decide
  apply Exs_cons
  apply WpS.le (σ' := ⟨[("borrow", .int 0), ("a", aints xs), ("b", aints ys), ("base", .int (1 * 2 ^ (w : Int).toNat))], [("found", some [])]⟩) (by walk_at "le")
  have hbase : (1 * 2 ^ (w : Int).toNat : Int) = (B2 w : Int) := by rw [Int.toNat_natCast, Int.one_mul, B2_cast]
  rw [hbase]
  refine Ex_for_range (a := 0) (b := ((xs.map AV.int).length : Int)) (d := 1) (n := xs.length) (fun i σ => ∃ (F : List Int) (br : Int), F.length = i ∧ Dig (B2 w) F ∧ 0 ≤ br ∧ br ≤ 1 ∧ val (B2 w) F - (B2 w : Int) ^ i * br = val (B2 w) (xs.take i) - val (B2 w) (ys.take i) ∧
    σ = ⟨[("borrow", .int br), ("a", aints xs), ("b", aints ys), ("base", .int (B2 w))], [("found", some (F.map .int))]⟩) ok ?_ ?_ ?_ rfl ⟨[], 0, rfl, dig_nil, by omega, by omega, by simp [val], rfl⟩ ?_ ?_
  · repeat' walk_at "ev"
    simp; omega
  · exact range_small_up (by omega) (by omega) (by omega) (by simp; omega)
  · exact range_size_up (by simp)
  · rintro i σ hi ⟨F, br, hF, hdF, hc0, hcb, hinv, rfl⟩
    refine ⟨rfl, ?_⟩
    rw [show (0 : Int) + (i : Int) * 1 = i by omega]
    obtain ⟨hx0, hxb⟩ := dig_getD hd (by omega) i
    obtain ⟨hy0, hyb⟩ := dig_getD hd' (by omega) i
    have hts := val_take_succ' (b := B2 w) xs i
    have hts' := val_take_succ' (b := B2 w) ys i
    apply Exs_cons
    apply Ex_assign (a := .int (xs.getD (i : Int).toNat 0 - br - ys.getD (i : Int).toNat 0)) ok
    · apply Ev_bin (a := .int (xs.getD (i : Int).toNat 0 - br)) (b := .int (ys.getD (i : Int).toNat 0))
      · repeat' walk_at "ev"
        all_goals omega
      · refine Ev_if (r := decide ((i : Int) < ((ys.map AV.int).length : Int))) ?_ ?_ ?_
        · repeat' walk_at "ev"
          simp; omega
        · intro h
          simp at h
          repeat' walk_at "ev"
          all_goals omega
        · intro h
          simp at h
          rw [Int.toNat_natCast, getD_ge (by omega)]
          repeat' walk_at "ev"
      · repeat' walk_at "ev"
    · rfl
    · rfl
    rw [Int.toNat_natCast]
    generalize xs.getD i 0 = x at *
    generalize ys.getD i 0 = y at *
    generalize hlimb : x - br - y = l at *
    apply Exs_cons
    apply Ex_assign (a := .int (if l < 0 then 1 else 0)) ok
    · refine Ev_if (r := decide (l < 0)) ?_ ?_ ?_
      · repeat' walk_at "ev"
      · intro h; simp only [decide_eq_true_eq] at h; rw [if_pos h]; repeat' walk_at "ev"
      · intro h; simp only [decide_eq_false_iff_not] at h; rw [if_neg h]; repeat' walk_at "ev"
    · rfl
    · rfl
    generalize hbr2 : (if l < 0 then (1 : Int) else 0) = br2 at *
    apply Exs_cons
    apply Ex_append (a := .int (if l < 0 then l + B2 w else l)) (pre := []) (post := []) ok rfl
    · exact Or.inl rfl
    · refine Ev_if (r := decide (l < 0)) ?_ ?_ ?_
      · repeat' walk_at "ev"
      · intro h; simp only [decide_eq_true_eq] at h; rw [if_pos h]; repeat' walk_at "ev"
      · intro h; simp only [decide_eq_false_iff_not] at h; rw [if_neg h]; repeat' walk_at "ev"
    · simp [line16]; omega
    apply Exs_nil
    refine ⟨_, ?le, F ++ [if l < 0 then l + B2 w else l], br2, ?_, ?_, ?_, ?_, ?_, rfl⟩
    case le => walk_at "le"
    · simp [hF]
    · exact dig_snoc hdF (by split <;> omega) (by split <;> omega)
    · subst hbr2; split <;> omega
    · subst hbr2; split <;> omega
    · rw [hts, hts']
      have := borrow_step (b := B2 w) (F := F) (br := br) (br' := br2) (d := if l < 0 then l + B2 w else l) (x := x) (y := y) hF hinv (by
        subst hbr2
        by_cases h : l < 0
        · rw [if_pos h, if_pos h]; omega
        · rw [if_neg h, if_neg h]; omega)
      rw [this]; omega
  · rintro σ ⟨F, br, hF, hdF, hc0, hcb, hinv, rfl⟩
    rw [List.take_length, List.take_of_length_le hlen, hv, hv'] at hinv
    have h1 := val_lt hdF
    have h2 := pow_pos hb xs.length
    have hbr : br = 0 := by
      rcases (show br = 0 ∨ br = 1 by omega) with h | h
      · exact h
      · subst h; rw [hF] at h1; omega
    subst hbr
    rw [Int.mul_zero, Int.sub_zero] at hinv
    have hres : normalF F = lm (B2 w) (n - m) := normalF_lm hb hdF hinv
    apply Exs_cons
    apply WpS.freeze (pre := []) (post := []) rfl
    apply Ex_return (a := aints (normalF F))
    · refine Ev_call ok (fn_normal hK F (by omega)) (ns58 hK).1 (ns58 hK).2 ?_ rfl
      repeat' walk_at "ev"
    · show Out.ret _ = Out.ret _
      rw [hres]

theorem lm_one {b : Nat} (hb : 2 ≤ b) {l : Int} (h : 0 < l) (hlt : l < b) : lm b l = [l] := by
  rw [lm_pos hb h, Int.emod_eq_of_lt (by omega) hlt, Int.ediv_eq_zero_of_lt (by omega) hlt, lm_zero]

theorem fn_sub_limb {g : Gl} (hK : g.Is) (w : Nat) (hw : 1 ≤ w) (hw' : w ≤ 8) (n l : Int) (h0 : l ≤ n) (hl : 0 < l) (hlb : l < B2 w) (hsz : (lm (B2 w) n).length ≤ 1000) :
    FnV g 107 3 [row w n, .int l, .int w] (row w (n - l)) := by
  refine fn_of ["a", "limb", "w"] (by rw [hK]; exact rfl) (by rw [hK]; exact rfl) ?_ rfl (by decide) (by decide) rfl rfl rfl (by decide) ?_
  · intro vs h
    match vs, h with
    | [v0, v1, v2], _ => rfl
  intro c L ok he
  obtain ⟨A, env, h₀, A₀, base, outer⟩ := c
  dsimp only at he
  subst he
  have hb := B2_ge hw
  apply Exs_cons
  apply Ex_return (a := row w (n - l))
  · refine Ev_call ok (fn_sub hK w hw hw' n l h0 (by omega) hsz) (ns93 hK).1 (ns93 hK).2 ?_ rfl
    apply EvV_cons
    · repeat' walk_at "ev"
    · apply EvV_cons
      · refine Ev_if (r := decide (0 < l)) ?_ ?_ ?_
        · repeat' walk_at "ev"
        · intro _
          dsimp only [row]
          rw [lm_one hb hl hlb]
          apply Ev_ofF
          apply EvF_list (as := [.int l])
          · repeat' walk_at "ev"
          · simp [line16]
        · intro h; simp at h; omega
      · repeat' walk_at "ev"
      · rfl
    · rfl
  · rfl
end
section
set_option maxHeartbeats 8000000


theorem set_rep {p : Nat} {q : Int} {D : List Int} : (List.replicate (p + 1) (0 : Int) ++ D).set p q = List.replicate p 0 ++ q :: D := by
  rw [List.replicate_succ', List.append_assoc, List.set_append_right _ _ (by simp)]
  simp
theorem div_step {b : Nat} {D x r l T : Int} (h : D * l + r = T) : (D * b + (r * b + x) / l) * l + (r * b + x) % l = T * b + x := by
  have := Int.mul_ediv_add_emod (r * b + x) l
  generalize (r * (b : Int) + x) / l = q at *
  generalize (r * (b : Int) + x) % l = m at *
  subst h
  grind

theorem fn_divrem {g : Gl} (hK : g.Is) (w : Nat) (hw : 1 ≤ w) (hw' : w ≤ 8) (n l : Int) (h0 : 0 ≤ n) (hl : 0 < l) (hlb : l < B2 w) (hsz : (lm (B2 w) n).length ≤ 1000) :
    FnV g 135 2 [row w n, .int l, .int w] (.tup [row w (n / l), .int (n % l)]) := by
  refine fn_of ["a", "limb", "w"] (by rw [hK]; exact rfl) (by rw [hK]; exact rfl) ?_ rfl (by decide) (by decide) rfl rfl rfl (by decide) ?_
  · intro vs h
    match vs, h with
    | [v0, v1, v2], _ => rfl
  intro c L ok he
  obtain ⟨A, env, h₀, A₀, base, outer⟩ := c
  dsimp only at he
  subst he
  have hb := B2_ge hw
  have hb' := B2_le8 hw'
  have hd := dig_lm hb n
  have hv := val_lm hb h0
  dsimp only [row]
  generalize lm (B2 w) n = xs at *
  apply Exs_cons
  apply Ex_if (r := decide (l = 0))
  · repeat' walk_at "ev"
  · intro h; simp at h; omega
  intro _
  apply Exs_nil
  apply Exs_cons
  apply Ex_tup_swap (l := [("rest", .val (.int 0)), ("found", .own (List.replicate ((xs.map AV.int).length : Int).toNat (.int 0)))]) (is := [.own (List.replicate ((xs.map AV.int).length : Int).toNat (.int 0)), .val (.int 0)]) ok
  · apply EvL_own
    · apply EvF_mul
      · repeat' walk_at "ev"
      · repeat' walk_at "ev"
        simp; omega
      · omega
      · simp; omega
    · repeat' walk_at "ev"
    · rfl
  · exact ⟨.inl ⟨rfl, rfl⟩, .inl ⟨rfl, rfl⟩, trivial⟩
  · decide
  apply Exs_cons
  apply WpS.le (σ' := ⟨[("rest", .int 0), ("a", aints xs), ("limb", .int l), ("w", .int w)], [("found", some ((List.replicate xs.length (0 : Int) ++ []).map .int))]⟩) (by
    refine le_cons rfl (le_cons rfl (le_cons rfl (le_cons rfl (le_nil ?_))))
    simp [storeAll])
  refine Ex_for_range (a := ((xs.map AV.int).length : Int) - 1) (b := -1) (d := -1) (n := xs.length) (fun i σ => ∃ (D : List Int) (r : Int), D.length = i ∧ i ≤ xs.length ∧ Dig (B2 w) D ∧ 0 ≤ r ∧ r < l ∧ val (B2 w) D * l + r = val (B2 w) (xs.drop (xs.length - i)) ∧
    σ = ⟨[("rest", .int r), ("a", aints xs), ("limb", .int l), ("w", .int w)], [("found", some ((List.replicate (xs.length - i) (0 : Int) ++ D).map .int))]⟩) ok ?_ ?_ ?_ rfl ⟨[], 0, rfl, by omega, dig_nil, by omega, by omega, by simp [val], rfl⟩ ?_ ?_
  · repeat' walk_at "ev"
    simp; omega
  · rw [List.length_map]; exact range_small_down (by omega)
  · rw [List.length_map]; exact range_size_down _
  · rintro i σ hi ⟨D, r, hD, _, hdD, hr0, hrl, hinv, rfl⟩
    refine ⟨rfl, ?_⟩
    rw [List.length_map]
    have hp : ((xs.length : Int) - 1 + (i : Int) * -1) = ((xs.length - 1 - i : Nat) : Int) := by omega
    rw [hp]
    have hp1 : xs.length - i = (xs.length - 1 - i) + 1 := by omega
    rw [hp1] at hinv ⊢
    generalize hpp : xs.length - 1 - i = p at *
    have hpx : p < xs.length := by omega
    obtain ⟨hx0, hxb⟩ := dig_getD hd (by omega) p
    have hdc := drop_eq_cons hpx
    have hor : Builtin.bitOr (r * 2 ^ (w : Int).toNat) (xs.getD (p : Int).toNat 0) = r * (B2 w : Int) + xs.getD p 0 := by
      rw [Int.toNat_natCast, Int.toNat_natCast, bitOr_disj w _ _ hx0 (by rw [← B2_cast]; exact hxb), B2_cast]
    apply Exs_cons
    apply Ex_assign (a := .int (r * (B2 w : Int) + xs.getD p 0)) ok
    · rw [← hor]
      repeat' walk_at "ev"
      all_goals omega
    · rfl
    · rfl
    generalize xs.getD p 0 = x at *
    have hrb : r * (B2 w : Int) ≤ (l - 1) * B2 w := Int.mul_le_mul_of_nonneg_right (by omega) (by omega)
    have hlb2 : (l - 1) * (B2 w : Int) = l * B2 w - B2 w := by grind
    have hr00 : 0 ≤ r * (B2 w : Int) := Int.mul_nonneg hr0 (by omega)
    have hq0 : 0 ≤ (r * (B2 w : Int) + x) / l := Int.ediv_nonneg (by omega) (by omega)
    have hqb : (r * (B2 w : Int) + x) / l < B2 w := Int.ediv_lt_of_lt_mul (by omega) (by rw [Int.mul_comm (B2 w : Int)]; omega)
    have hstep := div_step (b := B2 w) (x := x) hinv
    have hm0 : 0 ≤ (r * (B2 w : Int) + x) % l := Int.emod_nonneg _ (by omega)
    have hml : (r * (B2 w : Int) + x) % l < l := Int.emod_lt_of_pos _ (by omega)
    generalize r * (B2 w : Int) + x = y at *
    apply Exs_cons
    apply Ex_setitem (a := .int (y / l)) (n := (p : Int)) (pre := []) (post := []) ok rfl
    · exact Or.inl rfl
    · repeat' walk_at "ev"
      · exact hl
      · exact log2_small (by omega)
    · repeat' walk_at "ev"
    · omega
    · simp; omega
    · simp; omega
    apply Exs_cons
    apply Ex_aug (a := .int y) (b := .int l) (r := .int (y % l)) ok
    any_goals (repeat' walk_at "ev")
    · exact hl
    apply Exs_nil
    refine ⟨⟨[("rest", .int (y % l)), ("a", aints xs), ("limb", .int l), ("w", .int w)], [("found", some ((List.replicate (xs.length - (i + 1)) (0 : Int) ++ (y / l) :: D).map .int))]⟩, ?le, (y / l) :: D, y % l, ?_, ?_, ?_, ?_, ?_, ?_, rfl⟩
    case le =>
      refine le_cons rfl (le_cons rfl (le_cons rfl (le_cons rfl (le_nil ?_))))
      have e1 : xs.length - (i + 1) = p := by omega
      rw [e1, ← set_rep]
      simp [List.map_set]
    · simp [hD]
    · omega
    · exact dig_of hq0 hqb hdD
    · exact hm0
    · exact hml
    · have e1 : xs.length - (i + 1) = p := by omega
      rw [e1, hdc, val, val]
      rw [show (y / l + (B2 w : Int) * val (B2 w) D) = val (B2 w) D * B2 w + y / l by rw [Int.mul_comm]; omega, hstep, Int.mul_comm (B2 w : Int)]
      omega
  · rintro σ ⟨D, r, hD, _, hdD, hr0, hrl, hinv, rfl⟩
    rw [Nat.sub_self, List.drop_zero, hv] at hinv
    rw [Nat.sub_self]
    simp only [List.replicate_zero, List.nil_append]
    have e1 : n / l = val (B2 w) D := by
      rw [← hinv, Int.add_comm, Int.add_mul_ediv_right _ _ (by omega), Int.ediv_eq_zero_of_lt hr0 hrl, Int.zero_add]
    have e2 : n % l = r := by
      rw [← hinv, Int.add_comm, Int.add_mul_emod_self_right, Int.emod_eq_of_lt hr0 hrl]
    rw [e1, e2, ← normalF_eq hb hdD]
    apply Exs_cons
    apply WpS.freeze (pre := []) (post := []) rfl
    apply Ex_return (a := .tup [aints (normalF D), .int r])
    · apply Ev_tuple
      · apply EvV_cons
        · refine Ev_call ok (fn_normal hK D (by omega)) (ns58 hK).1 (ns58 hK).2 ?_ rfl
          repeat' walk_at "ev"
        · repeat' walk_at "ev"
        · rfl
      · simp [line16]
    · rfl

theorem val_rep {b : Nat} : ∀ k, val b (List.replicate k 0) = 0
  | 0 => rfl
  | k + 1 => by rw [List.replicate_succ, val, val_rep k]; simp
theorem dig_rep {b : Nat} (hb : 2 ≤ b) (k : Nat) : Dig b (List.replicate k 0) := fun y hy => by rw [(List.mem_replicate.mp hy).2]; omega
theorem B2_pow {w s : Nat} : (B2 w : Int) ^ s = 2 ^ (w * s) := by rw [B2_cast, ← Int.pow_mul]
theorem shift_eq (w k : Nat) : (B2 w : Int) ^ (k / w) * 2 ^ (k % w) = 2 ^ k := by
  rw [B2_pow, ← Int.pow_add, Nat.div_add_mod]
theorem bitOr_disj' (k : Nat) (x y : Int) (h0 : 0 ≤ y) (h1 : y < 2 ^ k) : Builtin.bitOr y (x * 2 ^ k) = y + x * 2 ^ k := by
  have h2 := bitXor_and y (x * 2 ^ k)
  unfold Builtin.bitXor at h2
  have h3 := bitAnd_disj k x y h0 h1
  rw [bitAnd_comm] at h3
  omega

theorem fn_shift_left {g : Gl} (hK : g.Is) (w : Nat) (hw : 1 ≤ w) (hw' : w ≤ 8) (n : Int) (k : Nat) (h0 : 0 ≤ n) (hk : k ≤ 1000) (hsz : (lm (B2 w) n).length ≤ 1000) :
    FnV g 142 1 [row w n, .int k, .int w] (row w (n * 2 ^ k)) := by
  refine fn_of ["a", "n", "w"] (by rw [hK]; exact rfl) (by rw [hK]; exact rfl) ?_ rfl (by decide) (by decide) rfl rfl rfl (by decide) ?_
  · intro vs h
    match vs, h with
    | [v0, v1, v2], _ => rfl
  intro c L ok he
  obtain ⟨A, env, h₀, A₀, base, outer⟩ := c
  dsimp only at he
  subst he
  have hb := B2_ge hw
  have hb' := B2_le8 hw'
  have hd := dig_lm hb n
  have hv := val_lm hb h0
  have hge := lm_ge' hb h0
  dsimp only [row]
  apply Exs_cons
  apply Ex_if (r := decide (((List.map AV.int (lm (B2 w) n)).length : Int) = 0))
  · repeat' walk_at "ev"
    simp; omega
  · intro h
    simp at h
    have hn : n = 0 := by rw [h] at hv; exact hv.symm
    apply Exs_cons
    apply Ex_return (a := .list [])
    · apply Ev_ofF
      apply EvF_list
      · repeat' walk_at "ev"
      · simp [line16]
    · show Out.ret _ = Out.ret _
      rw [hn, Int.zero_mul, lm_zero]; rfl
  intro hne
  simp at hne
  apply Exs_nil
  generalize lm (B2 w) n = xs at *
  have hge' : (B2 w : Int) ^ (xs.length - 1) ≤ n := hge.resolve_left hne
  have hkw : ((k : Int) / (w : Int)) = ((k / w : Nat) : Int) := by simp
  have hkm : ((k : Int) % (w : Int)) = ((k % w : Nat) : Int) := by simp
  apply Exs_cons
  apply Ex_tup_swap (l := [("few", .val (.int ((k : Int) % (w : Int)))), ("spots", .val (.int ((k : Int) / (w : Int))))]) (is := [.val (.int ((k : Int) / (w : Int))), .val (.int ((k : Int) % (w : Int)))]) ok
  · repeat' walk_at "ev"
    · omega
    · exact log2_small (by omega)
    · omega
  · exact ⟨.inl ⟨rfl, rfl⟩, .inl ⟨rfl, rfl⟩, trivial⟩
  · decide
  have hkd : k / w ≤ 1000 := Nat.le_trans (Nat.div_le_self _ _) hk
  have hfew : k % w < w := Nat.mod_lt _ (by omega)
  rw [hkw, hkm]
  have hse := shift_eq w k
  generalize k / w = sp at *
  generalize k % w = fe at *
  apply Exs_cons
  apply Ex_tup_swap (l := [("mask", .val (.int (Mk w))), ("carry", .val (.int 0)), ("found", .own (List.replicate (sp : Int).toNat (.int 0)))]) (is := [.own (List.replicate (sp : Int).toNat (.int 0)), .val (.int 0), .val (.int (Mk w))]) ok
  · apply EvL_own
    · apply EvF_mul
      · repeat' walk_at "ev"
      · repeat' walk_at "ev"
      · omega
      · omega
    · repeat' walk_at "ev"
      · omega
      · omega
      · exact one_ok
    · rfl
  · exact ⟨.inl ⟨rfl, rfl⟩, .inl ⟨rfl, rfl⟩, .inl ⟨rfl, rfl⟩, trivial⟩
  · decide
  apply Exs_cons
  apply WpS.le (σ' := ⟨[("carry", .int 0), ("a", aints xs), ("mask", .int (Mk w)), ("w", .int w), ("few", .int fe)], [("found", some ((List.replicate sp (0 : Int)).map .int))]⟩) (by
    refine le_cons rfl (le_cons rfl (le_cons rfl (le_cons rfl (le_cons rfl (le_nil ?_)))))
    simp [storeAll])
  have hfeB : (2 : Int) ^ fe * 2 ≤ B2 w := by
    rw [← Int.pow_succ, B2_cast]
    have := Nat.pow_le_pow_right (show 0 < 2 by decide) (show fe + 1 ≤ w by omega)
    exact_mod_cast this
  have hfe0 : (0 : Int) < 2 ^ fe := Int.pow_pos (by decide)
  refine Ex_for_list (xs := xs.map .int) (fun i σ => ∃ (F : List Int) (c : Int), F.length = sp + i ∧ Dig (B2 w) F ∧ 0 ≤ c ∧ c < 2 ^ fe ∧ val (B2 w) F + (B2 w : Int) ^ (sp + i) * c = (B2 w : Int) ^ sp * (2 ^ fe * val (B2 w) (xs.take i)) ∧
    σ = ⟨[("carry", .int c), ("a", aints xs), ("mask", .int (Mk w)), ("w", .int w), ("few", .int fe)], [("found", some (F.map .int))]⟩) ok ?_ rfl ⟨List.replicate sp 0, 0, by simp, dig_rep hb _, by omega, hfe0, by simp [val, val_rep], rfl⟩ ?_ ?_
  · repeat' walk_at "ev"
  · rintro i σ a hx ⟨F, c, hF, hdF, hc0, hcb, hinv, rfl⟩
    obtain ⟨hi, rfl⟩ := getElem_intmap hx
    obtain ⟨hx0, hxb⟩ := dig_getD hd (by omega) i
    have hts := val_take_succ (b := B2 w) hi
    generalize xs.getD i 0 = x at *
    refine ⟨rfl, ?_⟩
    have hor : Builtin.bitOr c (x * 2 ^ (fe : Int).toNat) = c + x * 2 ^ fe := by
      rw [Int.toNat_natCast, bitOr_disj' fe x c hc0 hcb]
    have hxf0 : 0 ≤ x * 2 ^ fe := Int.mul_nonneg hx0 (by omega)
    have hxf : x * 2 ^ fe ≤ (B2 w - 1) * 2 ^ fe := Int.mul_le_mul_of_nonneg_right (by omega) (by omega)
    have hxf2 : ((B2 w : Int) - 1) * 2 ^ fe = 2 ^ fe * B2 w - 2 ^ fe := by grind
    apply Exs_cons
    apply Ex_aug (a := .int c) (b := .int (x * 2 ^ (fe : Int).toNat)) (r := .int (c + x * 2 ^ fe)) ok
    any_goals (rw [← hor])
    any_goals (repeat' walk_at "ev")
    any_goals omega
    rw [hor]
    have hlt2 : c + x * 2 ^ fe < 2 ^ fe * B2 w := by omega
    have hstep2 : val (B2 w) F + (B2 w : Int) ^ (sp + i) * (c + x * 2 ^ fe) = (B2 w : Int) ^ sp * (2 ^ fe * val (B2 w) (xs.take (i + 1))) := by
      rw [hts, Int.mul_add, ← Int.add_assoc, hinv, Int.pow_add]; grind
    have hcc : 0 ≤ c + x * 2 ^ fe := by omega
    generalize c + x * 2 ^ fe = y at *
    apply Exs_cons
    apply Ex_append (pre := []) (post := []) ok rfl
    any_goals (repeat' walk_at "ev")
    · simp [line16]; omega
    apply Exs_cons
    apply Ex_aug (a := .int y) (b := .int w) (r := .int (y / 2 ^ (w : Int).toNat)) ok
    any_goals (repeat' walk_at "ev")
    · omega
    apply Exs_nil
    refine ⟨_, ?le, F ++ [Builtin.bitAnd y (Mk w)], y / 2 ^ (w : Int).toNat, ?_, ?_, ?_, ?_, ?_, rfl⟩
    case le => walk_at "le"
    · simp [hF]; omega
    · rw [mask_eq]
      exact dig_snoc hdF (Int.emod_nonneg _ (by omega)) (Int.emod_lt_of_pos _ (by omega))
    · rw [shr_eq]; exact Int.ediv_nonneg (by omega) (by omega)
    · rw [shr_eq]; exact Int.ediv_lt_of_lt_mul (by omega) hlt2
    · rw [mask_eq, shr_eq, ← Nat.add_assoc]
      exact carry_step hb hF hstep2
  · rintro σ ⟨F, c, hF, hdF, hc0, hcb, hinv, rfl⟩
    simp only [List.length_map] at hF hinv
    rw [List.take_length, hv, ← Int.mul_assoc, hse, ← hF, Int.mul_comm (2 ^ k)] at hinv
    have hend := carry_end hb hdF hc0 (by omega) hinv (by
      right
      have hl1 : 0 < xs.length := List.length_pos_iff.mpr hne
      rw [hF, show sp + xs.length - 1 = sp + (xs.length - 1) by omega, Int.pow_add, ← hse, Int.mul_comm n]
      have h1 : (B2 w : Int) ^ sp * (B2 w : Int) ^ (xs.length - 1) ≤ (B2 w : Int) ^ sp * n := Int.mul_le_mul_of_nonneg_left hge' (Int.le_of_lt (pow_pos hb sp))
      have h2 : (B2 w : Int) ^ sp * n * 1 ≤ (B2 w : Int) ^ sp * n * 2 ^ fe := Int.mul_le_mul_of_nonneg_left (by omega) (Int.mul_nonneg (Int.le_of_lt (pow_pos hb sp)) h0)
      rw [Int.mul_assoc, Int.mul_comm (2 ^ fe), ← Int.mul_assoc]
      omega)
    exact tail_carry (v := "carry") (cc := c) (F := F) ok rfl rfl (by decide) rfl rfl hc0 (by omega) hend.1 hend.2 rfl rfl
end
section
set_option maxHeartbeats 8000000


theorem pow2_pos (k : Nat) : (0 : Int) < 2 ^ k := Int.pow_pos (by decide)
/-- n moved down, where its row ends below -/
theorem shr_zero {w : Nat} (hw : 1 ≤ w) {n : Int} {k : Nat} (h0 : 0 ≤ n) (h : (lm (B2 w) n).length ≤ k / w) : n < 2 ^ k := by
  have hb := B2_ge hw
  have h1 := lm_lt hb h0
  have h2 := pow_le hb h
  rw [← shift_eq' w k]
  have h3 : (B2 w : Int) ^ (k / w) * 1 ≤ (B2 w : Int) ^ (k / w) * 2 ^ (k % w) := Int.mul_le_mul_of_nonneg_left (by have := pow2_pos (k % w); omega) (Int.le_of_lt (pow_pos hb _))
  omega

theorem fn_shift_right {g : Gl} (hK : g.Is) (w : Nat) (hw : 1 ≤ w) (hw' : w ≤ 8) (n : Int) (k : Nat) (h0 : 0 ≤ n) (hk : k ≤ 1000) (hsz : (lm (B2 w) n).length ≤ 1000) :
    FnV g 149 2 [row w n, .int k, .int w] (row w (n / 2 ^ k)) := by
  refine fn_of ["a", "n", "w"] (by rw [hK]; exact rfl) (by rw [hK]; exact rfl) ?_ rfl (by decide) (by decide) rfl rfl rfl (by decide) ?_
  · intro vs h
    match vs, h with
    | [v0, v1, v2], _ => rfl
  intro c L ok he
  obtain ⟨A, env, h₀, A₀, base, outer⟩ := c
  dsimp only at he
  subst he
  have hb := B2_ge hw
  have hb' := B2_le8 hw'
  have hd := dig_lm hb n
  have hv := val_lm hb h0
  have hN0 : 0 ≤ n / 2 ^ k := Int.ediv_nonneg h0 (Int.le_of_lt (pow2_pos k))
  dsimp only [row]
  have hkw : ((k : Int) / (w : Int)) = ((k / w : Nat) : Int) := by simp
  have hkm : ((k : Int) % (w : Int)) = ((k % w : Nat) : Int) := by simp
  apply Exs_cons
  apply Ex_tup_swap (l := [("few", .val (.int ((k : Int) % (w : Int)))), ("spots", .val (.int ((k : Int) / (w : Int))))]) (is := [.val (.int ((k : Int) / (w : Int))), .val (.int ((k : Int) % (w : Int)))]) ok
  · repeat' walk_at "ev"
    · omega
    · exact log2_small (by omega)
    · omega
  · exact ⟨.inl ⟨rfl, rfl⟩, .inl ⟨rfl, rfl⟩, trivial⟩
  · decide
  have hkd : k / w ≤ 1000 := Nat.le_trans (Nat.div_le_self _ _) hk
  have hfew : k % w < w := Nat.mod_lt _ (by omega)
  rw [hkw, hkm]
  have hse := shift_eq' w k
  have hzero := shr_zero (k := k) hw h0
  have hlt := lm_lt hb h0
  generalize lm (B2 w) n = xs at *
  generalize k / w = sp at *
  generalize k % w = fe at *
  apply Exs_cons
  apply Ex_tup_swap (l := [("mask", .val (.int (Mk w))), ("found", .own [])]) (is := [.own [], .val (.int (Mk w))]) ok
  · repeat' walk_at "ev"
    · decide
    · omega
    · omega
    · exact one_ok
  · exact ⟨.inl ⟨rfl, rfl⟩, .inl ⟨rfl, rfl⟩, trivial⟩
  · decide
  apply Exs_cons
  apply WpS.le (σ' := ⟨[("a", aints xs), ("mask", .int (Mk w)), ("w", .int w), ("few", .int fe), ("spots", .int sp)], [("found", some [])]⟩) (by walk_at "le")
  refine Ex_for_range (a := (sp : Int)) (b := ((xs.map AV.int).length : Int)) (d := 1) (n := xs.length - sp) (fun i σ => ∃ F : List Int, F.length = i ∧ Dig (B2 w) F ∧ val (B2 w) F = n / 2 ^ k % (B2 w : Int) ^ i ∧
    σ = ⟨[("a", aints xs), ("mask", .int (Mk w)), ("w", .int w), ("few", .int fe), ("spots", .int sp)], [("found", some (F.map .int))]⟩) ok ?_ ?_ ?_ rfl ⟨[], rfl, dig_nil, by simp [val, Int.emod_one], rfl⟩ ?_ ?_
  · repeat' walk_at "ev"
    simp; omega
  · exact range_small_up (by omega) (by omega) (by omega) (by simp; omega)
  · rw [List.length_map]; exact range_size_sub _ _
  · rintro i σ hi ⟨F, hF, hdF, hinv, rfl⟩
    refine ⟨rfl, ?_⟩
    rw [show (sp : Int) + (i : Int) * 1 = ((sp + i : Nat) : Int) by simp]
    have hj : sp + i < xs.length := by omega
    have hx := val_getD hb hd (sp + i)
    have hy := val_getD hb hd (sp + i + 1)
    obtain ⟨hx0, hxb⟩ := dig_getD hd (by omega) (sp + i)
    obtain ⟨hy0, hyb⟩ := dig_getD hd (by omega) (sp + i + 1)
    rw [hv] at hx hy
    have hM : n / (B2 w : Int) ^ (sp + i + 1) = n / (B2 w : Int) ^ (sp + i) / B2 w := by
      rw [Int.pow_succ, ediv_mul' (pow_pos hb _) (by omega)]
    rw [hM] at hy
    have hlimb := shr_limb (show fe ≤ w by omega) (n / (B2 w : Int) ^ (sp + i))
    rw [← hx, ← hy] at hlimb
    have hNi : n / 2 ^ k / (B2 w : Int) ^ i = n / (B2 w : Int) ^ (sp + i) / 2 ^ fe := by
      rw [← hse, ← ediv_mul' (Int.mul_pos (pow_pos hb _) (pow2_pos _)) (pow_pos hb _), ← ediv_mul' (pow_pos hb _) (pow2_pos _), Int.pow_add]
      congr 1; grind
    rw [← hNi] at hlimb
    have hxf : xs.getD (sp + i) 0 / 2 ^ fe < 2 ^ (w - fe) := by
      refine Int.ediv_lt_of_lt_mul (pow2_pos _) ?_
      rw [← Int.pow_add, show w - fe + fe = w by omega, ← B2_cast]; exact hxb
    have hxf0 : 0 ≤ xs.getD (sp + i) 0 / 2 ^ fe := Int.ediv_nonneg hx0 (Int.le_of_lt (pow2_pos _))
    apply Exs_cons
    apply Ex_assign (a := .int (xs.getD (sp + i + 1) 0)) ok
    · refine Ev_if (r := decide (((sp + i : Nat) : Int) + 1 < ((xs.map AV.int).length : Int))) ?_ ?_ ?_
      · repeat' walk_at "ev"
        simp; omega
      · intro h
        simp at h
        have e : xs.getD (sp + i + 1) 0 = xs.getD (((sp + i : Nat) : Int) + 1).toNat 0 := by congr 1
        rw [e]
        repeat' walk_at "ev"
        all_goals omega
      · intro h
        simp at h
        rw [getD_ge (by omega)]
        repeat' walk_at "ev"
    · rfl
    · rfl
    generalize xs.getD (sp + i + 1) 0 = y at *
    have hor : Builtin.bitAnd (Builtin.bitOr (xs.getD ((sp + i : Nat) : Int).toNat 0 / 2 ^ (fe : Int).toNat) (y * 2 ^ ((w : Int) - (fe : Int)).toNat)) (Mk w) = n / 2 ^ k / (B2 w : Int) ^ i % B2 w := by
      rw [Int.toNat_natCast, Int.toNat_natCast, show ((w : Int) - (fe : Int)).toNat = w - fe by omega, mask_eq, hlimb]
      have h2 := bitXor_and (xs.getD (sp + i) 0 / 2 ^ fe) (y * 2 ^ (w - fe))
      unfold Builtin.bitXor at h2
      have h3 := bitAnd_disj (w - fe) y (xs.getD (sp + i) 0 / 2 ^ fe) hxf0 hxf
      rw [bitAnd_comm] at h3
      congr 1
      omega
    apply Exs_cons
    apply Ex_append (a := .int (n / 2 ^ k / (B2 w : Int) ^ i % B2 w)) (pre := []) (post := []) ok rfl
    · exact Or.inl rfl
    · rw [← hor]
      repeat' walk_at "ev"
      all_goals omega
    · simp [line16]; omega
    apply Exs_nil
    refine ⟨_, ?le, F ++ [n / 2 ^ k / (B2 w : Int) ^ i % B2 w], ?_, ?_, ?_, rfl⟩
    case le => walk_at "le"
    · simp [hF]
    · exact dig_snoc hdF (Int.emod_nonneg _ (by omega)) (Int.emod_lt_of_pos _ (by omega))
    · rw [val_snoc, hF, hinv, Int.pow_succ, emod_mul' hN0 (pow_pos hb _) (by omega)]
  · rintro σ ⟨F, hF, hdF, hinv, rfl⟩
    have hNlt : n / 2 ^ k < (B2 w : Int) ^ (xs.length - sp) := by
      by_cases h : xs.length ≤ sp
      · have := hzero h
        rw [Int.ediv_eq_zero_of_lt h0 this]; exact pow_pos hb _
      · refine Int.ediv_lt_of_lt_mul (pow2_pos _) ?_
        rw [← hse]
        have e : (B2 w : Int) ^ xs.length = (B2 w : Int) ^ (xs.length - sp) * (B2 w : Int) ^ sp := by rw [← Int.pow_add]; congr 1; omega
        rw [e] at hlt
        have h3 : (B2 w : Int) ^ (xs.length - sp) * (B2 w : Int) ^ sp * 1 ≤ (B2 w : Int) ^ (xs.length - sp) * (B2 w : Int) ^ sp * 2 ^ fe := Int.mul_le_mul_of_nonneg_left (by have := pow2_pos fe; omega) (Int.le_of_lt (Int.mul_pos (pow_pos hb _) (pow_pos hb _)))
        rw [← Int.mul_assoc]; omega
    rw [Int.emod_eq_of_lt hN0 hNlt] at hinv
    rw [← normalF_lm hb hdF hinv]
    apply Exs_cons
    apply WpS.freeze (pre := []) (post := []) rfl
    apply Ex_return (a := aints (normalF F))
    · refine Ev_call ok (fn_normal hK F (by omega)) (ns58 hK).1 (ns58 hK).2 ?_ rfl
      repeat' walk_at "ev"
    · rfl

theorem fn_low {g : Gl} (hK : g.Is) (w : Nat) (hw : 1 ≤ w) (hw' : w ≤ 8) (n : Int) (k : Nat) (h0 : 0 ≤ n) (hk : k ≤ 1000) (hsz : (lm (B2 w) n).length ≤ 1000) :
    FnV g 170 2 [row w n, .int k, .int w] (row w (n % 2 ^ k)) := by
  refine fn_of ["a", "n", "w"] (by rw [hK]; exact rfl) (by rw [hK]; exact rfl) ?_ rfl (by decide) (by decide) rfl rfl rfl (by decide) ?_
  · intro vs h
    match vs, h with
    | [v0, v1, v2], _ => rfl
  intro c L ok he
  obtain ⟨A, env, h₀, A₀, base, outer⟩ := c
  dsimp only at he
  subst he
  have hb := B2_ge hw
  have hb' := B2_le8 hw'
  have hd := dig_lm hb n
  have hv := val_lm hb h0
  dsimp only [row]
  have hkw : ((k : Int) / (w : Int)) = ((k / w : Nat) : Int) := by simp
  have hkm : ((k : Int) % (w : Int)) = ((k % w : Nat) : Int) := by simp
  apply Exs_cons
  apply Ex_tup_swap (l := [("few", .val (.int ((k : Int) % (w : Int)))), ("spots", .val (.int ((k : Int) / (w : Int))))]) (is := [.val (.int ((k : Int) / (w : Int))), .val (.int ((k : Int) % (w : Int)))]) ok
  · repeat' walk_at "ev"
    · omega
    · exact log2_small (by omega)
    · omega
  · exact ⟨.inl ⟨rfl, rfl⟩, .inl ⟨rfl, rfl⟩, trivial⟩
  · decide
  have hkd : k / w ≤ 1000 := Nat.le_trans (Nat.div_le_self _ _) hk
  have hfew : k % w < w := Nat.mod_lt _ (by omega)
  rw [hkw, hkm]
  have hse := shift_eq' w k
  have hzero := shr_zero (k := k) hw h0
  generalize hxs : lm (B2 w) n = xs at *
  generalize k / w = sp at *
  generalize k % w = fe at *
  apply Exs_cons
  apply Ex_if (r := decide (((xs.map AV.int).length : Int) ≤ (sp : Int)))
  · repeat' walk_at "ev"
    simp; omega
  · intro h
    simp at h
    rw [Int.emod_eq_of_lt h0 (hzero h), hxs]
    apply Exs_cons
    apply Ex_return (a := aints xs)
    · apply Ev_ofF
      apply EvF_slice (xs := xs.map .int) (a := none) (b := none)
      any_goals (repeat' walk_at "ev")
      · simp [line16]; omega
      · exact pick_all
    · rfl
  intro h
  simp at h
  apply Exs_nil
  apply Exs_cons
  have hmask : Builtin.bitAnd (xs.getD (sp : Int).toNat 0) (1 * 2 ^ (fe : Int).toNat - 1) = xs.getD sp 0 % 2 ^ fe := by
    rw [Int.toNat_natCast, Int.toNat_natCast, Int.one_mul, kbt_mask]
  obtain ⟨hx0, hxb⟩ := dig_getD hd (by omega) sp
  have hdl : Dig (B2 w) (xs.take sp ++ [xs.getD sp 0 % 2 ^ fe]) := by
    refine dig_snoc (dig_take hd sp) (Int.emod_nonneg _ (by have := pow2_pos fe; omega)) ?_
    have h1 : xs.getD sp 0 % 2 ^ fe ≤ xs.getD sp 0 := by
      have := Int.emod_add_mul_ediv (xs.getD sp 0) (2 ^ fe)
      have h2 : 0 ≤ (2 : Int) ^ fe * (xs.getD sp 0 / 2 ^ fe) := Int.mul_nonneg (Int.le_of_lt (pow2_pos _)) (Int.ediv_nonneg hx0 (Int.le_of_lt (pow2_pos _)))
      omega
    omega
  have hval : val (B2 w) (xs.take sp ++ [xs.getD sp 0 % 2 ^ fe]) = n % 2 ^ k := by
    rw [val_snoc, List.length_take, Nat.min_eq_left (by omega), val_take hb hd, hv, ← hse, emod_mul' h0 (pow_pos hb _) (pow2_pos _), val_getD hb hd, hv]
    have hdvd : (2 : Int) ^ fe ∣ (B2 w : Int) := ⟨2 ^ (w - fe), by rw [B2_cast, ← Int.pow_add]; congr 1; omega⟩
    rw [Int.emod_emod_of_dvd _ hdvd]
  rw [← normalF_lm hb hdl hval]
  apply Ex_return (a := aints (normalF (xs.take sp ++ [xs.getD sp 0 % 2 ^ fe])))
  · refine Ev_call ok (fn_normal hK _ (by simp; omega)) (ns58 hK).1 (ns58 hK).2 ?_ rfl
    apply EvV_cons
    · have e : aints (xs.take sp ++ [xs.getD sp 0 % 2 ^ fe]) = .list ((xs.map AV.int).take (sp : Int).toNat ++ [.int (xs.getD sp 0 % 2 ^ fe)]) := by simp
      rw [e]
      apply Ev_ofF
      apply EvF_add
      · apply Ev_ofF
        apply EvF_slice (xs := xs.map .int) (a := none) (b := some (sp : Int))
        any_goals (repeat' walk_at "ev")
        · simp [line16]; omega
        · exact pick_upto (by omega)
      · rw [← hmask]
        repeat' walk_at "ev"
        all_goals first | omega | exact one_ok | simp [line16]
      · simp; omega
    · repeat' walk_at "ev"
    · rfl
  · rfl

theorem fn_split {g : Gl} (hK : g.Is) (w : Nat) (hw : 1 ≤ w) (n : Int) (s : Nat) (h0 : 0 ≤ n) (hk : s ≤ 1000) (hsz : (lm (B2 w) n).length ≤ 1000) :
    FnV g 177 2 [row w n, .int s] (.tup [row w (n % (B2 w : Int) ^ s), row w (n / (B2 w : Int) ^ s)]) := by
  refine fn_of ["a", "spot"] (by rw [hK]; exact rfl) (by rw [hK]; exact rfl) ?_ rfl (by decide) (by decide) rfl rfl rfl (by decide) ?_
  · intro vs h
    match vs, h with
    | [v0, v1], _ => rfl
  intro c L ok he
  obtain ⟨A, env, h₀, A₀, base, outer⟩ := c
  dsimp only at he
  subst he
  have hb := B2_ge hw
  have hd := dig_lm hb n
  have hv := val_lm hb h0
  have h1 : lm (B2 w) (n % (B2 w : Int) ^ s) = normalF ((lm (B2 w) n).take s) := by
    rw [normalF_eq hb (dig_take hd s), val_take hb hd, hv]
  have h2 : lm (B2 w) (n / (B2 w : Int) ^ s) = (lm (B2 w) n).drop s := (lm_drop hb h0 s).symm
  dsimp only [row]
  rw [h1, h2]
  generalize lm (B2 w) n = xs at *
  apply Exs_cons
  apply Ex_return (a := .tup [aints (normalF (xs.take s)), aints (xs.drop s)])
  · apply Ev_tuple
    · apply EvV_cons
      · refine Ev_call ok (fn_normal hK _ (by simp; omega)) (ns58 hK).1 (ns58 hK).2 ?_ rfl
        apply EvV_cons
        · have e : aints (xs.take s) = .list ((xs.map AV.int).take (s : Int).toNat) := by simp
          rw [e]
          apply Ev_ofF
          apply EvF_slice (xs := xs.map .int) (a := none) (b := some (s : Int))
          any_goals (repeat' walk_at "ev")
          · simp [line16]; omega
          · exact pick_upto (by omega)
        · repeat' walk_at "ev"
        · rfl
      · apply EvV_cons
        · have e : aints (xs.drop s) = .list ((xs.map AV.int).drop (s : Int).toNat) := by simp
          rw [e]
          apply Ev_ofF
          apply EvF_slice (xs := xs.map .int) (a := some (s : Int)) (b := none)
          any_goals (repeat' walk_at "ev")
          · simp [line16]; omega
          · exact pick_from (by omega)
        · repeat' walk_at "ev"
        · rfl
      · rfl
    · simp [line16]
  · rfl
end
section
set_option maxHeartbeats 8000000


theorem p2p (k : Nat) : (0 : Int) < 2 ^ k := Int.pow_pos (by decide)

theorem fn_law_limbs {g : Gl} (hK : g.Is) (w : Nat) (hw : 1 ≤ w) (hw' : w ≤ 8) (n : Int) (h0 : 0 ≤ n) (hsz : (lm (B2 w) n).length ≤ 1000) :
    FnV g 198 1 [.int n, .int w] (row w n) := by
  refine fn_of ["number", "w"] (by rw [hK]; exact rfl) (by rw [hK]; exact rfl) ?_ rfl (by decide) (by decide) rfl rfl rfl (by decide) ?_
  · intro vs h
    match vs, h with
    | [v0, v1], _ => rfl
  intro c L ok he
  obtain ⟨A, env, h₀, A₀, base, outer⟩ := c
  dsimp only at he
  subst he
  have hb := B2_ge hw
  have hb' := B2_le8 hw'
  dsimp only [row]
  apply Exs_cons
  apply Ex_assignF (xs := []) ok
  · repeat' walk_at "ev"
    decide
  · exact .inl ⟨rfl, rfl⟩
  apply Exs_cons
  apply WpS.le (σ' := ⟨[("number", .int n), ("w", .int w)], [("found", some [])]⟩) (by walk_at "le")
  refine Ex_while (fun m σ => ∃ (F : List Int) (c : Int), 0 ≤ c ∧ m = c.toNat ∧ F ++ lm (B2 w) c = lm (B2 w) n ∧
    σ = ⟨[("number", .int c), ("w", .int w)], [("found", some (F.map .int))]⟩) (n := n.toNat) ⟨[], n, h0, rfl, rfl, rfl⟩ ?_
  rintro m σ ⟨F, c, hc0, rfl, hi, rfl⟩
  have hpw : (2 : Int) ^ (w : Int).toNat = (B2 w : Int) := by rw [Int.toNat_natCast, B2_cast]
  refine ⟨decide (0 < c), by repeat' walk_at "ev", ?_, ?_⟩
  · intro h
    simp only [decide_eq_true_eq] at h
    apply Exs_cons
    apply Ex_append (a := .int (c % (B2 w : Int))) (pre := []) (post := []) ok rfl
    any_goals (rw [← hpw])
    any_goals (repeat' walk_at "ev")
    · omega
    · have : Builtin.Int.intBits 2 ≤ 64 := intBits_le_64 (by decide) (by decide)
      have h2 : (Builtin.Int.intBits 2 : Int) * w ≤ 64 * 8 := Int.mul_le_mul (by omega) (by omega) (by omega) (by omega)
      omega
    · exact p2p _
    · have := congrArg List.length hi
      simp at this; simp [line16]; omega
    rw [hpw]
    apply Exs_cons
    apply Ex_assign (a := .int (c / (B2 w : Int))) ok
    · rw [← hpw]
      repeat' walk_at "ev"
      · omega
      · have : Builtin.Int.intBits 2 ≤ 64 := intBits_le_64 (by decide) (by decide)
        have h2 : (Builtin.Int.intBits 2 : Int) * w ≤ 64 * 8 := Int.mul_le_mul (by omega) (by omega) (by omega) (by omega)
        omega
      · exact p2p _
      · rw [hpw]; exact log2_small (by omega)
    · rfl
    · rfl
    apply Exs_nil
    refine ⟨_, _, ?_, ?le, F ++ [c % (B2 w : Int)], c / (B2 w : Int), ?_, rfl, ?_, rfl⟩
    case le => walk_at "le"
    · exact ediv_lt_self hb h
    · exact Int.ediv_nonneg (by omega) (by omega)
    · exact lm_snoc_step hb h hi
  · intro h
    simp only [decide_eq_false_iff_not] at h
    have hc : c = 0 := by omega
    subst hc
    rw [lm_zero, List.append_nil] at hi
    subst hi
    apply Exs_cons
    apply WpS.freeze (pre := []) (post := []) rfl
    apply Ex_return (a := aints (lm (B2 w) n))
    · repeat' walk_at "ev"
    · rfl

theorem bits_eq {w : Nat} (hw : 1 ≤ w) {n : Int} (h0 : 0 < n) : (Builtin.Int.intBits n : Int) = ((lm (B2 w) n).length - 1) * w + (Builtin.Int.intBits ((lm (B2 w) n).getD ((lm (B2 w) n).length - 1) 0) : Int) := by
  have hb := B2_ge hw
  have hge := lm_ge hb h0
  have hlt := lm_lt hb (Int.le_of_lt h0)
  have hne := lm_ne hb h0
  have hpos : 0 < (lm (B2 w) n).length := List.length_pos_iff.mpr hne
  have htop := val_getD hb (dig_lm hb n) ((lm (B2 w) n).length - 1)
  rw [val_lm hb (Int.le_of_lt h0)] at htop
  generalize hL : (lm (B2 w) n).length = L at *
  rw [htop]
  obtain ⟨j, rfl⟩ : ∃ j, L = j + 1 := ⟨L - 1, by omega⟩
  rw [Nat.add_sub_cancel] at *
  have hq0 : 0 < n / (B2 w : Int) ^ j := by
    have := Int.ediv_le_ediv (pow_pos hb j) hge
    rw [Int.ediv_self (by have := pow_pos hb j; omega)] at this; omega
  have hqB : n / (B2 w : Int) ^ j < B2 w := Int.ediv_lt_of_lt_mul (pow_pos hb j) (by rw [Int.mul_comm, ← Int.pow_succ]; exact hlt)
  rw [Int.emod_eq_of_lt (by omega) hqB]
  have hpj : (B2 w : Int) ^ j = 2 ^ (w * j) := by rw [B2_cast, ← Int.pow_mul]
  rw [hpj] at hq0 hqB ⊢
  generalize hq : n / 2 ^ (w * j) = q at *
  have hdm := Int.mul_ediv_add_emod n (2 ^ (w * j))
  rw [hq] at hdm
  have hr0 : 0 ≤ n % 2 ^ (w * j) := Int.emod_nonneg _ (by have := p2p (w * j); omega)
  have hrl : n % 2 ^ (w * j) < 2 ^ (w * j) := Int.emod_lt_of_pos _ (p2p _)
  generalize n % 2 ^ (w * j) = r at *
  have cast : ∀ (x : Int) (m : Nat), 0 ≤ x → (x.natAbs < 2 ^ m ↔ x < (2 : Int) ^ m) := fun x m hx => by
    obtain ⟨y, rfl⟩ := Int.eq_ofNat_of_zero_le hx
    rw [Int.natAbs_natCast]
    constructor
    · intro h; exact_mod_cast h
    · intro h; exact_mod_cast h
  have le_iff : ∀ (x : Int) (m : Nat), 0 ≤ x → (Builtin.Int.intBits x ≤ m ↔ x < (2 : Int) ^ m) := fun x m hx => intBits_le_iff.trans (cast x m hx)
  have up : Builtin.Int.intBits n ≤ w * j + Builtin.Int.intBits q := by
    rw [le_iff n _ (by omega), Int.pow_add]
    have h1 := (le_iff q _ (by omega)).mp (Nat.le_refl _)
    have h2 : (2 : Int) ^ (w * j) * (q + 1) ≤ 2 ^ (w * j) * 2 ^ (Builtin.Int.intBits q) := Int.mul_le_mul_of_nonneg_left (by omega) (Int.le_of_lt (p2p _))
    rw [Int.mul_add] at h2
    omega
  have hq1 : 0 < Builtin.Int.intBits q := by
    by_cases h : Builtin.Int.intBits q ≤ 0
    · have := (le_iff q 0 (by omega)).mp h
      simp at this; omega
    · omega
  have dn : w * j + Builtin.Int.intBits q ≤ Builtin.Int.intBits n := by
    by_cases h : w * j + Builtin.Int.intBits q ≤ Builtin.Int.intBits n
    · exact h
    · exfalso
      have h1 := (le_iff n (w * j + (Builtin.Int.intBits q - 1)) (by omega)).mp (by omega)
      rw [Int.pow_add] at h1
      have h2 : ¬ q < 2 ^ (Builtin.Int.intBits q - 1) := fun h3 => by
        have := (le_iff q _ (by omega)).mpr h3
        omega
      have h3 : (2 : Int) ^ (w * j) * 2 ^ (Builtin.Int.intBits q - 1) ≤ 2 ^ (w * j) * q := Int.mul_le_mul_of_nonneg_left (by omega) (Int.le_of_lt (p2p _))
      omega
  have e : Builtin.Int.intBits n = w * j + Builtin.Int.intBits q := Nat.le_antisymm up dn
  rw [e]
  push_cast
  rw [Int.mul_comm (w : Int), Int.add_sub_cancel]

theorem fn_bits {g : Gl} (hK : g.Is) (w : Nat) (hw : 1 ≤ w) (hw' : w ≤ 8) (n : Int) (h0 : 0 ≤ n) (hsz : (lm (B2 w) n).length ≤ 1000) :
    FnV g 156 1 [row w n, .int w] (.int (Builtin.Int.intBits n : Nat)) := by
  refine fn_of ["a", "w"] (by rw [hK]; exact rfl) (by rw [hK]; exact rfl) ?_ rfl (by decide) (by decide) rfl rfl rfl (by decide) ?_
  · intro vs h
    match vs, h with
    | [v0, v1], _ => rfl
  intro c L ok he
  obtain ⟨A, env, h₀, A₀, base, outer⟩ := c
  dsimp only at he
  subst he
  have hb := B2_ge hw
  have hbits := fun h => bits_eq hw (n := n) h
  have hz : n = 0 ∨ 0 < n := by omega
  have hz' : n = 0 → lm (B2 w) n = [] := fun h => by rw [h, lm_zero]
  have hz'' : 0 < n → lm (B2 w) n ≠ [] := fun h => lm_ne hb h
  dsimp only [row]
  generalize lm (B2 w) n = xs at *
  apply Exs_cons
  refine Ex_return (a := .int (Builtin.Int.intBits n : Nat)) (Ev_if (r := decide (0 < ((xs.map AV.int).length : Int))) ?_ ?_ ?_) rfl
  · repeat' walk_at "ev"
    simp; omega
  · intro h
    simp at h
    have hn : 0 < n := by
      rcases hz with h1 | h1
      · exact absurd (hz' h1) (List.length_pos_iff.mp h)
      · exact h1
    rw [hbits hn]
    have e : (xs.length : Int) - 1 = ((xs.map AV.int).length : Int) - 1 := by simp
    rw [e]
    apply Ev_bin
    · repeat' walk_at "ev"
      · simp; omega
      · exact mulok_s (by simp; omega) (by simp; omega)
    · apply Ev_bitlen
      · apply Ev_item_neg (k := -1) (xs := xs.map .int)
        · repeat' walk_at "ev"
        · repeat' walk_at "ev"
        · decide
        · simp; omega
        · have e2 : ((-1 : Int) + ((xs.map AV.int).length : Int)).toNat = xs.length - 1 := by simp; omega
          rw [e2]
          exact ints_getD (by omega)
        · decide
      · rfl
    · repeat' walk_at "ev"
  · intro h
    simp at h
    have hn : n = 0 := by
      rcases hz with h1 | h1
      · exact h1
      · exact absurd h (hz'' h1)
    rw [hn, show ((Builtin.Int.intBits 0 : Nat) : Int) = 0 by decide +kernel]
    repeat' walk_at "ev"

theorem fn_bit {g : Gl} (hK : g.Is) (w : Nat) (hw : 1 ≤ w) (hw' : w ≤ 8) (n : Int) (k : Nat) (h0 : 0 ≤ n) (hk : k ≤ 1000) (hsz : (lm (B2 w) n).length ≤ 1000) :
    FnV g 163 1 [row w n, .int k, .int w] (.int (n / 2 ^ k % 2)) := by
  refine fn_of ["a", "n", "w"] (by rw [hK]; exact rfl) (by rw [hK]; exact rfl) ?_ rfl (by decide) (by decide) rfl rfl rfl (by decide) ?_
  · intro vs h
    match vs, h with
    | [v0, v1, v2], _ => rfl
  intro c L ok he
  obtain ⟨A, env, h₀, A₀, base, outer⟩ := c
  dsimp only at he
  subst he
  have hb := B2_ge hw
  have hb' := B2_le8 hw'
  have hd := dig_lm hb n
  have hv := val_lm hb h0
  have hlt := lm_lt hb h0
  dsimp only [row]
  have hkw : ((k : Int) / (w : Int)) = ((k / w : Nat) : Int) := by simp
  have hkm : ((k : Int) % (w : Int)) = ((k % w : Nat) : Int) := by simp
  have hkd : k / w ≤ 1000 := Nat.le_trans (Nat.div_le_self _ _) hk
  have hfew : k % w < w := Nat.mod_lt _ (by omega)
  have hse := shift_eq' w k
  have hx := val_getD hb hd (k / w)
  obtain ⟨hx0, hxb⟩ := dig_getD hd (by omega) (k / w)
  rw [hv] at hx
  generalize lm (B2 w) n = xs at *
  apply Exs_cons
  refine Ex_return (a := .int (n / 2 ^ k % 2)) (Ev_if (r := decide ((k : Int) / (w : Int) < ((xs.map AV.int).length : Int))) ?_ ?_ ?_) rfl
  · repeat' walk_at "ev"
    · omega
    · exact log2_small (by omega)
    · simp; omega
  · intro h
    rw [hkw] at h
    simp only [decide_eq_true_eq, List.length_map] at h
    have hres : n / 2 ^ k % 2 = Builtin.bitAnd (xs.getD ((k : Int) / (w : Int)).toNat 0 / 2 ^ ((k : Int) % (w : Int)).toNat) 1 := by
      rw [bitAnd_m1, hkw, hkm, Int.toNat_natCast, Int.toNat_natCast, hx, ← hse, ediv_mul' (pow_pos hb _) (p2p _)]
      generalize n / (B2 w : Int) ^ (k / w) = M
      generalize k % w = f at *
      have hB : (B2 w : Int) = 2 ^ f * (2 * 2 ^ (w - f - 1)) := by
        rw [B2_cast, Int.mul_comm (2 : Int), ← Int.pow_succ, ← Int.pow_add]; congr 1; omega
      conv => lhs; rw [← Int.emod_add_mul_ediv M (B2 w)]
      rw [show (B2 w : Int) * (M / (B2 w : Int)) = 2 ^ f * (2 * (2 ^ (w - f - 1) * (M / (B2 w : Int)))) by rw [← Int.mul_assoc 2, ← Int.mul_assoc (2 ^ f), ← hB]]
      rw [Int.add_mul_ediv_left _ _ (by have := p2p f; omega)]
      omega
    rw [hres]
    repeat' walk_at "ev"
    all_goals first | omega | exact log2_small (by omega) | (rw [hkw]; exact Int.natCast_nonneg _)
  · intro h
    rw [hkw] at h
    simp only [decide_eq_false_iff_not, List.length_map] at h
    have : n < 2 ^ k := by
      have h2 := pow_le hb (show xs.length ≤ k / w by omega)
      rw [← hse]
      have h3 : (B2 w : Int) ^ (k / w) * 1 ≤ (B2 w : Int) ^ (k / w) * 2 ^ (k % w) := Int.mul_le_mul_of_nonneg_left (by have := p2p (k % w); omega) (Int.le_of_lt (pow_pos hb _))
      omega
    rw [Int.ediv_eq_zero_of_lt h0 this, show (0 : Int) % 2 = 0 by decide]
    repeat' walk_at "ev"
end
section
set_option maxHeartbeats 8000000


theorem odd_form : ∀ (m : Nat), 0 < m → ∃ j a : Nat, m = 2 ^ j * (2 * a + 1) := by
  intro m
  induction m using Nat.strongRecOn with
  | _ m ih =>
    intro h
    by_cases h2 : m % 2 = 0
    · obtain ⟨j, a, e⟩ := ih (m / 2) (by omega) (by omega)
      refine ⟨j + 1, a, ?_⟩
      rw [Nat.pow_succ, Nat.mul_comm (2 ^ j) 2, Nat.mul_assoc, ← e]; omega
    · exact ⟨0, m / 2, by simp; omega⟩
theorem first_pos {b : Nat} : ∀ {xs : List Int}, Dig b xs → 0 < val b xs → ∃ i, i < xs.length ∧ val b (xs.take i) = 0 ∧ (∀ j, j < i → xs.getD j 0 = 0) ∧ 0 < xs.getD i 0
  | [], _, h => by simp [val] at h
  | x :: r, hd, h => by
    have h1 := dig_cons hd
    by_cases hx : x = 0
    · subst hx
      have hr : 0 < val b r := by
        have h2 := val_nonneg h1.2.2
        rcases (show val b r = 0 ∨ 0 < val b r by omega) with h3 | h3
        · rw [val, h3] at h; simp at h
        · exact h3
      obtain ⟨i, h2, h3, h4, h5⟩ := first_pos h1.2.2 hr
      refine ⟨i + 1, by simp; omega, by simp [val, h3], fun j hj => ?_, by simpa using h5⟩
      cases j with
      | zero => rfl
      | succ j => simpa using h4 j (by omega)
    · exact ⟨0, by simp, rfl, fun j hj => by omega, by simp; omega⟩

theorem fn_trailing {g : Gl} (hK : g.Is) (w : Nat) (hw : 1 ≤ w) (hw' : w ≤ 8) (n : Int) (h0 : 0 < n) (hsz : (lm (B2 w) n).length ≤ 1000) :
    ∃ t : Nat, t ≤ 8008 ∧ n % 2 ^ t = 0 ∧ n / 2 ^ t % 2 = 1 ∧ FnV g 184 1 [row w n, .int w] (.int t) := by
  have hb := B2_ge hw
  have hb' := B2_le8 hw'
  have hd := dig_lm hb n
  have hv := val_lm hb (Int.le_of_lt h0)
  obtain ⟨i0, hi0, hz, hzs, hpos⟩ := first_pos hd (by rw [hv]; exact h0)
  obtain ⟨hx0, hxb⟩ := dig_getD hd (by omega) i0
  have hdc := drop_eq_cons hi0
  have hval := val_take_drop (b := B2 w) (lm (B2 w) n) i0 (by omega)
  rw [hz, hv, hdc, val] at hval
  obtain ⟨j, a, hja⟩ := odd_form ((lm (B2 w) n).getD i0 0).toNat (by omega)
  have hxe : (lm (B2 w) n).getD i0 0 = 2 ^ j * (2 * (a : Int) + 1) := by
    have : ((((lm (B2 w) n).getD i0 0).toNat : Nat) : Int) = ((2 ^ j * (2 * a + 1) : Nat) : Int) := by rw [hja]
    rw [Int.toNat_of_nonneg hx0] at this
    rw [this]; push_cast; rfl
  have hjw : j < w := by
    by_cases h : j < w
    · exact h
    · exfalso
      have h1 : (2 : Int) ^ w ≤ 2 ^ j := by
        have := Nat.pow_le_pow_right (show 0 < 2 by decide) (show w ≤ j by omega)
        exact_mod_cast this
      have h2 : (2 : Int) ^ j * 1 ≤ 2 ^ j * (2 * (a : Int) + 1) := Int.mul_le_mul_of_nonneg_left (by omega) (Int.le_of_lt (p2p _))
      rw [hxe, B2_cast] at hxb
      omega
  have hq : n = 2 ^ (i0 * w + j) * (2 * ((a : Int) + 2 ^ (w - j - 1) * val (B2 w) ((lm (B2 w) n).drop (i0 + 1))) + 1) := by
    have e1 : (B2 w : Int) ^ i0 = 2 ^ (i0 * w) := by rw [B2_cast, ← Int.pow_mul, Nat.mul_comm]
    have e2 : (B2 w : Int) = 2 ^ j * (2 * 2 ^ (w - j - 1)) := by
      rw [B2_cast, Int.mul_comm (2 : Int), ← Int.pow_succ, ← Int.pow_add]; congr 1; omega
    rw [Int.zero_add, hxe, e1] at hval
    generalize val (B2 w) ((lm (B2 w) n).drop (i0 + 1)) = Q at *
    rw [e2] at hval
    rw [hval, Int.pow_add]
    grind
  generalize hqq : (a : Int) + 2 ^ (w - j - 1) * val (B2 w) ((lm (B2 w) n).drop (i0 + 1)) = q at hq
  refine ⟨i0 * w + j, ?_, ?_, ?_, ?_⟩
  · have : i0 * w ≤ 1000 * 8 := Nat.mul_le_mul (by omega) hw'
    omega
  · rw [hq]; simp
  · rw [hq, Int.mul_ediv_cancel_left _ (by have := p2p (i0 * w + j); omega)]; omega
  clear hq hqq hval hdc hz
  refine fn_of ["a", "w"] (by rw [hK]; exact rfl) (by rw [hK]; exact rfl) ?_ rfl (by decide) (by decide) rfl rfl rfl (by decide) ?_
  · intro vs h
    match vs, h with
    | [v0, v1], _ => rfl
  intro c L ok he
  obtain ⟨A, env, h₀, A₀, base, outer⟩ := c
  dsimp only at he
  subst he
  dsimp only [row]
  generalize lm (B2 w) n = xs at *
  apply Exs_cons
  apply WpS.le (σ' := ⟨[("a", aints xs), ("w", .int w)], []⟩) (by walk_at "le")
  refine Ex_for_enum (xs := xs.map .int) (fun i σ => i ≤ i0 ∧ σ = ⟨[("a", aints xs), ("w", .int w)], []⟩) hK ok ?_ rfl rfl rfl ⟨by omega, rfl⟩ ?_ ?_
  · repeat' walk_at "ev"
  · rintro i σ y hy ⟨hi, rfl⟩
    obtain ⟨hil, rfl⟩ := getElem_intmap hy
    refine ⟨rfl, rfl, ?_⟩
    apply Exs_cons
    apply Ex_if (r := decide (0 < xs.getD i 0))
    · repeat' walk_at "ev"
    · intro h
      simp only [decide_eq_true_eq] at h
      have hii : i = i0 := by
        by_cases h1 : i < i0
        · rw [hzs i h1] at h; omega
        · omega
      subst hii
      have hlow : Builtin.bitAnd (xs.getD i 0) (-(xs.getD i 0)) = 2 ^ j := by rw [hxe, kbt_low]
      have hbits : Builtin.Int.intBits (Builtin.bitAnd (xs.getD i 0) (-(xs.getD i 0))) = j + 1 := by
        rw [hlow]
        have c1 : ∀ m : Nat, Builtin.Int.intBits (2 ^ j) ≤ m ↔ (2 : Nat) ^ j < 2 ^ m := fun m => by
          rw [intBits_le_iff]
          have : ((2 : Int) ^ j).natAbs = 2 ^ j := by rw [Int.natAbs_pow]; rfl
          rw [this]
        have u := (c1 (j + 1)).mpr (Nat.pow_lt_pow_right (by decide) (by omega))
        by_cases h2 : Builtin.Int.intBits (2 ^ j) ≤ j
        · have := (c1 j).mp h2; omega
        · omega
      apply Exs_cons
      refine Ex_return (a := .int ((i : Int) * w + ((Builtin.Int.intBits (Builtin.bitAnd (xs.getD i 0) (-(xs.getD i 0))) : Nat) : Int) - 1)) ?_ ?_
      · apply Ev_bin
        · apply Ev_bin
          · repeat' walk_at "ev"
            exact mulok_s (by omega) (by omega)
          · apply Ev_bitlen
            · repeat' walk_at "ev"
            · rfl
          · repeat' walk_at "ev"
        · repeat' walk_at "ev"
        · repeat' walk_at "ev"
      · show Out.ret _ = Out.ret _
        rw [hbits]
        push_cast
        rw [show (i : Int) * w + ((j : Int) + 1) - 1 = i * w + j by omega]
    · intro h
      simp only [decide_eq_false_iff_not] at h
      apply Exs_nil
      apply Exs_nil
      refine ⟨_, ?le, ?_, rfl⟩
      case le => walk_at "le"
      have : i ≠ i0 := by rintro rfl; omega
      omega
  · rintro σ ⟨hi, rfl⟩
    simp at hi; omega

theorem fn_add_mul {g : Gl} (hK : g.Is) (w : Nat) (hw : 1 ≤ w) (hw' : w ≤ 8) (n m l : Int) (h0 : 0 ≤ n) (h0' : 0 ≤ m) (hl : 0 ≤ l) (hlb : l < B2 w) (hsz : (lm (B2 w) n).length ≤ 1000) (hsz' : (lm (B2 w) m).length ≤ 1000) :
    FnV g 128 2 [row w n, row w m, .int l, .int w] (row w (n + m * l)) := by
  refine fn_of ["a", "b", "limb", "w"] (by rw [hK]; exact rfl) (by rw [hK]; exact rfl) ?_ rfl (by decide) (by decide) rfl rfl rfl (by decide) ?_
  · intro vs h
    match vs, h with
    | [v0, v1, v2, v3], _ => rfl
  intro c L ok he
  obtain ⟨A, env, h₀, A₀, base, outer⟩ := c
  dsimp only at he
  subst he
  have hb := B2_ge hw
  have hb' := B2_le8 hw'
  have hd := dig_lm hb n
  have hv := val_lm hb h0
  have hd' := dig_lm hb m
  have hv' := val_lm hb h0'
  dsimp only [row]
  generalize lm (B2 w) n = xs at *
  generalize lm (B2 w) m = ys at *
  apply Exs_cons
  apply Ex_tup_swap (l := [("mask", .val (.int (Mk w))), ("carry", .val (.int 0)), ("found", .own [])]) (is := [.own [], .val (.int 0), .val (.int (Mk w))]) ok
  · repeat' walk_at "ev"
    · decide
    · omega
    · omega
    · exact one_ok
  · exact ⟨.inl ⟨rfl, rfl⟩, .inl ⟨rfl, rfl⟩, .inl ⟨rfl, rfl⟩, trivial⟩
  · decide
  obtain ⟨L, hL⟩ : ∃ L : Nat, (L : Int) = if ((xs.map AV.int).length : Int) < ((ys.map AV.int).length : Int) then ((ys.map AV.int).length : Int) else ((xs.map AV.int).length : Int) := by
    split
    · exact ⟨_, rfl⟩
    · exact ⟨_, rfl⟩
  have hL1 : xs.length ≤ L ∧ ys.length ≤ L ∧ L ≤ 1000 := by
    simp only [List.length_map] at hL
    split at hL <;> omega
  apply Exs_cons
  apply WpS.le (σ' := ⟨[("carry", .int 0), ("a", aints xs), ("b", aints ys), ("mask", .int (Mk w)), ("w", .int w), ("limb", .int l)], [("found", some [])]⟩) (by walk_at "le")
  refine Ex_for_range (a := 0) (b := L) (d := 1) (n := L) (fun i σ => ∃ (F : List Int) (c : Int), F.length = i ∧ Dig (B2 w) F ∧ 0 ≤ c ∧ c ≤ B2 w ∧ val (B2 w) F + (B2 w : Int) ^ i * c = val (B2 w) (xs.take i) + val (B2 w) (ys.take i) * l ∧
    σ = ⟨[("carry", .int c), ("a", aints xs), ("b", aints ys), ("mask", .int (Mk w)), ("w", .int w), ("limb", .int l)], [("found", some (F.map .int))]⟩) ok ?_ ?_ ?_ rfl ⟨[], 0, rfl, dig_nil, by omega, by omega, by simp [val], rfl⟩ ?_ ?_
  · apply R_range (as := [.int L]) hK ok
    · rw [hL]
      apply EvV_cons
      · apply Ev_max hK ok
        · repeat' walk_at "ev"
          · simp; omega
          · simp; omega
        · rfl
      · repeat' walk_at "ev"
      · rfl
    · exact rc1
    · rfl
    · rfl
    · rfl
    · rfl
  · exact range_small_up (by omega) (by omega) (by omega) (by omega)
  · exact range_size_up (by omega)
  · rintro i σ hi ⟨F, c, hF, hdF, hc0, hcb, hinv, rfl⟩
    refine ⟨rfl, ?_⟩
    rw [show (0 : Int) + (i : Int) * 1 = i by omega]
    obtain ⟨hx0, hxb⟩ := dig_getD hd (by omega) i
    obtain ⟨hy0, hyb⟩ := dig_getD hd' (by omega) i
    have hts := val_take_succ' (b := B2 w) xs i
    have hts' := val_take_succ' (b := B2 w) ys i
    apply Exs_cons
    apply Ex_aug (a := .int c) (b := .int (xs.getD i 0 + ys.getD i 0 * l)) (r := .int (c + (xs.getD i 0 + ys.getD i 0 * l))) ok
    · rfl
    · apply Ev_bin (a := .int (xs.getD i 0)) (b := .int (ys.getD i 0 * l))
      · refine Ev_if (r := decide ((i : Int) < ((xs.map AV.int).length : Int))) ?_ ?_ ?_
        · repeat' walk_at "ev"
          simp; omega
        · intro h
          simp at h
          have e : xs.getD i 0 = xs.getD (i : Int).toNat 0 := by rw [Int.toNat_natCast]
          rw [e]
          repeat' walk_at "ev"
          all_goals omega
        · intro h
          simp at h
          rw [getD_ge (by omega)]
          repeat' walk_at "ev"
      · refine Ev_if (r := decide ((i : Int) < ((ys.map AV.int).length : Int))) ?_ ?_ ?_
        · repeat' walk_at "ev"
          simp; omega
        · intro h
          simp at h
          have e : ys.getD i 0 = ys.getD (i : Int).toNat 0 := by rw [Int.toNat_natCast]
          rw [e]
          repeat' walk_at "ev"
          any_goals omega
          exact mulok_s (by omega) (by rw [← e]; omega)
        · intro h
          simp at h
          rw [getD_ge (by omega), Int.zero_mul]
          repeat' walk_at "ev"
      · repeat' walk_at "ev"
    any_goals (repeat' walk_at "ev")
    generalize xs.getD i 0 = x at *
    generalize ys.getD i 0 = y at *
    have hyl0 : 0 ≤ y * l := Int.mul_nonneg hy0 (by omega)
    have hyl : y * l ≤ (B2 w - 1) * (B2 w - 1) := Int.mul_le_mul (by omega) (by omega) (by omega) (by omega)
    have hyl2 : ((B2 w : Int) - 1) * (B2 w - 1) = B2 w * B2 w - 2 * B2 w + 1 := by grind
    have hstep : val (B2 w) F + (B2 w : Int) ^ i * (c + (x + y * l)) = val (B2 w) (xs.take (i + 1)) + val (B2 w) (ys.take (i + 1)) * l := by
      rw [hts, hts', Int.mul_add, ← Int.add_assoc, hinv]; grind
    have hc20 : 0 ≤ c + (x + y * l) := by omega
    have hc2 : c + (x + y * l) ≤ B2 w * B2 w := by omega
    generalize c + (x + y * l) = z at *
    apply Exs_cons
    apply Ex_append (pre := []) (post := []) ok rfl
    any_goals (repeat' walk_at "ev")
    · simp [line16]; omega
    apply Exs_cons
    apply Ex_aug (a := .int z) (b := .int w) (r := .int (z / 2 ^ (w : Int).toNat)) ok
    any_goals (repeat' walk_at "ev")
    · omega
    apply Exs_nil
    refine ⟨_, ?le, F ++ [Builtin.bitAnd z (Mk w)], z / 2 ^ (w : Int).toNat, ?_, ?_, ?_, ?_, ?_, rfl⟩
    case le => walk_at "le"
    · simp [hF]
    · rw [mask_eq]
      exact dig_snoc hdF (Int.emod_nonneg _ (by omega)) (Int.emod_lt_of_pos _ (by omega))
    · rw [shr_eq]; exact Int.ediv_nonneg (by omega) (by omega)
    · rw [shr_eq]
      have : z / (B2 w : Int) ≤ (B2 w * B2 w) / B2 w := Int.ediv_le_ediv (by omega) hc2
      rw [Int.mul_ediv_cancel _ (by omega)] at this
      exact this
    · rw [mask_eq, shr_eq]
      exact carry_step hb hF hstep
  · rintro σ ⟨F, c, hF, hdF, hc0, hcb, hinv, rfl⟩
    rw [List.take_of_length_le hL1.1, List.take_of_length_le hL1.2.1, hv, hv', ← hF] at hinv
    apply Exs_cons
    refine Ex_while (fun u σ => ∃ (F : List Int) (c : Int), 0 ≤ c ∧ u = c.toNat ∧ (F.length : Int) + c ≤ 1300 ∧ Dig (B2 w) F ∧ val (B2 w) F + (B2 w : Int) ^ F.length * c = n + m * l ∧
      σ = ⟨[("carry", .int c), ("a", aints xs), ("b", aints ys), ("mask", .int (Mk w)), ("w", .int w), ("limb", .int l)], [("found", some (F.map .int))]⟩) (n := c.toNat) ⟨F, c, hc0, rfl, by omega, hdF, hinv, rfl⟩ ?_
    clear hF hdF hc0 hcb hinv F c
    rintro u σ ⟨F, c, hc0, rfl, hFc, hdF, hinv, rfl⟩
    refine ⟨decide (0 < c), by repeat' walk_at "ev", ?_, ?_⟩
    · intro h
      simp only [decide_eq_true_eq] at h
      apply Exs_cons
      apply Ex_append (pre := []) (post := []) ok rfl
      any_goals (repeat' walk_at "ev")
      · simp [line16]; omega
      apply Exs_cons
      apply Ex_aug (a := .int c) (b := .int w) (r := .int (c / 2 ^ (w : Int).toNat)) ok
      any_goals (repeat' walk_at "ev")
      · omega
      apply Exs_nil
      have hlt := ediv_lt_self hb h
      have hge : 0 ≤ c / (B2 w : Int) := Int.ediv_nonneg (by omega) (by omega)
      refine ⟨_, _, ?_, ?le, F ++ [Builtin.bitAnd c (Mk w)], c / 2 ^ (w : Int).toNat, ?_, rfl, ?_, ?_, ?_, rfl⟩
      case le => walk_at "le"
      · rw [shr_eq]; exact hlt
      · rw [shr_eq]; exact hge
      · have e9 : ((F ++ [Builtin.bitAnd c (Mk w)]).length : Int) = F.length + 1 := by simp
        rw [shr_eq, e9]; omega
      · rw [mask_eq]
        exact dig_snoc hdF (Int.emod_nonneg _ (by omega)) (Int.emod_lt_of_pos _ (by omega))
      · rw [mask_eq, shr_eq, List.length_append, List.length_singleton]
        exact carry_step hb rfl hinv
    · intro h
      simp only [decide_eq_false_iff_not] at h
      have hc : c = 0 := by omega
      subst hc
      rw [Int.mul_zero, Int.add_zero] at hinv
      rw [← normalF_lm hb hdF hinv]
      apply Exs_cons
      apply WpS.freeze (pre := []) (post := []) rfl
      apply Ex_return (a := aints (normalF F))
      · refine Ev_call ok (fn_normal hK F (by omega)) (ns58 hK).1 (ns58 hK).2 ?_ rfl
        repeat' walk_at "ev"
      · rfl

theorem fn_add_at {g : Gl} (hK : g.Is) (w : Nat) (hw : 1 ≤ w) (hw' : w ≤ 8) (n m : Int) (s : Nat) (h0 : 0 ≤ n) (h0' : 0 ≤ m) (hs : s ≤ 1000) (hlt : n < (B2 w : Int) ^ s) (hsz : (lm (B2 w) n).length ≤ 1000) (hsz' : (lm (B2 w) m).length ≤ 1000) :
    FnV g 114 1 [row w n, row w m, .int s, .int w] (row w (n + m * (B2 w : Int) ^ s)) := by
  refine fn_of ["a", "b", "spot", "w"] (by rw [hK]; exact rfl) (by rw [hK]; exact rfl) ?_ rfl (by decide) (by decide) rfl rfl rfl (by decide) ?_
  · intro vs h
    match vs, h with
    | [v0, v1, v2, v3], _ => rfl
  intro c L ok he
  obtain ⟨A, env, h₀, A₀, base, outer⟩ := c
  dsimp only at he
  subst he
  have hb := B2_ge hw
  have hd := dig_lm hb n
  have hv := val_lm hb h0
  have hd' := dig_lm hb m
  have hv' := val_lm hb h0'
  have hn' := nrm_lm hb m
  have hlen := lm_len_le hb h0 hlt
  dsimp only [row]
  apply Exs_cons
  apply Ex_if (r := decide (((List.map AV.int (lm (B2 w) m)).length : Int) = 0))
  · repeat' walk_at "ev"
    simp; omega
  · intro h
    simp at h
    have hm : m = 0 := by rw [h] at hv'; exact hv'.symm
    rw [hm, Int.zero_mul, Int.add_zero]
    generalize lm (B2 w) n = xs at *
    apply Exs_cons
    apply Ex_return (a := aints xs)
    · apply Ev_ofF
      apply EvF_slice (xs := xs.map .int) (a := none) (b := none)
      any_goals (repeat' walk_at "ev")
      · simp [line16]; omega
      · exact pick_all
    · rfl
  intro hne
  simp at hne
  apply Exs_nil
  generalize lm (B2 w) n = xs at *
  generalize lm (B2 w) m = ys at *
  apply Exs_cons
  apply Ex_if (r := decide (((xs.map AV.int).length : Int) ≤ (s : Int)))
  · repeat' walk_at "ev"
    simp; omega
  · intro _
    have hres : xs ++ List.replicate (s - xs.length) 0 ++ ys = lm (B2 w) (n + m * (B2 w : Int) ^ s) := by
      refine lm_of hb (dig_append (dig_append hd (fun y hy => by rw [(List.mem_replicate.mp hy).2]; omega)) hd') ?_ ?_
      · intro e
        rw [List.getLast?_append] at e
        cases hq : ys.getLast? with
        | none => rw [List.getLast?_eq_none_iff] at hq; exact hne hq
        | some y => rw [hq] at e; simp at e; subst e; exact hn' hq
      · rw [val_append, val_append, hv, hv']
        have : val (B2 w) (List.replicate (s - xs.length) 0) = 0 := by
          generalize s - xs.length = q
          induction q with
          | zero => rfl
          | succ q ih => rw [List.replicate_succ, val, ih]; simp
        rw [this, Int.mul_zero, Int.add_zero, List.length_append, List.length_replicate, show xs.length + (s - xs.length) = s by omega, Int.mul_comm m]
    rw [← hres]
    apply Exs_cons
    apply Ex_return (a := .list ((xs.map AV.int ++ List.replicate ((s : Int) - ((xs.map AV.int).length : Int)).toNat (.int 0)) ++ ys.map AV.int))
    · apply Ev_ofF
      apply EvF_add
      · apply Ev_ofF
        apply EvF_add
        · repeat' walk_at "ev"
        · apply Ev_ofF
          apply EvF_mul
          · repeat' walk_at "ev"
          · repeat' walk_at "ev"
            simp; omega
          · simp; omega
          · simp; omega
        · simp; omega
      · repeat' walk_at "ev"
      · simp; omega
    · show Out.ret _ = Out.ret _
      have e : ((s : Int) - ((xs.map AV.int).length : Int)).toNat = s - xs.length := by rw [List.length_map]; omega
      rw [e]; simp
  · intro h
    simp at h; omega
end
section
set_option maxHeartbeats 8000000


theorem Ev_callE {g : Gl} {c : Fx} {σ : St} {k : Nat} {pos : Pos} {fe e : Expr} {es : List Expr} {f : Addr} {args : List AV} {r : AV} (ok : c.Ok g k) (hf : FnV g f k args r) (hfe : Ev g c σ fe (.raw (.ref f))) (hkeep : keepIn g.K (.ref f) = true)
    (he : EvV g c σ (e :: es) args)
    (hst : starEach (e :: es) c.env = (false, eval e c.env) :: starEach es c.env := by rfl) (hany : ((backTo pos (starEach es c.env)).any fun x => x.1) = false := by rfl)
    (hev : eval (.Call fe (e :: es) [] pos) c.env = (do callWith pos (← eval fe c.env) [] (backTo pos (starEach (e :: es) c.env)) (backToKw pos (keywordEach [] c.env))) := by rfl) : Ev g c σ (.Call fe (e :: es) [] pos) r := by
  intro s vm mine rest fz S Q E hQ
  refine Call_ (hfe s vm mine rest fz S _ _ fun v h' tk' fz' S' hs hv => ?_) hev
  rw [Rep.raw_iff] at hv; subst hv
  refine callWith_K (h₀ := c.h₀) ok.inK hkeep (he.use pos S' fun vs h₂ tk₂ fz₂ S₂ hs₂ hr => ⟨?_, ?_⟩) hst hany
  · obtain ⟨m, F, _⟩ := S₂.fr
    exact ok.inK.keeps F.keep
  · rw [List.nil_append]
    exact hf c ok σ _ vm mine rest fz₂ S₂ vs hr _ _ fun v h₃ tk₃ fz₃ S₃ hs₃ hv => hQ v h₃ tk₃ fz₃ S₃ (fun p q => hs₃ p (hs₂ p (hs p q))) hv

def dueN (f l : Int) (k : Nat) (n o : Int) (w : Nat) : Int × Int :=
  if f = 0 then (n + l, 0) else if f = 1 then (n - l, 0) else if f = 2 then (n * l, 0) else if f = 4 then (n * 2 ^ k, 0) else if f = 7 then (n + o * l, 0)
  else if f = 3 then (n / l, n % l) else if f = 8 then (n / 2 ^ (w * (k % 4)), n % 2 ^ (w * (k % 4))) else if f = 6 then (n % 2 ^ k, n / 2 ^ k) else (n / 2 ^ k, n % 2 ^ k)
abbrev deedV (f l : Int) (k : Nat) (r : AV) : AV := .tup [.int f, .int l, .int k, r]
abbrev pairI (p : Int × Int) : AV := .tup [.int p.1, .int p.2]

theorem two_pow_ok {k : Int} (h : k ≤ 1000000) : (Builtin.Int.intBits 2 : Int) * k ≤ 2 ^ 27 := by
  have : (Builtin.Int.intBits 2 : Int) = 2 := by decide +kernel
  rw [this]; omega
theorem p2p' (k : Nat) : (0 : Int) < 2 ^ k := Int.pow_pos (by decide)
theorem log2_p2 {k : Nat} (h : k ≤ 1000) : ((2 : Int) ^ k).natAbs.log2 < 9000 := by
  have e : ((2 : Int) ^ k).natAbs = 2 ^ k := by rw [Int.natAbs_pow]; rfl
  rw [e, Nat.log2_two_pow]; omega
theorem mul_p2 {n : Int} {k : Nat} (h : k ≤ 60) : IntMulOk n (2 ^ k) := by
  refine IntMulOk.of_right ?_
  have h0 := p2p' k
  have h1 : (2 : Int) ^ k ≤ 2 ^ 60 := by exact_mod_cast Nat.pow_le_pow_right (show 0 < 2 by decide) h
  exact intBits_le_64 (by omega) (by omega)

theorem fn_due {g : Gl} (hK : g.Is) (w : Nat) (hw : 1 ≤ w) (hw' : w ≤ 8) (f l : Int) (k : Nat) (n o : Int) (r : AV) (h0 : 0 ≤ f) (hf : f ≤ 8) (hl : 0 < l) (hlb : l < B2 w) (hk : k ≤ 50) :
    FnV g 212 1 [deedV f l k r, .int n, .int o, .int w] (pairI (dueN f l k n o w)) := by
  refine fn_of ["deed", "number", "other", "w"] (by rw [hK]; exact rfl) (by rw [hK]; exact rfl) ?_ rfl (by decide) (by decide) rfl rfl rfl (by decide) ?_
  · intro vs h
    match vs, h with
    | [v0, v1, v2, v3], _ => rfl
  intro c L ok he
  obtain ⟨A, env, h₀, A₀, base, outer⟩ := c
  dsimp only at he
  subst he
  have hb' := B2_le8 hw'
  have hn2 : (2 : Int) ^ (k : Int).toNat = 2 ^ k := by rw [Int.toNat_natCast]
  have hm4 : ((k : Int) % 4) = ((k % 4 : Nat) : Int) := by omega
  have hwk : w * (k % 4) ≤ 24 := by
    have := Nat.mul_le_mul hw' (show k % 4 ≤ 3 by omega)
    omega
  have hwk2 : (2 : Int) ^ ((w : Int) * ((k : Int) % 4)).toNat = 2 ^ (w * (k % 4)) := by
    rw [hm4, ← Int.natCast_mul, Int.toNat_natCast]
  apply Exs_cons
  apply Ex_tup (l := [("form", .int f), ("limb", .int l), ("many", .int k), ("row", r)]) ok
  · repeat' walk_at "ev"
  · exact ⟨.inl ⟨rfl, rfl⟩, .inl ⟨rfl, rfl⟩, .inl ⟨rfl, rfl⟩, .inl ⟨rfl, rfl⟩, trivial⟩
  apply Exs_cons
  refine Ex_if (r := decide (f < 3)) (by repeat' walk_at "ev") ?_ ?_
  · intro h
    simp only [decide_eq_true_eq] at h
    apply Exs_cons
    apply Ex_return (a := pairI (dueN f l k n o w))
    · apply Ev_tuple
      · apply EvV_cons
        · apply Ev_item (xs := [.int (n + l), .int (n - l), .int (n * l)]) (k := f)
          · apply Ev_ofF
            apply EvF_list
            · repeat' walk_at "ev"
              exact IntMulOk.of_right (intBits_le_64 (by omega) (by omega))
            · simp [line16]
          · repeat' walk_at "ev"
          · omega
          · rcases (show f = 0 ∨ f = 1 ∨ f = 2 by omega) with rfl | rfl | rfl <;> rfl
          · omega
        · apply EvV_cons
          · have e : (dueN f l k n o w).2 = 0 := by rcases (show f = 0 ∨ f = 1 ∨ f = 2 by omega) with rfl | rfl | rfl <;> rfl
            rw [e]
            repeat' walk_at "ev"
          · exact EvV_nil
          · rfl
        · rfl
      · simp [line16]
    · rfl
  · intro h
    simp only [decide_eq_false_iff_not] at h
    apply Exs_nil
    apply Exs_cons
    refine Ex_if (r := decide (f = 4) || decide (f = 7)) (EvB_or2 (by repeat' walk_at "ev") (fun _ => by repeat' walk_at "ev")) ?_ ?_
    · intro h4
      simp only [Bool.or_eq_true, decide_eq_true_eq] at h4
      apply Exs_cons
      apply Ex_return (a := pairI (dueN f l k n o w))
      · apply Ev_tuple
        · apply EvV_cons
          · refine Ev_if (r := decide (f = 4)) (by repeat' walk_at "ev") ?_ ?_
            · intro h
              simp only [decide_eq_true_eq] at h
              subst h
              show Ev _ _ _ _ (.int (n * 2 ^ k))
              rw [← hn2]
              repeat' walk_at "ev"
              all_goals first | omega | exact two_pow_ok (by omega) | (rw [hn2]; exact mul_p2 (by omega))
            · intro h
              simp only [decide_eq_false_iff_not] at h
              obtain rfl : f = 7 := by omega
              show Ev _ _ _ _ (.int (n + o * l))
              repeat' walk_at "ev"
              exact IntMulOk.of_right (intBits_le_64 (by omega) (by omega))
          · apply EvV_cons
            · have e : (dueN f l k n o w).2 = 0 := by rcases h4 with rfl | rfl <;> rfl
              rw [e]
              repeat' walk_at "ev"
            · exact EvV_nil
            · rfl
          · rfl
        · simp [line16]
      · rfl
    · intro h4
      simp only [Bool.or_eq_false_iff, decide_eq_false_iff_not] at h4
      apply Exs_nil
      generalize hpart : (if f = 3 then l else if f = 8 then 2 ^ (w * (k % 4)) else 2 ^ k : Int) = part
      have hp0 : 0 < part := by subst hpart; split; exact hl; split <;> exact p2p' _
      have hpl : part.natAbs.log2 < 9000 := by
        subst hpart; split
        · exact log2_small (by omega)
        · split
          · exact log2_p2 (by omega)
          · exact log2_p2 (by omega)
      have hdue : dueN f l k n o w = if f = 6 then (n % part, n / part) else (n / part, n % part) := by
        rcases (show f = 3 ∨ f = 5 ∨ f = 6 ∨ f = 8 by omega) with rfl | rfl | rfl | rfl <;> (subst hpart; rfl)
      apply Exs_cons
      apply Ex_assign (a := .int part) ok
      · refine Ev_if (r := decide (f = 3)) (by repeat' walk_at "ev") ?_ ?_
        · intro h; simp only [decide_eq_true_eq] at h; rw [if_pos h] at hpart; subst hpart
          repeat' walk_at "ev"
        · intro h; simp only [decide_eq_false_iff_not] at h; rw [if_neg h] at hpart
          refine Ev_if (r := decide (f = 8)) (by repeat' walk_at "ev") ?_ ?_
          · intro h; simp only [decide_eq_true_eq] at h; rw [if_pos h] at hpart; subst hpart
            rw [← hwk2]
            repeat' walk_at "ev"
            all_goals first | decide | exact mulok_s (by omega) (by omega) | (rw [hm4, ← Int.natCast_mul]; first | omega | exact two_pow_ok (by omega))
          · intro h; simp only [decide_eq_false_iff_not] at h; rw [if_neg h] at hpart; subst hpart
            rw [← hn2]
            repeat' walk_at "ev"
            all_goals first | omega | exact two_pow_ok (by omega)
      · rfl
      · rfl
      apply Exs_cons
      apply Ex_return (a := pairI (dueN f l k n o w))
      · rw [hdue]
        refine Ev_if (r := decide (f = 6)) (by repeat' walk_at "ev") ?_ ?_
        · intro h; simp only [decide_eq_true_eq] at h; rw [if_pos h]
          repeat' walk_at "ev"
          all_goals first | assumption | (simp [line16])
        · intro h; simp only [decide_eq_false_iff_not] at h; rw [if_neg h]
          repeat' walk_at "ev"
          all_goals first | assumption | (simp [line16])
      · rfl
end
section
set_option maxHeartbeats 8000000


theorem len_ok {w : Nat} (hw : 1 ≤ w) {n : Int} (h0 : 0 ≤ n) (h : n < 2 ^ 250) : (lm (B2 w) n).length ≤ 1000 := by
  have hb := B2_ge hw
  by_cases hz : n = 0
  · subst hz; rw [lm_zero]; decide
  have h1 := lm_ge hb (show 0 < n by omega)
  have h2 : (2 : Int) ^ ((lm (B2 w) n).length - 1) ≤ (B2 w : Int) ^ ((lm (B2 w) n).length - 1) := by
    exact_mod_cast Nat.pow_le_pow_left hb _
  have h3 : (2 : Int) ^ ((lm (B2 w) n).length - 1) < 2 ^ 250 := by omega
  have h4 : 2 ^ ((lm (B2 w) n).length - 1) < 2 ^ 250 := by exact_mod_cast h3
  have := (Nat.pow_lt_pow_iff_right (show 1 < 2 by decide)).mp h4
  omega

theorem row_zero (w : Nat) : row w 0 = aints [] := by rw [row, lm_zero]
abbrev pairR (w : Nat) (p : Int × Int) : AV := .tup [row w p.1, row w p.2]

theorem Ev_noughts {g : Gl} {c : Fx} {σ : St} {w : Nat} {pos : Pos} : Ev g c σ (.List [] pos) (row w 0) := by
  rw [row_zero]
  apply Ev_ofF
  apply EvF_list (as := [])
  · exact EvV_nil
  · simp [line16]

theorem fn_done {g : Gl} (hK : g.Is) (w : Nat) (hw : 1 ≤ w) (hw' : w ≤ 8) (f l : Int) (k : Nat) (n o : Int) (h0 : 0 ≤ f) (hf : f ≤ 8) (hl : 0 < l) (hlb : l < B2 w) (hk : k ≤ 50) (hn : 0 ≤ n) (ho : 0 ≤ o) (hn' : n < 2 ^ 200) (ho' : o < 2 ^ 200) (h1 : f = 1 → l ≤ n) :
    FnV g 205 4 [deedV f l k (row w o), row w n, .int w] (pairR w (dueN f l k n o w)) := by
  refine fn_of ["deed", "row", "w"] (by rw [hK]; exact rfl) (by rw [hK]; exact rfl) ?_ rfl (by decide) (by decide) rfl rfl rfl (by decide) ?_
  · intro vs h
    match vs, h with
    | [v0, v1, v2], _ => rfl
  intro c L ok he
  obtain ⟨A, env, h₀, A₀, base, outer⟩ := c
  dsimp only at he
  subst he
  have hb := B2_ge hw
  have hb' := B2_le8 hw'
  have hln := len_ok hw hn (by omega)
  have hlo := len_ok hw ho (by omega)
  have hm4 : ((k : Int) % 4) = ((k % 4 : Nat) : Int) := by omega
  have hpw : (2 : Int) ^ (w * (k % 4)) = (B2 w : Int) ^ (k % 4) := by rw [B2_cast, ← Int.pow_mul]
  apply Exs_cons
  apply Ex_tup (l := [("form", .int f), ("limb", .int l), ("many", .int k), ("other", row w o)]) ok
  · repeat' walk_at "ev"
  · exact ⟨.inl ⟨rfl, rfl⟩, .inl ⟨rfl, rfl⟩, .inl ⟨rfl, rfl⟩, .inl ⟨rfl, rfl⟩, trivial⟩
  apply Exs_cons
  refine Ex_if (r := decide (f = 3)) (by repeat' walk_at "ev") ?_ ?_
  · intro h
    simp only [decide_eq_true_eq] at h
    subst h
    apply Exs_cons
    apply Ex_tup (l := [("quotient", row w (n / l)), ("rest", .int (n % l))]) ok
    · refine Ev_call ok ((fn_divrem hK w hw hw' n l hn hl hlb hln).more (by omega)) (ns135 hK).1 (ns135 hK).2 ?_ rfl
      repeat' walk_at "ev"
    · exact ⟨.inl ⟨rfl, rfl⟩, .inl ⟨rfl, rfl⟩, trivial⟩
    apply Exs_cons
    apply Ex_return (a := pairR w (n / l, n % l))
    · have hr := Int.emod_nonneg n (show l ≠ 0 by omega)
      have hr' := Int.emod_lt_of_pos n hl
      apply Ev_tuple
      · apply EvV_cons
        · repeat' walk_at "ev"
        · apply EvV_cons
          · refine Ev_call ok ((fn_nat_of hK w hw hw' (n % l) hr (len_ok hw hr (by omega))).more (by omega)) (ns65 hK).1 (ns65 hK).2 ?_ rfl
            repeat' walk_at "ev"
          · exact EvV_nil
          · rfl
        · rfl
      · simp [line16]
    · rfl
  intro h3
  simp only [decide_eq_false_iff_not] at h3
  apply Exs_nil
  apply Exs_cons
  refine Ex_if (r := decide (f = 5)) (by repeat' walk_at "ev") ?_ ?_
  · intro h
    simp only [decide_eq_true_eq] at h
    subst h
    apply Exs_cons
    apply Ex_return (a := pairR w (n / 2 ^ k, n % 2 ^ k))
    · apply Ev_tuple
      · apply EvV_cons
        · refine Ev_call ok ((fn_shift_right hK w hw hw' n k hn (by omega) hln).more (by omega)) (ns149 hK).1 (ns149 hK).2 ?_ rfl
          repeat' walk_at "ev"
        · apply EvV_cons
          · refine Ev_call ok ((fn_low hK w hw hw' n k hn (by omega) hln).more (by omega)) (ns170 hK).1 (ns170 hK).2 ?_ rfl
            repeat' walk_at "ev"
          · exact EvV_nil
          · rfl
        · rfl
      · simp [line16]
    · rfl
  intro h5
  simp only [decide_eq_false_iff_not] at h5
  apply Exs_nil
  apply Exs_cons
  refine Ex_if (r := decide (f = 6)) (by repeat' walk_at "ev") ?_ ?_
  · intro h
    simp only [decide_eq_true_eq] at h
    subst h
    apply Exs_cons
    apply Ex_return (a := pairR w (n % 2 ^ k, n / 2 ^ k))
    · apply Ev_tuple
      · apply EvV_cons
        · refine Ev_call ok ((fn_low hK w hw hw' n k hn (by omega) hln).more (by omega)) (ns170 hK).1 (ns170 hK).2 ?_ rfl
          repeat' walk_at "ev"
        · apply EvV_cons
          · refine Ev_call ok ((fn_shift_right hK w hw hw' n k hn (by omega) hln).more (by omega)) (ns149 hK).1 (ns149 hK).2 ?_ rfl
            repeat' walk_at "ev"
          · exact EvV_nil
          · rfl
        · rfl
      · simp [line16]
    · rfl
  intro h6
  simp only [decide_eq_false_iff_not] at h6
  apply Exs_nil
  apply Exs_cons
  refine Ex_if (r := decide (f = 8)) (by repeat' walk_at "ev") ?_ ?_
  · intro h
    simp only [decide_eq_true_eq] at h
    subst h
    apply Exs_cons
    apply Ex_tup (l := [("lesser", row w (n % (B2 w : Int) ^ (k % 4))), ("greater", row w (n / (B2 w : Int) ^ (k % 4)))]) ok
    · refine Ev_call ok ((fn_split hK w hw n (k % 4) hn (by omega) hln).more (by omega)) (ns177 hK).1 (ns177 hK).2 ?_ rfl
      rw [← hm4]
      repeat' walk_at "ev"
      decide
    · exact ⟨.inl ⟨rfl, rfl⟩, .inl ⟨rfl, rfl⟩, trivial⟩
    apply Exs_cons
    apply Ex_return (a := pairR w (n / (B2 w : Int) ^ (k % 4), n % (B2 w : Int) ^ (k % 4)))
    · repeat' walk_at "ev"
      simp [line16]
    · show Out.ret _ = Out.ret _
      rw [← hpw]; rfl
  intro h8
  simp only [decide_eq_false_iff_not] at h8
  apply Exs_nil
  apply Exs_cons
  refine Ex_if (r := decide (f = 7)) (by repeat' walk_at "ev") ?_ ?_
  · intro h
    simp only [decide_eq_true_eq] at h
    subst h
    apply Exs_cons
    apply Ex_return (a := pairR w (n + o * l, 0))
    · apply Ev_tuple
      · apply EvV_cons
        · refine Ev_call ok ((fn_add_mul hK w hw hw' n o l hn ho (by omega) hlb hln hlo).more (by omega)) (ns128 hK).1 (ns128 hK).2 ?_ rfl
          repeat' walk_at "ev"
        · apply EvV_cons
          · exact Ev_noughts
          · exact EvV_nil
          · rfl
        · rfl
      · simp [line16]
    · rfl
  intro h7
  simp only [decide_eq_false_iff_not] at h7
  apply Exs_nil
  apply Exs_cons
  refine Ex_if (r := decide (f = 4)) (by repeat' walk_at "ev") ?_ ?_
  · intro h
    simp only [decide_eq_true_eq] at h
    subst h
    apply Exs_cons
    apply Ex_return (a := pairR w (n * 2 ^ k, 0))
    · apply Ev_tuple
      · apply EvV_cons
        · refine Ev_call ok ((fn_shift_left hK w hw hw' n k hn (by omega) hln).more (by omega)) (ns142 hK).1 (ns142 hK).2 ?_ rfl
          repeat' walk_at "ev"
        · apply EvV_cons
          · exact Ev_noughts
          · exact EvV_nil
          · rfl
        · rfl
      · simp [line16]
    · rfl
  intro h4
  simp only [decide_eq_false_iff_not] at h4
  apply Exs_nil
  apply Exs_cons
  apply Ex_return (a := pairR w (dueN f l k n o w))
  · apply Ev_tuple
    · apply EvV_cons
      · rcases (show f = 0 ∨ f = 1 ∨ f = 2 by omega) with rfl | rfl | rfl
        · refine Ev_callE ok (f := 100) ((fn_add_limb hK w hw hw' n l hn (by omega) hlb (by omega)).more (by omega)) ?_ (ns100 hK).2 ?_
          · apply Ev_item (xs := [.raw (.ref 100), .raw (.ref 107), .raw (.ref 121)]) (k := 0)
            · apply Ev_ofF
              apply EvF_list
              · refine EvV_cons (Ev_glob ok (ns100 hK).1 rfl) (EvV_cons (Ev_glob ok (ns107 hK).1 rfl) (EvV_cons (Ev_glob ok (ns121 hK).1 rfl) EvV_nil))
              · simp [line16]
            · repeat' walk_at "ev"
            · decide
            · rfl
            · decide
          · repeat' walk_at "ev"
        · refine Ev_callE ok (f := 107) ((fn_sub_limb hK w hw hw' n l (h1 rfl) hl hlb hln).more (by omega)) ?_ (ns107 hK).2 ?_
          · apply Ev_item (xs := [.raw (.ref 100), .raw (.ref 107), .raw (.ref 121)]) (k := 1)
            · apply Ev_ofF
              apply EvF_list
              · refine EvV_cons (Ev_glob ok (ns100 hK).1 rfl) (EvV_cons (Ev_glob ok (ns107 hK).1 rfl) (EvV_cons (Ev_glob ok (ns121 hK).1 rfl) EvV_nil))
              · simp [line16]
            · repeat' walk_at "ev"
            · decide
            · rfl
            · decide
          · repeat' walk_at "ev"
        · refine Ev_callE ok (f := 121) ((fn_mul_limb hK w hw hw' n l hn hl hlb hln).more (by omega)) ?_ (ns121 hK).2 ?_
          · apply Ev_item (xs := [.raw (.ref 100), .raw (.ref 107), .raw (.ref 121)]) (k := 2)
            · apply Ev_ofF
              apply EvF_list
              · refine EvV_cons (Ev_glob ok (ns100 hK).1 rfl) (EvV_cons (Ev_glob ok (ns107 hK).1 rfl) (EvV_cons (Ev_glob ok (ns121 hK).1 rfl) EvV_nil))
              · simp [line16]
            · repeat' walk_at "ev"
            · decide
            · rfl
            · decide
          · repeat' walk_at "ev"
      · apply EvV_cons
        · have e : (dueN f l k n o w).2 = 0 := by rcases (show f = 0 ∨ f = 1 ∨ f = 2 by omega) with rfl | rfl | rfl <;> rfl
          rw [e]
          exact Ev_noughts
        · exact EvV_nil
        · rfl
      · rfl
    · simp [line16]
  · rfl
end
section
set_option maxHeartbeats 8000000


theorem emod_le' (n : Int) (hn : 0 ≤ n) {d : Int} (hd : 0 < d) : n % d ≤ n := by
  have h1 := Int.mul_ediv_add_emod n d
  have h2 : 0 ≤ d * (n / d) := Int.mul_nonneg (by omega) (Int.ediv_nonneg hn (by omega))
  omega

theorem fn_undone {g : Gl} (hK : g.Is) (w : Nat) (hw : 1 ≤ w) (hw' : w ≤ 8) (f l : Int) (k : Nat) (n o m q : Int) (h0 : 0 ≤ f) (hf : f ≤ 8) (hl : 0 < l) (hlb : l < B2 w) (hk : k ≤ 16) (hn : 0 ≤ n) (ho : 0 ≤ o) (hn' : n < 2 ^ 200) (ho' : o < 2 ^ 200) (h1 : f = 1 → l ≤ n)
    (hd : dueN f l k n o w = (m, q)) (hm : 0 ≤ m) (hm' : m < 2 ^ 200) :
    FnV g 219 4 [deedV f l k (row w o), row w m, row w q, .int w] (row w n) := by
  refine fn_of ["deed", "row", "lost", "w"] (by rw [hK]; exact rfl) (by rw [hK]; exact rfl) ?_ rfl (by decide) (by decide) rfl rfl rfl (by decide) ?_
  · intro vs h
    match vs, h with
    | [v0, v1, v2, v3], _ => rfl
  intro c L ok he
  obtain ⟨A, env, h₀, A₀, base, outer⟩ := c
  dsimp only at he
  subst he
  have hb := B2_ge hw
  have hb' := B2_le8 hw'
  have hln := len_ok hw hn (by omega)
  have hlo := len_ok hw ho (by omega)
  have hlm := len_ok hw hm (by omega)
  have hm4 : ((k : Int) % 4) = ((k % 4 : Nat) : Int) := by omega
  have hpw : (2 : Int) ^ (w * (k % 4)) = (B2 w : Int) ^ (k % 4) := by rw [B2_cast, ← Int.pow_mul]
  have hk2 := p2p' k
  have dm := fun d : Int => Int.mul_ediv_add_emod n d
  apply Exs_cons
  apply Ex_tup (l := [("form", .int f), ("limb", .int l), ("many", .int k), ("other", row w o)]) ok
  · repeat' walk_at "ev"
  · exact ⟨.inl ⟨rfl, rfl⟩, .inl ⟨rfl, rfl⟩, .inl ⟨rfl, rfl⟩, .inl ⟨rfl, rfl⟩, trivial⟩
  apply Exs_cons
  refine Ex_if (r := decide (f < 2)) (by repeat' walk_at "ev") ?_ ?_
  · intro h
    simp only [decide_eq_true_eq] at h
    apply Exs_cons
    apply Ex_return (a := row w n)
    · refine Ev_if (r := decide (f = 0)) (by repeat' walk_at "ev") ?_ ?_
      · intro h; simp only [decide_eq_true_eq] at h; subst h
        obtain ⟨rfl, rfl⟩ := Prod.mk.inj hd
        have e : n = n + l - l := by omega
        conv => rhs; rw [e]
        refine Ev_call ok ((fn_sub_limb hK w hw hw' (n + l) l (by omega) hl hlb hlm).more (by omega)) (ns107 hK).1 (ns107 hK).2 ?_ rfl
        repeat' walk_at "ev"
      · intro h; simp only [decide_eq_false_iff_not] at h
        obtain rfl : f = 1 := by omega
        obtain ⟨rfl, rfl⟩ := Prod.mk.inj hd
        have e : n = n - l + l := by omega
        conv => rhs; rw [e]
        refine Ev_call ok ((fn_add_limb hK w hw hw' (n - l) l hm (by omega) hlb (by omega)).more (by omega)) (ns100 hK).1 (ns100 hK).2 ?_ rfl
        repeat' walk_at "ev"
    · rfl
  intro h2
  simp only [decide_eq_false_iff_not] at h2
  apply Exs_nil
  apply Exs_cons
  refine Ex_if (r := decide (f = 2)) (by repeat' walk_at "ev") ?_ ?_
  · intro h
    simp only [decide_eq_true_eq] at h
    subst h
    obtain ⟨rfl, rfl⟩ := Prod.mk.inj hd
    have e1 : n * l / l = n := Int.mul_ediv_cancel _ (by omega)
    have e2 : n * l % l = 0 := Int.mul_emod_left _ _
    apply Exs_cons
    apply Ex_tup (l := [("quotient", row w n), ("rest", .int 0)]) ok
    · have := fn_divrem hK w hw hw' (n * l) l hm hl hlb hlm
      rw [e1, e2] at this
      refine Ev_call ok (this.more (by omega)) (ns135 hK).1 (ns135 hK).2 ?_ rfl
      repeat' walk_at "ev"
    · exact ⟨.inl ⟨rfl, rfl⟩, .inl ⟨rfl, rfl⟩, trivial⟩
    apply Exs_cons
    apply Ex_return (a := row w n)
    · refine Ev_if (r := true) ?_ ?_ ?_
      · apply EvB_cmp (a := .int 0) (b := .int 0)
        · repeat' walk_at "ev"
        · repeat' walk_at "ev"
        · exact op_eq (a := 0) (b := 0)
      · intro _; repeat' walk_at "ev"
      · intro h; cases h
    · rfl
  intro h2
  simp only [decide_eq_false_iff_not] at h2
  apply Exs_nil
  apply Exs_cons
  refine Ex_if (r := decide (f = 3)) (by repeat' walk_at "ev") ?_ ?_
  · intro h
    simp only [decide_eq_true_eq] at h
    subst h
    obtain ⟨rfl, rfl⟩ := Prod.mk.inj hd
    have hq := Int.emod_nonneg n (show l ≠ 0 by omega)
    have hq' := Int.emod_lt_of_pos n hl
    have e : n = n % l + n / l * l := by have := dm l; rw [Int.mul_comm] at this; omega
    apply Exs_cons
    apply Ex_return (a := row w n)
    · conv => rhs; rw [e]
      refine Ev_call ok ((fn_add_mul hK w hw hw' (n % l) (n / l) l hq hm (by omega) hlb (len_ok hw hq (by omega)) hlm).more (by omega)) (ns128 hK).1 (ns128 hK).2 ?_ rfl
      repeat' walk_at "ev"
    · rfl
  intro h3
  simp only [decide_eq_false_iff_not] at h3
  apply Exs_nil
  apply Exs_cons
  refine Ex_if (r := decide (f = 4)) (by repeat' walk_at "ev") ?_ ?_
  · intro h
    simp only [decide_eq_true_eq] at h
    subst h
    obtain ⟨rfl, rfl⟩ := Prod.mk.inj hd
    have e : n = n * 2 ^ k / 2 ^ k := (Int.mul_ediv_cancel _ (by omega)).symm
    apply Exs_cons
    apply Ex_return (a := row w n)
    · conv => rhs; rw [e]
      refine Ev_call ok ((fn_shift_right hK w hw hw' (n * 2 ^ k) k hm (by omega) hlm).more (by omega)) (ns149 hK).1 (ns149 hK).2 ?_ rfl
      repeat' walk_at "ev"
    · rfl
  intro h4
  simp only [decide_eq_false_iff_not] at h4
  apply Exs_nil
  apply Exs_cons
  refine Ex_if (r := decide (f = 5)) (by repeat' walk_at "ev") ?_ ?_
  · intro h
    simp only [decide_eq_true_eq] at h
    subst h
    obtain ⟨rfl, rfl⟩ := Prod.mk.inj hd
    have hq := Int.emod_nonneg n (show (2 : Int) ^ k ≠ 0 by omega)
    have hq' := Int.emod_lt_of_pos n hk2
    have hqn := emod_le' n hn hk2
    have e : n = n / 2 ^ k * 2 ^ k + n % 2 ^ k := by have := dm (2 ^ k); rw [Int.mul_comm] at this; omega
    have hs : 0 ≤ n / 2 ^ k * 2 ^ k := Int.mul_nonneg hm (by omega)
    apply Exs_cons
    apply Ex_return (a := row w n)
    · conv => rhs; rw [e]
      refine Ev_call ok ((fn_add hK w hw hw' (n / 2 ^ k * 2 ^ k) (n % 2 ^ k) hs hq (len_ok hw hs (by omega)) (len_ok hw hq (by omega))).more (by omega)) (ns86 hK).1 (ns86 hK).2 ?_ rfl
      apply EvV_cons
      · refine Ev_call ok ((fn_shift_left hK w hw hw' (n / 2 ^ k) k hm (by omega) hlm).more (by omega)) (ns142 hK).1 (ns142 hK).2 ?_ rfl
        repeat' walk_at "ev"
      · repeat' walk_at "ev"
      · rfl
    · rfl
  intro h5
  simp only [decide_eq_false_iff_not] at h5
  apply Exs_nil
  apply Exs_cons
  refine Ex_if (r := decide (f = 6)) (by repeat' walk_at "ev") ?_ ?_
  · intro h
    simp only [decide_eq_true_eq] at h
    subst h
    obtain ⟨rfl, rfl⟩ := Prod.mk.inj hd
    have hq : 0 ≤ n / 2 ^ k := Int.ediv_nonneg hn (by omega)
    have e : n = n % 2 ^ k + n / 2 ^ k * 2 ^ k := by have := dm (2 ^ k); rw [Int.mul_comm] at this; omega
    have hs : 0 ≤ n / 2 ^ k * 2 ^ k := Int.mul_nonneg hq (by omega)
    have hqn : n / 2 ^ k ≤ n := Int.ediv_le_self _ hn
    apply Exs_cons
    apply Ex_return (a := row w n)
    · conv => rhs; rw [e]
      refine Ev_call ok ((fn_add hK w hw hw' (n % 2 ^ k) (n / 2 ^ k * 2 ^ k) hm hs hlm (len_ok hw hs (by omega))).more (by omega)) (ns86 hK).1 (ns86 hK).2 ?_ rfl
      apply EvV_cons
      · repeat' walk_at "ev"
      · apply EvV_cons
        · refine Ev_call ok ((fn_shift_left hK w hw hw' (n / 2 ^ k) k hq (by omega) (len_ok hw hq (by omega))).more (by omega)) (ns142 hK).1 (ns142 hK).2 ?_ rfl
          repeat' walk_at "ev"
        · repeat' walk_at "ev"
        · rfl
      · rfl
    · rfl
  intro h6
  simp only [decide_eq_false_iff_not] at h6
  apply Exs_nil
  apply Exs_cons
  apply Ex_return (a := row w n)
  · refine Ev_if (r := decide (f = 7)) (by repeat' walk_at "ev") ?_ ?_
    · intro h
      simp only [decide_eq_true_eq] at h
      subst h
      obtain ⟨rfl, rfl⟩ := Prod.mk.inj hd
      have e : n = n + o * l - o * l := by omega
      have hs : 0 ≤ o * l := Int.mul_nonneg ho (by omega)
      conv => rhs; rw [e]
      refine Ev_call ok ((fn_sub hK w hw hw' (n + o * l) (o * l) (by omega) hs hlm).more (by omega)) (ns93 hK).1 (ns93 hK).2 ?_ rfl
      apply EvV_cons
      · repeat' walk_at "ev"
      · apply EvV_cons
        · refine Ev_call ok ((fn_mul_limb hK w hw hw' o l ho hl hlb hlo).more (by omega)) (ns121 hK).1 (ns121 hK).2 ?_ rfl
          repeat' walk_at "ev"
        · repeat' walk_at "ev"
        · rfl
      · rfl
    · intro h
      simp only [decide_eq_false_iff_not] at h
      obtain rfl : f = 8 := by omega
      obtain ⟨rfl, rfl⟩ := Prod.mk.inj hd
      rw [hpw] at hm hm' hlm ⊢
      have hB := pow_pos hb (k % 4)
      have hq := Int.emod_nonneg n (show (B2 w : Int) ^ (k % 4) ≠ 0 by omega)
      have hq' := Int.emod_lt_of_pos n hB
      have hqn := emod_le' n hn hB
      have e : n = n % (B2 w : Int) ^ (k % 4) + n / (B2 w : Int) ^ (k % 4) * (B2 w : Int) ^ (k % 4) := by have := dm ((B2 w : Int) ^ (k % 4)); rw [Int.mul_comm] at this; omega
      conv => rhs; rw [e]
      refine Ev_call ok ((fn_add_at hK w hw hw' (n % (B2 w : Int) ^ (k % 4)) (n / (B2 w : Int) ^ (k % 4)) (k % 4) hq hm (by omega) hq' (len_ok hw hq (by omega)) hlm).more (by omega)) (ns114 hK).1 (ns114 hK).2 ?_ rfl
      rw [← hm4]
      repeat' walk_at "ev"
      decide
  · rfl
end
section
set_option maxHeartbeats 8000000


def notchAt (L : List Int) (i : Nat) (m : Int) : Int := (if i < L.length then L.getD i 0 else 7 * ((i : Int) + 1) + ((i : Int) + 1) / 3 + 8) % m
theorem notchAt_ge (L : List Int) (i : Nat) {m : Int} (hm : 0 < m) : 0 ≤ notchAt L i m := Int.emod_nonneg _ (by omega)
theorem notchAt_lt (L : List Int) (i : Nat) {m : Int} (hm : 0 < m) : notchAt L i m < m := Int.emod_lt_of_pos _ hm
abbrev stickV (i : Nat) (L : List Int) : List AV := [.int i, aints L]

theorem EvC_notched {g : Gl} {c : Fx} {σ : St} {k : Nat} {p0 p1 pos : Pos} {e : Expr} {m : Int} {i : Nat} {L : List Int} {pre post : List (Str × Option (List AV))} (hK : g.Is) (ok : c.Ok g (k + 1)) (hω : σ.ω = pre ++ (("stick" : Str), some (stickV i L)) :: post) (hr : Readable c σ "stick")
    (he : Ev g c σ e (.int m)) (hm : 0 < m) (hi : i ≤ 1000) (hL : L.length ≤ 1000) (hkf : c.env.kindOf "_law_notched" = some .globalImplicit)
    (hst : starEach [.Name "stick" p1, e] c.env = (false, eval (.Name "stick" p1) c.env) :: starEach [e] c.env := by rfl) (hst2 : starEach [e] c.env = (false, eval e c.env) :: starEach [] c.env := by rfl) (hany : ((backTo pos (starEach [e] c.env)).any fun x => x.1) = false := by rfl)
    (hev : eval (.Call (.Name "_law_notched" p0) [.Name "stick" p1, e] [] pos) c.env = (do callWith pos (← eval (.Name "_law_notched" p0) c.env) [] (backTo pos (starEach [.Name "stick" p1, e] c.env)) (backToKw pos (keywordEach [] c.env))) := by rfl) :
    EvC g c σ (.Call (.Name "_law_notched" p0) [.Name "stick" p1, e] [] pos) (.int (notchAt L i m)) { σ with ω := pre ++ (("stick" : Str), some (stickV (i + 1) L)) :: post } := by
  refine EvC_own (f := 191) (xs := stickV i L) (xs' := stickV (i + 1) L) (b := .int m) "stick" "many" ok hω hr he (by rw [hK]; exact rfl) (by rw [hK]; exact rfl) (fun v1 v2 => rfl) (by decide) rfl rfl rfl rfl rfl (by decide) (ns191 hK).1 (ns191 hK).2 hkf ?_ (by decide) (by decide) hst hst2 hany hev
  intro c L' a ok he
  obtain ⟨A, env, h₀, A₀, base, outer⟩ := c
  dsimp only at he
  subst he
  have hiv : (((i + 1 : Nat) : Int)) = (i : Int) + 1 := by omega
  apply Exs_cons
  refine Ex_setitem (x := "stick") (n := 0) (a := .int ((i : Int) + 1)) (pre := []) (post := []) ok rfl (.inl rfl) ?_ ?_ (by decide) (by show (0 : Int) < ((2 : Nat) : Int); decide) (by show 2 ≤ 1000000; decide) ?_
  · apply Ev_bin
    · apply Ev_own_item (x := "stick") (k := 0) (a := .int i) (pre := []) (post := []) ok rfl (.inl rfl)
      any_goals (repeat' walk_at "ev")
      all_goals first | rfl | decide
    · repeat' walk_at "ev"
    · repeat' walk_at "ev"
  · repeat' walk_at "ev"
  apply exs_next
  apply WpS.le (σ' := ⟨[("stick", .raw (.ref a)), ("many", .int m)], [("stick", some [.int ((i : Int) + 1), aints L])]⟩) ⟨fun _ _ h => h, rfl⟩
  generalize hc : (Fx.mk A (envOf _ _ L' 191 _) h₀ A₀ base outer) = c at *
  have hkk : c.env.kindOf "stick" = some .local := by rw [← hc]; exact rfl
  have own0 : ∀ (p q r : Pos) (kk : Nat), Ev g c ⟨[("stick", .raw (.ref a)), ("many", .int m)], [("stick", some [.int ((i : Int) + 1), aints L])]⟩ (.Subscript (.Name "stick" p) (.Constant (.int 0) kk q) r) (.int ((i : Int) + 1)) := fun p q r kk => by
    apply Ev_own_item (x := "stick") (k := 0) (a := .int ((i : Int) + 1)) (pre := []) (post := []) ok rfl (.inl hkk)
    any_goals (repeat' walk_at "ev")
    all_goals first | rfl | decide
  have own1 : ∀ (p q r : Pos) (kk : Nat), Ev g c ⟨[("stick", .raw (.ref a)), ("many", .int m)], [("stick", some [.int ((i : Int) + 1), aints L])]⟩ (.Subscript (.Name "stick" p) (.Constant (.int 1) kk q) r) (aints L) := fun p q r kk => by
    apply Ev_own_item (x := "stick") (k := 1) (a := aints L) (pre := []) (post := []) ok rfl (.inl hkk)
    any_goals (repeat' walk_at "ev")
    all_goals first | rfl | decide
  subst hc
  apply Exs_cons
  refine Ex_if (r := decide ((i : Int) + 1 ≤ ((L.map AV.int).length : Int))) ?_ ?_ ?_
  · apply EvB_cmp
    · exact own0 _ _ _ _
    · apply E_len hK ok (own1 _ _ _ _)
      any_goals (repeat' walk_at "ev")
      simp; omega
    · repeat' walk_at "ev"
    · repeat' walk_at "ev"
  · intro h
    simp only [decide_eq_true_eq, List.length_map] at h
    apply Exs_cons
    apply Ex_return (a := .int (notchAt L i m))
    · have e : notchAt L i m = L.getD ((i : Int) + 1 - 1).toNat 0 % m := by
        rw [notchAt, if_pos (by omega)]; congr 2; omega
      rw [e]
      apply Ev_bin
      · apply Ev_itemI (own1 _ _ _ _)
        · apply Ev_bin
          · exact own0 _ _ _ _
          · repeat' walk_at "ev"
          · repeat' walk_at "ev"
        any_goals (repeat' walk_at "ev")
        all_goals omega
      · repeat' walk_at "ev"
      · repeat' walk_at "ev"
        exact hm
    · exact ⟨rfl, rfl, by show [(_, some [AV.int ((i : Int) + 1), _])] = [(_, some [AV.int ((i + 1 : Nat) : Int), _])]; rw [hiv]⟩
  · intro h
    simp only [decide_eq_false_iff_not, List.length_map] at h
    apply Exs_nil
    apply Exs_cons
    apply Ex_return (a := .int (notchAt L i m))
    · rw [notchAt, if_neg (by omega)]
      apply Ev_bin
      · apply Ev_bin
        · apply Ev_bin
          · apply Ev_bin
            · repeat' walk_at "ev"
            · exact own0 _ _ _ _
            · repeat' walk_at "ev"
              exact mulok_s (by decide) (by decide)
          · apply Ev_bin
            · exact own0 _ _ _ _
            · repeat' walk_at "ev"
            · repeat' walk_at "ev"
              all_goals decide +kernel
          · repeat' walk_at "ev"
        · repeat' walk_at "ev"
        · repeat' walk_at "ev"
      · repeat' walk_at "ev"
      · repeat' walk_at "ev"
        exact hm
    · exact ⟨rfl, rfl, by show [(_, some [AV.int ((i : Int) + 1), _])] = [(_, some [AV.int ((i + 1 : Nat) : Int), _])]; rw [hiv]⟩
end
section
set_option maxHeartbeats 8000000

theorem ns49 {g : Gl} (hK : g.Is) : nsIn g.K mainGlobals "OutOfRange" = some (some (.ref 49)) := by rw [hK]; exact rfl
theorem ns37 {g : Gl} (hK : g.Is) : nsIn g.K mainGlobals "DivisionByZero" = some (some (.ref 37)) := by rw [hK]; exact rfl
theorem exc49 {g : Gl} (hK : g.Is) : excIn g.K 49 [.type "Exception", .type "BaseException", .type "object"] "Exception.__new__" = true := by rw [hK]; kernel_rfl
theorem exc37 {g : Gl} (hK : g.Is) : excIn g.K 37 [.type "Exception", .type "BaseException", .type "object"] "Exception.__new__" = true := by rw [hK]; kernel_rfl

theorem fnR_sub {g : Gl} (hK : g.Is) (w : Nat) (hw : 1 ≤ w) (hw' : w ≤ 8) (n m : Int) (h0 : n < m) (h0' : 0 ≤ n) (hsz : (lm (B2 w) n).length ≤ 1000) (hsz' : (lm (B2 w) m).length ≤ 1000) :
    FnR g 93 2 [row w n, row w m, .int w] (.ref 49) := by
  refine fnR_of ["a", "b", "w"] (by rw [hK]; exact rfl) (by rw [hK]; exact rfl) ?_ rfl (by decide) (by decide) rfl rfl rfl (by decide) ?_
  · intro vs h
    match vs, h with
    | [v0, v1, v2], _ => rfl
  intro c L ok he
  obtain ⟨A, env, h₀, A₀, base, outer⟩ := c
  dsimp only at he
  subst he
  apply ExsX_head
  apply ExX_ifT
  · apply EvB_cmp (a := .int (cmpI n m)) (b := .int 0)
    · refine Ev_call ok (fn_compare hK w hw n m h0' (by omega) hsz hsz') (ns79 hK).1 (ns79 hK).2 ?_ rfl
      repeat' walk_at "ev"
    · repeat' walk_at "ev"
    · have e : decide (cmpI n m < 0) = true := by rw [cmpI, if_pos h0]; rfl
      rw [← e]
      repeat' walk_at "ev"
  · apply ExsX_head
    exact ExX_raise ok rfl (ns49 hK) (exc49 hK) rfl rfl

theorem fnR_sub_limb {g : Gl} (hK : g.Is) (w : Nat) (hw : 1 ≤ w) (hw' : w ≤ 8) (n l : Int) (h0 : n < l) (h0' : 0 ≤ n) (hlb : l < B2 w) (hsz : (lm (B2 w) n).length ≤ 1000) :
    FnR g 107 3 [row w n, .int l, .int w] (.ref 49) := by
  refine fnR_of ["a", "limb", "w"] (by rw [hK]; exact rfl) (by rw [hK]; exact rfl) ?_ rfl (by decide) (by decide) rfl rfl rfl (by decide) ?_
  · intro vs h
    match vs, h with
    | [v0, v1, v2], _ => rfl
  intro c L ok he
  obtain ⟨A, env, h₀, A₀, base, outer⟩ := c
  dsimp only at he
  subst he
  have hb := B2_ge hw
  apply ExsX_head
  apply ExX_return
  refine EvX_call ok (fnR_sub hK w hw hw' n l h0 h0' hsz (by rw [lm_one hb (by omega) hlb]; show 1 ≤ 1000; decide)) (ns93 hK).1 (ns93 hK).2 ?_ rfl
  apply EvV_cons
  · repeat' walk_at "ev"
  · apply EvV_cons
    · refine Ev_if (r := decide (0 < l)) ?_ ?_ ?_
      · repeat' walk_at "ev"
      · intro _
        dsimp only [row]
        rw [lm_one hb (by omega) hlb]
        apply Ev_ofF
        apply EvF_list (as := [.int l])
        · repeat' walk_at "ev"
        · simp [line16]
      · intro h; simp at h; omega
    · repeat' walk_at "ev"
    · rfl
  · rfl

theorem fnR_divrem {g : Gl} (hK : g.Is) (r : AV) (w : Nat) : FnR g 135 1 [r, .int 0, .int w] (.ref 37) := by
  refine fnR_of ["a", "limb", "w"] (by rw [hK]; exact rfl) (by rw [hK]; exact rfl) ?_ rfl (by decide) (by decide) rfl rfl rfl (by decide) ?_
  · intro vs h
    match vs, h with
    | [v0, v1, v2], _ => rfl
  intro c L ok he
  obtain ⟨A, env, h₀, A₀, base, outer⟩ := c
  dsimp only at he
  subst he
  apply ExsX_head
  apply ExX_ifT
  · apply EvB_cmp (a := .int 0) (b := .int 0)
    · repeat' walk_at "ev"
    · repeat' walk_at "ev"
    · exact op_eq (a := 0) (b := 0)
  · apply ExsX_head
    exact ExX_raise ok rfl (ns37 hK) (exc37 hK) rfl rfl

theorem fnR_trailing {g : Gl} (hK : g.Is) (w : Nat) : FnR g 184 1 [row w 0, .int w] (.ref 49) := by
  refine fnR_of ["a", "w"] (by rw [hK]; exact rfl) (by rw [hK]; exact rfl) ?_ rfl (by decide) (by decide) rfl rfl rfl (by decide) ?_
  · intro vs h
    match vs, h with
    | [v0, v1], _ => rfl
  intro c L ok he
  obtain ⟨A, env, h₀, A₀, base, outer⟩ := c
  dsimp only at he
  subst he
  dsimp only [row]
  rw [lm_zero]
  refine ExsX_seq ⟨[], []⟩ ?_ ?_
  · refine Ex_for_enum (fun i σ => i = 0 ∧ σ = ⟨[("a", aints []), ("w", .int w)], []⟩) hK ok (xs := []) ?_ rfl rfl rfl ⟨rfl, rfl⟩ ?_ ?_
    · repeat' walk_at "ev"
    · intro i σ a h; simp at h
    · rintro σ ⟨_, rfl⟩
      exact ⟨rfl, by walk_at "le"⟩
  · apply ExsX_head
    exact ExX_raise ok rfl (ns49 hK) (exc49 hK) rfl rfl
end
section
set_option maxHeartbeats 8000000

local macro_rules | `(tactic| walk_at "tv") => `(tactic| ((with_reducible show Tv _ _ _ (eval (Expr.Name _ _) _) _); refine Ev_var (by assumption) (by exact rfl) (Or.inr ⟨by exact rfl, by simp, by decide⟩)))

theorem told_runs {g : Gl} {c : Fx} {σ : St} {vm : Str → Option Value} {mine rest fz : Led} {pre post : List (Str × Option (List AV))} (hK : g.Is) (ok : c.Ok g 9) (hout : c.outer = []) {s : Shared} (S : Sta c σ s.heap vm mine rest fz) (hω : σ.ω = pre ++ (("#are" : Str), none) :: post) (hP : look "#are" σ.ρ = some (.raw (.ref 228))) (hC : CodeHd c.h₀ 232 228)
    (w : Nat) (hw : 1 ≤ w) (hw' : w ≤ 8) (n : Int) (p : Nat) (h0 : 0 ≤ n) (hn : n < 2 ^ 200) (hp : p ≤ 1000) {vs : List Value} (hr : Reps fz [row w n, .int n, .int p, .int w] vs)
    {Q E : Value → Shared → Prop} (hQ : ∀ v h' tk' mine' fz', Sta c σ h' vm mine' rest fz' → (∀ p ∈ fz, p ∈ fz') → Rep fz' (.bool true) v → Q v { s with heap := h', toks := tk' }) : wpAny (model g.prog g.w) c.A (call (.ref 233) vs) Q E s := by
  have hln := len_ok hw h0 (by omega)
  have hb := B2_ge hw
  refine told_of (k := 8) (P := 228) (cd := 232) ok hout S hω hP hC (by rw [hK]; exact rfl) (by rw [hK]; exact rfl) (fun _ _ _ _ => rfl) hr ?_ hQ
  intro c' L' ok he hC' s' vm' mine' rest' fz' S' Q' E' hQ'
  obtain ⟨A, env, h₀, A₀, base, outer⟩ := c'
  dsimp only at he
  subst he
  refine (show WpT g _ _ _ (fun o σ₁ => o = .ret (.bool true) ∧ σ₁.ω = toldω ∧ look "#are" σ₁.ρ = some (.raw (.ref 228))) from ?_) s' vm' mine' rest' fz' S' Q' E' fun o σ₁ fl h' tk' vm'' mine'' fz'' ⟨ho, h1, h2⟩ S'' hs hr => ?_
  rotate_left
  · subst ho
    cases fl <;> first | exact hr.elim | skip
    exact hQ' σ₁ _ h' tk' vm'' mine'' fz'' h1 h2 S'' hs hr
  refine ExsT_seq ⟨[("row", row w n), ("number", .int n), ("place", .int p), ("w", .int w), ("#are", .raw (.ref 228))], toldω⟩ ?_ ?_
  · refine Ex_if (r := false) ?_ (fun h => nomatch h) (fun _ => Exs_nil ⟨rfl, by walk_at "le"⟩)
    refine EvB_or_f ?_ (EvB_or_f ?_ (EvB_or_f ?_ EvB_or_nil))
    · apply EvB_cmp (a := row w n) (b := row w n)
      · repeat' walk_at "ev"
      · refine Ev_call ok ((fn_law_limbs hK w hw hw' n h0 hln).more (by omega)) (ns198 hK).1 (ns198 hK).2 ?_ rfl
        repeat' walk_at "ev"
      · have e : decide (lm (B2 w) n ≠ lm (B2 w) n) = false := by simp
        rw [← e]
        exact op_nel ok (by omega)
    · apply EvB_cmp (a := .int (Builtin.Int.intBits n : Nat)) (b := .int (Builtin.Int.intBits n : Nat))
      · refine Ev_call ok ((fn_bits hK w hw hw' n h0 hln).more (by omega)) (ns156 hK).1 (ns156 hK).2 ?_ rfl
        repeat' walk_at "ev"
      · apply Ev_bitlen (n := n)
        · repeat' walk_at "ev"
        · exact rfl
      · have e : decide ((Builtin.Int.intBits n : Int) ≠ (Builtin.Int.intBits n : Int)) = false := by simp
        rw [← e]
        exact op_ne
    · apply EvB_cmp (a := .bool (decide (n % 2 = 0))) (b := .bool (decide (n % 2 = 0)))
      · refine Ev_call ok ((fn_is_even hK w hw n h0 hln).more (by omega)) (ns72 hK).1 (ns72 hK).2 ?_ rfl
        repeat' walk_at "ev"
      · repeat' walk_at "ev"
        decide
      · have e : (decide (n % 2 = 0) != decide (n % 2 = 0)) = false := by simp
        rw [← e]
        exact op_neb
  refine ExsT_seq ⟨[("row", row w n), ("number", .int n), ("place", .int p), ("w", .int w), ("#are", .raw (.ref 228))], toldω⟩ ?_ ?_
  · refine Ex_if (r := false) ?_ (fun h => nomatch h) (fun _ => Exs_nil ⟨rfl, by walk_at "le"⟩)
    apply EvB_cmp (a := .int (n / 2 ^ p % 2)) (b := .int (n / 2 ^ p % 2))
    · refine Ev_call ok ((fn_bit hK w hw hw' n p h0 (by omega) hln).more (by omega)) (ns163 hK).1 (ns163 hK).2 ?_ rfl
      repeat' walk_at "ev"
    · have e : (2 : Int) ^ (p : Int).toNat = 2 ^ p := by rw [Int.toNat_natCast]
      rw [← e]
      repeat' walk_at "ev"
      all_goals first | omega | decide | exact two_pow_ok (by omega) | exact Int.pow_pos (by decide) | (rw [e]; exact log2_p2 (by omega))
    · have e : decide (n / 2 ^ p % 2 ≠ n / 2 ^ p % 2) = false := by simp
      rw [← e]
      exact op_ne
  by_cases hz : n = 0
  · subst hz
    refine ExsT_ret ?_
    refine ExT_ifT ?_ ?_
    · apply EvB_cmp (a := .int 0) (b := .int 0)
      · repeat' walk_at "ev"
      · repeat' walk_at "ev"
      · exact op_eq (a := 0) (b := 0)
    · refine ExsT_ret ?_
      refine ExT_return (σ' := ⟨[("row", row w 0), ("number", .int 0), ("place", .int p), ("w", .int w), ("#are", .raw (.ref 228))], toldω⟩) (a := .bool true) ?_ ⟨_, rfl, _, rfl, rfl, rfl, rfl⟩
      refine EvT_refused (k := 6) (fun e => e.1 == "row" || e.1 == "w") (tn := "#are") (q := "_law_are_told.<locals>.<lambda>") (pre := [("w", none), ("row", none)]) (post := []) hK ok rfl (by decide) rfl rfl hC' (by show (("_law_are_told" ++ ".<locals>." ++ "<lambda>" : Str)) = _; decide) rfl rfl ?_ (fun _ _ _ => rfl) rfl rfl rfl (by decide) (by decide) ?_ (ns49 hK) (exc49 hK) rfl rfl (by decide) rfl rfl rfl rfl
      · intro x hx
        have hx' : (x, none) ∈ ([("w", none), ("row", none)] : List (Str × Option (List AV))) := hx
        simp only [List.mem_cons, Prod.mk.injEq, List.not_mem_nil, or_false, and_true] at hx'
        rcases hx' with rfl | rfl <;> rfl
      · intro c₁ L'' f c'' ok₁ he₁
        obtain ⟨A, env, h₀, A₀, base, outer⟩ := c₁
        dsimp only at he₁
        subst he₁
        refine EvX_call ok₁ ((fnR_trailing hK w).more (by omega)) (ns184 hK).1 (ns184 hK).2 ?_ rfl
        refine EvV_cons (Ev_free ok₁ rfl rfl ?_ (by decide)) (EvV_cons (Ev_free ok₁ rfl rfl ?_ (by decide)) EvV_nil)
        · show (("row" : Str), none) ∈ ([("w", none), ("row", none)] : List (Str × Option (List AV)))
          simp
        · show (("w" : Str), none) ∈ ([("w", none), ("row", none)] : List (Str × Option (List AV)))
          simp
  · apply WpT.of
    apply Exs_cons
    refine Ex_if (r := decide (n = 0)) ?_ (fun h => by simp at h; omega) ?_
    · repeat' walk_at "ev"
    intro _
    apply Exs_nil
    obtain ⟨t, ht, hm1, hm2, hft⟩ := fn_trailing hK w hw hw' n (by omega) hln
    apply Exs_cons
    apply Ex_assign (a := .int t) ok
    · refine Ev_call ok (hft.more (by omega)) (ns184 hK).1 (ns184 hK).2 ?_ rfl
      repeat' walk_at "ev"
    · rfl
    · rfl
    have e : (2 : Int) ^ (t : Int).toNat = 2 ^ t := by rw [Int.toNat_natCast]
    have hpos : (0 : Int) < 2 ^ t := Int.pow_pos (by decide)
    have hlog : ((2 : Int) ^ t).natAbs.log2 < 9000 := by
      have e : ((2 : Int) ^ t).natAbs = 2 ^ t := by rw [Int.natAbs_pow]; rfl
      rw [e, Nat.log2_two_pow]; omega
    apply Exs_cons
    apply Ex_return (a := .bool true)
    · refine Ev_and_bool (b := true) (b' := true) ?_ (fun _ => ?_)
      · have e2 : decide (n % 2 ^ (t : Int).toNat = 0) = true := by rw [e]; simpa using hm1
        rw [← e2]
        repeat' walk_at "ev"
        all_goals first | omega | decide | exact two_pow_ok (by omega) | (rw [e]; exact hpos)
      · have e2 : decide (n / 2 ^ (t : Int).toNat % 2 = 1) = true := by rw [e]; simpa using hm2
        rw [← e2]
        repeat' walk_at "ev"
        all_goals first | omega | decide | exact two_pow_ok (by omega) | (rw [e]; exact hpos) | (rw [e]; exact hlog)
    · exact ⟨rfl, rfl, rfl⟩
end
section
set_option maxHeartbeats 8000000

/-! script[:19] -/
theorem EvF_slice_base {g : Gl} {c : Fx} {σ : St} {k : Nat} {x : Str} {p0 p pos : Pos} {hi : Option Expr} {sc : Addr} {vs : List Value} {b : Option Int} {ys : List AV} (ok : c.Ok g k) (hx : look x σ.ρ = some (.raw (.ref sc))) (hk : c.env.kindOf x = some .local) (hl : c.h₀.IsList sc vs.toArray)
    (h2 : EvP g c σ hi b) (hsz : vs.length ≤ sizeLine) (hpick : ∀ fz : Led, Reps fz ys (slicePick vs.toArray none b none).toList) (hd : (x == ("__debug__" : Str)) = false := by decide)
    (hlet : ∀ (o r : Value), letTemporaryGo (.Name x p0) o r = pure () := by intro _ _; rfl) : EvF g c σ (.Subscript (.Name x p0) (.Slice none hi none p) pos) ys := by
  intro s vm mine rest fz S Q E hQ
  refine wpAny_Subscript_list_slice (Ev_name ok hx hk hd s vm mine rest fz S _ _ fun o h' tk' fz' S' hs ho => ?_) hlet
  rw [Rep.raw_iff] at ho; subst ho
  refine EvP_none _ vm mine rest fz' S' _ _ fun vl h₂ tk₂ fz₂ S₂ hs₂ hl' => ?_
  refine h2 _ vm mine rest fz₂ S₂ _ _ fun vu h₃ tk₃ fz₃ S₃ hs₃ hu => ?_
  obtain ⟨m, F, em⟩ := S₃.fr
  obtain ⟨o, ho, hc, n, hd'⟩ := hl
  refine ⟨sc, vs.toArray, none, b, rfl, ⟨o, F.keep _ _ ho, hc, n, hd'⟩, by simpa using hsz, hl', hu, ?_⟩
  have kp : Kp h₃ ((h₃.push { cls := .type "slice", data := .fields #[vl, vu, .none] }).push { cls := .type "list", data := .seq (slicePick vs.toArray none b none) }) := (Kp.push _ _).trans (Kp.push _ _)
  have hnone : h₃.get? (h₃.objs.size + 1) = none := by
    cases e : h₃.get? (h₃.objs.size + 1) with
    | none => rfl
    | some o => exact absurd (Heap.lt_size e) (Nat.not_lt.mpr (Nat.le_succ _))
  have hnew : ((h₃.push { cls := .type "slice", data := .fields #[vl, vu, .none] }).push { cls := .type "list", data := .seq (slicePick vs.toArray none b none) }).get? (h₃.objs.size + 1) = some (listOf (slicePick vs.toArray none b none).toList.toArray 0) := by
    have := Heap.get?_push_size (h₃.push { cls := .type "slice", data := .fields #[vl, vu, .none] }) (o := { cls := .type "list", data := .seq (slicePick vs.toArray none b none) }) rfl
    rw [Heap.size_push] at this
    simpa using this
  exact hQ _ _ _ _ fz₃ (S₃.fresh kp hnone hnew ⟨0, rfl⟩ (hpick fz₃)) (fun p hp => hs₃ _ (hs₂ _ (hs p hp)))

/-! rows of rows, compared -/
theorem reads_rows {h : Heap} {fz : Led} (hf : ∀ p ∈ fz, h.get? p.1 = some p.2) : ∀ {xss : List (List Int)} {vs : List Value}, Reps fz (xss.map aints) vs → ∃ as, ReadsAll h vs (xss.map fun ns => PyData.list (ns.map PyData.int)) as
  | [], _, hr => by
    have := Reps.nil_iff.mp hr; subst this
    exact ⟨_, .nil⟩
  | ns :: xss, _, hr => by
    obtain ⟨v, r, rfl, h1, h2⟩ := Reps.cons_iff.mp hr
    obtain ⟨as, ha⟩ := reads_rows hf h2
    obtain ⟨l, o, us, rfl, hm, ⟨n, rfl⟩, hu⟩ := Rep.list_iff.mp h1
    exact ⟨_, .cons (reads_of_ints ⟨_, hf _ hm, rfl, n, rfl⟩ hu.intsAre) ha⟩
theorem canLay_rows : ∀ xss : List (List Int), PyData.canLayAll0 (xss.map fun ns => PyData.list (ns.map PyData.int)) = true
  | [] => by simp [PyData.canLayAll0]
  | ns :: r => by simp [PyData.canLayAll0, PyData.canLay0, canLayAll0_ints ns, canLay_rows r]
theorem depth_rows : ∀ xss : List (List Int), PyData.depthAll (xss.map fun ns => PyData.list (ns.map PyData.int)) ≤ 2
  | [] => by simp [PyData.depthAll]
  | ns :: r => by
    have h1 := W.depthAll_ints ns
    have h2 := depth_rows r
    simp only [List.map_cons, PyData.depthAll, PyData.depth]
    omega
theorem op_nell {g : Gl} {c : Fx} {k : Nat} (ok : c.Ok g k) (hk : 5 ≤ k) (xss : List (List Int)) : Op2 g c (compareOp .NotEq) (.list (xss.map aints)) (.list (xss.map aints)) (.bool false) := by
  intro s fz hf va vb ha hb Q E hQ
  obtain ⟨l, o, vs, rfl, hm, ⟨n, rfl⟩, hr⟩ := Rep.list_iff.mp ha
  obtain ⟨l', o', vs', rfl, hm', ⟨n', rfl⟩, hr'⟩ := Rep.list_iff.mp hb
  obtain ⟨as, h1⟩ := reads_rows hf hr
  obtain ⟨bs, h2⟩ := reads_rows hf hr'
  have hc : PyData.canLay0 (.list (xss.map fun ns => PyData.list (ns.map PyData.int))) = true := by simp only [PyData.canLay0]; exact canLay_rows xss
  have hsh : SeqAt.shaped (.list (xss.map fun ns => PyData.list (ns.map PyData.int))) = true := by
    have h1 := depth_rows xss
    have h2 : PyData.depth (.list (xss.map fun ns => PyData.list (ns.map PyData.int))) ≤ 64 := by simp only [PyData.depth]; omega
    rw [SeqAt.shaped, Bool.and_eq_true]
    exact ⟨hc, decide_eq_true h2⟩
  refine ne_dataH (reads_list_at (hf _ hm) rfl rfl (by simpa using h1)) (reads_list_at (hf _ hm') rfl rfl (by simpa using h2)) hsh hsh (by have := ok.units; omega) ?_
  rw [show PyData.eqv _ _ = true from PySem.SeqAt.eqv_refl _ hc]
  exact hQ _ _ _ (Kp.refl _) (Rep.bool_iff.mpr rfl)

/-! the names of a comprehension -/
section
variable {g : Gl} {c : Fx} {σ : St} {k : Nat} {scope : Scope} {cl : List (Str × Addr)} {C : Addr} {s : Shared} {vm : Str → Option Value} {mine rest fz : Led}
theorem cn_glob {x : Str} {pos : Pos} {v : Value} {Q E : Value → Shared → Prop} (ok : c.Ok g k) (S : Sta c σ s.heap vm mine rest fz) (hx : nsIn g.K mainGlobals x = some (some v)) (hks : (compEnvC scope cl C c.env).scope.kind = .function) (hk : (compEnvC scope cl C c.env).kindOf x = some .globalImplicit) (hd : (x == ("__debug__" : Str)) = false)
    (h : Q v s) : wpAny (model g.prog g.w) c.A (eval (.Name x pos) (compEnvC scope cl C c.env)) Q E s := by
  obtain ⟨m, F, e⟩ := S.fr
  exact Name_function_global hks hk (loadGlobal_global (env := compEnvC scope cl C c.env) (mg := g.mg) (by show s.heap.Ns c.env.globals g.mg; rw [ok.globals]; exact ok.top.g.keeps F.keep) (mg_of ok.inK ok.top.g hx) h) hd
theorem cn_built {x : Str} {pos : Pos} {v : Value} {Q E : Value → Shared → Prop} (ok : c.Ok g k) (S : Sta c σ s.heap vm mine rest fz) (hx : nsIn g.K mainGlobals x = some none) (hv : bootBuiltins x = some v) (hn : x ≠ "__name__") (hks : (compEnvC scope cl C c.env).scope.kind = .function) (hk : (compEnvC scope cl C c.env).kindOf x = some .globalImplicit) (hd : (x == ("__debug__" : Str)) = false)
    (h : Q v s) : wpAny (model g.prog g.w) c.A (eval (.Name x pos) (compEnvC scope cl C c.env)) Q E s := by
  obtain ⟨m, F, e⟩ := S.fr
  exact Name_function_global hks hk (loadGlobal_builtin (env := compEnvC scope cl C c.env) (mg := g.mg) (mb := g.mb) (by show s.heap.Ns c.env.globals g.mg; rw [ok.globals]; exact ok.top.g.keeps F.keep) (mg_none_of ok.inK ok.top.g hx) (by show s.heap.Ns c.env.builtins g.mb; rw [ok.builtins]; exact ok.top.b.keeps F.keep) ((ok.top.builtins x hn).trans hv) h) hd
theorem cn_loc {x : Str} {pos : Pos} {v : Value} {oC : Obj} {m₂ : Str → Option Value} {Q E : Value → Shared → Prop} (S : Sta c σ s.heap vm mine rest fz) (hC : (C, oC) ∈ rest) (hns : LCg.NsObj oC m₂) (hv : m₂ x = some v) (hks : (compEnvC scope cl C c.env).scope.kind = .function) (hk : (compEnvC scope cl C c.env).kindOf x = some .local) (hd : (x == ("__debug__" : Str)) = false)
    (h : Q v s) : wpAny (model g.prog g.w) c.A (eval (.Name x pos) (compEnvC scope cl C c.env)) Q E s :=
  wpAny_Name (wpAny_loadName_local (env := compEnvC scope cl C c.env) hks hk (hns.ns (S.news (C, oC) (List.mem_append_left _ (List.mem_append_right _ hC))).1) hv h) hd
theorem cn_cell {x : Str} {pos : Pos} {a : AV} {Q E : Value → Shared → Prop} (S : Sta c σ s.heap vm mine rest fz) (ha : look x σ.ρ = some a) (hm : (x, none) ∈ σ.ω) (hq : tabQ x = none) (hcl : cl.lookup x = c.env.cells.lookup x) (hks : (compEnvC scope cl C c.env).scope.kind = .function) (hk : (compEnvC scope cl C c.env).kindOf x = some .cell) (hd : (x == ("__debug__" : Str)) = false)
    (h : ∀ v, Rep fz a v → Q v s) : wpAny (model g.prog g.w) c.A (eval (.Name x pos) (compEnvC scope cl C c.env)) Q E s := by
  obtain ⟨v, hv, hrep⟩ := S.rho x a ha
  obtain ⟨b, o, hm', hcr⟩ := S.own.cell hm
  obtain ⟨hdat, hc⟩ := (CellR.cell hq).mp hcr
  exact wpAny_Name (wpAny_loadName_cell (env := compEnvC scope cl C c.env) hks hk (hcl.trans hc) ⟨o, S.getMine hm', by rw [hdat, hv]⟩ (h v hrep)) hd
end
end
section
set_option maxHeartbeats 8000000

def hasCell (x : Str) : List (Str × Option (List AV)) → Bool
  | [] => false
  | (y, none) :: r => decide (y = x) || hasCell x r
  | (_, some _) :: r => hasCell x r
theorem hasCell_mem {x : Str} : ∀ {ω : List (Str × Option (List AV))}, hasCell x ω = true → (x, none) ∈ ω
  | [], h => by simp [hasCell] at h
  | (y, none) :: r, h => by
    simp only [hasCell, Bool.or_eq_true, decide_eq_true_eq] at h
    rcases h with rfl | h
    · exact .head _
    · exact .tail _ (hasCell_mem h)
  | (_, some _) :: r, h => .tail _ (hasCell_mem (by simpa only [hasCell] using h))
local macro_rules | `(tactic| walk_at "tv") => `(tactic| ((with_reducible show Tv _ _ _ (eval (Expr.Name _ _) _) _); first | (refine Ev_name (by assumption) (by exact rfl) (by exact rfl)) | (refine Ev_var (by assumption) (by exact rfl) (Or.inr ⟨by exact rfl, by exact hasCell_mem rfl, by decide⟩))))

abbrev lawω : List (Str × Option (List AV)) := [("w", none), ("rows", none), ("row", none), ("limb", none), ("#are", none), ("#law", none)]
abbrev lawρ (sc : Addr) : Vars := [("script", .raw (.ref sc)), ("#are", .raw (.ref 228)), ("#law", .raw (.ref 235))]
abbrev absL (ns : List Int) : List Int := (ns.take 19).map fun x => (x.natAbs : Int)
abbrev lawSt (sc : Addr) (W : Nat) (L : List Int) (j : Nat) (ns : List Int) (ds : List AV) : St :=
  ⟨[("w", .int (W : Int)), ("script", .raw (.ref sc)), ("#are", .raw (.ref 228)), ("#law", .raw (.ref 235))], ("rows", some (ns.map (row W))) :: ("numbers", some (ns.map .int)) :: ("deeds", some ds) :: ("stick", some (stickV j L)) :: lawω⟩
abbrev Ptrue : Out → St → Prop := fun o σ => o = .ret (.bool true) ∧ (∃ x xs, σ.ω = (x, some xs) :: lawω) ∧ look "#are" σ.ρ = some (.raw (.ref 228)) ∧ look "#law" σ.ρ = some (.raw (.ref 235))

/-- x[i], of a tuple -/
theorem Ev_item_tup {g : Gl} {c : Fx} {σ : St} {v i : Expr} {pos : Pos} {xs : List AV} {k : Nat} {x : AV} (hv : Ev g c σ v (.tup xs)) (hi : Ev g c σ i (.int (k : Int))) (hx : xs[k]? = some x) (hfit : k < 1000)
    (hs : ∀ l u, subscripted i false (.ref l) (.int (k : Int) u) = operate [.ref l, .int (k : Int) u] (getItem (.ref l) (.int (k : Int) u)) := by with_unfolding_all (intro _ _; rfl)) : Ev g c σ (.Subscript v i pos) x := by
  refine Tv.two (f := subscriptTail v i) hv hi ?_ fun _ _ _ h => Subscript_ h
  intro s fz hf va vb ha hb Q E hQ
  obtain ⟨l, o, vs, rfl, hm, ⟨n, rfl⟩, hr⟩ := Rep.tup_iff.mp ha
  obtain ⟨u, rfl⟩ := Rep.int_iff.mp hb
  obtain ⟨w, hw, hrep⟩ := hr.get hx
  have hl : IsTup s.heap l vs.toArray := ⟨_, hf _ hm, rfl, n, rfl⟩
  have hlt : k < vs.length := (List.getElem?_eq_some_iff.mp hw).1
  exact tail_any ⟨_, hf _ hm, rfl⟩ slot_tuple_getitem.lookup (getItem_tuple hl (by omega) (by omega) (j := k) (by simp [seqIndex?]; omega) (by simpa using hw) (hQ _ _ _ (Kp.refl _) hrep)) (hs l u)

/-- if not e: .. -/
theorem Ex_if_notC {g : Gl} {c : Fx} {σ σ' : St} {e : Expr} {b o : List Stmt} {p pos : Pos} {P : Out → St → Prop} (he : EvC g c σ e (.bool true) σ') (h2 : Exs g c σ' o P)
    (hw : isTrue e c.env (eval e c.env) = (do let v ← eval e c.env; standAt e.pos; holding [v] (truthy v))) : Ex g c σ (.If (.UnaryOp .Not e p) b o pos) P := by
  intro s vm mine rest fz S Q E hQ
  refine wpAny_If (wpAny_isTrue_Not (isTrue_plain (he s vm mine rest fz S _ _ fun v h' tk' mine' fz' S' hs hv => ?_) hw))
  rw [Rep.bool_iff] at hv; subst hv
  refine wpAny_truthy_bool ?_
  show (if (!true) = true then _ else _)
  rw [if_neg (by decide)]
  exact h2 _ vm mine' rest fz' S' _ _ fun o₂ σ₂ fl₂ h₂ tk₂ vm₂ mine₂ fz₂ p₂ S₂ hs₂ r₂ => hQ o₂ σ₂ fl₂ h₂ tk₂ vm₂ mine₂ fz₂ p₂ S₂ (fun p q => hs₂ p (hs p q)) r₂
/-- if x or not e: .. -/
theorem Ex_if_or_notC {g : Gl} {c : Fx} {σ σ' : St} {x e : Expr} {b o : List Stmt} {p pos1 pos : Pos} {P : Out → St → Prop} (hx : EvB g c σ x false) (he : EvC g c σ e (.bool true) σ') (h2 : Exs g c σ' o P)
    (hw : isTrue e c.env (eval e c.env) = (do let v ← eval e c.env; standAt e.pos; holding [v] (truthy v))) : Ex g c σ (.If (.BoolOp .Or [x, .UnaryOp .Not e p] pos1) b o pos) P := by
  intro s vm mine rest fz S Q E hQ
  refine wpAny_If (isTrue_or (hx s vm mine rest fz S _ _ fun h₁ tk₁ fz₁ S₁ hs₁ => ?_))
  rw [if_neg (by decide)]
  refine isTrue_or (wpAny_isTrue_Not (isTrue_plain (he _ vm mine rest fz₁ S₁ _ _ fun v h' tk' mine' fz' S' hs hv => ?_) hw))
  rw [Rep.bool_iff] at hv; subst hv
  refine wpAny_truthy_bool ?_
  show (if (!true) = true then _ else _)
  rw [if_neg (by decide)]
  refine isTrue_or_nil ?_
  rw [if_neg (by decide)]
  exact h2 _ vm mine' rest fz' S' _ _ fun o₂ σ₂ fl₂ h₂ tk₂ vm₂ mine₂ fz₂ p₂ S₂ hs₂ r₂ => hQ o₂ σ₂ fl₂ h₂ tk₂ vm₂ mine₂ fz₂ p₂ S₂ (fun p q => hs₂ p (hs p (hs₁ p q))) r₂

theorem EvC_told {g : Gl} {c : Fx} {σ : St} {p0 pos : Pos} {e : Expr} {es : List Expr} {pre post : List (Str × Option (List AV))} (hK : g.Is) (ok : c.Ok g 9) (hout : c.outer = []) (hω : σ.ω = pre ++ (("#are" : Str), none) :: post) (hP : look "#are" σ.ρ = some (.raw (.ref 228))) (hC : CodeHd c.h₀ 232 228)
    (w : Nat) (hw : 1 ≤ w) (hw' : w ≤ 8) (n : Int) (p : Nat) (h0 : 0 ≤ n) (hn : n < 2 ^ 200) (hp : p ≤ 1000) (he : EvV g c σ (e :: es) [row w n, .int n, .int p, .int w]) (hk : c.env.kindOf "_law_are_told" = some .globalImplicit)
    (hst : starEach (e :: es) c.env = (false, eval e c.env) :: starEach es c.env := by rfl) (hany : ((backTo pos (starEach es c.env)).any fun x => x.1) = false := by rfl)
    (hev : eval (.Call (.Name "_law_are_told" p0) (e :: es) [] pos) c.env = (do callWith pos (← eval (.Name "_law_are_told" p0) c.env) [] (backTo pos (starEach (e :: es) c.env)) (backToKw pos (keywordEach [] c.env))) := by rfl) :
    EvC g c σ (.Call (.Name "_law_are_told" p0) (e :: es) [] pos) (.bool true) σ := by
  intro s vm mine rest fz S Q E hQ
  refine Call_ (Ev_glob (pos := p0) ok (ns233 hK).1 hk (by decide) s vm mine rest fz S _ _ fun v h' tk' fz' S' hs hv => ?_) hev
  rw [Rep.raw_iff] at hv; subst hv
  refine callWith_K (h₀ := c.h₀) ok.inK (ns233 hK).2 (he.use pos S' fun vs h₂ tk₂ fz₂ S₂ hs₂ hr => ⟨?_, ?_⟩) hst hany
  · obtain ⟨m, F, _⟩ := S₂.fr
    exact ok.inK.keeps F.keep
  · rw [List.nil_append]
    exact told_runs (s := Shared.mk h₂ _ _ _ _) hK ok hout S₂ hω hP hC w hw hw' n p h0 hn hp hr fun v h₃ tk₃ mine₃ fz₃ S₃ hs₃ hv => hQ v h₃ tk₃ mine₃ fz₃ S₃ (fun p q => hs₃ p (hs₂ p (hs p q))) hv

theorem ExsT_bind {g : Gl} {c : Fx} {σ : St} {st : Stmt} {sts : List Stmt} {P : Out → St → Prop} (h1 : Ex g c σ st fun o σ'' => o = .next ∧ WpT g c σ'' (execs sts c.env) P) : WpT g c σ (execs (st :: sts) c.env) P := by
  intro s vm mine rest fz S Q E hQ
  refine wpAny_execs_cons (h1 s vm mine rest fz S _ _ ?_)
  rintro o σ'' fl h' tk' vm' mine' fz' ⟨rfl, h2⟩ S' hs hr
  cases fl <;> first | exact hr.elim | skip
  exact h2 _ vm' mine' rest fz' S' _ _ fun o₂ σ₂ fl₂ h₂ tk₂ vm₂ mine₂ fz₂ p₂ S₂ hs₂ r₂ => hQ o₂ σ₂ fl₂ h₂ tk₂ vm₂ mine₂ fz₂ p₂ S₂ (fun p q => hs₂ p (hs p q)) r₂
theorem WpT.le {g : Gl} {c : Fx} {σ σ' : St} {t : Sem Flow} {P : Out → St → Prop} (hl : σ.le σ') (hw : WpT g c σ' t P) : WpT g c σ t P :=
  fun s vm mine rest fz S Q E hQ => hw s vm mine rest fz (S.le hl) Q E hQ
theorem WpT.freeze {g : Gl} {c : Fx} {σ : St} {x : Str} {xs : List AV} {pre post : List (Str × Option (List AV))} {t : Sem Flow} {P : Out → St → Prop} (hω : σ.ω = pre ++ (x, some xs) :: post) (hw : WpT g c { ρ := (x, .list xs) :: σ.ρ, ω := pre ++ post } t P) : WpT g c σ t P := by
  intro s vm mine rest fz S Q E hQ
  obtain ⟨mine', fz', S', hs⟩ := S.freeze hω
  exact hw s vm mine' rest fz' S' Q E fun o₂ σ₂ fl₂ h₂ tk₂ vm₂ mine₂ fz₂ p₂ S₂ hs₂ r₂ => hQ o₂ σ₂ fl₂ h₂ tk₂ vm₂ mine₂ fz₂ p₂ S₂ (fun p q => hs₂ p (hs p q)) r₂
theorem Exs_bind {g : Gl} {c : Fx} {σ : St} {st : Stmt} {sts : List Stmt} {P : Out → St → Prop} (h1 : Ex g c σ st fun o σ'' => o = .next ∧ Exs g c σ'' sts P) : Exs g c σ (st :: sts) P :=
  Exs_cons (h1.mono fun o σ'' ⟨e, h⟩ => by subst e; exact h)

def DeedOk (w : Nat) (n m : Int) (d : AV) : Prop := ∃ (f l : Int) (k : Nat) (o q : Int), 0 ≤ f ∧ f ≤ 8 ∧ 0 < l ∧ l < B2 w ∧ k ≤ 16 ∧ 0 ≤ o ∧ o < 2 ^ 200 ∧ (f = 1 → l ≤ n) ∧ dueN f l k n o w = (m, q) ∧ d = .tup [deedV f l k (row w o), row w q]
theorem due_bound {f l n o X : Int} {k w : Nat} (h0 : 0 ≤ f) (hf : f ≤ 8) (hl : 0 < l) (hl' : l < 256) (hk : k ≤ 16) (hn : 0 ≤ n) (hnX : n < X) (ho : 0 ≤ o) (hoX : o < X) (h1 : f = 1 → l ≤ n) :
    0 ≤ (dueN f l k n o w).1 ∧ (dueN f l k n o w).1 < X * 2 ^ 17 ∧ 0 ≤ (dueN f l k n o w).2 ∧ (dueN f l k n o w).2 < X * 2 ^ 17 := by
  have hp := p2p' k
  have hpb : (2 : Int) ^ k ≤ 65536 := by
    have h1 : 2 ^ k ≤ 2 ^ 16 := Nat.pow_le_pow_right (show 0 < 2 by decide) hk
    have h2 : (2 : Int) ^ k ≤ 2 ^ 16 := by exact_mod_cast h1
    have h3 : (2 : Int) ^ 16 = 65536 := by decide
    omega
  have hq := p2p' (w * (k % 4))
  have h17 : (2 : Int) ^ 17 = 131072 := by decide
  have dv : ∀ d : Int, 0 < d → 0 ≤ n / d ∧ n / d ≤ n ∧ 0 ≤ n % d ∧ n % d ≤ n := fun d hd => ⟨Int.ediv_nonneg hn (by omega), Int.ediv_le_self _ hn, Int.emod_nonneg _ (by omega), emod_le' n hn hd⟩
  have e1 : n * 2 ^ k ≤ n * 65536 := Int.mul_le_mul_of_nonneg_left hpb hn
  have e2 : 0 ≤ n * 2 ^ k := Int.mul_nonneg hn (by omega)
  have e3 : n * l ≤ n * 256 := Int.mul_le_mul_of_nonneg_left (by omega) hn
  have e4 : 0 ≤ n * l := Int.mul_nonneg hn (by omega)
  have e5 : o * l ≤ o * 256 := Int.mul_le_mul_of_nonneg_left (by omega) ho
  have e6 : 0 ≤ o * l := Int.mul_nonneg ho (by omega)
  have d1 := dv l hl
  have d2 := dv _ hp
  have d3 := dv _ hq
  rw [h17]
  rcases (show f = 0 ∨ f = 1 ∨ f = 2 ∨ f = 3 ∨ f = 4 ∨ f = 5 ∨ f = 6 ∨ f = 7 ∨ f = 8 by omega) with rfl | rfl | rfl | rfl | rfl | rfl | rfl | rfl | rfl
  · show 0 ≤ n + l ∧ n + l < X * 131072 ∧ (0 : Int) ≤ 0 ∧ (0 : Int) < X * 131072; omega
  · have := h1 rfl; show 0 ≤ n - l ∧ n - l < X * 131072 ∧ (0 : Int) ≤ 0 ∧ (0 : Int) < X * 131072; omega
  · show 0 ≤ n * l ∧ n * l < X * 131072 ∧ (0 : Int) ≤ 0 ∧ (0 : Int) < X * 131072; omega
  · show 0 ≤ n / l ∧ n / l < X * 131072 ∧ 0 ≤ n % l ∧ n % l < X * 131072; omega
  · show 0 ≤ n * 2 ^ k ∧ n * 2 ^ k < X * 131072 ∧ (0 : Int) ≤ 0 ∧ (0 : Int) < X * 131072; omega
  · show 0 ≤ n / 2 ^ k ∧ n / 2 ^ k < X * 131072 ∧ 0 ≤ n % 2 ^ k ∧ n % 2 ^ k < X * 131072; omega
  · show 0 ≤ n % 2 ^ k ∧ n % 2 ^ k < X * 131072 ∧ 0 ≤ n / 2 ^ k ∧ n / 2 ^ k < X * 131072; omega
  · show 0 ≤ n + o * l ∧ n + o * l < X * 131072 ∧ (0 : Int) ≤ 0 ∧ (0 : Int) < X * 131072; omega
  · show 0 ≤ n / 2 ^ (w * (k % 4)) ∧ n / 2 ^ (w * (k % 4)) < X * 131072 ∧ 0 ≤ n % 2 ^ (w * (k % 4)) ∧ n % 2 ^ (w * (k % 4)) < X * 131072; omega

def funcOf (K : Frag) (a : Addr) : List Stmt × Scope := match K.lookup a with
  | some ⟨_, _, .func fd, _⟩ => (match fd.body with | .stmts b => (b, fd.scope) | _ => ([], fd.scope))
  | _ => ([], { kind := .function, names := [], isGenerator := false, isCoroutine := false, more := [] })
theorem law_aux {g : Gl} {c : Fx} {σ : St} {P : Out → St → Prop} {oc : Value} {od : Option Addr} {params : Arguments} {body : List Stmt} {scope : Scope} {dV kV doc pm cdv ct : Value} {an : Option Addr} {osl : Array (Option Value)} {L fa : Addr}
    (ho : (hd.heap_39 g.w.params).lookup 238 = some ⟨oc, od, .func (fnOf "law" "law" params body scope dV kV doc pm an cdv ct), osl⟩) (he : c.env = envOfC "law" (funcOf (hd.heap_39 g.w.params) 238).2 L fa (.ref 237))
    (h : c.env = envOfC "law" scope L fa (.ref 237) → WpT g c σ (execs body c.env) P) : WpT g c σ (execs (funcOf (hd.heap_39 g.w.params) 238).1 c.env) P := by
  have e : funcOf (hd.heap_39 g.w.params) 238 = (body, scope) := by unfold funcOf; rw [ho]
  rw [e] at he ⊢
  exact h he

theorem law_exec {g : Gl} (hK : g.Is) {c : Fx} (ok : c.Ok g 12) (hout : c.outer = []) (L fa : Addr) (he : c.env = envOfC "law" (funcOf (hd.heap_39 g.w.params) 238).2 L fa (.ref 237))
    (hC1 : CodeHd c.h₀ 232 228) (hC2 : CodeHd c.h₀ 237 235) {ns : List Int} {vs : List Value} {sc : Addr} (hl : c.h₀.IsList sc vs.toArray) (hi : IntsAre vs ns) (hlen : ns.length ≤ 63) :
    WpT g c ⟨lawρ sc, lawω⟩ (execs (funcOf (hd.heap_39 g.w.params) 238).1 c.env) Ptrue := by
  refine law_aux (by exact rfl) he ?_
  clear he
  intro he
  obtain ⟨A, env, h₀, A₀, base, outer⟩ := c
  dsimp only at he hout hl hC1 hC2
  subst he
  have hvl : vs.length = ns.length := hi.length
  have hLl : (absL ns).length ≤ 19 := by simp; omega
  refine ExsT_seq ⟨lawρ sc, ("stick", some (stickV 0 (absL ns))) :: lawω⟩ ?_ ?_
  · refine Ex_assignF (xs := stickV 0 (absL ns)) ok ?_ (.inl ⟨rfl, rfl⟩) ⟨rfl, ?_⟩
    · refine EvF_list (EvV_cons Ev_int (EvV_cons (Ev_ofF ?_) EvV_nil)) (by simp [line16])
      refine EvF_comp (xs := (ns.map .int).take 19) (ys := (absL ns).map .int) ok (Ev_ofF ?_) (by simp; omega) (by simp) rfl (by decide) rfl (by decide) rfl ?_
      · refine EvF_slice_base (b := some 19) ok rfl rfl hl (EvP_some Ev_int) (by rw [line16]; omega) ?_
        intro fz
        exact pick_upto (k := 19) (by omega) fz vs (Reps.ofInts hi)
      · intro i a b ha hb s vm mine rest fz C oC m₂ v S hC hns hmx hv Q E hQ
        have ha' : ((ns.take 19).map AV.int)[i]? = some a := by rw [List.map_take]; exact ha
        obtain ⟨hi1, rfl⟩ := getElem_intmap ha'
        obtain ⟨hi2, rfl⟩ := getElem_intmap hb
        obtain ⟨t, rfl⟩ := Rep.int_iff.mp hv
        refine Call_ (cn_built ok S (by rw [hK]; exact rfl) boot_abs (by decide) rfl rfl (by decide) ?_) rfl
        refine PyProof.Rows.callWith_builtin1 (args_cons (Call_ (cn_built ok S (by rw [hK]; exact rfl) boot_int (by decide) rfl rfl (by decide) ?_) rfl) rfl) rfl rfl
        refine PyProof.Rows.callWith_type1 (args_cons (cn_loc S hC hns hmx rfl rfl (by decide) (args_nil ?_)) rfl) rfl rfl
        refine call_int_int (args_nil ?_)
        refine PyProof.Rows.call_abs_int fun u tk => ?_
        refine hQ _ _ tk fz S (fun _ h => h) (Rep.int_iff.mpr ⟨u, ?_⟩)
        have h1 : i < (ns.take 19).length := by simpa using hi1
        have e : (absL ns).getD i 0 = (((ns.take 19).getD i 0).natAbs : Int) := by
          rw [List.getD_eq_getElem?_getD, List.getD_eq_getElem?_getD, List.getElem?_map, List.getElem?_eq_getElem h1]; rfl
        rw [e]
        congr 1
        split <;> omega
    · exact ⟨fun y b e => by
        show look y (unvar "stick" (lawρ sc)) = some b
        exact e, rfl⟩
  have hLl' : (absL ns).length ≤ 1000 := by omega
  generalize absL ns = LL at *
  obtain ⟨W, hW⟩ : ∃ W : Nat, (3 : Int) + notchAt LL 0 6 = (W : Int) := ⟨(3 + notchAt LL 0 6).toNat, by have := notchAt_ge LL 0 (show (0 : Int) < 6 by decide); omega⟩
  have hW3 : 3 ≤ W := by have := notchAt_ge LL 0 (show (0 : Int) < 6 by decide); omega
  have hW8 : W ≤ 8 := by have := notchAt_lt LL 0 (show (0 : Int) < 6 by decide); omega
  refine ExsT_seq ⟨[("w", .int (W : Int)), ("script", .raw (.ref sc)), ("#are", .raw (.ref 228)), ("#law", .raw (.ref 235))], ("stick", some (stickV 1 LL)) :: lawω⟩ ?_ ?_
  · refine Ex_assignC (a := .int (3 + notchAt LL 0 6)) ok (EvC_bin Ev_int (EvC_notched (k := 11) (pre := []) (post := lawω) (i := 0) hK ok rfl (.inl rfl) Ev_int (by decide) (by omega) hLl' rfl) op_add) (.inr ⟨rfl, rfl⟩) ⟨rfl, ?_⟩
    rw [hW]
    walk_at "le"
  have hm2 : (2 : Int) ^ (2 * (W : Int)).toNat = 2 ^ (2 * W) := by congr 1
  have hm0 : (0 : Int) < 2 ^ (2 * W) := Int.pow_pos (by decide)
  have hm16 : (2 : Int) ^ (2 * W) ≤ 65536 := by
    have h1 : 2 ^ (2 * W) ≤ 2 ^ 16 := Nat.pow_le_pow_right (show 0 < 2 by decide) (by omega)
    have h2 : (2 : Int) ^ (2 * W) ≤ 2 ^ 16 := by exact_mod_cast h1
    have h3 : (2 : Int) ^ 16 = 65536 := by decide
    omega
  have hn0 := notchAt_ge LL 1 hm0
  have hn1 := notchAt_lt LL 1 hm0
  refine ExsT_seq ⟨[("w", .int (W : Int)), ("script", .raw (.ref sc)), ("#are", .raw (.ref 228)), ("#law", .raw (.ref 235))], ("numbers", some [.int (41 * notchAt LL 1 (2 ^ (2 * W)))]) :: ("deeds", some []) :: ("stick", some (stickV 2 LL)) :: lawω⟩ ?_ ?_
  · refine Ex_tup_swapC (l := [("deeds", .own []), ("numbers", .own [.int (41 * notchAt LL 1 (2 ^ (2 * W)))])]) (σ' := ⟨[("w", .int (W : Int)), ("script", .raw (.ref sc)), ("#are", .raw (.ref 228)), ("#law", .raw (.ref 235))], ("stick", some (stickV 2 LL)) :: lawω⟩) ok ?_ ⟨.inl ⟨rfl, rfl⟩, .inl ⟨rfl, rfl⟩, trivial⟩ (by decide) ⟨rfl, by walk_at "le"⟩
    refine EvLC_own (EvFC_list1 (EvC_bin Ev_int (EvC_notched (k := 11) (m := 2 ^ (2 * W)) (pre := []) (post := lawω) (i := 1) hK ok rfl (.inl rfl) ?_ hm0 (by omega) hLl' rfl) (op_mul (mulok_s (by decide) (by decide))))) (EvLC_own (σ' := ⟨_, ("stick", some (stickV 2 LL)) :: lawω⟩) ?_ (EvLC.of EvL_nil))
    · rw [← hm2]
      repeat' walk_at "ev"
      all_goals first | omega | exact two_pow_ok (by omega) | exact mulok_s (by decide) (by decide)
    · intro s vm mine rest fz S Q E hQ
      exact EvF_list (as := []) EvV_nil (by simp [line16]) s vm mine rest fz S _ _ fun r o h' tk' fz' F hs => hQ r o h' tk' mine fz' F hs
  generalize hN : 41 * notchAt LL 1 (2 ^ (2 * W)) = N at *
  have hN0 : 0 ≤ N := by omega
  have hN1 : N < 2 ^ 22 := by omega
  refine ExsT_seq (lawSt sc W LL 2 [N] []) ?_ ?_
  · refine Ex_assignF (xs := [row W N]) ok ?_ (.inr ⟨rfl, rfl⟩) ⟨rfl, by walk_at "le"⟩
    refine EvF_list (EvV_cons (Ev_call ok ((fn_law_limbs hK W (by omega) hW8 N hN0 (len_ok (by omega) hN0 (by omega))).more (by omega)) (ns198 hK).1 (ns198 hK).2 (EvV_cons ?_ (EvV_cons ?_ EvV_nil)) rfl) EvV_nil) (by simp [line16])
    · refine Ev_own_item (k := 0) (pre := []) ok rfl (.inl rfl) Ev_int (by decide) rfl (by decide)
    · repeat' walk_at "ev"
  have ht0 := notchAt_ge LL 2 (show (0 : Int) < 8 by decide)
  have ht1 := notchAt_lt LL 2 (show (0 : Int) < 8 by decide)
  obtain ⟨T, hT⟩ : ∃ T : Nat, (1 : Int) + notchAt LL 2 8 = (T : Int) := ⟨(1 + notchAt LL 2 8).toNat, by omega⟩
  have hT8 : T ≤ 8 := by omega
  let Inv : Nat → St → Prop := fun i σ => ∃ j ns ds, σ = lawSt sc W LL j ns ds ∧ j ≤ 3 + 2 * i ∧ ns.length = i + 1 ∧ ds.length = i ∧ (∀ n ∈ ns, 0 ≤ n ∧ n < 2 ^ (22 + 17 * i)) ∧ (∀ (t : Nat) n m d, ns[t]? = some n → ns[t + 1]? = some m → ds[t]? = some d → DeedOk W n m d)
  refine ExsT_bind ?_
  refine Ex_for_rangeC (σ' := lawSt sc W LL 3 [N] []) (a := 0) (b := (T : Int)) (d := 1) (n := T) Inv ok (R_rangeC1 hK ok (by
    rw [← hT]
    exact EvC_bin Ev_int (EvC_notched (k := 11) (pre := [("rows", some [row W N]), ("numbers", some [.int N]), ("deeds", some [])]) (post := lawω) (i := 2) hK ok rfl (.inl rfl) Ev_int (by decide) (by omega) hLl' rfl) op_add) rfl) (range_small_up (by omega) (by omega) (by omega) (by omega)) (range_size_up (by omega)) rfl
    ⟨3, [N], [], rfl, by omega, rfl, rfl, by intro n hn; rw [List.mem_singleton.mp hn]; exact ⟨hN0, hN1⟩, by intro t n m d h1 h2 h3; simp at h3⟩ ?_ ?_
  · rintro i σ hi ⟨j, ns, ds, rfl, hj, hns, hds, hbd, hch⟩
    refine ⟨rfl, ?_⟩
    have hF0 := notchAt_ge LL j (show (0 : Int) < 9 by decide)
    have hF1 := notchAt_lt LL j (show (0 : Int) < 9 by decide)
    have hS0 := notchAt_ge LL (j + 1) (show (0 : Int) < 840 by decide)
    have hS1 := notchAt_lt LL (j + 1) (show (0 : Int) < 840 by decide)
    refine Exs_seq ⟨[("form", .int (notchAt LL j 9)), ("spot", .int (notchAt LL (j + 1) 840)), ("w", .int (W : Int)), ("script", .raw (.ref sc)), ("#are", .raw (.ref 228)), ("#law", .raw (.ref 235))], ("rows", some (ns.map (row W))) :: ("numbers", some (ns.map .int)) :: ("deeds", some ds) :: ("stick", some (stickV (j + 1 + 1) LL)) :: lawω⟩ ?_ ?_
    · refine Ex_tup_swapC (l := [("spot", .val (.int (notchAt LL (j + 1) 840))), ("form", .val (.int (notchAt LL j 9)))]) ok (EvLC_val (EvC_notched (k := 11) (m := 9) (i := j) (pre := [("rows", some (ns.map (row W))), ("numbers", some (ns.map .int)), ("deeds", some ds)]) (post := lawω) hK ok rfl (.inl rfl) Ev_int (by decide) (by omega) hLl' rfl)
        (EvLC_val (EvC_notched (k := 11) (m := 840) (i := j + 1) (pre := [("rows", some (ns.map (row W))), ("numbers", some (ns.map .int)), ("deeds", some ds)]) (post := lawω) hK ok rfl (.inl rfl) Ev_int (by decide) (by omega) hLl' rfl) (EvLC.of EvL_nil))) ⟨.inl ⟨rfl, rfl⟩, .inl ⟨rfl, rfl⟩, trivial⟩ (by decide) ⟨rfl, by walk_at "le"⟩
    generalize notchAt LL j 9 = Fm at *
    generalize notchAt LL (j + 1) 840 = Sp at *
    obtain ⟨n, hn⟩ : ∃ n, ns[i]? = some n := ⟨ns[i], by simp⟩
    have hnm : n ∈ ns := List.mem_of_getElem? hn
    have hb := B2_ge (show 1 ≤ W by omega)
    have hbw : (2 : Int) ^ W = (B2 W : Int) := by rw [B2_cast]
    have hb8 : 8 ≤ B2 W := by
      have : 2 ^ 3 ≤ 2 ^ W := Nat.pow_le_pow_right (show 0 < 2 by decide) hW3
      exact this
    have hb256 := B2_le8 hW8
    have hL0 := Int.emod_nonneg Sp (show (2 : Int) ^ W - 1 ≠ 0 by omega)
    have hL1 := Int.emod_lt_of_pos Sp (show (0 : Int) < 2 ^ W - 1 by omega)
    have hw2 : (2 : Int) ^ (W : Int).toNat = 2 ^ W := by rw [Int.toNat_natCast]
    refine Exs_seq ⟨[("limb", .int (1 + Sp % (2 ^ W - 1))), ("number", .int n), ("row", row W n), ("form", .int Fm), ("spot", .int Sp), ("w", .int (W : Int)), ("script", .raw (.ref sc)), ("#are", .raw (.ref 228)), ("#law", .raw (.ref 235))], ("rows", some (ns.map (row W))) :: ("numbers", some (ns.map .int)) :: ("deeds", some ds) :: ("stick", some (stickV (j + 1 + 1) LL)) :: lawω⟩ ?_ ?_
    · refine Ex_tup (l := [("limb", .int (1 + Sp % (2 ^ W - 1))), ("number", .int n), ("row", row W n)]) ok (Ev_tuple (EvV_cons ?_ (EvV_cons ?_ (EvV_cons ?_ EvV_nil))) (by simp [line16])) ⟨.inr ⟨rfl, rfl⟩, .inl ⟨rfl, rfl⟩, .inr ⟨rfl, rfl⟩, trivial⟩ ⟨rfl, by walk_at "le"⟩
      · rw [← hw2]
        repeat' walk_at "ev"
        all_goals first | omega | exact two_pow_ok (by omega)
      · refine Ev_own_item_neg (k := -1) (pre := [("rows", some (ns.map (row W)))]) ok rfl (.inl rfl) ?_ (by decide) (by simp; omega) ?_ (by decide)
        · repeat' walk_at "ev"
        · rw [show (-1 + ((ns.map AV.int).length : Int)).toNat = i by simp; omega, List.getElem?_map, hn]; rfl
      · refine Ev_own_item_neg (k := -1) (pre := []) ok rfl (.inr ⟨rfl, hasCell_mem rfl, by decide⟩) ?_ (by decide) (by simp; omega) ?_ (by decide)
        · repeat' walk_at "ev"
        · rw [show (-1 + ((ns.map (row W)).length : Int)).toNat = i by simp; omega, List.getElem?_map, hn]; rfl
    generalize hLb : 1 + Sp % (2 ^ W - 1) = Lb at *
    have hLb0 : 0 < Lb := by omega
    have hLb1 : Lb < B2 W := by omega
    have hXn := hbd n hnm
    have hX22 : (256 : Int) < 2 ^ (22 + 17 * i) := by
      have h1 : 2 ^ 22 ≤ 2 ^ (22 + 17 * i) := Nat.pow_le_pow_right (show 0 < 2 by decide) (by omega)
      have h2 : (2 : Int) ^ 22 ≤ 2 ^ (22 + 17 * i) := by exact_mod_cast h1
      omega
    have hXs : (2 : Int) ^ (22 + 17 * (i + 1)) = 2 ^ (22 + 17 * i) * 2 ^ 17 := by rw [show 22 + 17 * (i + 1) = (22 + 17 * i) + 17 by omega, Int.pow_add]
    have hX200 : (2 : Int) ^ (22 + 17 * (i + 1)) ≤ 2 ^ 200 := by
      have h1 : 2 ^ (22 + 17 * (i + 1)) ≤ 2 ^ 200 := Nat.pow_le_pow_right (show 0 < 2 by decide) (by omega)
      exact_mod_cast h1
    have h17 : (2 : Int) ^ 17 = 131072 := by decide
    have hn200 : n < 2 ^ 200 := by omega
    have hlnn := len_ok (show 1 ≤ W by omega) hXn.1 (by omega)
    generalize hF' : (if Fm = 1 ∧ n < Lb then 0 else Fm) = F'
    have hF'0 : 0 ≤ F' := by subst hF'; split <;> omega
    have hF'8 : F' ≤ 8 := by subst hF'; split <;> omega
    have hF'1 : F' = 1 → Lb ≤ n := by intro h; subst hF'; split at h <;> omega
    refine Exs_seq ⟨[("form", .int F'), ("limb", .int Lb), ("number", .int n), ("row", row W n), ("spot", .int Sp), ("w", .int (W : Int)), ("script", .raw (.ref sc)), ("#are", .raw (.ref 228)), ("#law", .raw (.ref 235))], ("rows", some (ns.map (row W))) :: ("numbers", some (ns.map .int)) :: ("deeds", some ds) :: ("stick", some (stickV (j + 1 + 1) LL)) :: lawω⟩ ?_ ?_
    · refine Ex_if (r := decide (Fm = 1) && decide (n < Lb)) (EvB_and2 (by repeat' walk_at "ev") (fun _ => by repeat' walk_at "ev")) ?_ ?_
      · intro h
        simp only [Bool.and_eq_true, decide_eq_true_eq] at h
        rw [if_pos h] at hF'
        subst hF'
        apply Exs_cons
        refine Ex_if_notC (EvC.of_soft hout (EvT_refused (k := 10) (fun e => e.1 == "w" || e.1 == "row" || e.1 == "limb") (tn := "#law") (q := "law.<locals>.<lambda>") (pre := [("rows", some (ns.map (row W))), ("numbers", some (ns.map .int)), ("deeds", some ds), ("stick", some (stickV (j + 1 + 1) LL)), ("w", none), ("rows", none), ("row", none), ("limb", none), ("#are", none)]) (post := []) hK ok rfl (by decide) rfl rfl hC2 (by show (("law" ++ ".<locals>." ++ "<lambda>" : Str)) = _; decide) rfl rfl ?_ (fun _ _ _ => rfl) rfl rfl rfl (by decide) (by decide) ?_ (ns49 hK) (exc49 hK) rfl rfl (by decide) rfl rfl rfl rfl)) ?_ rfl
        · intro x hx
          have hx' : (x, none) ∈ ([("w", none), ("row", none), ("limb", none)] : List (Str × Option (List AV))) := hx
          simp only [List.mem_cons, Prod.mk.injEq, List.not_mem_nil, or_false, and_true] at hx'
          rcases hx' with rfl | rfl | rfl <;> rfl
        · intro c₁ L'' f c'' ok₁ he₁
          obtain ⟨A₁, env₁, h₁, A₁', base₁, outer₁⟩ := c₁
          dsimp only at he₁
          subst he₁
          have mem1 : (("row" : Str), none) ∈ ([("w", none), ("row", none), ("limb", none)] : List (Str × Option (List AV))) := .tail _ (.head _)
          have mem2 : (("w" : Str), none) ∈ ([("w", none), ("row", none), ("limb", none)] : List (Str × Option (List AV))) := .head _
          have mem3 : (("limb" : Str), none) ∈ ([("w", none), ("row", none), ("limb", none)] : List (Str × Option (List AV))) := .tail _ (.tail _ (.head _))
          refine EvX_call ok₁ ((fnR_sub_limb hK W (by omega) hW8 n Lb h.2 hXn.1 hLb1 hlnn).more (by omega)) (ns107 hK).1 (ns107 hK).2 ?_ rfl
          exact EvV_cons (Ev_free ok₁ rfl rfl mem1 (by decide)) (EvV_cons (Ev_free ok₁ rfl rfl mem3 (by decide)) (EvV_cons (Ev_free ok₁ rfl rfl mem2 (by decide)) EvV_nil))
        · apply Exs_nil
          apply Exs_cons
          apply Ex_assign (a := .int 0) ok Ev_int rfl rfl
          apply Exs_nil
          exact ⟨rfl, by walk_at "le"⟩
      · intro h
        have h' : ¬(Fm = 1 ∧ n < Lb) := by simpa using h
        rw [if_neg h'] at hF'
        subst hF'
        apply Exs_nil
        exact ⟨rfl, by walk_at "le"⟩
    obtain ⟨K, hKe⟩ : ∃ K : Nat, Sp % (2 * (W : Int) + 1) = (K : Int) := ⟨(Sp % (2 * (W : Int) + 1)).toNat, by have := Int.emod_nonneg Sp (show 2 * (W : Int) + 1 ≠ 0 by omega); omega⟩
    have hK16 : K ≤ 16 := by have := Int.emod_lt_of_pos Sp (show 0 < 2 * (W : Int) + 1 by omega); omega
    have hlr : ((ns.map (row W)).length : Int) = (i : Int) + 1 := by simp; omega
    obtain ⟨R, hRe⟩ : ∃ R : Nat, Sp % ((ns.map (row W)).length : Int) = (R : Int) := ⟨(Sp % ((ns.map (row W)).length : Int)).toNat, by have := Int.emod_nonneg Sp (show ((ns.map (row W)).length : Int) ≠ 0 by omega); omega⟩
    have hRi : R < ns.length := by have := Int.emod_lt_of_pos Sp (show 0 < ((ns.map (row W)).length : Int) by omega); omega
    obtain ⟨Pl, hPe⟩ : ∃ R : Nat, Sp % (4 * (W : Int)) = (R : Int) := ⟨(Sp % (4 * (W : Int))).toNat, by have := Int.emod_nonneg Sp (show 4 * (W : Int) ≠ 0 by omega); omega⟩
    have hPl : Pl ≤ 1000 := by have := Int.emod_lt_of_pos Sp (show 0 < 4 * (W : Int) by omega); omega
    obtain ⟨o, hoR⟩ : ∃ o, ns[R]? = some o := ⟨ns[R], by simp⟩
    have hom : o ∈ ns := List.mem_of_getElem? hoR
    have hXo := hbd o hom
    have hdb := due_bound (w := W) (k := K) hF'0 hF'8 hLb0 (show Lb < 256 by omega) hK16 hXn.1 hXn.2 hXo.1 hXo.2 hF'1
    have hfdue := fn_due hK W (by omega) hW8 F' Lb K n o (row W o) hF'0 hF'8 hLb0 hLb1 (by omega)
    have hfdone := fn_done hK W (by omega) hW8 F' Lb K n o hF'0 hF'8 hLb0 hLb1 (by omega) hXn.1 hXo.1 hn200 (by omega) hF'1
    have hchn : ∀ m q, dueN F' Lb K n o W = (m, q) → DeedOk W n m (.tup [deedV F' Lb K (row W o), row W q]) := fun m q e => ⟨F', Lb, K, o, q, hF'0, hF'8, hLb0, hLb1, hK16, hXo.1, by omega, hF'1, e, rfl⟩
    generalize hdue : dueN F' Lb K n o W = mq at *
    obtain ⟨m, q⟩ := mq
    have hdk := hchn m q rfl
    dsimp only at hdb
    rw [← hXs] at hdb
    have hlm := len_ok (show 1 ≤ W by omega) hdb.1 (by omega)
    have hlq := len_ok (show 1 ≤ W by omega) hdb.2.2.1 (by omega)
    refine Exs_seq ⟨[("deed", deedV F' Lb K (row W o)), ("number", .int n), ("row", row W n), ("spot", .int Sp), ("w", .int (W : Int)), ("script", .raw (.ref sc)), ("#are", .raw (.ref 228)), ("#law", .raw (.ref 235))], ("rows", some (ns.map (row W))) :: ("numbers", some (ns.map .int)) :: ("deeds", some ds) :: ("stick", some (stickV (j + 1 + 1) LL)) :: lawω⟩ ?_ ?_
    · refine Ex_assignV (a := deedV F' Lb K (row W o)) ok (Ev_tuple (EvV_cons ?_ (EvV_cons ?_ (EvV_cons ?_ (EvV_cons ?_ EvV_nil)))) (by simp [line16])) (.inl ⟨rfl, rfl⟩) ⟨rfl, by walk_at "le"⟩
      · repeat' walk_at "ev"
      · repeat' walk_at "ev"
      · rw [← hKe]
        repeat' walk_at "ev"
        all_goals first | omega | exact mulok_s (by decide) (by decide)
      · refine Ev_own_item (k := (R : Int)) (pre := []) ok rfl (.inr ⟨rfl, hasCell_mem rfl, by decide⟩) ?_ (by omega) ?_ (by omega)
        · rw [← hRe]
          refine Ev_bin (Ev_name ok rfl rfl) (Ev_own_len (pre := []) hK ok rfl (.inr ⟨rfl, hasCell_mem rfl, by decide⟩) (by omega) rfl) (op_mod (by omega))
        · rw [Int.toNat_natCast, List.getElem?_map, hoR]; rfl
    refine Exs_seq ⟨[("number", .int m), ("loss", .int q), ("deed", deedV F' Lb K (row W o)), ("row", row W n), ("spot", .int Sp), ("w", .int (W : Int)), ("script", .raw (.ref sc)), ("#are", .raw (.ref 228)), ("#law", .raw (.ref 235))], ("rows", some (ns.map (row W))) :: ("numbers", some (ns.map .int)) :: ("deeds", some ds) :: ("stick", some (stickV (j + 1 + 1) LL)) :: lawω⟩ ?_ ?_
    · refine Ex_tup (l := [("number", .int m), ("loss", .int q)]) ok ?_ ⟨.inl ⟨rfl, rfl⟩, .inl ⟨rfl, rfl⟩, trivial⟩ ⟨rfl, by walk_at "le"⟩
      refine Ev_call ok (hfdue.more (by omega)) (ns212 hK).1 (ns212 hK).2 (EvV_cons ?_ (EvV_cons ?_ (EvV_cons ?_ (EvV_cons ?_ EvV_nil)))) rfl
      · repeat' walk_at "ev"
      · repeat' walk_at "ev"
      · refine Ev_own_item (k := (R : Int)) (pre := [("rows", some (ns.map (row W)))]) ok rfl (.inl rfl) ?_ (by omega) ?_ (by omega)
        · rw [← hRe]
          refine Ev_bin (Ev_name ok rfl rfl) (Ev_own_len (pre := []) hK ok rfl (.inr ⟨rfl, hasCell_mem rfl, by decide⟩) (by omega) rfl) (op_mod (by omega))
        · rw [Int.toNat_natCast, List.getElem?_map, hoR]; rfl
      · repeat' walk_at "ev"
    refine Exs_seq ⟨[("here", row W m), ("lost", row W q), ("number", .int m), ("loss", .int q), ("deed", deedV F' Lb K (row W o)), ("row", row W n), ("spot", .int Sp), ("w", .int (W : Int)), ("script", .raw (.ref sc)), ("#are", .raw (.ref 228)), ("#law", .raw (.ref 235))], ("rows", some (ns.map (row W))) :: ("numbers", some (ns.map .int)) :: ("deeds", some ds) :: ("stick", some (stickV (j + 1 + 1) LL)) :: lawω⟩ ?_ ?_
    · refine Ex_tup (l := [("here", row W m), ("lost", row W q)]) ok ?_ ⟨.inl ⟨rfl, rfl⟩, .inl ⟨rfl, rfl⟩, trivial⟩ ⟨rfl, by walk_at "le"⟩
      refine Ev_call ok (hfdone.more (by omega)) (ns205 hK).1 (ns205 hK).2 ?_ rfl
      repeat' walk_at "ev"
    refine Exs_seq ⟨[("here", row W m), ("lost", row W q), ("number", .int m), ("loss", .int q), ("deed", deedV F' Lb K (row W o)), ("row", row W n), ("spot", .int Sp), ("w", .int (W : Int)), ("script", .raw (.ref sc)), ("#are", .raw (.ref 228)), ("#law", .raw (.ref 235))], ("rows", some (ns.map (row W))) :: ("numbers", some (ns.map .int)) :: ("deeds", some ds) :: ("stick", some (stickV (j + 1 + 1) LL)) :: lawω⟩ ?_ ?_
    · refine Ex_if_or_notC (EvB_cmp (a := row W q) (b := row W q) ?_ ?_ ?_) (EvC_told (pre := [("rows", some (ns.map (row W))), ("numbers", some (ns.map .int)), ("deeds", some ds), ("stick", some (stickV (j + 1 + 1) LL)), ("w", none), ("rows", none), ("row", none), ("limb", none)]) (post := [("#law", none)]) hK (ok.less (by omega)) hout rfl rfl hC1 W (by omega) hW8 m Pl hdb.1 (by omega) hPl (EvV_cons ?_ (EvV_cons ?_ (EvV_cons ?_ (EvV_cons ?_ EvV_nil)))) rfl) (Exs_nil ⟨rfl, by walk_at "le"⟩) rfl
      · repeat' walk_at "ev"
      · refine Ev_call ok ((fn_law_limbs hK W (by omega) hW8 q hdb.2.2.1 hlq).more (by omega)) (ns198 hK).1 (ns198 hK).2 ?_ rfl
        repeat' walk_at "ev"
      · have e : decide (lm (B2 W) q ≠ lm (B2 W) q) = false := by simp
        have h := op_nel (xs := lm (B2 W) q) (ys := lm (B2 W) q) ok (by omega)
        rw [e] at h
        exact h
      · repeat' walk_at "ev"
      · repeat' walk_at "ev"
      · rw [← hPe]
        repeat' walk_at "ev"
        all_goals first | omega | exact mulok_s (by decide) (by decide)
      · repeat' walk_at "ev"
    refine Exs_seq ⟨[("here", row W m), ("lost", row W q), ("number", .int m), ("deed", deedV F' Lb K (row W o)), ("w", .int (W : Int)), ("script", .raw (.ref sc)), ("#are", .raw (.ref 228)), ("#law", .raw (.ref 235))], ("rows", some (ns.map (row W))) :: ("numbers", some (ns.map .int)) :: ("deeds", some ds) :: ("stick", some (stickV (j + 1 + 1) LL)) :: lawω⟩ ?_ ?_
    · refine Ex_if (r := false) ?_ (fun h => nomatch h) (fun _ => Exs_nil ⟨rfl, by walk_at "le"⟩)
      refine EvB_cmp (a := .int (cmpI m n)) (b := .int ((if decide (n < m) then 1 else 0) - (if decide (m < n) then 1 else 0))) ?_ (Ev_bin (a := .int (if decide (n < m) then 1 else 0)) (b := .int (if decide (m < n) then 1 else 0)) ?_ ?_ op_sub) ?_
      · refine Ev_call ok ((fn_compare hK W (by omega) m n hdb.1 hXn.1 hlm hlnn).more (by omega)) (ns79 hK).1 (ns79 hK).2 ?_ rfl
        repeat' walk_at "ev"
      · refine Ev_ty ok (bi_intb (b := decide (n < m))) (Ev_cmp (Ev_name ok rfl rfl) ?_ op_gt) (by rw [hK]; exact rfl) boot_int (by decide) rfl
        refine Ev_own_item_neg (k := -1) (pre := [("rows", some (ns.map (row W)))]) ok rfl (.inl rfl) ?_ (by decide) (by simp; omega) ?_ (by decide)
        · repeat' walk_at "ev"
        · rw [show (-1 + ((ns.map AV.int).length : Int)).toNat = i by simp; omega, List.getElem?_map, hn]; rfl
      · refine Ev_ty ok (bi_intb (b := decide (m < n))) (Ev_cmp (Ev_name ok rfl rfl) ?_ op_lt) (by rw [hK]; exact rfl) boot_int (by decide) rfl
        refine Ev_own_item_neg (k := -1) (pre := [("rows", some (ns.map (row W)))]) ok rfl (.inl rfl) ?_ (by decide) (by simp; omega) ?_ (by decide)
        · repeat' walk_at "ev"
        · rw [show (-1 + ((ns.map AV.int).length : Int)).toNat = i by simp; omega, List.getElem?_map, hn]; rfl
      · have e : decide (cmpI m n ≠ (if decide (n < m) then 1 else 0) - (if decide (m < n) then 1 else 0)) = false := by
          unfold cmpI
          rcases Int.lt_trichotomy m n with h | h | h
          · simp [h, Int.not_lt.mpr (Int.le_of_lt h)]
          · simp [h]
          · simp [h, Int.not_lt.mpr (Int.le_of_lt h)]
        have key : ∀ (c : Fx), Op2 g c (compareOp .NotEq) (.int (cmpI m n)) (.int ((if decide (n < m) then 1 else 0) - (if decide (m < n) then 1 else 0))) (.bool false) := fun c => by
          have h := op_ne (g := g) (c := c) (a := cmpI m n) (b := (if decide (n < m) then 1 else 0) - (if decide (m < n) then 1 else 0))
          rw [e] at h
          exact h
        exact key _
    apply Exs_cons
    refine Ex_append (a := .int m) (pre := [("rows", some (ns.map (row W)))]) ok rfl (.inl rfl) (Ev_name ok rfl rfl) (by simp [line16]; omega) ?_
    apply Exs_cons
    refine Ex_append (a := row W m) (pre := []) ok rfl (.inr ⟨rfl, hasCell_mem rfl, by decide⟩) (Ev_name ok rfl rfl) (by simp [line16]; omega) ?_
    apply Exs_cons
    refine Ex_append (a := .tup [deedV F' Lb K (row W o), row W q]) (pre := [("rows", some (ns.map (row W) ++ [row W m])), ("numbers", some (ns.map .int ++ [.int m]))]) ok rfl (.inl rfl) (Ev_tuple (EvV_cons (Ev_name ok rfl rfl) (EvV_cons (Ev_name ok rfl rfl) EvV_nil)) (by simp [line16])) (by simp [line16]; omega) ?_
    apply Exs_nil
    refine ⟨lawSt sc W LL (j + 1 + 1) (ns ++ [m]) (ds ++ [.tup [deedV F' Lb K (row W o), row W q]]), ?_, j + 1 + 1, ns ++ [m], _, rfl, by omega, by simp [hns], by simp [hds], ?_, ?_⟩
    · dsimp only [lawSt]
      rw [List.map_append, List.map_append]
      walk_at "le"
    · intro x hx
      rcases List.mem_append.mp hx with hx | hx
      · have := hbd x hx
        exact ⟨this.1, by rw [hXs]; omega⟩
      · rw [List.mem_singleton.mp hx]; exact ⟨hdb.1, hdb.2.1⟩
    · intro t a b d h1 h2 h3
      by_cases ht : t < ds.length
      · rw [List.getElem?_append_left (by omega)] at h1 h2
        rw [List.getElem?_append_left ht] at h3
        exact hch t a b d h1 h2 h3
      · have htl : t < (ds ++ [AV.tup [deedV F' Lb K (row W o), row W q]]).length := (List.getElem?_eq_some_iff.mp h3).1
        rw [List.length_append, List.length_singleton] at htl
        obtain rfl : t = i := by omega
        rw [List.getElem?_append_left (by omega), hn] at h1
        cases h1
        rw [List.getElem?_append_right (by omega), hns] at h2
        rw [List.getElem?_append_right (by omega), hds] at h3
        simp at h2 h3
        subst h2 h3
        exact hdk
  · rintro σ ⟨j, ns, ds, rfl, hj, hns, hds, hbd, hch⟩
    refine ⟨rfl, ?_⟩
    have h200 : ∀ n ∈ ns, 0 ≤ n ∧ n < 2 ^ 200 := fun n hn => by
      have h1 := hbd n hn
      have h2 : (2 : Int) ^ (22 + 17 * T) ≤ 2 ^ 200 := by
        have : 2 ^ (22 + 17 * T) ≤ 2 ^ 200 := Nat.pow_le_pow_right (show 0 < 2 by decide) (by omega)
        exact_mod_cast this
      exact ⟨h1.1, by omega⟩
    clear hbd
    have hlens : ∀ n ∈ ns, (lm (B2 W) n).length ≤ 1000 := fun n hn => len_ok (by omega) (h200 n hn).1 (by have := (h200 n hn).2; omega)
    apply WpT.freeze (pre := []) rfl
    apply WpT.freeze (pre := []) rfl
    apply WpT.freeze (pre := []) rfl
    apply WpT.le (σ' := ⟨[("rows", .list (ns.map (row W))), ("numbers", .list (ns.map .int)), ("deeds", .list ds), ("w", .int (W : Int)), ("#are", .raw (.ref 228)), ("#law", .raw (.ref 235))], ("stick", some (stickV j LL)) :: lawω⟩) (by walk_at "le")
    have hrw : ns.map (row W) = (ns.map (lm (B2 W))).map aints := by rw [List.map_map]; rfl
    refine ExsT_seq ⟨[("rows", .list (ns.map (row W))), ("numbers", .list (ns.map .int)), ("deeds", .list ds), ("w", .int (W : Int)), ("#are", .raw (.ref 228)), ("#law", .raw (.ref 235))], ("stick", some (stickV j LL)) :: lawω⟩ ?_ ?_
    · refine Ex_if (r := false) ?_ (fun h => nomatch h) (fun _ => Exs_nil ⟨rfl, by walk_at "le"⟩)
      refine EvB_cmp (a := .list (ns.map (row W))) (b := .list (ns.map (row W))) ?_ (Ev_ofF ?_) ?_
      · repeat' walk_at "ev"
      · refine EvF_comp (xs := ns.map .int) (ys := ns.map (row W)) ok ?_ (by simp; omega) (by simp) rfl (by decide) rfl (by decide) rfl ?_
        · repeat' walk_at "ev"
        · intro i a b ha hb s vm mine rest fz C oC m₂ v S hC hns' hmx hv Q E hQ
          obtain ⟨hi1, rfl⟩ := getElem_intmap ha
          have hb' : b = row W (ns.getD i 0) := by
            rw [List.getElem?_map, List.getElem?_eq_getElem hi1] at hb
            rw [List.getD_eq_getElem?_getD, List.getElem?_eq_getElem hi1]
            exact (Option.some.inj hb).symm
          subst hb'
          have hmem : ns.getD i 0 ∈ ns := by rw [List.getD_eq_getElem?_getD, List.getElem?_eq_getElem hi1]; exact List.getElem_mem hi1
          refine Call_ (cn_glob ok S (ns198 hK).1 rfl rfl (by decide) ?_) rfl
          refine callWith_K (h₀ := h₀) ok.inK (ns198 hK).2 (args_cons (cn_loc S hC hns' hmx rfl rfl (by decide) (args_cons (cn_cell S (a := .int (W : Int)) rfl (hasCell_mem rfl) (by decide) rfl rfl rfl (by decide) fun u hu => args_nil ⟨?_, ?_⟩) rfl)) rfl) rfl rfl
          · obtain ⟨m, F, _⟩ := S.fr
            exact ok.inK.keeps F.keep
          · rw [List.nil_append]
            exact (fn_law_limbs hK W (by omega) hW8 _ (h200 _ hmem).1 (hlens _ hmem)).more (show 1 ≤ 12 by omega) _ ok _ s vm mine rest fz S _ (Reps.cons_iff.mpr ⟨_, _, rfl, hv, Reps.one hu⟩) _ _ fun y h' tk' fz' S' hs hy => hQ y h' tk' fz' S' hs hy
      · rw [hrw]
        exact op_nell ok (by omega) _
    have hnpos : ns ≠ [] := by intro h; rw [h] at hns; simp at hns
    have hdsl : ds.length ≤ 8 := by omega
    refine ExsT_seq ⟨[("rows", .list (ns.map (row W))), ("numbers", .list (ns.map .int)), ("deeds", .list ds), ("w", .int (W : Int)), ("#are", .raw (.ref 228)), ("#law", .raw (.ref 235))], ("stick", some (stickV j LL)) :: lawω⟩ ?_ ?_
    · refine Ex_for_range (a := (ds.length : Int) - 1) (b := -1) (d := -1) (n := ds.length) (fun i σ => σ = ⟨[("rows", .list (ns.map (row W))), ("numbers", .list (ns.map .int)), ("deeds", .list ds), ("w", .int (W : Int)), ("#are", .raw (.ref 228)), ("#law", .raw (.ref 235))], ("stick", some (stickV j LL)) :: lawω⟩) ok ?_ (range_small_down (by omega)) (range_size_down _) rfl rfl ?_ ?_
      · refine R_range hK ok (as := [.int ((ds.length : Int) - 1), .int (-1), .int (-1)]) ?_ rc3 rfl rfl rfl rfl
        refine EvV_cons (Ev_bin (E_len hK ok ?_ (by omega) rfl rfl rfl rfl) Ev_int op_sub) (EvV_cons (Ev_bin (a := .int 0) (b := .int 1) Ev_int Ev_int op_sub) (EvV_cons (Ev_bin (a := .int 0) (b := .int 1) Ev_int Ev_int op_sub) EvV_nil))
        repeat' walk_at "ev"
      · rintro i σ hi rfl
        refine ⟨rfl, ?_⟩
        obtain ⟨t, ht⟩ : ∃ t : Nat, (ds.length : Int) - 1 + (i : Int) * -1 = (t : Int) := ⟨ds.length - 1 - i, by omega⟩
        rw [ht]
        have htl : t < ds.length := by omega
        have hn1 : t < ns.length := by omega
        have hn2 : t + 1 < ns.length := by omega
        obtain ⟨f, l, k, o, q, q0, q1, q2, q3, q4, q5, q6, q7, q8, q9⟩ := hch t ns[t] ns[t + 1] ds[t] (by simp) (by simp) (by simp)
        have m1 := h200 ns[t] (List.getElem_mem hn1)
        have m2 := h200 ns[t + 1] (List.getElem_mem hn2)
        have dAt : ∀ {σ : St} {p1 p2 p3 : Pos}, look "deeds" σ.ρ = some (.list ds) → look "at" σ.ρ = some (.int (t : Int)) → Ev g _ σ (.Subscript (.Name "deeds" p1) (.Name "at" p2) p3) (.tup [deedV f l k (row W o), row W q]) := fun h1 h2 => by
          refine Ev_item (xs := ds) (k := (t : Int)) (Ev_name ok h1 rfl) (Ev_name ok h2 rfl) (by omega) ?_ (by omega)
          rw [Int.toNat_natCast, ← q9]; simp
        have rAt : ∀ {σ : St} {e : Expr} {p1 p3 : Pos} (u : Nat) (hu : u < ns.length), look "rows" σ.ρ = some (.list (ns.map (row W))) → (("rows" : Str), none) ∈ σ.ω → Ev g _ σ e (.int (u : Int)) → (∀ l x, subscripted e false (.ref l) (.int (u : Int) x) = operate [.ref l, .int (u : Int) x] (getItem (.ref l) (.int (u : Int) x))) → Ev g _ σ (.Subscript (.Name "rows" p1) e p3) (row W ns[u]) := fun u hu h1 h2 h3 h4 => by
          refine Ev_item (xs := ns.map (row W)) (k := (u : Int)) (Ev_var ok h1 (.inr ⟨rfl, h2, by decide⟩)) h3 (by omega) ?_ (by omega) h4
          rw [Int.toNat_natCast]; simp [hu]
        apply Exs_cons
        refine Ex_if (r := false) ?_ (fun h => nomatch h) (fun _ => Exs_nil ?le)
        case le =>
          apply Exs_nil
          exact ⟨_, by walk_at "le", rfl⟩
        refine EvB_cmp (a := row W ns[t]) (b := row W ns[t]) ?_ ?_ ?_
        · refine Ev_call ok ((fn_undone hK W (by omega) hW8 f l k ns[t] o ns[t + 1] q q0 q1 q2 q3 q4 m1.1 q5 m1.2 q6 q7 q8 m2.1 m2.2).more (by omega)) (ns219 hK).1 (ns219 hK).2 ?_ rfl
          refine EvV_cons (Ev_item_tup (k := 0) (dAt rfl rfl) Ev_int rfl (by decide)) (EvV_cons ?_ (EvV_cons (Ev_item_tup (k := 1) (dAt rfl rfl) Ev_int rfl (by decide)) (EvV_cons ?_ EvV_nil)))
          · refine rAt (t + 1) hn2 rfl (hasCell_mem rfl) ?_ (by with_unfolding_all (intro _ _; rfl))
            rw [show ((t + 1 : Nat) : Int) = (t : Int) + 1 by omega]
            exact Ev_bin (Ev_name ok rfl rfl) Ev_int op_add
          · repeat' walk_at "ev"
        · exact rAt t hn1 rfl (hasCell_mem rfl) (Ev_name ok rfl rfl) (by with_unfolding_all (intro _ _; rfl))
        · have e : decide (lm (B2 W) ns[t] ≠ lm (B2 W) ns[t]) = false := by simp
          have h := op_nel (xs := lm (B2 W) ns[t]) (ys := lm (B2 W) ns[t]) ok (by omega)
          rw [e] at h
          exact h
      · rintro σ rfl
        exact ⟨rfl, by walk_at "le"⟩
    refine ExsT_ret ?_
    refine ExT_return (σ' := ⟨[("rows", .list (ns.map (row W))), ("numbers", .list (ns.map .int)), ("deeds", .list ds), ("w", .int (W : Int)), ("#are", .raw (.ref 228)), ("#law", .raw (.ref 235))], ("stick", some (stickV j LL)) :: lawω⟩) (a := .bool true) ?_ ⟨_, rfl, rfl, ⟨_, _, rfl⟩, rfl, rfl⟩
    refine EvT_refused (k := 10) (fun e => e.1 == "rows" || e.1 == "w") (tn := "#law") (q := "law.<locals>.<lambda>") (pre := [("stick", some (stickV j LL)), ("w", none), ("rows", none), ("row", none), ("limb", none), ("#are", none)]) (post := []) hK ok rfl (by decide) rfl rfl hC2 (by show (("law" ++ ".<locals>." ++ "<lambda>" : Str)) = _; decide) rfl rfl ?_ (fun _ _ _ => rfl) rfl rfl rfl (by decide) (by decide) ?_ (ns37 hK) (exc37 hK) rfl rfl (by decide) rfl rfl rfl rfl
    · intro x hx
      have hx' : (x, none) ∈ ([("w", none), ("rows", none)] : List (Str × Option (List AV))) := hx
      simp only [List.mem_cons, Prod.mk.injEq, List.not_mem_nil, or_false, and_true] at hx'
      rcases hx' with rfl | rfl <;> rfl
    · intro c₁ L'' f c'' ok₁ he₁
      obtain ⟨A₁, env₁, h₁, A₁', base₁, outer₁⟩ := c₁
      dsimp only at he₁
      subst he₁
      refine EvX_call ok₁ ((fnR_divrem hK (row W (ns.getD (ns.length - 1) 0)) W).more (by omega)) (ns135 hK).1 (ns135 hK).2 ?_ rfl
      have mem1 : (("rows" : Str), none) ∈ ([("w", none), ("rows", none)] : List (Str × Option (List AV))) := .tail _ (.head _)
      have mem2 : (("w" : Str), none) ∈ ([("w", none), ("rows", none)] : List (Str × Option (List AV))) := .head _
      refine EvV_cons ?_ (EvV_cons Ev_int (EvV_cons (Ev_free ok₁ rfl rfl mem2 (by decide)) EvV_nil))
      refine Ev_item_neg (xs := ns.map (row W)) (k := -1) (Ev_free ok₁ rfl rfl mem1 (by decide)) ?_ (by decide) (by simp; omega) ?_ (by decide)
      · repeat' walk_at "ev"
      · have h1 : (-1 + ((ns.map (row W)).length : Int)).toNat = ns.length - 1 := by simp; omega
        have h2 : ns.length - 1 < ns.length := by omega
        rw [h1, List.getElem?_map, List.getElem?_eq_getElem h2, List.getD_eq_getElem?_getD, List.getElem?_eq_getElem h2]
        rfl
end
section
set_option maxHeartbeats 8000000

theorem law_ends {prog : Program} {w : World} {p : Program} {loose : List Str} {mean : ExcName → Option Value} {mg mb : Str → Option Value} {base h₁ : Heap} {L fa sc : Addr} {m : Str → Option Value} {o1 o2 o3 o4 : Obj} {ns : List Int} {vs : List Value}
    (X : (hd.heap_39 w.params).In base) (T : Top p loose mean mg mb base) (B : Below callerA base [] base) (F : Fr base L h₁ m)
    (hm : ∀ x, (funcOf (hd.heap_39 w.params) 238).2.names.lookup x = some .local → m x = if x = "script" then some (.ref sc) else none)
    (N : News base L h₁ [(L + 1 + 1 + 1 + 1, o1), (L + 1 + 1 + 1, o2), (L + 1 + 1, o3), (L + 1, o4), (228, tabObj #[]), (235, tabObj #[])]) (hlt : 228 < L ∧ 235 < L)
    (d1 : o1.data = .cell none) (d2 : o2.data = .cell none) (d3 : o3.data = .cell none) (d4 : o4.data = .cell none)
    (hC1 : CodeHd base 232 228) (hC2 : CodeHd base 237 235) (hl : base.IsList sc vs.toArray) (hi : IntsAre vs ns) (hlen : ns.length ≤ 63) {gens : Array GenState} {drawn : Drawn} {tk : Nat} {os : OsState} {Q : Flow → Shared → Prop} {E : Value → Shared → Prop}
    (hQ : ∀ h' tk' m' ps1 ps2, Fr base L h' m' → h'.get? 228 = some (tabObj ps1) → h'.get? 235 = some (tabObj ps2) → Q (.ret (.bool true)) ⟨h', gens, drawn, tk', os⟩) :
    wpAny (model prog w) (callerA.deeper (envOfC "law" (funcOf (hd.heap_39 w.params) 238).2 L fa (.ref 237))) (execs (funcOf (hd.heap_39 w.params) 238).1 (envOfC "law" (funcOf (hd.heap_39 w.params) 238).2 L fa (.ref 237))) Q E ⟨h₁, gens, drawn, tk, os⟩ := by
  let g : Gl := ⟨prog, w, hd.heap_39 w.params, p, loose, mean, mg, mb⟩
  let c : Fx := ⟨callerA.deeper (envOfC "law" (funcOf (hd.heap_39 w.params) 238).2 L fa (.ref 237)), envOfC "law" (funcOf (hd.heap_39 w.params) 238).2 L fa (.ref 237), base, callerA, base, []⟩
  have hK : g.Is := rfl
  have ok : c.Ok g 12 :=
    { below := B, frames := rfl, handled := rfl, frame := rfl, kind := rfl, globals := rfl, builtins := rfl, inK := X, inB := X, top := T
      depth := by show callerA.depth + 1 + 12 < recursionLimit; decide
      units := by show callerA.units + 3 + 10 * 12 + 20 < cLine; decide }
  let vm : Str → Option Value := fun x => if x = "script" then some (.ref sc) else if x = "#are" then some (.ref 228) else if x = "#law" then some (.ref 235) else none
  have S : Sta c ⟨lawρ sc, lawω⟩ h₁ vm [(L + 1 + 1 + 1 + 1, o1), (L + 1 + 1 + 1, o2), (L + 1 + 1, o3), (L + 1, o4), (228, tabObj #[]), (235, tabObj #[])] [] [] := by
    refine ⟨⟨m, F, fun x hx => ?_⟩, (by show News base L h₁ _; rw [List.append_nil, List.append_nil]; exact N), (fun _ _ _ h => (by cases h)), (fun _ _ _ h => (by cases h)), ?_, ?_, ?_⟩
    · rw [hm x hx]
      simp only [vm]
      by_cases q : x = "script"
      · rw [if_pos q, if_pos q]
      · rw [if_neg q, if_neg q]
        by_cases q2 : x = "#are"
        · rw [q2] at hx
          have hx' : (none : Option NameKind) = some .local := hx
          cases hx'
        · rw [if_neg q2]
          by_cases q3 : x = "#law"
          · rw [q3] at hx
            have hx' : (none : Option NameKind) = some .local := hx
            cases hx'
          · rw [if_neg q3]
    · simp only [List.map_cons, List.map_nil]
      have g1 : (228 : Nat) < (L : Nat) := hlt.1
      have g2 : (235 : Nat) < (L : Nat) := hlt.2
      have key : ∀ l : Nat, 228 < l → 235 < l → ([l + 1 + 1 + 1 + 1, l + 1 + 1 + 1, l + 1 + 1, l + 1, 228, 235] : List Nat).Nodup := fun l h1 h2 => by
        simp only [List.nodup_cons, List.mem_cons, List.not_mem_nil, or_false, not_or, not_false_eq_true, List.nodup_nil, and_true]
        omega
      exact key L g1 g2
    · intro x a hx
      simp only [look] at hx
      by_cases q1 : ("script" : Str) = x
      · rw [if_pos q1] at hx; cases hx; subst q1; exact ⟨_, rfl, Rep.raw_iff.mpr rfl⟩
      rw [if_neg q1] at hx
      by_cases q2 : ("#are" : Str) = x
      · rw [if_pos q2] at hx; cases hx; subst q2; exact ⟨_, rfl, Rep.raw_iff.mpr rfl⟩
      rw [if_neg q2] at hx
      by_cases q3 : ("#law" : Str) = x
      · rw [if_pos q3] at hx; cases hx; subst q3; exact ⟨_, rfl, Rep.raw_iff.mpr rfl⟩
      rw [if_neg q3] at hx; cases hx
    · simp only [OwnR]
      have tok : ∀ q, TabOk q [] #[] := fun q => ⟨trivial, fun pos v e => by simp [codeAmong] at e⟩
      exact ⟨(CellR.cell (by decide)).mpr ⟨d1, rfl⟩, (CellR.cell (by decide)).mpr ⟨d2, rfl⟩, (CellR.cell (by decide)).mpr ⟨d3, rfl⟩, (CellR.cell (by decide)).mpr ⟨d4, rfl⟩,
        (CellR.tab (q := "_law_are_told.<locals>.<lambda>") (by decide)).mpr ⟨rfl, #[], rfl, tok _⟩, (CellR.tab (q := "law.<locals>.<lambda>") (by decide)).mpr ⟨rfl, #[], rfl, tok _⟩, trivial⟩
  refine law_exec hK ok rfl L fa rfl hC1 hC2 hl hi hlen ⟨h₁, gens, drawn, tk, os⟩ vm _ _ _ S Q E ?_
  rintro o σ' fl h' tk' vm' mine' fz' ⟨rfl, ⟨x, xs, hω⟩, hP1, hP2⟩ ⟨h0, m', S', em, Y⟩ hs hr
  cases fl <;> first | exact hr.elim | skip
  have hr := (Rep.bool_iff (fz := fz')).mp hr
  subst hr
  have ow := S'.own
  rw [hω] at ow
  obtain ⟨p1, p2, p3, p4, p5, p6, p7, rfl⟩ : ∃ p1 p2 p3 p4 p5 p6 p7, mine' = [p1, p2, p3, p4, p5, p6, p7] := by
    match mine', ow with
    | [p1, p2, p3, p4, p5, p6, p7], _ => exact ⟨p1, p2, p3, p4, p5, p6, p7, rfl⟩
    | [], h => simp [OwnR] at h
    | [_], h => simp [OwnR] at h
    | [_, _], h => simp [OwnR] at h
    | [_, _, _], h => simp [OwnR] at h
    | [_, _, _, _], h => simp [OwnR] at h
    | [_, _, _, _, _], h => simp [OwnR] at h
    | [_, _, _, _, _, _], h => simp [OwnR] at h
    | _ :: _ :: _ :: _ :: _ :: _ :: _ :: _ :: _, h => simp [OwnR] at h
  obtain ⟨b6, o6⟩ := p6
  obtain ⟨b7, o7⟩ := p7
  simp only [OwnR] at ow
  obtain ⟨_, _, _, _, _, c6, c7, _⟩ := ow
  obtain ⟨e6, ps6, rfl, _⟩ := (CellR.tab (q := "_law_are_told.<locals>.<lambda>") (by decide)).mp c6
  obtain ⟨e7, ps7, rfl, _⟩ := (CellR.tab (q := "law.<locals>.<lambda>") (by decide)).mp c7
  obtain ⟨z6, hz6, hr6⟩ := S'.rho _ _ hP1
  obtain ⟨z7, hz7, hr7⟩ := S'.rho _ _ hP2
  rw [Rep.raw_iff] at hr6 hr7
  subst hr6 hr7
  obtain rfl : b6 = 228 := by rw [hz6] at e6; cases e6; rfl
  obtain rfl : b7 = 235 := by rw [hz7] at e7; cases e7; rfl
  obtain ⟨m0, F0, _⟩ := S'.fr
  refine hQ h' tk' m' ps6 ps7 ⟨Y.ns, fun b o e => Y.keep b o e (by simp [c]), F0.above⟩ (Y.led (228, tabObj ps6) ?_) (Y.led (235, tabObj ps7) ?_)
  · simp
  · simp
end
section
set_option maxHeartbeats 8000000
theorem top : PySem.Challenge.rw_sj0075_01.Holds := hd (by
  k_go0
  refine law_ends (by assumption) (by assumption) (by assumption) (by assumption) ?hm (by assumption) (by assumption) (by assumption) (by assumption) (by assumption) (by assumption) (by assumption) (by assumption) (by assumption) (by assumption) ?hlen ?hQ
  case hm => intro x hx; exact rfl
  case hlen => omega
  case hQ =>
    intro h' tk' m' ps1 ps2 F' e1 e2
    refine ⟨⟨.inl ⟨.bool true, _, _, rfl, ?_, .bool _, ?_, ?_⟩, F'.keep, rfl, by assumption⟩, ⟨ps1, e1⟩, ⟨ps2, e2⟩, trivial⟩
    · intro cls; rfl
    · first | (simp [PySem.Challenge.rw_sj0075_01, OpenLaw.row]; done) | (with_unfolding_all rfl) | decide
    · intro h; exact ⟨List.nodup_nil, fun a h => (by cases h)⟩)
end
end Mine

theorem PySem.Challenge.cw_sj0075_01_holds : PySem.Challenge.rw_sj0075_01.Holds :=
  Mine.top
