import PyProof.Rows.All
import Wide.All
import OpenK.AllK
import Wide.FinOn
import Lean
import PySem.Challenge.RW_pb0179_01
set_option Elab.async false
set_option maxRecDepth 100000
section
open PySem PySem.W PySem.Calls PyProof.Rows
set_option Elab.async false
set_option maxRecDepth 100000
namespace Pb

abbrev Gh := Addr → Option Obj

inductive D where
  | raw (v : Value)
  | none
  | bool (b : Bool)
  | int (i : Int)
  | str (s : Str)
  | tup (l : List D)
  | lst (l : List D)
  | vec (l : List D)
  | rng (a b : Int)
  | self (c x dx : Addr)
  | set (S : List Int) (led : Bool)
  | dct (l : List (Int × D))
  | inst (c : Addr) (l : List (Str × D))
  | flds (l : List (Str × D))

def rngObj (a b : Int) (t u v : Tok) : Obj := { cls := .type "range", dict := none, data := .fields #[.int a t, .int b u, .int 1 v], slots := #[] }

def keyOf : Value → Int
  | .int k _ => k
  | _ => 0
def Ris (xs : Array Nat) : Prop := xs.toList.Pairwise (· < ·)
/-- a table whose places rise -/
structure Tab (t : SetTable) (led : Bool) : Prop where
  ris : Ris t.place
  led : t.led = led
def setObj (es : Array (Int × Value)) (ep : Nat) (t : SetTable) : Obj := { cls := .type "set", dict := none, data := .set es ep t, slots := #[] }
/-- what a set of ints holds -/
structure SetD (es : Array (Int × Value)) (t : SetTable) (S : List Int) (led : Bool) : Prop where
  vals : ∀ e ∈ es.toList, ∃ t, e.2 = .int (keyOf e.2) t
  nd : (es.toList.map (keyOf ·.2)).Nodup
  mem : ∀ k, k ∈ S ↔ k ∈ es.toList.map (keyOf ·.2)
  le : es.size ≤ S.length
  fits : t.fits es.size = true
  tab : Tab t led

mutual
def Den (g : Gh) (v : Value) : D → Prop
  | .raw w => v = w
  | .none => v = .none
  | .bool b => v = .bool b
  | .int i => ∃ t, v = .int i t
  | .str s => ∃ t, v = .str s t
  | .tup l => ∃ a vs n, v = .ref a ∧ g a = some (seqObj "tuple" vs n) ∧ DenL g vs.toList l
  | .lst l => ∃ a vs n, v = .ref a ∧ g a = some (seqObj "list" vs n) ∧ DenL g vs.toList l
  | .vec l => ∃ a o vs n, v = .ref a ∧ g a = some o ∧ o.cls = .type "list" ∧ o.data = .seq vs n ∧ DenL g vs.toList l
  | .rng a b => ∃ r t u x, v = .ref r ∧ g r = some (rngObj a b t u x)
  | .self c x dx => v = .ref x ∧ g x = some (instObj c dx)
  | .flds l => ∃ a es n, v = .ref a ∧ g a = some (dictOf es n) ∧ DenF g es l
  | .set S led => ∃ a es ep t, v = .ref a ∧ g a = some (setObj es ep t) ∧ SetD es t S led
  | .dct l => ∃ a es n, v = .ref a ∧ a ≠ sysModules ∧ g a = some (dictOf es n) ∧ DenKV g es l ∧ (l.map (·.1)).Nodup
  | .inst c l => ∃ a dx es n, v = .ref a ∧ g a = some (instObj c dx) ∧ g dx = some (dictOf es n) ∧ DenF g es l
def DenL (g : Gh) : List Value → List D → Prop
  | [], [] => True
  | v :: vs, d :: ds => Den g v d ∧ DenL g vs ds
  | _, _ => False
def DenKV (g : Gh) : List DictEntry → List (Int × D) → Prop
  | [], [] => True
  | e :: es, (k, d) :: l => (∃ t, e.key = .int k t) ∧ e.hash = hashInt k ∧ Den g e.val d ∧ DenKV g es l
  | _, _ => False
def DenF (g : Gh) : List DictEntry → List (Str × D) → Prop
  | [], [] => True
  | e :: es, (x, d) :: l => (∃ t, e.key = .str x t) ∧ Den g e.val d ∧ DenF g es l
  | _, _ => False
end

abbrev Le (g g' : Gh) : Prop := ∀ a o, g a = some o → g' a = some o

mutual
theorem Den.mono {g g' : Gh} (h : Le g g') : ∀ {v : Value} {d : D}, Den g v d → Den g' v d
  | _, .raw _, x => by rw [Den] at x ⊢; exact x
  | _, .none, x => by rw [Den] at x ⊢; exact x
  | _, .bool _, x => by rw [Den] at x ⊢; exact x
  | _, .int _, x => by rw [Den] at x ⊢; exact x
  | _, .str _, x => by rw [Den] at x ⊢; exact x
  | _, .tup _, x => by
    rw [Den] at x ⊢
    obtain ⟨a, vs, n, x1, x2, x5⟩ := x
    exact ⟨a, vs, n, x1, h _ _ x2, DenL.mono h x5⟩
  | _, .lst _, x => by
    rw [Den] at x ⊢
    obtain ⟨a, vs, n, x1, x2, x5⟩ := x
    exact ⟨a, vs, n, x1, h _ _ x2, DenL.mono h x5⟩
  | _, .vec _, x => by
    rw [Den] at x ⊢
    obtain ⟨a, o, vs, n, x1, x2, x3, x4, x5⟩ := x
    exact ⟨a, o, vs, n, x1, h _ _ x2, x3, x4, DenL.mono h x5⟩
  | _, .rng _ _, x => by
    rw [Den] at x ⊢
    obtain ⟨r, t, u, y, x1, x2⟩ := x
    exact ⟨r, t, u, y, x1, h _ _ x2⟩
  | _, .self _ _ _, x => by
    rw [Den] at x ⊢
    exact ⟨x.1, h _ _ x.2⟩
  | _, .flds _, x => by
    rw [Den] at x ⊢
    obtain ⟨a, es, n, x1, x2, x3⟩ := x
    exact ⟨a, es, n, x1, h _ _ x2, DenF.mono h x3⟩
  | _, .set _ _, x => by
    rw [Den] at x ⊢
    obtain ⟨a, es, ep, t, x1, x2, x3⟩ := x
    exact ⟨a, es, ep, t, x1, h _ _ x2, x3⟩
  | _, .dct _, x => by
    rw [Den] at x ⊢
    obtain ⟨a, es, n, x1, x2, x3, x6, x7⟩ := x
    exact ⟨a, es, n, x1, x2, h _ _ x3, DenKV.mono h x6, x7⟩
  | _, .inst _ _, x => by
    rw [Den] at x ⊢
    obtain ⟨a, dx, es, n, x1, x2, x3, x4⟩ := x
    exact ⟨a, dx, es, n, x1, h _ _ x2, h _ _ x3, DenF.mono h x4⟩
theorem DenL.mono {g g' : Gh} (h : Le g g') : ∀ {vs : List Value} {ds : List D}, DenL g vs ds → DenL g' vs ds
  | [], [], _ => by rw [DenL]; trivial
  | _ :: _, _ :: _, x => by rw [DenL] at x ⊢; exact ⟨Den.mono h x.1, DenL.mono h x.2⟩
  | [], _ :: _, x => by rw [DenL] at x; exact x.elim; all_goals simp
  | _ :: _, [], x => by rw [DenL] at x; exact x.elim; all_goals simp
theorem DenKV.mono {g g' : Gh} (h : Le g g') : ∀ {es : List DictEntry} {l : List (Int × D)}, DenKV g es l → DenKV g' es l
  | [], [], _ => by rw [DenKV]; trivial
  | _ :: _, (_, _) :: _, x => by rw [DenKV] at x ⊢; exact ⟨x.1, x.2.1, Den.mono h x.2.2.1, DenKV.mono h x.2.2.2⟩
  | [], _ :: _, x => by rw [DenKV] at x; exact x.elim; all_goals simp
  | _ :: _, [], x => by rw [DenKV] at x; exact x.elim; all_goals simp
theorem DenF.mono {g g' : Gh} (h : Le g g') : ∀ {es : List DictEntry} {l : List (Str × D)}, DenF g es l → DenF g' es l
  | [], [], _ => by rw [DenF]; trivial
  | _ :: _, (_, _) :: _, x => by rw [DenF] at x ⊢; exact ⟨x.1, Den.mono h x.2.1, DenF.mono h x.2.2⟩
  | [], _ :: _, x => by rw [DenF] at x; exact x.elim; all_goals simp
  | _ :: _, [], x => by rw [DenF] at x; exact x.elim; all_goals simp
end

end Pb
end
section
open PySem PySem.W PySem.Calls PyProof.Rows
set_option Elab.async false
set_option maxRecDepth 100000
namespace Pb

theorem DenL.length {g : Gh} : ∀ {vs : List Value} {ds : List D}, DenL g vs ds → vs.length = ds.length
  | [], [], _ => rfl
  | _ :: _, _ :: _, x => by rw [DenL] at x; simp [DenL.length x.2]
  | [], _ :: _, x => by simp [DenL] at x
  | _ :: _, [], x => by simp [DenL] at x
theorem DenL.append {g : Gh} : ∀ {vs : List Value} {ds : List D} {ws : List Value} {es : List D}, DenL g vs ds → DenL g ws es → DenL g (vs ++ ws) (ds ++ es)
  | [], [], _, _, _, y => y
  | _ :: _, _ :: _, _, _, x, y => by rw [DenL] at x; rw [List.cons_append, List.cons_append, DenL]; exact ⟨x.1, x.2.append y⟩
  | [], _ :: _, _, _, x, _ => by simp [DenL] at x
  | _ :: _, [], _, _, x, _ => by simp [DenL] at x
theorem DenL.get {g : Gh} : ∀ {vs : List Value} {ds : List D} {i : Nat} {v : Value}, DenL g vs ds → vs[i]? = some v → ∃ d, ds[i]? = some d ∧ Den g v d
  | _ :: _, d :: _, 0, _, x, e => by rw [DenL] at x; simp at e; subst e; exact ⟨d, rfl, x.1⟩
  | _ :: _, _ :: _, i + 1, _, x, e => by rw [DenL] at x; simpa using x.2.get (i := i) (by simpa using e)
  | [], _, _, _, _, e => by simp at e
  | _ :: _, [], _, _, x, _ => by simp [DenL] at x
theorem DenL.at_ {g : Gh} : ∀ {vs : List Value} {ds : List D} {i : Nat} {d : D}, DenL g vs ds → ds[i]? = some d → ∃ v, vs[i]? = some v ∧ Den g v d
  | v :: _, _ :: _, 0, _, x, e => by rw [DenL] at x; simp at e; subst e; exact ⟨v, rfl, x.1⟩
  | _ :: _, _ :: _, i + 1, _, x, e => by rw [DenL] at x; simpa using x.2.at_ (i := i) (by simpa using e)
  | _, [], _, _, _, e => by simp at e
  | [], _ :: _, _, _, x, _ => by simp [DenL] at x
theorem DenL.of_get {g : Gh} : ∀ {vs : List Value} {ds : List D}, vs.length = ds.length → (∀ (i : Nat) (v : Value) (d : D), vs[i]? = some v → ds[i]? = some d → Den g v d) → DenL g vs ds
  | [], [], _, _ => by rw [DenL]; trivial
  | v :: vs, d :: ds, e, h => by
    rw [DenL]
    exact ⟨h 0 v d rfl rfl, DenL.of_get (by simpa using e) fun i v' d' a b => h (i + 1) v' d' (by simpa using a) (by simpa using b)⟩
  | [], _ :: _, e, _ => by simp at e
  | _ :: _, [], e, _ => by simp at e
theorem DenL.one {g : Gh} {v : Value} {d : D} (x : Den g v d) : DenL g [v] [d] := by rw [DenL, DenL]; exact ⟨x, trivial⟩
theorem DenL.nil {g : Gh} : DenL g [] [] := by rw [DenL]; trivial
theorem DenL.cons {g : Gh} {v : Value} {d : D} {vs : List Value} {ds : List D} (x : Den g v d) (y : DenL g vs ds) : DenL g (v :: vs) (d :: ds) := by rw [DenL]; exact ⟨x, y⟩
theorem DenL.inv {g : Gh} {v : Value} {vs : List Value} {ds : List D} (x : DenL g (v :: vs) ds) : ∃ d es, ds = d :: es ∧ Den g v d ∧ DenL g vs es := by
  cases ds with
  | nil => simp [DenL] at x
  | cons d es => rw [DenL] at x; exact ⟨d, es, rfl, x.1, x.2⟩
theorem DenL.inv' {g : Gh} {d : D} {vs : List Value} {ds : List D} (x : DenL g vs (d :: ds)) : ∃ v us, vs = v :: us ∧ Den g v d ∧ DenL g us ds := by
  cases vs with
  | nil => simp [DenL] at x
  | cons v us => rw [DenL] at x; exact ⟨v, us, rfl, x.1, x.2⟩
theorem DenL.invNil {g : Gh} {vs : List Value} (x : DenL g vs []) : vs = [] := by
  cases vs with
  | nil => rfl
  | cons v us => simp [DenL] at x
theorem DenL.drop {g : Gh} : ∀ {vs : List Value} {ds : List D} (k : Nat), DenL g vs ds → DenL g (vs.drop k) (ds.drop k)
  | _, _, 0, x => x
  | [], [], _ + 1, _ => by simp [DenL]
  | _ :: _, _ :: _, k + 1, x => by rw [DenL] at x; simpa using x.2.drop k
  | [], _ :: _, _, x => by simp [DenL] at x
  | _ :: _, [], _, x => by simp [DenL] at x
theorem DenL.take {g : Gh} : ∀ {vs : List Value} {ds : List D} (k : Nat), DenL g vs ds → DenL g (vs.take k) (ds.take k)
  | _, _, 0, _ => by simp [DenL]
  | [], [], _ + 1, _ => by simp [DenL]
  | _ :: _, _ :: _, k + 1, x => by rw [DenL] at x; simp only [List.take_succ_cons]; exact DenL.cons x.1 (x.2.take k)
  | [], _ :: _, _, x => by simp [DenL] at x
  | _ :: _, [], _, x => by simp [DenL] at x

theorem DenL.ints {g : Gh} : ∀ {vs : List Value} {ns : List Int}, DenL g vs (ns.map .int) → IntsAre vs ns
  | [], [], _ => .nil
  | v :: vs, n :: ns, x => by
    rw [List.map_cons, DenL, Den] at x
    obtain ⟨⟨t, rfl⟩, x⟩ := x
    exact .cons _ _ x.ints
  | [], _ :: _, x => by simp [DenL] at x
  | _ :: _, [], x => by simp [DenL] at x
theorem DenL.of_ints {g : Gh} : ∀ {vs : List Value} {ns : List Int}, IntsAre vs ns → DenL g vs (ns.map .int)
  | _, _, .nil => DenL.nil
  | _, _, .cons _ _ x => DenL.cons (by rw [Den]; exact ⟨_, rfl⟩) (DenL.of_ints x)

structure Bas (K : Frag) (h : Heap) : Prop where
  mem : K.In h
  lim : h.NoLimit
  glob : ∃ mg mb, h.Ns mainGlobals mg ∧ h.Ns builtinsNs mb ∧ ∀ x : Str, x ≠ "__name__" → mb x = bootBuiltins x
theorem Bas.keeps {K : Frag} {h h' : Heap} (x : Bas K h) (k : ∀ b o, h.get? b = some o → h'.get? b = some o) : Bas K h' :=
  ⟨x.mem.keeps k, x.lim.keeps k, let ⟨mg, mb, a, b, c⟩ := x.glob; ⟨mg, mb, a.keeps k, b.keeps k, c⟩⟩

abbrev Mu := List (Addr × D)

def ObjDen (g : Gh) (a : Addr) (o : Obj) : D → Prop
  | .tup l => ∃ vs n, o = seqObj "tuple" vs n ∧ DenL g vs.toList l
  | .lst l => ∃ vs n, o = seqObj "list" vs n ∧ DenL g vs.toList l
  | .vec l => o.cls = .type "list" ∧ ∃ vs n, o.data = .seq vs n ∧ DenL g vs.toList l
  | .rng a b => ∃ t u x, o = rngObj a b t u x
  | .flds l => ∃ es n, o = dictOf es n ∧ DenF g es l
  | .set S led => ∃ es ep t, o = setObj es ep t ∧ SetD es t S led
  | .dct l => a ≠ sysModules ∧ ∃ es n, o = dictOf es n ∧ DenKV g es l ∧ (l.map (·.1)).Nodup
  | _ => False
theorem ObjDen.mono {g g' : Gh} {a : Addr} {o : Obj} {d : D} (h : Le g g') (x : ObjDen g a o d) : ObjDen g' a o d := by
  cases d with
  | tup l => obtain ⟨vs, n, x2, x3⟩ := x; exact ⟨vs, n, x2, x3.mono h⟩
  | lst l => obtain ⟨vs, n, x2, x3⟩ := x; exact ⟨vs, n, x2, x3.mono h⟩
  | vec l => obtain ⟨x1, vs, n, x2, x3⟩ := x; exact ⟨x1, vs, n, x2, x3.mono h⟩
  | rng a b => exact x
  | set S led => exact x
  | flds l => obtain ⟨es, n, x2, x3⟩ := x; exact ⟨es, n, x2, x3.mono h⟩
  | dct l => obtain ⟨x0, es, n, x2, x3, x4⟩ := x; exact ⟨x0, es, n, x2, x3.mono h, x4⟩
  | _ => exact x.elim
theorem ObjDen.den {g : Gh} {a : Addr} {o : Obj} {d : D} (e : g a = some o) (x : ObjDen g a o d) : Den g (.ref a) d := by
  cases d with
  | tup l => obtain ⟨vs, n, rfl, x3⟩ := x; rw [Den]; exact ⟨a, vs, n, rfl, e, x3⟩
  | lst l => obtain ⟨vs, n, rfl, x3⟩ := x; rw [Den]; exact ⟨a, vs, n, rfl, e, x3⟩
  | vec l => obtain ⟨x1, vs, n, x2, x3⟩ := x; rw [Den]; exact ⟨a, o, vs, n, rfl, e, x1, x2, x3⟩
  | flds l => obtain ⟨es, n, rfl, x3⟩ := x; rw [Den]; exact ⟨a, es, n, rfl, e, x3⟩
  | set S led => obtain ⟨es, ep, t, rfl, x3⟩ := x; rw [Den]; exact ⟨a, es, ep, t, rfl, e, x3⟩
  | rng b c => obtain ⟨t, u, y, rfl⟩ := x; rw [Den]; exact ⟨a, t, u, y, rfl, e⟩
  | dct l => obtain ⟨x0, es, n, rfl, x3, x4⟩ := x; rw [Den]; exact ⟨a, es, n, rfl, x0, e, x3, x4⟩
  | _ => exact x.elim

structure GInv (K : Frag) (μ : Mu) (g : Gh) (h : Heap) : Prop where
  bas : ∃ hb, Bas K hb ∧ ∀ b o, hb.get? b = some o → g b = some o
  sub : ∀ a o, g a = some o → h.get? a = some o
  mu : ∀ p ∈ μ, g p.1 = none ∧ ∃ o, h.get? p.1 = some o ∧ ObjDen g p.1 o p.2
  nd : (μ.map (·.1)).Nodup
theorem GInv.base {K : Frag} {μ : Mu} {g : Gh} {h : Heap} (I : GInv K μ g h) : Bas K h := let ⟨_, a, b⟩ := I.bas; a.keeps fun x o e => I.sub x o (b x o e)

abbrev Dom (μ : Mu) (a : Addr) : Prop := ∃ d, (a, d) ∈ μ

structure Step (wr : Addr → Prop) (μ μ' : Mu) (g g' : Gh) (s s' : Shared) : Prop where
  eq : s'.gens = s.gens ∧ s'.os = s.os
  le : Le g g'
  new : ∀ a, (s.heap.get? a).isSome = true → ¬ Dom μ a → g a = none → g' a = none
  keep : ∀ b o, ¬ Dom μ b → ¬ wr b → s.heap.get? b = some o → s'.heap.get? b = some o
  alive : ∀ a, (s.heap.get? a).isSome = true → (s'.heap.get? a).isSome = true
  dom : ∀ a, Dom μ' a → Dom μ a ∨ s.heap.get? a = none

theorem Step.refl {wr : Addr → Prop} {μ : Mu} {g : Gh} {s : Shared} : Step wr μ μ g g s s :=
  ⟨⟨rfl, rfl⟩, fun _ _ e => e, fun _ _ _ e => e, fun _ _ _ _ e => e, fun _ e => e, fun _ e => .inl e⟩
theorem Step.toks {wr : Addr → Prop} {μ : Mu} {g : Gh} {s : Shared} (tk : Nat) : Step wr μ μ g g s { s with toks := tk } :=
  ⟨⟨rfl, rfl⟩, fun _ _ e => e, fun _ _ _ e => e, fun _ _ _ _ e => e, fun _ e => e, fun _ e => .inl e⟩
theorem Step.wk {wr wr' : Addr → Prop} {μ μ' : Mu} {g g' : Gh} {s s' : Shared} (x : Step wr μ μ' g g' s s') (h : ∀ a, wr a → wr' a) : Step wr' μ μ' g g' s s' :=
  ⟨x.eq, x.le, x.new, fun b o a c e => x.keep b o a (fun q => c (h b q)) e, x.alive, x.dom⟩
theorem Step.trans {wr : Addr → Prop} {μ μ₁ μ₂ : Mu} {g g₁ g₂ : Gh} {s s₁ s₂ : Shared} (x : Step wr μ μ₁ g g₁ s s₁) (y : Step wr μ₁ μ₂ g₁ g₂ s₁ s₂) : Step wr μ μ₂ g g₂ s s₂ where
  eq := ⟨y.eq.1.trans x.eq.1, y.eq.2.trans x.eq.2⟩
  le := fun a o e => y.le a o (x.le a o e)
  new := fun a e n q => y.new a (x.alive a e) (fun z => (x.dom a z).elim n fun z => by rw [z] at e; cases e) (x.new a e n q)
  keep := fun b o n c e => y.keep b o (fun z => (x.dom b z).elim n fun z => by rw [z] at e; cases e) c (x.keep b o n c e)
  alive := fun a e => y.alive a (x.alive a e)
  dom := fun a z => (y.dom a z).elim (x.dom a) fun q => .inr (by
    cases e : s.heap.get? a with
    | none => rfl
    | some o => have := x.alive a (by rw [e]; rfl); rw [q] at this; cases this)

abbrev Nowr : Addr → Prop := fun _ => False

/-- What a tree hands on: a value that tells a datum. -/
def GPost (K : Frag) (μ : Mu) (g : Gh) (s : Shared) (Q : D → Mu → Prop) (v : Value) (s' : Shared) : Prop :=
  ∃ g' d μ', GInv K μ' g' s'.heap ∧ Step Nowr μ μ' g g' s s' ∧ Den g' v d ∧ Q d μ'
theorem GPost.trans {K : Frag} {μ μ₁ : Mu} {g g₁ : Gh} {s s₁ s' : Shared} {Q : D → Mu → Prop} {v : Value} (x : Step Nowr μ μ₁ g g₁ s s₁) (y : GPost K μ₁ g₁ s₁ Q v s') : GPost K μ g s Q v s' :=
  let ⟨g', d, μ', a, b, c, e⟩ := y; ⟨g', d, μ', a, x.trans b, c, e⟩
theorem GPost.mono {K : Frag} {μ : Mu} {g : Gh} {s s' : Shared} {Q Q' : D → Mu → Prop} {v : Value} (y : GPost K μ g s Q v s') (h : ∀ d μ, Q d μ → Q' d μ) : GPost K μ g s Q' v s' :=
  let ⟨g', d, μ', a, b, c, e⟩ := y; ⟨g', d, μ', a, b, c, h _ _ e⟩

theorem GInv.keeps {K : Frag} {μ : Mu} {g : Gh} {h h' : Heap} (I : GInv K μ g h) (k : ∀ b o, h.get? b = some o → h'.get? b = some o) : GInv K μ g h' :=
  ⟨I.bas, fun a o e => k _ _ (I.sub a o e), fun p hp => let ⟨a, o, b, c⟩ := I.mu p hp; ⟨a, o, k _ _ b, c⟩, I.nd⟩

/-- a new object frozen at once -/
def put (g : Gh) (a : Addr) (o : Obj) : Gh := fun b => if b = a then some o else g b
theorem put_self {g : Gh} {a : Addr} {o : Obj} : put g a o a = some o := by simp [put]
theorem put_ne {g : Gh} {a b : Addr} {o : Obj} (h : b ≠ a) : put g a o b = g b := by simp [put, h]
theorem le_put {g : Gh} {a : Addr} {o : Obj} (h : g a = none) : Le g (put g a o) := fun b o' e => by
  rw [put_ne (by rintro rfl; rw [h] at e; cases e)]; exact e

theorem GInv.non {K : Frag} {μ : Mu} {g : Gh} {h : Heap} (I : GInv K μ g h) {a : Addr} (e : h.get? a = none) : g a = none := by
  cases q : g a with
  | none => rfl
  | some o => rw [I.sub a o q] at e; cases e

theorem GInv.put {K : Frag} {μ : Mu} {g : Gh} {h : Heap} (I : GInv K μ g h) {a : Addr} {o : Obj} (hg : g a = none) (ho : h.get? a = some o) (hd : ¬ Dom μ a) : GInv K μ (put g a o) h where
  bas := let ⟨hb, x, y⟩ := I.bas; ⟨hb, x, fun b o' e => le_put hg _ _ (y b o' e)⟩
  sub := fun b o' e => by
    by_cases q : b = a
    · subst q; rw [put_self] at e; cases e; exact ho
    · rw [put_ne q] at e; exact I.sub b o' e
  mu := fun p hp => by
    obtain ⟨x, o', y, z⟩ := I.mu p hp
    refine ⟨?_, o', y, z.mono (le_put hg)⟩
    rw [put_ne]
    · exact x
    · rintro rfl; exact hd ⟨p.2, hp⟩
  nd := I.nd

section
variable {K : Frag} {μ : Mu} {g : Gh} {s : Shared} {Q : D → Mu → Prop}

theorem GInv.domNone {h : Heap} (I : GInv K μ g h) {a : Addr} (e : h.get? a = none) : ¬ Dom μ a := fun ⟨d, hd⟩ => by
  obtain ⟨_, o, x, _⟩ := I.mu _ hd
  rw [e] at x; cases x

/-- the same heap -/
theorem GPost.same (I : GInv K μ g s.heap) {v : Value} {d : D} (tk : Nat) (x : Den g v d) (q : Q d μ) : GPost K μ g s Q v { s with toks := tk } :=
  ⟨g, d, μ, I, Step.toks tk, x, q⟩
theorem GPost.here (I : GInv K μ g s.heap) {v : Value} {d : D} (x : Den g v d) (q : Q d μ) : GPost K μ g s Q v s :=
  ⟨g, d, μ, I, Step.refl, x, q⟩

theorem Step.grown (_I : GInv K μ g s.heap) {h' : Heap} {tk : Nat} (k : ∀ b o, s.heap.get? b = some o → h'.get? b = some o) : Step Nowr μ μ g g s { s with heap := h', toks := tk } :=
  ⟨⟨rfl, rfl⟩, fun _ _ e => e, fun _ _ _ e => e, fun b o _ _ e => k b o e, fun a e => by
    obtain ⟨o, ho⟩ := Option.isSome_iff_exists.mp e
    show (h'.get? a).isSome = true
    rw [k a o ho]; rfl, fun _ e => .inl e⟩

/-- the heap has grown; the value is an old one -/
theorem GPost.old (I : GInv K μ g s.heap) {v : Value} {d : D} {h' : Heap} {tk : Nat} (k : ∀ b o, s.heap.get? b = some o → h'.get? b = some o) (x : Den g v d) (q : Q d μ) :
    GPost K μ g s Q v { s with heap := h', toks := tk } := ⟨g, d, μ, I.keeps k, Step.grown I k, x, q⟩

/-- a new object -/
theorem GPost.made (I : GInv K μ g s.heap) {a : Addr} {o : Obj} {d : D} {h' : Heap} {tk : Nat} (k : ∀ b o, s.heap.get? b = some o → h'.get? b = some o)
    (ha : s.heap.get? a = none) (ho : h'.get? a = some o) (x : ObjDen g a o d) (q : Q d μ) : GPost K μ g s Q (.ref a) { s with heap := h', toks := tk } := by
  have hg := I.non ha
  refine ⟨put g a o, d, μ, (I.keeps k).put hg ho (I.domNone ha), ?_, (x.mono (le_put hg)).den put_self, q⟩
  obtain ⟨y1, y2, y3, y4, y5, y6⟩ := Step.grown (tk := tk) I k
  refine ⟨y1, le_put hg, fun b e n z => ?_, y4, y5, y6⟩
  rw [put_ne]
  · exact z
  · rintro rfl; rw [ha] at e; cases e
end

theorem fresh_size {h : Heap} {a : Addr} (e : h.objs.size ≤ a) : h.get? a = none := by
  cases q : h.get? a with
  | none => rfl
  | some o => exact absurd (Heap.lt_size q) (Nat.not_lt.mpr e)

/-- the names of a frame -/
structure Loc (env : Env) (ρ : List (Str × D)) (g : Gh) (h : Heap) : Prop where
  ns : ∃ m, h.Ns env.locals m ∧ ∀ x d, ρ.lookup x = some d → env.kindOf x = some .local → ∃ v, m x = some v ∧ Den g v d
  cell : ∀ x d, ρ.lookup x = some d → (env.kindOf x = some .cell ∨ env.kindOf x = some .free) → ∃ c v, env.cells.lookup x = some c ∧ h.IsCell c (some v) ∧ Den g v d
  apart : ∀ x y c, env.cells.lookup x = some c → env.cells.lookup y = some c → x = y
  cells : ∀ x c, env.cells.lookup x = some c → g c = none ∧ c ≠ env.locals ∧ ∃ v, h.IsCell c v
  gl : g env.locals = none

def Wr (env : Env) (b : Addr) : Prop := b = env.locals ∨ ∃ x, env.cells.lookup x = some b

structure Inv (K : Frag) (env : Env) (ρ : List (Str × D)) (μ : Mu) (g : Gh) (h : Heap) : Prop where
  gi : GInv K μ g h
  lo : Loc env ρ g h
  ap : ∀ a, Dom μ a → ¬ Wr env a

theorem Loc.lt {env : Env} {ρ : List (Str × D)} {g : Gh} {h : Heap} (x : Loc env ρ g h) : ∀ a, Wr env a → ∃ o, h.get? a = some o := fun a e => by
  rcases e with rfl | ⟨y, e⟩
  · obtain ⟨m, ⟨o, _, _, ho, _⟩, _⟩ := x.ns; exact ⟨o, ho⟩
  · obtain ⟨_, _, v, o, ho, _⟩ := x.cells y a e; exact ⟨o, ho⟩

theorem Inv.step {K : Frag} {env : Env} {ρ : List (Str × D)} {μ μ' : Mu} {g g' : Gh} {s s' : Shared} (I : Inv K env ρ μ g s.heap) (x : Step Nowr μ μ' g g' s s') (y : GInv K μ' g' s'.heap) :
    Inv K env ρ μ' g' s'.heap := by
  have ex : ∀ a, Wr env a → g a = none := fun a e => e.elim (fun q => q ▸ I.lo.gl) fun ⟨z, q⟩ => (I.lo.cells z a q).1
  have kp : ∀ a, Wr env a → ∀ o, s.heap.get? a = some o → s'.heap.get? a = some o := fun a e o ho => x.keep a o (fun q => I.ap a q e) (fun q => q) ho
  have gn : ∀ a, Wr env a → g' a = none := fun a e => by
    obtain ⟨o, ho⟩ := I.lo.lt a e
    exact x.new a (by rw [ho]; rfl) (fun q => I.ap a q e) (ex a e)
  refine ⟨y, ⟨?_, ?_, I.lo.apart, ?_, gn _ (.inl rfl)⟩, fun a e q => ?_⟩
  · obtain ⟨m, hn, hm⟩ := I.lo.ns
    refine ⟨m, hn.at' fun o ho => kp _ (.inl rfl) o ho, fun z d e1 e2 => ?_⟩
    obtain ⟨v, e3, e4⟩ := hm z d e1 e2
    exact ⟨v, e3, e4.mono x.le⟩
  · intro z d e1 e2
    obtain ⟨c, v, e3, ⟨o, ho, hd⟩, e5⟩ := I.lo.cell z d e1 e2
    exact ⟨c, v, e3, ⟨o, kp c (.inr ⟨z, e3⟩) o ho, hd⟩, e5.mono x.le⟩
  · intro z c e
    obtain ⟨e1, e2, v, o, ho, hd⟩ := I.lo.cells z c e
    exact ⟨gn c (.inr ⟨z, e⟩), e2, v, o, kp c (.inr ⟨z, e⟩) o ho, hd⟩
  · rcases x.dom a e with z | z
    · exact I.ap a z q
    · obtain ⟨o, ho⟩ := I.lo.lt a q
      rw [z] at ho; cases ho

theorem GPost.inv {K : Frag} {env : Env} {ρ : List (Str × D)} {μ : Mu} {g : Gh} {s s' : Shared} {Q : D → Mu → Prop} {v : Value} (x : GPost K μ g s Q v s') (I : Inv K env ρ μ g s.heap) :
    ∃ g' d μ', Inv K env ρ μ' g' s'.heap ∧ Step Nowr μ μ' g g' s s' ∧ Den g' v d ∧ Q d μ' :=
  let ⟨g', d, μ', a, b, c, e⟩ := x; ⟨g', d, μ', I.step b a, b, c, e⟩

end Pb
end
section
open PySem PySem.W PySem.Calls PyProof.Rows
set_option Elab.async false
set_option maxRecDepth 100000
namespace Pb

def LPost (K : Frag) (μ : Mu) (g : Gh) (s : Shared) (Q : List D → Mu → Prop) (vs : List Value) (s' : Shared) : Prop :=
  ∃ g' ds μ', GInv K μ' g' s'.heap ∧ Step Nowr μ μ' g g' s s' ∧ DenL g' vs ds ∧ Q ds μ'
def BPost (K : Frag) (μ : Mu) (g : Gh) (s : Shared) (Q : Bool → Mu → Prop) (b : Bool) (s' : Shared) : Prop :=
  ∃ g' μ', GInv K μ' g' s'.heap ∧ Step Nowr μ μ' g g' s s' ∧ Q b μ'
theorem LPost.trans {K : Frag} {μ μ₁ : Mu} {g g₁ : Gh} {s s₁ s' : Shared} {Q : List D → Mu → Prop} {v : List Value} (x : Step Nowr μ μ₁ g g₁ s s₁) (y : LPost K μ₁ g₁ s₁ Q v s') : LPost K μ g s Q v s' :=
  let ⟨g', d, μ', a, b, c, e⟩ := y; ⟨g', d, μ', a, x.trans b, c, e⟩
theorem BPost.trans {K : Frag} {μ μ₁ : Mu} {g g₁ : Gh} {s s₁ s' : Shared} {Q : Bool → Mu → Prop} {v : Bool} (x : Step Nowr μ μ₁ g g₁ s s₁) (y : BPost K μ₁ g₁ s₁ Q v s') : BPost K μ g s Q v s' :=
  let ⟨g', μ', a, b, e⟩ := y; ⟨g', μ', a, x.trans b, e⟩
theorem LPost.inv {K : Frag} {env : Env} {ρ : List (Str × D)} {μ : Mu} {g : Gh} {s s' : Shared} {Q : List D → Mu → Prop} {v : List Value} (x : LPost K μ g s Q v s') (I : Inv K env ρ μ g s.heap) :
    ∃ g' d μ', Inv K env ρ μ' g' s'.heap ∧ Step Nowr μ μ' g g' s s' ∧ DenL g' v d ∧ Q d μ' :=
  let ⟨g', d, μ', a, b, c, e⟩ := x; ⟨g', d, μ', I.step b a, b, c, e⟩
theorem BPost.inv {K : Frag} {env : Env} {ρ : List (Str × D)} {μ : Mu} {g : Gh} {s s' : Shared} {Q : Bool → Mu → Prop} {v : Bool} (x : BPost K μ g s Q v s') (I : Inv K env ρ μ g s.heap) :
    ∃ g' μ', Inv K env ρ μ' g' s'.heap ∧ Step Nowr μ μ' g g' s s' ∧ Q v μ' :=
  let ⟨g', μ', a, b, e⟩ := x; ⟨g', μ', I.step b a, b, e⟩

structure Cx where
  prog : Program
  w : World
  K : Frag
  A : Around
  env : Env

abbrev Cx.M (c : Cx) : Model := model c.prog c.w
abbrev Never : Value → Shared → Prop := fun _ _ => False

def Ev (c : Cx) (ρ : List (Str × D)) (μ : Mu) (e : Expr) (Q : D → Mu → Prop) : Prop :=
  ∀ g s, Inv c.K c.env ρ μ g s.heap → wpAny c.M c.A (eval e c.env) (GPost c.K μ g s Q) Never s
def EvL (c : Cx) (ρ : List (Str × D)) (μ : Mu) (es : List Expr) (Q : List D → Mu → Prop) : Prop :=
  ∀ pos g s, Inv c.K c.env ρ μ g s.heap → wpAny c.M c.A (spliced (backTo pos (starEach es c.env))) (LPost c.K μ g s Q) Never s
def Te (c : Cx) (ρ : List (Str × D)) (μ : Mu) (e : Expr) (Q : Bool → Mu → Prop) : Prop :=
  ∀ g s, Inv c.K c.env ρ μ g s.heap → wpAny c.M c.A (isTrue e c.env (eval e c.env)) (BPost c.K μ g s Q) Never s
def TeAnd (c : Cx) (ρ : List (Str × D)) (μ : Mu) (es : List Expr) (Q : Bool → Mu → Prop) : Prop :=
  ∀ g s pos whole, Inv c.K c.env ρ μ g s.heap → wpAny c.M c.A (isTrue (.BoolOp .And es pos) c.env whole) (BPost c.K μ g s Q) Never s
def TeOr (c : Cx) (ρ : List (Str × D)) (μ : Mu) (es : List Expr) (Q : Bool → Mu → Prop) : Prop :=
  ∀ g s pos whole, Inv c.K c.env ρ μ g s.heap → wpAny c.M c.A (isTrue (.BoolOp .Or es pos) c.env whole) (BPost c.K μ g s Q) Never s
def Op1 (c : Cx) (μ : Mu) (f : Value → Sem Value) (d : D) (Q : D → Mu → Prop) : Prop :=
  ∀ g s v, GInv c.K μ g s.heap → Den g v d → wpAny c.M c.A (f v) (GPost c.K μ g s Q) Never s
def Op2 (c : Cx) (μ : Mu) (f : Value → Value → Sem Value) (d e : D) (Q : D → Mu → Prop) : Prop :=
  ∀ g s u v, GInv c.K μ g s.heap → Den g u d → Den g v e → wpAny c.M c.A (f u v) (GPost c.K μ g s Q) Never s
def OpT (c : Cx) (μ : Mu) (d : D) (Q : Bool → Mu → Prop) : Prop :=
  ∀ g s v, GInv c.K μ g s.heap → Den g v d → wpAny c.M c.A (truthy v) (BPost c.K μ g s Q) Never s

section
variable {c : Cx} {ρ : List (Str × D)} {μ : Mu} {Q : D → Mu → Prop} {QB : Bool → Mu → Prop} {QL : List D → Mu → Prop}

theorem Ev.mono {e : Expr} {Q' : D → Mu → Prop} (h : Ev c ρ μ e Q) (k : ∀ d μ, Q d μ → Q' d μ) : Ev c ρ μ e Q' :=
  fun g s I => wpAny_mono (h g s I) (fun _ _ p => p.mono k) fun _ _ f => f
theorem Te.mono {e : Expr} {Q' : Bool → Mu → Prop} (h : Te c ρ μ e QB) (k : ∀ d μ, QB d μ → Q' d μ) : Te c ρ μ e Q' :=
  fun g s I => wpAny_mono (h g s I) (fun _ _ ⟨g', μ', a, b, q⟩ => ⟨g', μ', a, b, k _ _ q⟩) fun _ _ f => f

/- names -/
theorem Ev.loc {x : Str} {pos : Pos} {d : D} (e : ρ.lookup x = some d) (q : Q d μ) (hk : c.env.scope.kind = .function := by rfl) (hl : c.env.kindOf x = some .local := by rfl)
    (hd : (x == ("__debug__" : Str)) = false := by decide) : Ev c ρ μ (.Name x pos) Q := fun g s I => by
  obtain ⟨m, hn, hm⟩ := I.lo.ns
  obtain ⟨v, hv, hden⟩ := hm x d e hl
  exact wpAny_Name (wpAny_loadName_local hk hl hn hv (GPost.here I.gi hden q)) hd
theorem Ev.cell {x : Str} {pos : Pos} {d : D} (e : ρ.lookup x = some d) (q : Q d μ) (hk : c.env.scope.kind = .function := by rfl) (hl : c.env.kindOf x = some .cell := by rfl)
    (hd : (x == ("__debug__" : Str)) = false := by decide) : Ev c ρ μ (.Name x pos) Q := fun g s I => by
  obtain ⟨a, v, ha, hv, hden⟩ := I.lo.cell x d e (.inl hl)
  exact wpAny_Name (wpAny_loadName_cell hk hl ha hv (GPost.here I.gi hden q)) hd
theorem Ev.free {x : Str} {pos : Pos} {d : D} (e : ρ.lookup x = some d) (q : Q d μ) (hk : c.env.scope.kind = .function := by rfl) (hl : c.env.kindOf x = some .free := by rfl)
    (hd : (x == ("__debug__" : Str)) = false := by decide) (hn : (x == ("__classdict__" : Str)) = false := by decide) : Ev c ρ μ (.Name x pos) Q := fun g s I => by
  obtain ⟨a, v, ha, hv, hden⟩ := I.lo.cell x d e (.inr hl)
  exact wpAny_Name (wpAny_loadName_free hk hl ha hv (GPost.here I.gi hden q) hn) hd
theorem Ev.glob {x : Str} {pos : Pos} {v : Value} {d : D} (e : nsIn c.K mainGlobals x = some (some v)) (hv : ∀ g, Den g v d) (q : Q d μ) (hk : c.env.scope.kind = .function := by rfl) (hl : c.env.kindOf x = some .globalImplicit := by rfl)
    (hg : c.env.globals = mainGlobals := by rfl) (hd : (x == ("__debug__" : Str)) = false := by decide) : Ev c ρ μ (.Name x pos) Q := fun g s I => by
  have B := I.gi.base
  obtain ⟨mg, mb, G, _, _⟩ := B.glob
  exact Name_function_global hk hl (loadGlobal_global (hg ▸ G) (mg_of B.mem G e) (GPost.here I.gi (hv g) q)) hd
theorem Ev.fn {x : Str} {pos : Pos} {v : Value} (e : nsIn c.K mainGlobals x = some (some v)) (q : Q (.raw v) μ) (hk : c.env.scope.kind = .function := by rfl) (hl : c.env.kindOf x = some .globalImplicit := by rfl)
    (hg : c.env.globals = mainGlobals := by rfl) (hd : (x == ("__debug__" : Str)) = false := by decide) : Ev c ρ μ (.Name x pos) Q :=
  Ev.glob e (fun _ => by rw [Den]) q hk hl hg hd
theorem Ev.gint {x : Str} {pos : Pos} {i : Int} {t : Tok} (e : nsIn c.K mainGlobals x = some (some (.int i t))) (q : Q (.int i) μ) (hk : c.env.scope.kind = .function := by rfl) (hl : c.env.kindOf x = some .globalImplicit := by rfl)
    (hg : c.env.globals = mainGlobals := by rfl) (hd : (x == ("__debug__" : Str)) = false := by decide) : Ev c ρ μ (.Name x pos) Q :=
  Ev.glob e (fun _ => by rw [Den]; exact ⟨_, rfl⟩) q hk hl hg hd
theorem Ev.blt {x : Str} {pos : Pos} {v : Value} (e : nsIn c.K mainGlobals x = some none) (hb : bootBuiltins x = some v) (q : Q (.raw v) μ) (hx : x ≠ "__name__" := by decide)
    (hk : c.env.scope.kind = .function := by rfl) (hl : c.env.kindOf x = some .globalImplicit := by rfl)
    (hg : c.env.globals = mainGlobals := by rfl) (hgb : c.env.builtins = builtinsNs := by rfl) (hd : (x == ("__debug__" : Str)) = false := by decide) : Ev c ρ μ (.Name x pos) Q := fun g s I => by
  have B := I.gi.base
  obtain ⟨mg, mb, G, Gb, hm⟩ := B.glob
  exact Name_function_global hk hl (loadGlobal_builtin (hg ▸ G) (mg_none_of B.mem G e) (hgb ▸ Gb) ((hm x hx).trans hb) (GPost.here I.gi (by rw [Den]) q)) hd

/- constants -/
theorem Ev.cint {i : Int} {k : Nat} {pos : Pos} (q : Q (.int i) μ) : Ev c ρ μ (.Constant (.int i) k pos) Q := fun g s I =>
  wpAny_Constant_int (GPost.same I.gi _ (by rw [Den]; exact ⟨_, rfl⟩) q)
theorem Ev.cstr {x : Str} {k : Nat} {pos : Pos} (q : Q (.str x) μ) : Ev c ρ μ (.Constant (.str x) k pos) Q := fun g s I =>
  Constant_str (GPost.same I.gi _ (by rw [Den]; exact ⟨_, rfl⟩) q)
theorem Ev.cbool {b : Bool} {k : Nat} {pos : Pos} (q : Q (.bool b) μ) : Ev c ρ μ (.Constant (.bool b) k pos) Q := fun g s I =>
  Constant_bool (GPost.here I.gi (by rw [Den]) q)
theorem Ev.cnone {k : Nat} {pos : Pos} (q : Q .none μ) : Ev c ρ μ (.Constant .none k pos) Q := fun g s I =>
  Constant_none (GPost.here I.gi (by rw [Den]) q)

/- operators -/
theorem Ev.bin {op : Operator} {a b : Expr} {pos : Pos} (h : Ev c ρ μ a fun d₁ μ₁ => Ev c ρ μ₁ b fun d₂ μ₂ => Op2 c μ₂ (binaryOp op) d₁ d₂ Q) : Ev c ρ μ (.BinOp a op b pos) Q := fun g s I => by
  refine wpAny_BinOp (wpAny_mono (h g s I) (fun v₁ s₁ p₁ => ?_) fun _ _ f => f)
  obtain ⟨g₁, d₁, μ₁, I₁, st₁, n₁, q₁⟩ := p₁.inv I
  refine wpAny_mono (q₁ g₁ s₁ I₁) (fun v₂ s₂ p₂ => ?_) fun _ _ f => f
  obtain ⟨g₂, d₂, μ₂, I₂, st₂, n₂, q₂⟩ := p₂.inv I₁
  exact wpAny_mono (q₂ g₂ s₂ v₁ v₂ I₂.gi (n₁.mono st₂.le) n₂) (fun v s' p => p.trans (st₁.trans st₂)) fun _ _ f => f
theorem Ev.una {op : UnaryOp} {a : Expr} {pos : Pos} (h : Ev c ρ μ a fun d₁ μ₁ => Op1 c μ₁ (unaryOp op) d₁ Q) : Ev c ρ μ (.UnaryOp op a pos) Q := fun g s I => by
  refine UnaryOp_ (wpAny_mono (h g s I) (fun v₁ s₁ p₁ => ?_) fun _ _ f => f)
  obtain ⟨g₁, d₁, μ₁, I₁, st₁, n₁, q₁⟩ := p₁.inv I
  exact wpAny_mono (q₁ g₁ s₁ v₁ I₁.gi n₁) (fun v s' p => p.trans st₁) fun _ _ f => f
theorem Ev.cmp {op : CmpOp} {a b : Expr} {pos : Pos} (h : Ev c ρ μ a fun d₁ μ₁ => Ev c ρ μ₁ b fun d₂ μ₂ => Op2 c μ₂ (compareOp op) d₁ d₂ Q)
    (hm : behindInMarks op b = false := by with_unfolding_all rfl) : Ev c ρ μ (.Compare a [op] [b] pos) Q := fun g s I => by
  refine wpAny_Compare1 (wpAny_mono (h g s I) (fun v₁ s₁ p₁ => ?_) fun _ _ f => f) hm
  obtain ⟨g₁, d₁, μ₁, I₁, st₁, n₁, q₁⟩ := p₁.inv I
  refine wpAny_mono (q₁ g₁ s₁ I₁) (fun v₂ s₂ p₂ => ?_) fun _ _ f => f
  obtain ⟨g₂, d₂, μ₂, I₂, st₂, n₂, q₂⟩ := p₂.inv I₁
  exact wpAny_mono (q₂ g₂ s₂ v₁ v₂ I₂.gi (n₁.mono st₂.le) n₂) (fun v s' p => p.trans (st₁.trans st₂)) fun _ _ f => f
theorem Te.cmp {op : CmpOp} {a b : Expr} {pos : Pos} (h : Ev c ρ μ a fun d₁ μ₁ => Ev c ρ μ₁ b fun d₂ μ₂ => Op2 c μ₂ (compareOp op) d₁ d₂ fun d₃ μ₃ => ∃ b, d₃ = .bool b ∧ QB b μ₃)
    (hm : behindInMarks op b = false := by with_unfolding_all rfl) : Te c ρ μ (.Compare a [op] [b] pos) QB := fun g s I => by
  refine wpAny_isTrue_Compare1 (wpAny_mono (h g s I) (fun v₁ s₁ p₁ => ?_) fun _ _ f => f) hm
  obtain ⟨g₁, d₁, μ₁, I₁, st₁, n₁, q₁⟩ := p₁.inv I
  refine wpAny_mono (q₁ g₁ s₁ I₁) (fun v₂ s₂ p₂ => ?_) fun _ _ f => f
  obtain ⟨g₂, d₂, μ₂, I₂, st₂, n₂, q₂⟩ := p₂.inv I₁
  refine wpAny_mono (q₂ g₂ s₂ v₁ v₂ I₂.gi (n₁.mono st₂.le) n₂) (fun v₃ s₃ p => ?_) fun _ _ f => f
  obtain ⟨g₃, d₃, μ₃, I₃, st₃, n₃, b, rfl, q₃⟩ := p
  rw [Den] at n₃; subst n₃
  exact wpAny_truthy_bool ⟨g₃, μ₃, I₃, (st₁.trans st₂).trans st₃, q₃⟩
theorem Te.not {x : Expr} {pos : Pos} (h : Te c ρ μ x fun b μ' => QB (!b) μ') : Te c ρ μ (.UnaryOp .Not x pos) QB := fun g s I =>
  isTrue_not (wpAny_mono (h g s I) (fun _ _ ⟨g', μ', a, b, q⟩ => ⟨g', μ', a, b, q⟩) fun _ _ f => f)
theorem Te.plain {e : Expr} (h : Ev c ρ μ e fun d μ' => OpT c μ' d QB) (he : isTrue e c.env (eval e c.env) = (do let v ← eval e c.env; standAt e.pos; holding [v] (truthy v)) := by rfl) : Te c ρ μ e QB := fun g s I => by
  refine isTrue_plain (wpAny_mono (h g s I) (fun v₁ s₁ p₁ => ?_) fun _ _ f => f) he
  obtain ⟨g₁, d₁, μ₁, I₁, st₁, n₁, q₁⟩ := p₁.inv I
  exact wpAny_mono (q₁ g₁ s₁ v₁ I₁.gi n₁) (fun v s' p => p.trans st₁) fun _ _ f => f
theorem TeAnd.nil (q : QB true μ) : TeAnd c ρ μ [] QB := fun _ _ _ _ I => isTrue_and_nil ⟨_, μ, I.gi, Step.refl, q⟩
theorem TeOr.nil (q : QB false μ) : TeOr c ρ μ [] QB := fun _ _ _ _ I => isTrue_or_nil ⟨_, μ, I.gi, Step.refl, q⟩
theorem TeAnd.cons {x : Expr} {rest : List Expr} (h : Te c ρ μ x fun b μ₁ => if b then TeAnd c ρ μ₁ rest QB else QB false μ₁) : TeAnd c ρ μ (x :: rest) QB := fun g s pos whole I => by
  refine isTrue_and (wpAny_mono (h g s I) (fun b s₁ p₁ => ?_) fun _ _ f => f)
  obtain ⟨g₁, μ₁, I₁, st₁, q₁⟩ := p₁.inv I
  cases b with
  | true => exact wpAny_mono (q₁ g₁ s₁ pos whole I₁) (fun v s' p => p.trans st₁) fun _ _ f => f
  | false => exact ⟨g₁, μ₁, I₁.gi, st₁, q₁⟩
theorem TeOr.cons {x : Expr} {rest : List Expr} (h : Te c ρ μ x fun b μ₁ => if b then QB true μ₁ else TeOr c ρ μ₁ rest QB) : TeOr c ρ μ (x :: rest) QB := fun g s pos whole I => by
  refine isTrue_or (wpAny_mono (h g s I) (fun b s₁ p₁ => ?_) fun _ _ f => f)
  obtain ⟨g₁, μ₁, I₁, st₁, q₁⟩ := p₁.inv I
  cases b with
  | false => exact wpAny_mono (q₁ g₁ s₁ pos whole I₁) (fun v s' p => p.trans st₁) fun _ _ f => f
  | true => exact ⟨g₁, μ₁, I₁.gi, st₁, q₁⟩
theorem Te.and {es : List Expr} {pos : Pos} (h : TeAnd c ρ μ es QB) : Te c ρ μ (.BoolOp .And es pos) QB := fun g s I => h g s pos _ I
theorem Te.or {es : List Expr} {pos : Pos} (h : TeOr c ρ μ es QB) : Te c ρ μ (.BoolOp .Or es pos) QB := fun g s I => h g s pos _ I

theorem Ev.ite {t a b : Expr} {pos : Pos} (h : Te c ρ μ t fun r μ₁ => if r then Ev c ρ μ₁ a Q else Ev c ρ μ₁ b Q) : Ev c ρ μ (.IfExp t a b pos) Q := fun g s I => by
  refine IfExp_ (wpAny_mono (h g s I) (fun r s₁ p₁ => ?_) fun _ _ f => f)
  obtain ⟨g₁, μ₁, I₁, st₁, q₁⟩ := p₁.inv I
  cases r <;> exact wpAny_mono (q₁ g₁ s₁ I₁) (fun v s' p => p.trans st₁) fun _ _ f => f
theorem Ev.one {op : BoolOp} {e : Expr} {pos : Pos} (h : Ev c ρ μ e Q) : Ev c ρ μ (.BoolOp op [e] pos) Q := fun g s I => BoolOp_one (h g s I)
/-- «a and b» whose parts are bools -/
theorem Ev.and {e₁ e₂ : Expr} {rest : List Expr} {pos : Pos} (h : Ev c ρ μ e₁ fun d₁ μ₁ => ∃ b, d₁ = .bool b ∧ if b then Ev c ρ μ₁ (.BoolOp .And (e₂ :: rest) pos) Q else Q (.bool false) μ₁) : Ev c ρ μ (.BoolOp .And (e₁ :: e₂ :: rest) pos) Q := fun g s I => by
  refine BoolOp_and (wpAny_mono (h g s I) (fun v₁ s₁ p₁ => ?_) fun _ _ f => f)
  obtain ⟨g₁, d₁, μ₁, I₁, st₁, n₁, b, rfl, q₁⟩ := p₁.inv I
  rw [Den] at n₁; subst n₁
  refine wpAny_truthy_bool ?_
  cases b with
  | true => exact wpAny_mono (q₁ g₁ s₁ I₁) (fun v s' p => p.trans st₁) fun _ _ f => f
  | false => exact ⟨g₁, _, μ₁, I₁.gi, st₁, by rw [Den], q₁⟩
theorem Ev.or {e₁ e₂ : Expr} {rest : List Expr} {pos : Pos} (h : Ev c ρ μ e₁ fun d₁ μ₁ => ∃ b, d₁ = .bool b ∧ if b then Q (.bool true) μ₁ else Ev c ρ μ₁ (.BoolOp .Or (e₂ :: rest) pos) Q) : Ev c ρ μ (.BoolOp .Or (e₁ :: e₂ :: rest) pos) Q := fun g s I => by
  refine BoolOp_or (wpAny_mono (h g s I) (fun v₁ s₁ p₁ => ?_) fun _ _ f => f)
  obtain ⟨g₁, d₁, μ₁, I₁, st₁, n₁, b, rfl, q₁⟩ := p₁.inv I
  rw [Den] at n₁; subst n₁
  refine wpAny_truthy_bool ?_
  cases b with
  | false => exact wpAny_mono (q₁ g₁ s₁ I₁) (fun v s' p => p.trans st₁) fun _ _ f => f
  | true => exact ⟨g₁, _, μ₁, I₁.gi, st₁, by rw [Den], q₁⟩

/- displays -/
theorem EvL.nil (q : QL [] μ) : EvL c ρ μ [] QL := fun _ _ _ I => spliced_nil ⟨_, [], μ, I.gi, Step.refl, DenL.nil, q⟩
theorem EvL.cons {e : Expr} {rest : List Expr} (h : Ev c ρ μ e fun d μ₁ => EvL c ρ μ₁ rest fun ds μ₂ => QL (d :: ds) μ₂)
    (he : starEach (e :: rest) c.env = (false, eval e c.env) :: starEach rest c.env := by rfl) : EvL c ρ μ (e :: rest) QL := fun pos g s I => by
  rw [he]
  refine spliced_cons (wpAny_mono (h g s I) (fun v₁ s₁ p₁ => ?_) fun _ _ f => f)
  obtain ⟨g₁, d₁, μ₁, I₁, st₁, n₁, q₁⟩ := p₁.inv I
  refine wpAny_mono (q₁ pos g₁ s₁ I₁) (fun vs s₂ p₂ => ?_) fun _ _ f => f
  obtain ⟨g₂, ds, μ₂, I₂, st₂, n₂, q₂⟩ := p₂
  exact ⟨g₂, d₁ :: ds, μ₂, I₂, st₁.trans st₂, DenL.cons (n₁.mono st₂.le) n₂, q₂⟩

/-- a new tuple or list -/
theorem GPost.newTuple {g : Gh} {s : Shared} {vs : List Value} {ds : List D} (I : GInv c.K μ g s.heap) (n : DenL g vs ds) (q : Q (.tup ds) μ) :
    GPost c.K μ g s Q (.ref s.heap.objs.size) { s with heap := s.heap.push { cls := .type "tuple", data := .seq vs.toArray } } :=
  GPost.made (d := .tup ds) (o := { cls := .type "tuple", data := .seq vs.toArray }) (tk := s.toks) I (fun _ _ e => Heap.get?_push_of_some _ e) (fresh_size (Nat.le_refl _)) (Heap.get?_push_size _ rfl) ⟨_, _, rfl, n⟩ q
theorem GPost.newList {g : Gh} {s : Shared} {vs : List Value} {ds : List D} (I : GInv c.K μ g s.heap) (n : DenL g vs ds) (q : Q (.lst ds) μ) :
    GPost c.K μ g s Q (.ref s.heap.objs.size) { s with heap := s.heap.push { cls := .type "list", data := .seq vs.toArray } } :=
  GPost.made (d := .lst ds) (o := { cls := .type "list", data := .seq vs.toArray }) (tk := s.toks) I (fun _ _ e => Heap.get?_push_of_some _ e) (fresh_size (Nat.le_refl _)) (Heap.get?_push_size _ rfl) ⟨_, _, rfl, n⟩ q
theorem small_line {n : Nat} (h : n ≤ 1000) : n ≤ sizeLine := by rw [sizeLine_eq]; omega
theorem Ev.tuple {es : List Expr} {k : Nat} {pos : Pos} (h : EvL c ρ μ es fun ds μ₁ => ds.length ≤ 1000 ∧ Q (.tup ds) μ₁) : Ev c ρ μ (.Tuple es k pos) Q := fun g s I => by
  refine Tuple_ (wpAny_mono (h _ g s I) (fun vs s₁ p₁ => ?_) fun _ _ f => f)
  obtain ⟨g₁, ds, μ₁, I₁, st₁, n₁, hl, q₁⟩ := p₁
  exact wpAny_newTuple ((GPost.newTuple I₁ n₁ q₁).trans st₁) (by rw [n₁.length]; exact small_line hl)
theorem Ev.list {es : List Expr} {pos : Pos} (h : EvL c ρ μ es fun ds μ₁ => ds.length ≤ 1000 ∧ Q (.lst ds) μ₁) : Ev c ρ μ (.List es pos) Q := fun g s I => by
  refine List_ (wpAny_mono (h _ g s I) (fun vs s₁ p₁ => ?_) fun _ _ f => f)
  obtain ⟨g₁, ds, μ₁, I₁, st₁, n₁, hl, q₁⟩ := p₁
  exact wpAny_newList ((GPost.newList I₁ n₁ q₁).trans st₁) (by rw [n₁.length]; exact small_line hl)
end
end Pb
end
section
open PySem PySem.W PySem.Calls PyProof.Rows PySem.Spec
set_option Elab.async false
set_option maxRecDepth 100000
namespace Pb

structure Fit (A : Around) (n : Nat) : Prop where
  h : A.handled = none
  d : A.depth + 3 * n < 1000
  u : A.units + 20 * n + 100 < 9900
theorem Fit.room {A : Around} {n : Nat} (f : Fit A (n + 1)) : A.depth < recursionLimit := by have := f.d; show A.depth < 1000; omega
theorem Fit.line {A : Around} {n : Nat} (f : Fit A n) : A.units < cLine := by have := f.u; show A.units < 9900; omega
theorem Fit.line64 {A : Around} {n : Nat} (f : Fit A n) : A.units + 64 < cLine := by have := f.u; show A.units + 64 < 9900; omega
theorem Fit.in1 {A : Around} {n : Nat} (f : Fit A (n + 1)) : Fit A.in1 n := ⟨f.h, by have := f.d; show A.depth + 3 * n < 1000; omega, by have := f.u; show A.units + 1 + 20 * n + 100 < 9900; omega⟩
theorem Fit.deeper {A : Around} {n : Nat} {env : Env} (f : Fit A (n + 1)) : Fit (A.deeper env) n :=
  ⟨f.h, by have := f.d; show A.depth + 1 + 3 * n < 1000; omega, by have := f.u; show A.units + 3 + 20 * n + 100 < 9900; omega⟩
theorem Fit.le {A : Around} {n m : Nat} (f : Fit A n) (h : m ≤ n) : Fit A m := ⟨f.h, by have := f.d; omega, by have := f.u; omega⟩

section
variable {c : Cx} {μ : Mu} {Q : D → Mu → Prop} {QB : Bool → Mu → Prop} {i j : Int}

theorem Den.intD {g : Gh} (i : Int) (t : Tok) : Den g (.int i t) (.int i) := by rw [Den]; exact ⟨t, rfl⟩
theorem Den.boolD {g : Gh} (b : Bool) : Den g (.bool b) (.bool b) := by rw [Den]
theorem Den.noneD {g : Gh} : Den g .none .none := by rw [Den]
theorem Den.strD {g : Gh} (x : Str) (t : Tok) : Den g (.str x t) (.str x) := by rw [Den]; exact ⟨t, rfl⟩
theorem Den.rawD {g : Gh} (v : Value) : Den g v (.raw v) := by rw [Den]

theorem Op2.addI (q : Q (.int (i + j)) μ) : Op2 c μ (binaryOp .Add) (.int i) (.int j) Q := fun g s u v I m n => by
  rw [Den] at m n; obtain ⟨t, rfl⟩ := m; obtain ⟨t', rfl⟩ := n
  exact add_int (GPost.same I _ (.intD _ _) q)
theorem Op2.subI (q : Q (.int (i - j)) μ) : Op2 c μ (binaryOp .Sub) (.int i) (.int j) Q := fun g s u v I m n => by
  rw [Den] at m n; obtain ⟨t, rfl⟩ := m; obtain ⟨t', rfl⟩ := n
  exact PyProof.Rows.sub_int (GPost.same I _ (.intD _ _) q)
theorem Op2.mulI (hm : IntMulOk i j) (q : Q (.int (i * j)) μ) : Op2 c μ (binaryOp .Mult) (.int i) (.int j) Q := fun g s u v I m n => by
  rw [Den] at m n; obtain ⟨t, rfl⟩ := m; obtain ⟨t', rfl⟩ := n
  exact PyProof.Rows.mul_int (GPost.same I _ (.intD _ _) q) hm
theorem Op2.mulIB {b : Bool} (q : Q (.int (i * if b = true then 1 else 0)) μ) : Op2 c μ (binaryOp .Mult) (.int i) (.bool b) Q := fun g s u v I m n => by
  rw [Den] at m; rw [Den] at n; obtain ⟨t, rfl⟩ := m; subst n
  exact PySem.IntBool.mul_int_bool (GPost.same I _ (.intD _ _) q)
theorem Op2.modI (hj : j ≠ 0) (q : Q (.int (i.fmod j)) μ) : Op2 c μ (binaryOp .Mod) (.int i) (.int j) Q := fun g s u v I m n => by
  rw [Den] at m n; obtain ⟨t, rfl⟩ := m; obtain ⟨t', rfl⟩ := n
  exact PyProof.Rows.mod_int' hj (GPost.same I _ (.intD _ _) q)
theorem Op2.fdivI (hj : j ≠ 0) (hs : j.natAbs < 1073741824) (q : Q (.int (i.fdiv j)) μ) : Op2 c μ (binaryOp .FloorDiv) (.int i) (.int j) Q := fun g s u v I m n => by
  rw [Den] at m n; obtain ⟨t, rfl⟩ := m; obtain ⟨t', rfl⟩ := n
  exact PyProof.Rows.floordiv_int hj (GPost.same I _ (.intD _ _) q) (.inl (PyProof.noPylong_small hs))
theorem Op2.powI (hj : 0 ≤ j) (hs : (Builtin.Int.intBits i : Int) * j ≤ 2 ^ 27) (q : Q (.int (i ^ j.toNat)) μ) : Op2 c μ (binaryOp .Pow) (.int i) (.int j) Q := fun g s u v I m n => by
  rw [Den] at m n; obtain ⟨t, rfl⟩ := m; obtain ⟨t', rfl⟩ := n
  exact PyProof.Rows.pow_int hj hs (GPost.same I _ (.intD _ _) q)
theorem Op1.negI (q : Q (.int (-i)) μ) : Op1 c μ (unaryOp .USub) (.int i) Q := fun g s u I m => by
  rw [Den] at m; obtain ⟨t, rfl⟩ := m
  exact PyProof.Rows.neg_int (GPost.same I _ (.intD _ _) q)

theorem Op2.ltI (q : Q (.bool (decide (i < j))) μ) : Op2 c μ (compareOp .Lt) (.int i) (.int j) Q := fun g s u v I m n => by
  rw [Den] at m n; obtain ⟨t, rfl⟩ := m; obtain ⟨t', rfl⟩ := n
  exact PyProof.Rows.lt_int (GPost.here I (.boolD _) q)
theorem Op2.gtI (q : Q (.bool (decide (j < i))) μ) : Op2 c μ (compareOp .Gt) (.int i) (.int j) Q := fun g s u v I m n => by
  rw [Den] at m n; obtain ⟨t, rfl⟩ := m; obtain ⟨t', rfl⟩ := n
  exact PyProof.Rows.gt_int (GPost.here I (.boolD _) q)
theorem Op2.geI (q : Q (.bool (decide (j ≤ i))) μ) : Op2 c μ (compareOp .GtE) (.int i) (.int j) Q := fun g s u v I m n => by
  rw [Den] at m n; obtain ⟨t, rfl⟩ := m; obtain ⟨t', rfl⟩ := n
  exact PyProof.Rows.ge_int (GPost.here I (.boolD _) q)
theorem Op2.eqI (q : Q (.bool (i == j)) μ) : Op2 c μ (compareOp .Eq) (.int i) (.int j) Q := fun g s u v I m n => by
  rw [Den] at m n; obtain ⟨t, rfl⟩ := m; obtain ⟨t', rfl⟩ := n
  exact PyProof.Rows.eq_int (GPost.here I (.boolD _) q)
theorem Op2.neI (q : Q (.bool (i != j)) μ) : Op2 c μ (compareOp .NotEq) (.int i) (.int j) Q := fun g s u v I m n => by
  rw [Den] at m n; obtain ⟨t, rfl⟩ := m; obtain ⟨t', rfl⟩ := n
  exact PyProof.Rows.ne_int (GPost.here I (.boolD _) q)
theorem OpT.bool {b : Bool} (q : QB b μ) : OpT c μ (.bool b) QB := fun g s v I n => by
  rw [Den] at n; subst n
  exact wpAny_truthy_bool ⟨g, μ, I, Step.refl, q⟩

/- sequences -/
theorem Op2.addL {xs ys : List D} (hl : xs.length + ys.length ≤ 10000) (q : Q (.lst (xs ++ ys)) μ) : Op2 c μ (binaryOp .Add) (.lst xs) (.lst ys) Q := fun g s u v I m n => by
  rw [Den] at m n
  obtain ⟨a, vs, k, rfl, ha, hm⟩ := m
  obtain ⟨b, ws, k', rfl, hb, hn⟩ := n
  have l1 := hm.length; have l2 := hn.length
  rw [Array.length_toList] at l1 l2
  refine P.add_list (I.sub _ _ ha) (I.sub _ _ hb) ?_ (by rw [sizeLine_eq]; omega)
  exact GPost.made (d := .lst (xs ++ ys)) (o := seqObj "list" (vs ++ ws) 0) (tk := s.toks) I (fun _ _ e => Heap.get?_push_of_some _ e) (fresh_size (Nat.le_refl _)) (Heap.get?_push_size _ rfl)
    ⟨_, _, rfl, by rw [Array.toList_append]; exact hm.append hn⟩ q
theorem Op2.addT {xs ys : List D} (hl : xs.length + ys.length ≤ 10000) (q : Q (.tup (xs ++ ys)) μ) : Op2 c μ (binaryOp .Add) (.tup xs) (.tup ys) Q := fun g s u v I m n => by
  have m' := m; have n' := n
  rw [Den] at m n
  obtain ⟨a, vs, k, rfl, ha, hm⟩ := m
  obtain ⟨b, ws, k', rfl, hb, hn⟩ := n
  have l1 := hm.length; have l2 := hn.length
  rw [Array.length_toList] at l1 l2
  have tup {h : Heap} {t : Addr} {items : Array Value} {k : Nat} (e : h.get? t = some (seqObj "tuple" items k)) : IsTup h t items := ⟨_, e, rfl, k, rfl⟩
  by_cases h1 : vs.isEmpty = true
  · have e0 : xs = [] := List.eq_nil_of_length_eq_zero (by rw [← l1]; simpa using h1)
    subst e0
    exact concat_meets ⟨_, I.sub _ _ ha, rfl⟩ ⟨_, I.sub _ _ hb, rfl⟩ noFill_tuple_add seq_tuple_add PySem.F.slot_tuple_add PySem.F.entry_tuple_add (PySem.F.args_tuple_add_2 _ _)
      (AutoSeq1.tuple___add___tuple_tuple_0 a vs k b ws k' h1) ⟨I.sub _ _ ha, I.sub _ _ hb, GPost.here I n' q⟩
  · by_cases h2 : ws.isEmpty = true
    · have e0 : ys = [] := List.eq_nil_of_length_eq_zero (by rw [← l2]; simpa using h2)
      subst e0
      exact concat_meets ⟨_, I.sub _ _ ha, rfl⟩ ⟨_, I.sub _ _ hb, rfl⟩ noFill_tuple_add seq_tuple_add PySem.F.slot_tuple_add PySem.F.entry_tuple_add (PySem.F.args_tuple_add_2 _ _)
        (AutoSeq1.tuple___add___tuple_tuple_1 a vs k b ws k' h1 h2) ⟨I.sub _ _ ha, I.sub _ _ hb, GPost.here I m' (by rw [List.append_nil] at q; exact q)⟩
    · refine P.add_tuple (I.sub _ _ ha) (I.sub _ _ hb) h1 h2 ?_ (by rw [sizeLine_eq]; omega)
      exact GPost.made (d := .tup (xs ++ ys)) (o := seqObj "tuple" (vs ++ ws) 0) (tk := s.toks) I (fun _ _ e => Heap.get?_push_of_some _ e) (fresh_size (Nat.le_refl _)) (Heap.get?_push_size _ rfl)
        ⟨_, _, rfl, by rw [Array.toList_append]; exact hm.append hn⟩ q
end
end Pb
end
section
open PySem PySem.W PySem.Calls PyProof.Rows PySem.Spec
set_option Elab.async false
set_option maxRecDepth 100000
namespace Pb

def DenP (g : Gh) : List (Int × Value) → List (Int × D) → Prop
  | [], [] => True
  | (k, v) :: kvs, (k', d) :: l => k = k' ∧ Den g v d ∧ DenP g kvs l
  | _, _ => False
theorem DenP.mono {g g' : Gh} (h : Le g g') : ∀ {kvs : List (Int × Value)} {l : List (Int × D)}, DenP g kvs l → DenP g' kvs l
  | [], [], _ => trivial
  | (_, _) :: _, (_, _) :: _, ⟨a, b, r⟩ => ⟨a, b.mono h, DenP.mono h r⟩
  | [], _ :: _, x => x.elim
  | _ :: _, [], x => x.elim
theorem DenP.keys {g : Gh} : ∀ {kvs : List (Int × Value)} {l : List (Int × D)}, DenP g kvs l → kvs.map (·.1) = l.map (·.1)
  | [], [], _ => rfl
  | (_, _) :: _, (_, _) :: _, ⟨a, _, r⟩ => by simp [a, DenP.keys r]
  | [], _ :: _, x => x.elim
  | _ :: _, [], x => x.elim
theorem DenP.length {g : Gh} {kvs : List (Int × Value)} {l : List (Int × D)} (x : DenP g kvs l) : kvs.length = l.length := by
  have := congrArg List.length x.keys; simpa using this
theorem DenP.append {g : Gh} : ∀ {kvs kvs' : List (Int × Value)} {l l' : List (Int × D)}, DenP g kvs l → DenP g kvs' l' → DenP g (kvs ++ kvs') (l ++ l')
  | [], _, [], _, _, y => y
  | (_, _) :: _, _, (_, _) :: _, _, ⟨a, b, r⟩, y => ⟨a, b, DenP.append r y⟩
  | [], _, _ :: _, _, x, _ => x.elim
  | _ :: _, _, [], _, x, _ => x.elim

/-- the value at a key -/
theorem DenP.at_ {g : Gh} : ∀ {kvs : List (Int × Value)} {l : List (Int × D)} (k : Int), DenP g kvs l →
    match l.lookup k, valueAt kvs k with
    | some d, some v => Den g v d
    | none, none => True
    | _, _ => False
  | [], [], _, _ => trivial
  | (a, v) :: kvs, (b, d) :: l, k, ⟨e, n, r⟩ => by
    subst e
    have ih := DenP.at_ k r
    unfold valueAt at ih ⊢
    simp only [List.lookup_cons, List.find?_cons]
    by_cases h : a = k
    · subst h; simpa using n
    · have h1 : (k == a) = false := by simpa using fun e => h e.symm
      have h2 : decide (a = k) = false := by simpa using h
      simp only [h1, h2]
      exact ih
  | [], _ :: _, _, x => x.elim
  | _ :: _, [], _, x => x.elim

def sto {α : Type} (l : List (Int × α)) (k : Int) (d : α) : List (Int × α) :=
  if l.any (fun kv => decide (kv.1 = k)) then l.map (fun kv => if kv.1 = k then (kv.1, d) else kv) else l ++ [(k, d)]
theorem DenP.any {g : Gh} : ∀ {kvs : List (Int × Value)} {l : List (Int × D)} (k : Int), DenP g kvs l → kvs.any (fun kv => decide (kv.1 = k)) = l.any (fun kv => decide (kv.1 = k))
  | [], [], _, _ => rfl
  | (_, _) :: _, (_, _) :: _, k, ⟨e, _, r⟩ => by simp only [List.any_cons, e, DenP.any k r]
  | [], _ :: _, _, x => x.elim
  | _ :: _, [], _, x => x.elim
theorem DenP.stored {g : Gh} {kvs : List (Int × Value)} {l : List (Int × D)} {k : Int} {v : Value} {d : D} (x : DenP g kvs l) (n : Den g v d) : DenP g (stored kvs k v) (sto l k d) := by
  unfold PySem.stored sto
  rw [x.any k]
  split
  · rename_i hz
    clear hz
    induction kvs generalizing l with
    | nil => cases l with | nil => trivial | cons _ _ => exact x.elim
    | cons p r ih =>
      cases l with
      | nil => exact x.elim
      | cons q r' =>
        obtain ⟨e, m, y⟩ := x
        obtain ⟨pk, pv⟩ := p; obtain ⟨qk, qd⟩ := q
        dsimp only at e; subst e
        simp only [List.map_cons]
        by_cases h : pk = k
        · simp only [h, if_true]; exact ⟨rfl, n, ih y⟩
        · simp only [h, if_false]; exact ⟨rfl, m, ih y⟩
  · exact x.append ⟨rfl, n, trivial⟩
theorem sto_nodup {α : Type} {l : List (Int × α)} {k : Int} {d : α} (h : (l.map (·.1)).Nodup) : ((sto l k d).map (·.1)).Nodup := by
  unfold sto
  split
  · rename_i q
    have : (l.map (fun kv => if kv.1 = k then (kv.1, d) else kv)).map (·.1) = l.map (·.1) := by
      rw [List.map_map]; refine List.map_congr_left fun p _ => ?_
      show (if p.1 = k then (p.1, d) else p).1 = p.1
      split <;> rfl
    rw [this]; exact h
  · rename_i q
    rw [List.map_append, List.nodup_append]
    refine ⟨h, by simp, ?_⟩
    intro a ha b hb
    simp only [List.map_cons, List.map_nil, List.mem_singleton] at hb
    subst hb
    intro e; subst e
    refine q ?_
    obtain ⟨p, hp, e⟩ := List.mem_map.mp ha
    exact List.any_eq_true.mpr ⟨p, hp, by simp [e]⟩

section
variable {prog : Program} {w : World}
theorem DenKV.pairs {g : Gh} : ∀ {es : List DictEntry} {l : List (Int × D)}, DenKV g es l → ∃ kvs, Pairs (intKind prog w) es kvs ∧ (∀ e ∈ es, ∃ k, (intKind prog w).is k e.key = true ∧ e.hash = (intKind prog w).hash k) ∧ DenP g kvs l
  | [], [], _ => ⟨[], .nil, fun _ h => (nomatch h), trivial⟩
  | e :: es, (k, d) :: l, x => by
    rw [DenKV] at x
    obtain ⟨⟨t, e1⟩, e2, e3, x⟩ := x
    obtain ⟨kvs, p, q, r⟩ := DenKV.pairs x
    have hk : (intKind prog w).is k e.key = true := by rw [e1]; simp [intKind, Value.isInt]
    refine ⟨(k, e.val) :: kvs, .cons hk rfl p, fun e' h => ?_, rfl, e3, r⟩
    rcases List.mem_cons.mp h with rfl | h
    · exact ⟨k, hk, e2⟩
    · exact q e' h
  | [], _ :: _, x => by simp [DenKV] at x
  | _ :: _, [], x => by simp [DenKV] at x
theorem DenKV.of_pairs {g : Gh} : ∀ {es : List DictEntry} {kvs : List (Int × Value)} {l : List (Int × D)}, Pairs (intKind prog w) es kvs → (∀ e ∈ es, ∃ k, (intKind prog w).is k e.key = true ∧ e.hash = (intKind prog w).hash k) → DenP g kvs l → DenKV g es l
  | _, _, [], .nil, _, _ => by rw [DenKV]; trivial
  | _, _, (k', d) :: l, .cons (e := e) (kv := (k, v)) h1 h2 p, q, x => by
    rw [DenKV]
    obtain ⟨e, n, r⟩ := x
    subst e
    obtain ⟨t, ht⟩ := Value.isInt_shape h1
    obtain ⟨k₂, z1, z2⟩ := q _ (.head _)
    have : k₂ = k := (intKind prog w).inj _ _ _ z1 h1
    subst this
    exact ⟨⟨t, ht⟩, z2, by rw [h2]; exact n, DenKV.of_pairs p (fun e he => q e (.tail _ he)) r⟩
  | _, _, _ :: _, .nil, _, x => x.elim
  | _, _, [], .cons _ _ _, _, x => x.elim

theorem dictAt_of {g : Gh} {h : Heap} {a : Addr} {es : List DictEntry} {n : Nat} {l : List (Int × D)} (e : h.get? a = some (dictOf es n)) (x : DenKV g es l) (hn : (l.map (·.1)).Nodup) :
    ∃ kvs, h.DictAt (intKind prog w) a kvs n ∧ DenP g kvs l := by
  obtain ⟨kvs, p, q, r⟩ := x.pairs (prog := prog) (w := w)
  exact ⟨kvs, ⟨_, _, e, ⟨rfl, rfl, rfl⟩, rfl, fun e' he => q e' (by simpa using he), by simpa using p, by rw [r.keys]; exact hn⟩, r⟩
theorem objDen_of {g : Gh} {h : Heap} {a : Addr} {kvs : List (Int × Value)} {l : List (Int × D)} (x : h.DictOf (intKind prog w) a kvs) (ha : a ≠ sysModules) (r : DenP g kvs l) :
    ∃ o, h.get? a = some o ∧ ObjDen g a o (.dct l) := by
  obtain ⟨⟨cl, dd, dt, sl⟩, es, ep, ho, ⟨h1, h2, h3⟩, hd, hk, hp, hn⟩ := x
  dsimp only at h1 h2 h3 hd
  subst h1 h2 h3 hd
  refine ⟨_, ho, ha, es.toList, ep, by simp [dictOf], DenKV.of_pairs hp (fun e he => hk e (by simpa using he)) r, by rw [← r.keys]; exact hn⟩
end

theorem isInt_self {prog : Program} {w : World} (k : Int) (t : Tok) : (intKind prog w).is k (.int k t) = true := by simp [intKind, Value.isInt]

section
variable {c : Cx} {ρ : List (Str × D)} {μ : Mu} {Q : D → Mu → Prop} {QB : Bool → Mu → Prop} {i j : Int} {l : List (Int × D)}

theorem Op2.inD {k : Int} (q : Q (.bool (l.lookup k).isSome) μ) : Op2 c μ (compareOp .In) (.int k) (.dct l) Q := fun g s u v I m n => by
  rw [Den] at m; rw [Den] at n
  obtain ⟨t, rfl⟩ := m
  obtain ⟨a, es, z, rfl, hs, ha, hx, hn⟩ := n
  obtain ⟨kvs, hd, hp⟩ := dictAt_of (prog := c.prog) (w := c.w) (I.sub _ _ ha) hx hn
  refine wpAny_in_of (isInt_self k t) (by simpa using hs) hd.dictOf.mapOf (GPost.same I _ (.boolD _) ?_)
  have := hp.at_ k
  cases h1 : l.lookup k <;> cases h2 : valueAt kvs k <;> rw [h1, h2] at this <;> first | exact this.elim | (rw [h1] at q; exact q)
theorem Op2.notInD {k : Int} (q : Q (.bool (!(l.lookup k).isSome)) μ) : Op2 c μ (compareOp .NotIn) (.int k) (.dct l) Q := fun g s u v I m n => by
  rw [Den] at m; rw [Den] at n
  obtain ⟨t, rfl⟩ := m
  obtain ⟨a, es, z, rfl, hs, ha, hx, hn⟩ := n
  obtain ⟨kvs, hd, hp⟩ := dictAt_of (prog := c.prog) (w := c.w) (I.sub _ _ ha) hx hn
  refine wpAny_notIn_of (isInt_self k t) (by simpa using hs) hd.dictOf.mapOf (GPost.same I _ (.boolD _) ?_)
  have := hp.at_ k
  cases h1 : l.lookup k <;> cases h2 : valueAt kvs k <;> rw [h1, h2] at this <;> first | exact this.elim | (rw [h1] at q; exact q)

/- subscripts -/
def OpS (c : Cx) (μ : Mu) (value slice : Expr) (d e : D) (Q : D → Mu → Prop) : Prop :=
  ∀ g s u v, GInv c.K μ g s.heap → Den g u d → Den g v e → wpAny c.M c.A (subscriptTail value slice u v) (GPost c.K μ g s Q) Never s
theorem Ev.sub {value slice : Expr} {pos : Pos} (h : Ev c ρ μ value fun d₁ μ₁ => Ev c ρ μ₁ slice fun d₂ μ₂ => OpS c μ₂ value slice d₁ d₂ Q) : Ev c ρ μ (.Subscript value slice pos) Q := fun g s I => by
  refine Subscript_ (wpAny_mono (h g s I) (fun v₁ s₁ p₁ => ?_) fun _ _ f => f)
  obtain ⟨g₁, d₁, μ₁, I₁, st₁, n₁, q₁⟩ := p₁.inv I
  refine wpAny_mono (q₁ g₁ s₁ I₁) (fun v₂ s₂ p₂ => ?_) fun _ _ f => f
  obtain ⟨g₂, d₂, μ₂, I₂, st₂, n₂, q₂⟩ := p₂.inv I₁
  exact wpAny_mono (q₂ g₂ s₂ v₁ v₂ I₂.gi (n₁.mono st₂.le) n₂) (fun v s' p => p.trans (st₁.trans st₂)) fun _ _ f => f
abbrev PlainSub (slice : Expr) : Prop := ∀ o i, subscripted slice false o i = operate [o, i] (getItem o i)
theorem OpS.dct {value slice : Expr} {k : Int} {d : D} (e : l.lookup k = some d) (q : Q d μ) (hs : PlainSub slice := by intro _ _; rfl) : OpS c μ value slice (.dct l) (.int k) Q := fun g s u v I m n => by
  rw [Den] at m; rw [Den] at n
  obtain ⟨t, rfl⟩ := n
  obtain ⟨a, es, z, rfl, _, ha, hx, hn⟩ := m
  obtain ⟨kvs, hd, hp⟩ := dictAt_of (prog := c.prog) (w := c.w) (I.sub _ _ ha) hx hn
  have hv := hp.at_ k
  rw [e] at hv
  cases h2 : valueAt kvs k with
  | none => rw [h2] at hv; exact hv.elim
  | some v =>
    rw [h2] at hv
    exact tail_any hd.dictOf.typeIs slot_dict_getitem.lookup (wpAny_getItem_of (isInt_self k t) hd.dictOf.mapOf h2 (GPost.same I _ hv q)) (hs _ _)
theorem seqIndex_pos {k : Int} {n : Nat} (h0 : 0 ≤ k) (h1 : k < n) : seqIndex? k n = some k.toNat := by
  unfold seqIndex?
  simp only [Int.not_lt.mpr h0, if_false]
  rw [if_pos (by simp only [Bool.and_eq_true, decide_eq_true_eq]; omega)]
theorem OpS.tup {value slice : Expr} {k : Int} {d : D} {xs : List D} (h0 : 0 ≤ k) (hz : k < 2 ^ 63) (e : xs[k.toNat]? = some d) (q : Q d μ) (hs : PlainSub slice := by intro _ _; rfl) : OpS c μ value slice (.tup xs) (.int k) Q := fun g s u v I m n => by
  rw [Den] at m; rw [Den] at n
  obtain ⟨t, rfl⟩ := n
  obtain ⟨a, vs, z, rfl, ha, hx⟩ := m
  obtain ⟨v, hv, hd⟩ := hx.at_ e
  have ht : IsTup s.heap a vs.toList.toArray := ⟨_, I.sub _ _ ha, rfl, z, by simp⟩
  have hlt : k.toNat < vs.toList.length := by
    rcases Nat.lt_or_ge k.toNat vs.toList.length with h | h
    · exact h
    · rw [List.getElem?_eq_none h] at hv; cases hv
  exact item_tupleT ht (by omega) hz (seqIndex_pos h0 (by omega)) hv (GPost.here I hd q) (hs _ _)
theorem OpS.lst {value slice : Expr} {k : Int} {d : D} {xs : List D} (h0 : 0 ≤ k) (hz : k < 2 ^ 63) (e : xs[k.toNat]? = some d) (q : Q d μ) (hs : PlainSub slice := by intro _ _; rfl) : OpS c μ value slice (.lst xs) (.int k) Q := fun g s u v I m n => by
  rw [Den] at m; rw [Den] at n
  obtain ⟨t, rfl⟩ := n
  obtain ⟨a, vs, z, rfl, ha, hx⟩ := m
  obtain ⟨v, hv, hd⟩ := hx.at_ e
  have hl : s.heap.IsList a vs := ⟨_, I.sub _ _ ha, rfl, z, rfl⟩
  exact tail_any hl.typeIs slot_list_getitem.lookup (wpAny_getItem_list hl h0 hz (by rw [← Array.getElem?_toList]; exact hv) (GPost.here I hd q)) (hs _ _)
/-- the last item: xs[-1] -/
theorem OpS.lstLast {value slice : Expr} {d : D} {xs : List D} (e : xs.getLast? = some d) (hl : xs.length < 2 ^ 62) (q : Q d μ) (hs : PlainSub slice := by intro _ _; rfl) : OpS c μ value slice (.lst xs) (.int (-1)) Q := fun g s u v I m n => by
  rw [Den] at m; rw [Den] at n
  obtain ⟨t, rfl⟩ := n
  obtain ⟨a, vs, z, rfl, ha, hx⟩ := m
  rw [List.getLast?_eq_getElem?] at e
  obtain ⟨v, hv, hd⟩ := hx.at_ e
  have hlen := hx.length
  rw [Array.length_toList] at hlen
  have hpos : 0 < xs.length := by
    rcases Nat.eq_zero_or_pos xs.length with h | h
    · rw [h, List.eq_nil_of_length_eq_zero h] at e; cases e
    · exact h
  have hl : s.heap.IsList a vs := ⟨_, I.sub _ _ ha, rfl, z, rfl⟩
  refine tail_any hl.typeIs slot_list_getitem.lookup (wpAny_getItem_list_neg hl (by omega) (by omega) (by omega) ?_ (GPost.here I hd q)) (hs _ _)
  rw [← Array.getElem?_toList, show ((-1 : Int) + (vs.size : Int)).toNat = xs.length - 1 by omega]
  exact hv
/-- an item of a mutable list -/
theorem OpS.mu {value slice : Expr} {a : Addr} {k : Int} {d : D} {xs : List D} (h : (a, .vec xs) ∈ μ) (h0 : 0 ≤ k) (hz : k < 2 ^ 63) (e : xs[k.toNat]? = some d) (q : Q d μ) (hs : PlainSub slice := by intro _ _; rfl) : OpS c μ value slice (.raw (.ref a)) (.int k) Q := fun g s u v I m n => by
  rw [Den] at m; rw [Den] at n
  obtain ⟨t, rfl⟩ := n
  subst m
  obtain ⟨_, o, ho, hc, vs, z, hdt, hx⟩ := I.mu _ h
  obtain ⟨v, hv, hd⟩ := hx.at_ e
  have hl : s.heap.IsList a vs := ⟨_, ho, hc, z, hdt⟩
  exact tail_any hl.typeIs slot_list_getitem.lookup (wpAny_getItem_list hl h0 hz (by rw [← Array.getElem?_toList]; exact hv) (GPost.here I hd q)) (hs _ _)
end
end Pb
end
section
open PySem PySem.W PySem.Calls PyProof.Rows PySem.Spec
set_option Elab.async false
set_option maxRecDepth 100000
namespace Pb

inductive Fl where
  | next
  | ret (d : D)
def FlD (g : Gh) : Flow → Fl → Prop
  | .next, .next => True
  | .ret v, .ret d => Den g v d
  | _, _ => False

abbrev Rho := List (Str × D)

def EPost (K : Frag) (env : Env) (μ : Mu) (g : Gh) (s : Shared) (Q : Fl → Rho → Mu → Prop) (f : Flow) (s' : Shared) : Prop :=
  ∃ g' ρ' μ' fl, Inv K env ρ' μ' g' s'.heap ∧ Step (Wr env) μ μ' g g' s s' ∧ FlD g' f fl ∧ Q fl ρ' μ'
theorem EPost.trans {K : Frag} {env : Env} {μ μ₁ : Mu} {g g₁ : Gh} {s s₁ s' : Shared} {Q : Fl → Rho → Mu → Prop} {f : Flow} (x : Step (Wr env) μ μ₁ g g₁ s s₁) (y : EPost K env μ₁ g₁ s₁ Q f s') : EPost K env μ g s Q f s' :=
  let ⟨g', ρ', μ', fl, a, b, c, e⟩ := y; ⟨g', ρ', μ', fl, a, x.trans b, c, e⟩
theorem Step.wr {wr : Addr → Prop} {μ μ' : Mu} {g g' : Gh} {s s' : Shared} (x : Step Nowr μ μ' g g' s s') : Step wr μ μ' g g' s s' := x.wk fun _ f => f.elim

def Ex (c : Cx) (ρ : Rho) (μ : Mu) (ss : List Stmt) (Q : Fl → Rho → Mu → Prop) : Prop :=
  ∀ g s, Inv c.K c.env ρ μ g s.heap → wpAny c.M c.A (execs ss c.env) (EPost c.K c.env μ g s Q) Never s
def ExS (c : Cx) (ρ : Rho) (μ : Mu) (st : Stmt) (Q : Fl → Rho → Mu → Prop) : Prop :=
  ∀ g s, Inv c.K c.env ρ μ g s.heap → wpAny c.M c.A (exec st c.env) (EPost c.K c.env μ g s Q) Never s

/-- what a body hands back -/
def RetQ (Q : D → Mu → Prop) : Fl → Rho → Mu → Prop
  | .ret d, _, μ => Q d μ
  | .next, _, μ => Q .none μ

def FPost (K : Frag) (μ : Mu) (g : Gh) (s : Shared) (Q : D → Mu → Prop) (r : Result) (s' : Shared) : Prop := ∃ v, r = .ok (.ret v) ∧ GPost K μ g s Q v s'

def Fn (prog : Program) (w : World) (K : Frag) (n : Nat) (f : Value) (μ : Mu) (ds : List D) (Q : D → Mu → Prop) : Prop :=
  ∀ A g s vs, Fit A n → GInv K μ g s.heap → DenL g vs ds → codeAny (model prog w) A (.call f ⟨vs, []⟩) (FPost K μ g s Q) s

theorem Fn.mono {prog : Program} {w : World} {K : Frag} {n m : Nat} {f : Value} {μ : Mu} {ds : List D} {Q Q' : D → Mu → Prop} (h : Fn prog w K n f μ ds Q) (k : ∀ d μ, Q d μ → Q' d μ) (hn : n ≤ m := by omega) : Fn prog w K m f μ ds Q' :=
  fun A g s vs F I x => codeAny_mono (h A g s vs (F.le hn) I x) fun _ _ ⟨v, a, b⟩ => ⟨v, a, b.mono k⟩

/-- a function object of the top -/
structure FnAt (K : Frag) (f : Addr) (qual : Str) (params : Arguments) (body : List Stmt) (scope : Scope) (dV : Value) : Prop where
  ex : ∃ name oc od osl kV doc pm an cdv ct, K.lookup f = some ⟨oc, od, .func (fnOf name qual params body scope dV kV doc pm an cdv ct), osl⟩ ∧ codeIn K cdv qual = true

abbrev fenv (qual : Str) (scope : Scope) (L f : Addr) (cd : Value) : Env := newEnv scope L mainGlobals (cellsFrom (L + 1) scope.names []) (qual ++ ".<locals>.") (some f) cd none builtinsNs

theorem bindL_notin {kd : Str → Option NameKind} : ∀ {binds : List (Str × Value)} {m : Str → Option Value} {x : Str}, x ∉ binds.map (·.1) → bindL kd binds m x = m x
  | [], _, _, _ => rfl
  | (n, v) :: r, m, x, h => by
    rw [List.map_cons, List.mem_cons, not_or] at h
    unfold bindL
    rw [bindL_notin h.2]
    split
    · simp [h.1]
    · rfl
theorem bindC_notin {kd : Str → Option NameKind} : ∀ {binds : List (Str × Value)} {m : Str → Option Value} {x : Str}, x ∉ binds.map (·.1) → bindC kd binds m x = m x
  | [], _, _, _ => rfl
  | (n, v) :: r, m, x, h => by
    rw [List.map_cons, List.mem_cons, not_or] at h
    unfold bindC
    rw [bindC_notin h.2]
    split
    · rfl
    · simp [h.1]
theorem mem_zip_fst {α β : Type} {x : α} : ∀ {xs : List α} {ys : List β}, x ∈ (xs.zip ys).map (·.1) → x ∈ xs
  | [], _, h => by simp at h
  | _ :: _, [], h => by simp at h
  | a :: xs, b :: ys, h => by
    simp only [List.zip_cons_cons, List.map_cons, List.mem_cons] at h
    rcases h with rfl | h
    · exact .head _
    · exact .tail _ (mem_zip_fst h)
theorem bindL_at {g : Gh} {kd : Str → Option NameKind} {x : Str} {d : D} (hk : kd x = some .local) : ∀ {names : List Str} {vs : List Value} {ds : List D} {m : Str → Option Value}, names.Nodup → DenL g vs ds → (names.zip ds).lookup x = some d →
    ∃ v, bindL kd (names.zip vs) m x = some v ∧ Den g v d
  | [], _, _, _, _, _, e => by simp at e
  | n :: names, [], [], _, _, _, e => by simp at e
  | n :: names, v :: vs, d' :: ds, m, hn, hd, e => by
    rw [DenL] at hd
    rw [List.nodup_cons] at hn
    simp only [List.zip_cons_cons, List.lookup_cons] at e
    simp only [List.zip_cons_cons]
    unfold bindL
    by_cases h : x = n
    · subst h
      simp only [beq_self_eq_true, Option.some.injEq] at e
      subst e
      refine ⟨v, ?_, hd.1⟩
      rw [bindL_notin fun q => hn.1 (mem_zip_fst q), if_pos hk, if_pos rfl]
    · have hb : (x == n) = false := by simpa using h
      rw [hb] at e
      exact bindL_at hk hn.2 hd.2 e
  | _ :: _, [], _ :: _, _, _, hd, _ => by simp [DenL] at hd
  | _ :: _, _ :: _, [], _, _, hd, _ => by simp [DenL] at hd
theorem bindC_at {g : Gh} {kd : Str → Option NameKind} {x : Str} {d : D} (hk : kd x ≠ some .local) : ∀ {names : List Str} {vs : List Value} {ds : List D} {m : Str → Option Value}, names.Nodup → DenL g vs ds → (names.zip ds).lookup x = some d →
    ∃ v, bindC kd (names.zip vs) m x = some v ∧ Den g v d
  | [], _, _, _, _, _, e => by simp at e
  | n :: names, [], [], _, _, _, e => by simp at e
  | n :: names, v :: vs, d' :: ds, m, hn, hd, e => by
    rw [DenL] at hd
    rw [List.nodup_cons] at hn
    simp only [List.zip_cons_cons, List.lookup_cons] at e
    simp only [List.zip_cons_cons]
    unfold bindC
    by_cases h : x = n
    · subst h
      simp only [beq_self_eq_true, Option.some.injEq] at e
      subst e
      refine ⟨v, ?_, hd.1⟩
      rw [bindC_notin fun q => hn.1 (mem_zip_fst q), if_neg hk]
      simp
    · have hb : (x == n) = false := by simpa using h
      rw [hb] at e
      exact bindC_at hk hn.2 hd.2 e
  | _ :: _, [], _ :: _, _, _, hd, _ => by simp [DenL] at hd
  | _ :: _, _ :: _, [], _, _, hd, _ => by simp [DenL] at hd

theorem lookup_mem_names {ρ : Rho} {x : Str} {d : D} (h : ρ.lookup x = some d) : (x, d) ∈ ρ := mem_of_lookup h
theorem zip_mem_left {names : List Str} {ds : List D} {vs : List Value} {x : Str} {d : D} (hl : vs.length = ds.length) (h : (names.zip ds).lookup x = some d) : ∃ v, (x, v) ∈ names.zip vs := by
  have hm := lookup_mem_names h
  obtain ⟨i, hi, e⟩ := List.getElem_of_mem hm
  rw [List.getElem_zip] at e
  rw [List.length_zip] at hi
  have h1 : i < vs.length := by omega
  have h2 : i < (names.zip vs).length := by rw [List.length_zip]; omega
  refine ⟨vs[i], ?_⟩
  have : (names.zip vs)[i] = (x, vs[i]) := by rw [List.getElem_zip]; rw [(Prod.mk.inj e).1]
  rw [← this]; exact List.getElem_mem h2

section
variable {prog : Program} {w : World} {K : Frag} {μ : Mu} {g : Gh} {s s₁ : Shared}

theorem Inv.enter {qual : Str} {scope : Scope} {L f : Addr} {cd : Value} {names : List Str} {vs : List Value} {ds : List D} (I : GInv K μ g s.heap) (hn : names.Nodup) (hd : DenL g vs ds)
    (hk : ∀ n, ∀ x ∈ names.zip vs, scope.names.lookup x.1 = some .local ∨ (scope.names.lookup x.1 = some .cell ∧ ((cellsFrom n scope.names []).lookup x.1).isSome = true))
    (x : InCallC s (fenv qual scope L f cd).locals (bindL (fenv qual scope L f cd).kindOf (names.zip vs) fun _ => none) (fenv qual scope L f cd).cells (bindC (fenv qual scope L f cd).kindOf (names.zip vs) fun _ => none) s₁) :
    Inv K (fenv qual scope L f cd) (names.zip ds) μ g s₁.heap := by
  have kp := x.toInCall.keep
  have fr := x.toInCall.fresh
  have up : ∀ z a, (fenv qual scope L f cd).cells.lookup z = some a → L < a := fun z a e => x.above z a (mem_of_lookup e)
  have non : ∀ a, L ≤ a → g a = none := fun a h => I.non (fresh_size (Nat.le_trans fr h))
  refine ⟨I.keeps kp, ⟨⟨_, x.toInCall.ns, fun z d e1 e2 => bindL_at e2 hn hd e1⟩, fun z d e1 e2 => ?_, fun z y a e1 e2 => name_of_addr x.apart (mem_of_lookup e1) (mem_of_lookup e2),
    fun z a e => ⟨non a (Nat.le_of_lt (up z a e)), Nat.ne_of_gt (up z a e), _, x.cell z a e⟩, non _ (Nat.le_refl _)⟩, fun a hm q => ?_⟩
  · obtain ⟨v, hv⟩ := zip_mem_left hd.length e1
    rcases hk (L + 1) _ hv with q | ⟨q, qs⟩
    · have q' : (fenv qual scope L f cd).kindOf z = some .local := q
      rw [q'] at e2
      rcases e2 with e | e <;> cases e
    · obtain ⟨a, ha⟩ := Option.isSome_iff_exists.mp qs
      have hnl : (fenv qual scope L f cd).kindOf z ≠ some .local := by
        show scope.names.lookup z ≠ _
        rw [show scope.names.lookup z = some .cell from q]; decide
      obtain ⟨v', hv', hden⟩ := bindC_at (m := fun _ => none) hnl hn hd e1
      exact ⟨a, v', ha, hv' ▸ x.cell z a ha, hden⟩
  · obtain ⟨d, hd'⟩ := hm
    obtain ⟨_, o, ho, _⟩ := I.mu _ hd'
    have hlt : a < s.heap.objs.size := Heap.lt_size ho
    rcases q with q | ⟨z, q⟩
    · rw [q] at hlt; exact absurd (Nat.lt_of_lt_of_le hlt fr) (Nat.lt_irrefl _)
    · exact absurd (Nat.lt_trans (Nat.lt_of_lt_of_le hlt fr) (up z a q)) (Nat.lt_irrefl _)

theorem Step.enter {wr : Addr → Prop} {μ' : Mu} {g' : Gh} {s' : Shared} (kp : ∀ b o, s.heap.get? b = some o → s₁.heap.get? b = some o) (hs : ∃ h tk, s₁ = { s with heap := h, toks := tk })
    (hw : ∀ b, wr b → s.heap.get? b = none) (_hm : ∀ a, Dom μ a → (s.heap.get? a).isSome = true) (x : Step wr μ μ' g g' s₁ s') : Step Nowr μ μ' g g' s s' := by
  have al : ∀ a, (s.heap.get? a).isSome = true → (s₁.heap.get? a).isSome = true := fun a e => by
    obtain ⟨o, ho⟩ := Option.isSome_iff_exists.mp e
    rw [kp a o ho]; rfl
  refine ⟨?_, x.le, fun a e n q => x.new a (al a e) n q, fun b o n _ e => x.keep b o n (fun q => by rw [hw b q] at e; cases e) (kp b o e), fun a e => x.alive a (al a e), fun a q => ?_⟩
  · obtain ⟨h, tk, rfl⟩ := hs
    exact x.eq
  · rcases x.dom a q with z | z
    · exact .inl z
    · refine .inr ?_
      cases e : s.heap.get? a with
      | none => rfl
      | some o => rw [kp a o e] at z; cases z

theorem Fn.introD {n : Nat} {f : Addr} {qual : Str} {params : Arguments} {body : List Stmt} {scope : Scope} {dV : Value} {names : List Str} {ds es : List D} {extra : List Value} {Q : D → Mu → Prop}
    (F : FnAt K f qual params body scope dV)
    (hex : ∀ g, DenL g extra es)
    (hbind : ∀ s vs name kV doc pm an cdv ct, K.In s.heap → vs.length = ds.length → BindsTo s (fnOf name qual params body scope dV kV doc pm an cdv ct) ⟨vs, []⟩ (names.zip (vs ++ extra)))
    (hn : names.Nodup) (hk : (names.all fun y => scope.names.lookup y == some .local || scope.names.lookup y == some .cell) = true)
    (h : ∀ A' L cd, Fit A' n → Ex ⟨prog, w, K, A', fenv qual scope L f cd⟩ (names.zip (ds ++ es)) μ body (RetQ Q))
    (hco : scope.isCoroutine = false := by rfl) (hgen : scope.isGenerator = false := by rfl) (hkd : scope.kind = .function := by rfl) : Fn prog w K (n + 1) (.ref f) μ ds Q := fun A g s vs FA I hd => by
  obtain ⟨name, oc, od, osl, kV, doc, pm, an, cdv, ct, hl, hcd⟩ := F.ex
  have B := I.base
  have hk' : ∀ n, ∀ x ∈ names.zip (vs ++ extra), scope.names.lookup x.1 = some .local ∨ (scope.names.lookup x.1 = some .cell ∧ ((cellsFrom n scope.names []).lookup x.1).isSome = true) := by
    refine kindsX (List.all_eq_true.mpr fun x hx => ?_)
    exact List.all_eq_true.mp hk x.1 (mem_zip_fst (List.mem_map_of_mem hx))
  refine codeAny_call_function (fd := fnOf name qual params body scope dV kV doc pm an cdv ct) (body := body) FA.room (B.mem _ _ hl) rfl hco hgen rfl (codeRec_of B.mem hcd) (hbind s vs name kV doc pm an cdv ct B.mem hd.length _ _ _ _ ?_)
  refine wpAny_newFunctionEnv_cells hkd (hk' _) fun env he s₁ x => ?_
  subst he
  refine ⟨B.lim.keeps x.toInCall.keep, codeAny_func ?_⟩
  have I₁ := Inv.enter (f := f) (cd := cdv) (qual := qual) (scope := scope) I hn (hd.append (hex g)) hk' x
  refine wpAny_mono (h _ s.heap.objs.size cdv FA.deeper g s₁ I₁) (fun fl s' p => ?_) fun _ _ f => f.elim
  obtain ⟨g', ρ', μ', fl', I', st, hfl, q⟩ := p
  have st' : Step Nowr μ μ' g g' s s' := by
    refine Step.enter x.toInCall.keep x.toInCall.same (fun b hb => ?_) (fun a ⟨d, hd⟩ => ?_) st
    · rcases hb with rfl | ⟨z, hb⟩
      · exact fresh_size (Nat.le_refl _)
      · exact fresh_size (Nat.le_of_lt (x.above z b (mem_of_lookup hb)))
    · obtain ⟨_, o, ho, _⟩ := I.mu _ hd
      rw [ho]; rfl
  cases fl' with
  | next =>
    cases fl <;> first | exact hfl.elim | exact ⟨_, rfl, g', .none, μ', I'.gi, st', .noneD, q⟩
  | ret d =>
    cases fl <;> first | exact hfl.elim | exact ⟨_, rfl, g', d, μ', I'.gi, st', hfl, q⟩

theorem Fn.intro {n : Nat} {f : Addr} {qual : Str} {params : Arguments} {body : List Stmt} {scope : Scope} {dV : Value} {names : List Str} {ds : List D} {Q : D → Mu → Prop}
    (F : FnAt K f qual params body scope dV)
    (hbind : ∀ s vs name kV doc pm an cdv ct, K.In s.heap → vs.length = ds.length → BindsTo s (fnOf name qual params body scope dV kV doc pm an cdv ct) ⟨vs, []⟩ (names.zip vs))
    (hn : names.Nodup) (hk : (names.all fun y => scope.names.lookup y == some .local || scope.names.lookup y == some .cell) = true)
    (h : ∀ A' L cd, Fit A' n → Ex ⟨prog, w, K, A', fenv qual scope L f cd⟩ (names.zip ds) μ body (RetQ Q))
    (hco : scope.isCoroutine = false := by rfl) (hgen : scope.isGenerator = false := by rfl) (hkd : scope.kind = .function := by rfl) : Fn prog w K (n + 1) (.ref f) μ ds Q :=
  Fn.introD (es := []) (extra := []) F (fun _ => DenL.nil) (fun s vs name kV doc pm an cdv ct X hl => by rw [List.append_nil]; exact hbind s vs name kV doc pm an cdv ct X hl) hn hk (fun A' L cd FA => by rw [List.append_nil]; exact h A' L cd FA) hco hgen hkd
end

/- calls -/
def OpC (c : Cx) (μ : Mu) (f : Value) (ds : List D) (Q : D → Mu → Prop) : Prop :=
  ∀ g s vs, GInv c.K μ g s.heap → DenL g vs ds → wpAny c.M c.A (call f vs) (GPost c.K μ g s Q) Never s
def Keep (K : Frag) (f : Value) : Prop := ∀ M h, K.In h → ∃ k, (k = Keeper.frame ∨ k = Keeper.machine ∨ k = Keeper.boundFrame) ∧ Looks M h (keeperOf f) k
theorem Keep.ref {K : Frag} {f : Value} (h : keepIn K f = true) : Keep K f := fun _ _ X => keeps_K h _ X
theorem Keep.blt {K : Frag} {i : String} : Keep K (.builtin i) := fun _ _ _ => ⟨.machine, .inr (.inl rfl), Looks.now⟩
theorem Keep.typ {K : Frag} {i : String} : Keep K (.type i) := fun _ _ _ => ⟨.machine, .inr (.inl rfl), Looks.now⟩

section
variable {c : Cx} {ρ : Rho} {μ : Mu} {Q : D → Mu → Prop}

theorem evalArgs_any {M : Model} {A : Around} {E : Value → Shared → Prop} {s : Shared} {f : Value} {args : List (Bool × Sem Value)} {Q : Args → Shared → Prop} (hp : args.any (·.1) = false)
    (h : wpAny M A (spliced args) (fun vs s' => Q ⟨vs, []⟩ s') E s) : wpAny M A (evalArgs f true args []) Q E s := by
  match args, hp, h with
  | [], _, h =>
    unfold evalArgs
    show wpAny M A (spliced [] >>= _) Q E s
    refine wpAny_bind (wpAny_mono h (fun vs s' h' => ?_) fun _ _ x => x)
    refine wpAny_bind (wpAny_pure ?_)
    refine wpAny_holding ?_
    exact wpAny_bind (wpAny_pure (wpAny_bind (wpAny_pure (wpAny_pure h'))))
  | (false, x) :: rest, _, h => exact evalArgs_plain h
theorem starEach_plain : ∀ {es : List Expr} {env : Env} {pos : Pos}, (es.all fun e => match e with | .Starred .. => false | _ => true) = true → (backTo pos (starEach es env)).any (·.1) = false
  | [], _, _, _ => rfl
  | e :: es, env, pos, h => by
    rw [List.all_cons, Bool.and_eq_true] at h
    have ih := starEach_plain (es := es) (env := env) (pos := pos) h.2
    cases e <;> first | exact ih | cases h.1

theorem callWith_any {pos : Pos} {f : Value} {first : List Value} {args : List Expr} {E : Value → Shared → Prop} {s : Shared} {R : Value → Shared → Prop} (hk : Keep c.K f)
    (hp : (args.all fun e => match e with | .Starred .. => false | _ => true) = true)
    (h : wpAny c.M c.A (spliced (backTo pos (starEach args c.env))) (fun vs s' => c.K.In s'.heap ∧ wpAny c.M c.A (call f (first ++ vs)) R E s') E s) :
    wpAny c.M c.A (callWith pos f first (backTo pos (starEach args c.env)) (backToKw pos (keywordEach [] c.env))) R E s := by
  refine callWith_of (P := c.K.In) (by rw [starEach_plain hp]; rfl) (fun h X => hk _ h X) ?_
  exact evalArgs_any (starEach_plain hp) h

theorem Ev.call {func : Expr} {args : List Expr} {pos : Pos} (h : Ev c ρ μ func fun d₁ μ₁ => ∃ f, d₁ = .raw f ∧ Keep c.K f ∧ EvL c ρ μ₁ args fun ds μ₂ => OpC c μ₂ f ds Q)
    (hp : (args.all fun e => match e with | .Starred .. => false | _ => true) = true := by rfl)
    (he : eval (.Call func args [] pos) c.env = (do callWith pos (← eval func c.env) [] (backTo pos (starEach args c.env)) (backToKw pos (keywordEach [] c.env))) := by rfl) : Ev c ρ μ (.Call func args [] pos) Q := fun g s I => by
  rw [he]
  refine wpAny_bind (wpAny_mono (h g s I) (fun v₁ s₁ p₁ => ?_) fun _ _ f => f)
  obtain ⟨g₁, d₁, μ₁, I₁, st₁, n₁, f, rfl, hk, q₁⟩ := p₁.inv I
  rw [Den] at n₁; subst n₁
  refine callWith_any hk hp (wpAny_mono (q₁ pos g₁ s₁ I₁) (fun vs s₂ p₂ => ?_) fun _ _ f => f)
  obtain ⟨g₂, ds, μ₂, I₂, st₂, n₂, q₂⟩ := p₂.inv I₁
  exact ⟨I₂.gi.base.mem, wpAny_mono (q₂ g₂ s₂ vs I₂.gi n₂) (fun v s' p => p.trans (st₁.trans st₂)) fun _ _ f => f⟩

/-- a contract at a call, the frame's other mutables left alone -/
theorem OpC.fn {n : Nat} {f : Value} {μ₁ μf : Mu} {ds : List D} (F : Fit c.A n) (h : Fn c.prog c.w c.K n f μf ds fun d μ' => Q d (μ₁ ++ μ')) : OpC c (μ₁ ++ μf) f ds Q := fun g s vs I hd => by
  have hnd := I.nd
  rw [List.map_append, List.nodup_append] at hnd
  obtain ⟨nd1, nd2, nd3⟩ := hnd
  have If : GInv c.K μf g s.heap := ⟨I.bas, I.sub, fun p hp => I.mu p (List.mem_append_right _ hp), nd2⟩
  refine wpAny_call (codeAny_mono (h c.A g s vs F If hd) fun r s' p => ?_)
  obtain ⟨v, rfl, g', d, μ', I', st, hv, q⟩ := p
  have out : ∀ p ∈ μ₁, ¬ Dom μf p.1 := fun p hp ⟨e, he⟩ => nd3 _ (List.mem_map_of_mem hp) _ (List.mem_map_of_mem he) rfl
  have alive : ∀ p ∈ μ₁, (s.heap.get? p.1).isSome = true := fun p hp => by
    obtain ⟨_, o, ho, _⟩ := I.mu p (List.mem_append_left _ hp)
    rw [ho]; rfl
  refine ⟨g', d, μ₁ ++ μ', ⟨I'.bas, I'.sub, fun p hp => ?_, ?_⟩, ⟨st.eq, st.le, fun a e n z => st.new a e (fun ⟨d, q⟩ => n ⟨d, List.mem_append_right _ q⟩) z, fun b o n z e => st.keep b o (fun ⟨d, q⟩ => n ⟨d, List.mem_append_right _ q⟩) z e, st.alive, fun a ⟨d, q⟩ => ?_⟩, hv, q⟩
  · rcases List.mem_append.mp hp with hp | hp
    · obtain ⟨z, o, ho, hx⟩ := I.mu p (List.mem_append_left _ hp)
      exact ⟨st.new _ (alive p hp) (out p hp) z, o, st.keep _ o (out p hp) (fun q => q) ho, hx.mono st.le⟩
    · exact I'.mu p hp
  · rw [List.map_append, List.nodup_append]
    refine ⟨nd1, I'.nd, fun a ha b hb e => ?_⟩
    subst e
    obtain ⟨p, hp, rfl⟩ := List.mem_map.mp ha
    obtain ⟨p', hp', e'⟩ := List.mem_map.mp hb
    rcases st.dom p.1 ⟨p'.2, by rw [← e']; exact hp'⟩ with z | z
    · exact out p hp z
    · have := alive p hp; rw [z] at this; cases this
  · rcases List.mem_append.mp q with q | q
    · exact .inl ⟨d, List.mem_append_left _ q⟩
    · rcases st.dom a ⟨d, q⟩ with ⟨d', z⟩ | z
      · exact .inl ⟨d', List.mem_append_right _ z⟩
      · exact .inr z
/-- a contract that touches no mutable -/
theorem OpC.pure {n : Nat} {f : Value} {ds : List D} (F : Fit c.A n) (h : Fn c.prog c.w c.K n f [] ds fun d _ => Q d μ) : OpC c μ f ds Q := by
  have := OpC.fn (μ₁ := μ) (μf := []) (ds := ds) (Q := fun d μ' => (∃ μ₂, μ' = μ ++ μ₂) ∧ Q d μ) F (h.mono fun d μ' q => ⟨⟨_, rfl⟩, q⟩)
  rw [List.append_nil] at this
  intro g s vs I hd
  refine wpAny_mono (this g s vs I hd) (fun v s' p => ?_) fun _ _ f => f
  obtain ⟨g', d, μ', I', st, hv, ⟨μ₂, rfl⟩, q⟩ := p
  refine ⟨g', d, μ, ⟨I'.bas, I'.sub, fun p hp => I'.mu p (List.mem_append_left _ hp), I.nd⟩, ⟨st.eq, st.le, st.new, st.keep, st.alive, fun a e => .inl e⟩, hv, q⟩
end
end Pb
end
section
open PySem PySem.W PySem.Calls PyProof.Rows PySem.Spec
set_option Elab.async false
set_option maxRecDepth 100000
namespace Pb

def stoB (env : Env) (x : Str) : Bool :=
  match env.kindOf x with
  | some .local => !(env.scope.kind == .class || (env.scope.kind == .module && env.locals != env.globals))
  | some .cell => env.scope.kind == .function && (env.cells.lookup x).isSome
  | _ => false

section
variable {K : Frag} {env : Env} {ρ : Rho} {μ : Mu} {g : Gh} {s : Shared}

/-- one address of the frame's own is written -/
theorem Inv.wr {b : Addr} {h' : Heap} {tk : Nat} (hb : Wr env b) (I : Inv K env ρ μ g s.heap) (sb : Heap.SameBut b s.heap h') (live : (h'.get? b).isSome = true) :
    GInv K μ g h' ∧ Step (Wr env) μ μ g g s { s with heap := h', toks := tk } := by
  have gb : g b = none := hb.elim (fun q => q ▸ I.lo.gl) fun ⟨z, q⟩ => (I.lo.cells z b q).1
  have nd : ¬ Dom μ b := fun q => I.ap b q hb
  refine ⟨⟨I.gi.bas, fun a o e => ?_, fun p hp => ?_, I.gi.nd⟩, ⟨rfl, rfl⟩, fun _ _ e => e, fun _ _ _ e => e, fun a o _ n e => ?_, fun a e => ?_, fun _ e => .inl e⟩
  · rw [sb.2 a (by rintro rfl; rw [gb] at e; cases e)]; exact I.gi.sub a o e
  · obtain ⟨x, o, y, z⟩ := I.gi.mu p hp
    refine ⟨x, o, ?_, z⟩
    rw [sb.2 p.1 (by rintro e; exact nd ⟨p.2, e ▸ hp⟩)]; exact y
  · show h'.get? a = some o
    rw [sb.2 a (by rintro rfl; exact n hb)]; exact e
  · show (h'.get? a).isSome = true
    by_cases q : a = b
    · subst q; exact live
    · rw [sb.2 a q]; exact e

/-- what a store to a name writes -/
def WrX (env : Env) (x : Str) (b : Addr) : Prop := (env.kindOf x = some .local ∧ b = env.locals) ∨ (env.kindOf x = some .cell ∧ env.cells.lookup x = some b)
theorem WrX.wr {env : Env} {x : Str} {b : Addr} (h : WrX env x b) : Wr env b := h.elim (fun q => .inl q.2) fun q => .inr ⟨x, q.2⟩
theorem Step.only {wr wr' : Addr → Prop} {μ' : Mu} {g' : Gh} {s' : Shared} {b : Addr} (x : Step wr μ μ' g g' s s') (sb : Heap.SameBut b s.heap s'.heap) (hb : wr' b) : Step wr' μ μ' g g' s s' :=
  ⟨x.eq, x.le, x.new, fun a o _ n e => (sb.2 a (by rintro rfl; exact n hb)).trans e, x.alive, x.dom⟩
theorem store_any {c : Cx} {x : Str} {v : Value} {d : D} {Q : Unit → Shared → Prop} {E : Value → Shared → Prop} (I : Inv c.K c.env ρ μ g s.heap) (S : stoB c.env x = true) (n : Den g v d)
    (h : ∀ s', Inv c.K c.env ((x, d) :: ρ) μ g s'.heap → Step (WrX c.env x) μ μ g g s s' → Q () s') : wpAny c.M c.A (storeName c.env x v) Q E s := by
  unfold stoB at S
  split at S
  · rename_i hk
    obtain ⟨m, hn, hm⟩ := I.lo.ns
    refine wpAny_storeName_local hk hn (fun h' hn' sb => ?_) (by simpa only [Bool.not_eq_true'] using S)
    have live : (h'.get? c.env.locals).isSome = true := by obtain ⟨o, _, _, ho, _⟩ := hn'; rw [ho]; rfl
    obtain ⟨G, st⟩ := I.wr (tk := s.toks + 1) (.inl rfl) sb live
    refine h _ ⟨G, ⟨⟨_, hn', fun y e l1 l2 => ?_⟩, fun y e l1 l2 => ?_, I.lo.apart, fun y a l1 => ?_, I.lo.gl⟩, I.ap⟩ (st.only sb (.inl ⟨hk, rfl⟩))
    · rw [List.lookup_cons] at l1
      by_cases q : y = x
      · subst q; simp only [beq_self_eq_true, Option.some.injEq] at l1; subst l1; exact ⟨v, by simp, n⟩
      · rw [show (y == x) = false by simpa using q] at l1
        obtain ⟨v', e1, e2⟩ := hm y e l1 l2
        exact ⟨v', by simp [q, e1], e2⟩
    · rw [List.lookup_cons] at l1
      have q : y ≠ x := by rintro rfl; rw [hk] at l2; rcases l2 with e | e <;> cases e
      rw [show (y == x) = false by simpa using q] at l1
      obtain ⟨a, v', e1, ⟨o, e2, e3⟩, e4⟩ := I.lo.cell y e l1 l2
      exact ⟨a, v', e1, ⟨o, (sb.2 a (I.lo.cells y a e1).2.1).trans e2, e3⟩, e4⟩
    · obtain ⟨e1, e2, v', o, e3, e4⟩ := I.lo.cells y a l1
      exact ⟨e1, e2, v', o, (sb.2 a e2).trans e3, e4⟩
  · rename_i hk
    rw [Bool.and_eq_true] at S
    obtain ⟨S1, S2⟩ := S
    obtain ⟨a, ha⟩ := Option.isSome_iff_exists.mp S2
    obtain ⟨ga, na, v₀, hv₀⟩ := I.lo.cells x a ha
    refine wpAny_storeName_cell (by simpa using S1) hk ha hv₀ fun h' hc sb => ?_
    have live : (h'.get? a).isSome = true := by obtain ⟨o, ho, _⟩ := hc; rw [ho]; rfl
    obtain ⟨G, st⟩ := I.wr (tk := s.toks) (.inr ⟨x, ha⟩) sb live
    obtain ⟨m, hn, hm⟩ := I.lo.ns
    refine h _ ⟨G, ⟨⟨_, hn.sameBut sb (Ne.symm na), fun y e l1 l2 => ?_⟩, fun y e l1 l2 => ?_, I.lo.apart, fun y b l1 => ?_, I.lo.gl⟩, I.ap⟩ (st.only sb (.inr ⟨hk, ha⟩))
    · rw [List.lookup_cons] at l1
      have q : y ≠ x := by rintro rfl; rw [hk] at l2; cases l2
      rw [show (y == x) = false by simpa using q] at l1
      exact hm y e l1 l2
    · rw [List.lookup_cons] at l1
      by_cases q : y = x
      · subst q; simp only [beq_self_eq_true, Option.some.injEq] at l1; subst l1; exact ⟨a, v, ha, hc, n⟩
      · rw [show (y == x) = false by simpa using q] at l1
        obtain ⟨b, v', e1, ⟨o, e2, e3⟩, e4⟩ := I.lo.cell y e l1 l2
        exact ⟨b, v', e1, ⟨o, (sb.2 b (by rintro rfl; exact q (I.lo.apart y x b e1 ha))).trans e2, e3⟩, e4⟩
    · obtain ⟨e1, e2, v', o, e3, e4⟩ := I.lo.cells y b l1
      by_cases q : b = a
      · subst q; exact ⟨e1, e2, some v, hc⟩
      · exact ⟨e1, e2, v', o, (sb.2 b q).trans e3, e4⟩
  · cases S
end

/-- the rest of a list of statements -/
abbrev seqQ (c : Cx) (rest : List Stmt) (Q : Fl → Rho → Mu → Prop) (fl : Fl) (ρ : Rho) (μ : Mu) : Prop :=
  match fl with
  | .next => Ex c ρ μ rest Q
  | .ret d => Q (.ret d) ρ μ

section
variable {c : Cx} {ρ : Rho} {μ : Mu} {Q : Fl → Rho → Mu → Prop}

theorem EPost.mono {K : Frag} {env : Env} {g : Gh} {s s' : Shared} {Q' : Fl → Rho → Mu → Prop} {f : Flow} (y : EPost K env μ g s Q f s') (k : ∀ fl ρ μ, Q fl ρ μ → Q' fl ρ μ) : EPost K env μ g s Q' f s' :=
  let ⟨g', ρ', μ', fl, a, b, c, e⟩ := y; ⟨g', ρ', μ', fl, a, b, c, k _ _ _ e⟩
theorem Ex.mono {ss : List Stmt} {Q' : Fl → Rho → Mu → Prop} (h : Ex c ρ μ ss Q) (k : ∀ fl ρ μ, Q fl ρ μ → Q' fl ρ μ) : Ex c ρ μ ss Q' :=
  fun g s I => wpAny_mono (h g s I) (fun _ _ p => p.mono k) fun _ _ f => f
theorem ExS.mono {ss : Stmt} {Q' : Fl → Rho → Mu → Prop} (h : ExS c ρ μ ss Q) (k : ∀ fl ρ μ, Q fl ρ μ → Q' fl ρ μ) : ExS c ρ μ ss Q' :=
  fun g s I => wpAny_mono (h g s I) (fun _ _ p => p.mono k) fun _ _ f => f
theorem EPost.next {K : Frag} {env : Env} {g : Gh} {s : Shared} (I : Inv K env ρ μ g s.heap) (q : Q .next ρ μ) : EPost K env μ g s Q .next s :=
  ⟨g, ρ, μ, .next, I, Step.refl, trivial, q⟩
theorem Ex.nil (q : Q .next ρ μ) : Ex c ρ μ [] Q := fun g s I => wpAny_execs_nil (EPost.next I q)
theorem Ex.cons {st : Stmt} {rest : List Stmt} (h : ExS c ρ μ st (seqQ c rest Q)) : Ex c ρ μ (st :: rest) Q := fun g s I => by
  refine wpAny_execs_cons (wpAny_mono (h g s I) (fun f s' p => ?_) fun _ _ f => f)
  obtain ⟨g', ρ', μ', fl, I', st', hf, q⟩ := p
  cases fl with
  | next =>
    cases f <;> first | exact hf.elim | exact wpAny_mono (q g' s' I') (fun _ _ p => p.trans st') fun _ _ f => f
  | ret d =>
    cases f <;> first | exact hf.elim | exact ⟨g', ρ', μ', .ret d, I', st', hf, q⟩
theorem ExS.asg {x : Str} {p pos : Pos} {value : Expr} (h : Ev c ρ μ value fun d μ' => Q .next ((x, d) :: ρ) μ') (hs : swapsWith value (some (.Name x p)) pos.line c.env = pure false := by rfl)
    (S : stoB c.env x = true := by rfl) : ExS c ρ μ (.Assign [.Name x p] value pos) Q := fun g s I => by
  refine wpAny_Assign_Name (wpAny_mono (h g s I) (fun v s₁ p₁ => ?_) fun _ _ f => f) hs
  obtain ⟨g₁, d₁, μ₁, I₁, st₁, n₁, q₁⟩ := p₁.inv I
  exact store_any I₁ S n₁ fun s' I' st' => ⟨g₁, _, μ₁, .next, I', st₁.wr.trans (st'.wk fun _ => WrX.wr), trivial, q₁⟩
theorem ExS.ret {e : Expr} {pos : Pos} (h : Ev c ρ μ e fun d μ' => Q (.ret d) ρ μ') : ExS c ρ μ (.Return (some e) pos) Q := fun g s I => by
  refine wpAny_Return_some (wpAny_mono (h g s I) (fun v s₁ p₁ => ?_) fun _ _ f => f)
  obtain ⟨g₁, d₁, μ₁, I₁, st₁, n₁, q₁⟩ := p₁.inv I
  exact ⟨g₁, ρ, μ₁, .ret d₁, I₁, st₁.wr, n₁, q₁⟩
theorem ExS.ite {t : Expr} {body orelse : List Stmt} {pos : Pos} (h : Te c ρ μ t fun b μ' => if b then Ex c ρ μ' body Q else Ex c ρ μ' orelse Q) : ExS c ρ μ (.If t body orelse pos) Q := fun g s I => by
  refine wpAny_If (wpAny_mono (h g s I) (fun b s₁ p₁ => ?_) fun _ _ f => f)
  obtain ⟨g₁, μ₁, I₁, st₁, q₁⟩ := p₁.inv I
  cases b <;> exact wpAny_mono (q₁ g₁ s₁ I₁) (fun _ _ p => p.trans st₁.wr) fun _ _ f => f

theorem Step.cast {wr wr' : Addr → Prop} {μ' : Mu} {g g' : Gh} {s s' : Shared} (x : Step wr μ μ' g g' s s') (h : ∀ b, wr b → wr' b ∨ s.heap.get? b = none) : Step wr' μ μ' g g' s s' :=
  ⟨x.eq, x.le, x.new, fun b o a n e => x.keep b o a (fun q => (h b q).elim n fun z => by rw [z] at e; cases e) e, x.alive, x.dom⟩

theorem codeNever {prog : Program} {w : World} {A : Around} {env : Env} {R : Value → Shared → Prop} {α : Type} {m : Sem α} {Q : α → Shared → Prop} {s : Shared} (h : wpAny (model prog w) A m Q Never s) : wpAny (model prog w) A m Q R s :=
  wpAny_mono h (fun _ _ q => q) fun _ _ f => f.elim

theorem ExS.while {t : Expr} {body orelse : List Stmt} {pos : Pos} (J : Nat → Rho → Mu → Prop) (n : Nat) (h0 : J n ρ μ)
    (h : ∀ n ρ μ, J n ρ μ → Te c ρ μ t fun b μ' => if b then Ex c ρ μ' body (fun fl ρ'' μ'' => match fl with | .next => ∃ m, m < n ∧ J m ρ'' μ'' | .ret d => Q (.ret d) ρ'' μ'') else Ex c ρ μ' orelse Q) :
    ExS c ρ μ (.While t body orelse pos) Q := fun g s I => by
  refine wpAny_While ?_
  refine codeAny_whileLoop (fun n s' => ∃ g' ρ' μ', Inv c.K c.env ρ' μ' g' s'.heap ∧ Step (Wr c.env) μ μ' g g' s s' ∧ J n ρ' μ') ?_ n ⟨g, ρ, μ, I, Step.refl, h0⟩
  rintro n s' ⟨g', ρ', μ', I', st', hj⟩
  refine wpAny_mono (h n ρ' μ' hj g' s' I') (fun b s₁ p₁ => ?_) fun _ _ f => f.elim
  obtain ⟨g₁, μ₁, I₁, st₁, q₁⟩ := p₁.inv I'
  cases b with
  | true =>
    refine wpAny_mono (q₁ g₁ s₁ I₁) (fun f s₂ p => ?_) fun _ _ f => f.elim
    obtain ⟨g₂, ρ₂, μ₂, fl, I₂, st₂, hf, q⟩ := p
    have st := (st'.trans st₁.wr).trans st₂
    cases fl with
    | next => cases f <;> first | exact hf.elim | (obtain ⟨m, hm, hj⟩ := q; exact ⟨m, hm, g₂, ρ₂, μ₂, I₂, st, hj⟩)
    | ret d => cases f <;> first | exact hf.elim | exact ⟨g₂, ρ₂, μ₂, .ret d, I₂, st, hf, q⟩
  | false => exact wpAny_mono (q₁ g₁ s₁ I₁) (fun f s₂ p => p.trans (st'.trans st₁.wr)) fun _ _ f => f.elim
end

/-- an iterator over data -/
structure Itr (prog : Program) (w : World) (A : Around) (g : Gh) (h : Heap) (I : Addr) (ds : List D) (fp wr : List Addr) (P : Nat → Value → Prop) (St : Nat → Heap → Prop) : Prop where
  walks : Walks prog w A I fp wr ds.length P St
  own : ∀ b ∈ wr, b = I
  foot : ∀ b ∈ fp, b = I ∨ ∃ o, g b = some o
  item : ∀ i v, P i v → ∃ d, ds[i]? = some d ∧ Den g v d
  st : St 0 h
  live : ∀ i h, St i h → (h.get? I).isSome = true
def IPost (c : Cx) (μ : Mu) (g : Gh) (s : Shared) (Q : List D → Mu → Prop) (it : Value) (s' : Shared) : Prop :=
  ∃ g' μ' I ds fp wr P St, it = .ref I ∧ GInv c.K μ' g' s'.heap ∧ Step Nowr μ μ' g g' s s' ∧ Itr c.prog c.w c.A g' s'.heap I ds fp wr P St ∧ s.heap.get? I = none ∧ g' I = none ∧ ¬ Dom μ' I ∧ Q ds μ'
def OpI (c : Cx) (μ : Mu) (d : D) (Q : List D → Mu → Prop) : Prop :=
  ∀ g s v, GInv c.K μ g s.heap → Den g v d → wpAny c.M c.A (pyIter v) (IPost c μ g s Q) Never s
def EvI (c : Cx) (ρ : Rho) (μ : Mu) (e : Expr) (Q : List D → Mu → Prop) : Prop :=
  ∀ g s, Inv c.K c.env ρ μ g s.heap → wpAny c.M c.A (eval e c.env) (fun x s₁ => wpAny c.M c.A (pyIter x) (IPost c μ g s Q) Never s₁) Never s

theorem IPost.trans {c : Cx} {μ μ₁ : Mu} {g g₁ : Gh} {s s₁ s' : Shared} {Q : List D → Mu → Prop} {v : Value} (x : Step Nowr μ μ₁ g g₁ s s₁) (y : IPost c μ₁ g₁ s₁ Q v s') : IPost c μ g s Q v s' := by
  obtain ⟨g', μ', I, ds, fp, wr, P, St, e, a, b, i, f, gi, nd, q⟩ := y
  refine ⟨g', μ', I, ds, fp, wr, P, St, e, a, x.trans b, i, ?_, gi, nd, q⟩
  cases z : s.heap.get? I with
  | none => rfl
  | some o => have := x.alive I (by rw [z]; rfl); rw [f] at this; cases this

section
variable {c : Cx} {ρ : Rho} {μ : Mu} {Q : Fl → Rho → Mu → Prop} {QI : List D → Mu → Prop}
theorem EvI.of {e : Expr} (h : Ev c ρ μ e fun d μ' => OpI c μ' d QI) : EvI c ρ μ e QI := fun g s I => by
  refine wpAny_mono (h g s I) (fun v s₁ p₁ => ?_) fun _ _ f => f
  obtain ⟨g₁, d₁, μ₁, I₁, st₁, n₁, q₁⟩ := p₁
  exact wpAny_mono (q₁ g₁ s₁ v I₁ n₁) (fun _ _ p => p.trans st₁) fun _ _ f => f

/-- what a walk over an iterator keeps true of it -/
structure Aside (env : Env) (μ : Mu) (g : Gh) (I : Addr) : Prop where
  gn : g I = none
  nd : ¬ Dom μ I
  nw : ¬ Wr env I
theorem Aside.step {env : Env} {wr : Addr → Prop} {μ μ' : Mu} {g g' : Gh} {s s' : Shared} {I : Addr} (x : Aside env μ g I) (live : (s.heap.get? I).isSome = true) (st : Step wr μ μ' g g' s s') : Aside env μ' g' I :=
  ⟨st.new I live x.nd x.gn, fun q => (st.dom I q).elim x.nd fun z => (by rw [z] at live; cases live), x.nw⟩

/-- only the iterator and new objects have changed -/
theorem GInv.but {K : Frag} {g : Gh} {h h' : Heap} {I : Addr} (G : GInv K μ g h) (gn : g I = none) (nd : ¬ Dom μ I) (k : ∀ b o, b ≠ I → h.get? b = some o → h'.get? b = some o) : GInv K μ g h' :=
  ⟨G.bas, fun a o e => k a o (by rintro rfl; rw [gn] at e; cases e) (G.sub a o e), fun p hp => by
    obtain ⟨y, o, z, t⟩ := G.mu p hp
    exact ⟨y, o, k _ o (by rintro e; exact nd ⟨p.2, e ▸ hp⟩) z, t⟩, G.nd⟩
theorem Inv.but {K : Frag} {env : Env} {g : Gh} {h h' : Heap} {I : Addr} (Iv : Inv K env ρ μ g h) (x : Aside env μ g I)
    (k : ∀ b o, b ≠ I → h.get? b = some o → h'.get? b = some o) : Inv K env ρ μ g h' := by
  refine ⟨Iv.gi.but x.gn x.nd k, ⟨?_, fun y e l1 l2 => ?_, Iv.lo.apart, fun y a e => ?_, Iv.lo.gl⟩, Iv.ap⟩
  · obtain ⟨m, hn, hm⟩ := Iv.lo.ns
    exact ⟨m, hn.at' fun o ho => k _ o (by rintro rfl; exact x.nw (.inl rfl)) ho, hm⟩
  · obtain ⟨a, v, e1, ⟨o, e2, e3⟩, e4⟩ := Iv.lo.cell y e l1 l2
    exact ⟨a, v, e1, ⟨o, k a o (by rintro rfl; exact x.nw (.inr ⟨y, e1⟩)) e2, e3⟩, e4⟩
  · obtain ⟨e1, e2, v, o, e3, e4⟩ := Iv.lo.cells y a e
    exact ⟨e1, e2, v, o, k a o (by rintro rfl; exact x.nw (.inr ⟨y, e⟩)) e3, e4⟩
theorem Step.after {wr : Addr → Prop} {μ' : Mu} {g g' : Gh} {s s' : Shared} {I : Addr} {h' : Heap} {tk : Nat} (x : Step wr μ μ' g g' s s') (hI : s.heap.get? I = none)
    (k : ∀ b o, b ≠ I → s'.heap.get? b = some o → h'.get? b = some o) : Step wr μ μ' g g' s { s' with heap := h', toks := tk } where
  eq := x.eq
  le := x.le
  new := x.new
  keep := fun b o n z e => k b o (by rintro rfl; rw [hI] at e; cases e) (x.keep b o n z e)
  alive := fun a e => by
    obtain ⟨o, ho⟩ := Option.isSome_iff_exists.mp (x.alive a e)
    show (h'.get? a).isSome = true
    rw [k a o (by rintro rfl; rw [hI] at e; cases e) ho]; rfl
  dom := x.dom

theorem Itr.frame {prog : Program} {w : World} {A : Around} {env : Env} {g₀ g g' : Gh} {h₀ : Heap} {I : Addr} {ds : List D} {fp wr : List Addr} {P : Nat → Value → Prop} {St : Nat → Heap → Prop} {wr' : Addr → Prop} {μ' : Mu} {s s' : Shared}
    (T : Itr prog w A g₀ h₀ I ds fp wr P St) (hg : Le g₀ g) (x : Aside env μ g I) (hw : ∀ b, wr' b → Wr env b) (G : GInv c.K μ' g' s'.heap) (G₀ : GInv c.K μ g s.heap) (st : Step wr' μ μ' g g' s s') {i : Nat} (h : St i s.heap) : St i s'.heap := by
  refine T.walks.frame i _ _ h fun b hb o e => ?_
  rcases T.foot b hb with rfl | ⟨o', z⟩
  · exact st.keep b o x.nd (fun q => x.nw (hw _ q)) e
  · have z' := hg _ _ z
    have := G₀.sub _ _ z'
    rw [this] at e; cases e
    exact G.sub _ _ (st.le _ _ z')

theorem ExS.for {x : Str} {xp pos : Pos} {iter : Expr} {body orelse : List Stmt}
    (h : EvI c ρ μ iter fun ds μ' => ∃ J : Nat → Rho → Mu → Prop, J 0 ρ μ' ∧
      (∀ i d ρ' μ', ds[i]? = some d → J i ρ' μ' → Ex c ((x, d) :: ρ') μ' body (fun fl ρ'' μ'' => match fl with | .next => J (i + 1) ρ'' μ'' | .ret d => Q (.ret d) ρ'' μ'')) ∧
      (∀ ρ' μ', J ds.length ρ' μ' → Ex c ρ' μ' orelse Q))
    (S : stoB c.env x = true := by rfl) (hf : ∀ v, foldedSetIterable iter c.env v = pure v := by intro _; rfl) : ExS c ρ μ (.For (.Name x xp) iter body orelse pos) Q := fun g s Iv => by
  refine wpAny_For (wpAny_mono (h g s Iv) (fun v s₁ p₁ => wpAny_mono p₁ (fun it s₂ p₂ => ?_) fun _ _ f => f) fun _ _ f => f) hf
  obtain ⟨g₂, μ₂, I, ds, fp, wr, P, St, rfl, G₂, st₂, T, hI, gI, nI, J, j0, jb, je⟩ := p₂
  have Iv₂ := Iv.step st₂ G₂
  have hw : ∀ z, Wr c.env z → ∃ o, s.heap.get? z = some o := Iv.lo.lt
  have As : Aside c.env μ₂ g₂ I := ⟨gI, nI, fun q => by obtain ⟨o, ho⟩ := hw I q; rw [hI] at ho; cases ho⟩
  refine codeAny_forLoop (fun n s' => ∃ i g' ρ' μ', i ≤ ds.length ∧ n = ds.length - i ∧ Inv c.K c.env ρ' μ' g' s'.heap ∧ Step (Wr c.env) μ μ' g g' s s' ∧ Le g₂ g' ∧ Aside c.env μ' g' I ∧ St i s'.heap ∧ J i ρ' μ') ?_ ds.length
    ⟨0, g₂, ρ, μ₂, Nat.zero_le _, rfl, Iv₂, st₂.wr, fun _ _ e => e, As, T.st, j0⟩
  rintro n s' ⟨i, g', ρ', μ', hi, rfl, I', st', le', as', hst, hj⟩
  by_cases hlt : i < ds.length
  · refine T.walks.item i s' _ _ hlt hst fun v h' tk hP hst' hk => ?_
    have hk' : ∀ b o, b ≠ I → s'.heap.get? b = some o → h'.get? b = some o := fun b o n e => hk b o (fun m => n (T.own b m)) e
    obtain ⟨d, hd, hden⟩ := T.item i v hP
    have I₁ := I'.but as' hk'
    have st₁ : Step (Wr c.env) μ μ' g g' s { s' with heap := h', toks := tk } := st'.after hI hk'
    refine wpAny_assign_Name (store_any I₁ S (hden.mono le') fun s₃ I₃ st₃ => ?_)
    replace st₃ := st₃.wk (wr' := Wr c.env) fun _ => WrX.wr
    have live : (h'.get? I).isSome = true := T.live _ _ hst'
    have as₃ := as'.step live st₃
    have hst₃ : St (i + 1) s₃.heap := T.frame (c := c) le' as' (fun _ q => q) I₃.gi I₁.gi st₃ hst'
    refine wpAny_mono (jb i d ρ' μ' hd hj g' s₃ I₃) (fun f s₄ p => ?_) fun _ _ f => f.elim
    obtain ⟨g₄, ρ₄, μ₄, fl, I₄, st₄, hf, q⟩ := p
    have st := (st₁.trans st₃).trans st₄
    cases fl with
    | next =>
      cases f <;> first
      | exact hf.elim
      | (exact ⟨ds.length - (i + 1), by omega, i + 1, g₄, ρ₄, μ₄, hlt, rfl, I₄, st, fun a o e => st₄.le a o (st₃.le a o (le' a o e)), as₃.step (T.live _ _ hst₃) st₄,
          T.frame (c := c) (fun a o e => st₃.le a o (le' a o e)) as₃ (fun _ q => q) I₄.gi I₃.gi st₄ hst₃, q⟩)
    | ret d => cases f <;> first | exact hf.elim | exact ⟨g₄, ρ₄, μ₄, .ret d, I₄, st, hf, q⟩
  · have hi' : i = ds.length := by omega
    subst hi'
    refine T.walks.done s' _ _ hst fun h' tk hk => ?_
    have hk' : ∀ b o, b ≠ I → s'.heap.get? b = some o → h'.get? b = some o := fun b o n e => hk b o (fun m => n (T.own b m)) e
    have I₁ := I'.but as' hk'
    have st₁ : Step (Wr c.env) μ μ' g g' s { s' with heap := h', toks := tk } := st'.after hI hk'
    exact wpAny_mono (je ρ' μ' hj g' _ I₁) (fun f s₄ p => p.trans st₁) fun _ _ f => f.elim
end
end Pb
end
section
open PySem PySem.W PySem.Calls PyProof.Rows PySem.Spec
set_option Elab.async false
set_option linter.unusedVariables false
set_option maxRecDepth 100000
namespace Pb

section
variable {K : Frag} {μ : Mu} {g : Gh} {s : Shared} {a : Addr} {d d' : D}

/-- the head mutable has changed -/
theorem GInv.upd {h h' : Heap} {o : Obj} (I : GInv K ((a, d) :: μ) g h) (k : ∀ b o, b ≠ a → h.get? b = some o → h'.get? b = some o) (ho : h'.get? a = some o) (x : ObjDen g a o d') : GInv K ((a, d') :: μ) g h' where
  bas := I.bas
  sub := fun b o e => k b o (by rintro rfl; rw [(I.mu _ (.head _)).1] at e; cases e) (I.sub b o e)
  mu := fun p hp => by
    have hnd := I.nd
    rw [List.map_cons, List.nodup_cons] at hnd
    rcases List.mem_cons.mp hp with rfl | hp
    · exact ⟨(I.mu (a, d) (.head _)).1, o, ho, x⟩
    · obtain ⟨y, o', z, t⟩ := I.mu p (.tail _ hp)
      exact ⟨y, o', k _ o' (by rintro e; exact hnd.1 (e ▸ List.mem_map_of_mem (f := (·.1)) hp : a ∈ μ.map (·.1))) z, t⟩
  nd := I.nd
theorem Step.upd {h' : Heap} {tk : Nat} (k : ∀ b o, b ≠ a → s.heap.get? b = some o → h'.get? b = some o) (live : (h'.get? a).isSome = true) : Step Nowr ((a, d) :: μ) ((a, d') :: μ) g g s { s with heap := h', toks := tk } where
  eq := ⟨rfl, rfl⟩
  le := fun _ _ e => e
  new := fun _ _ _ e => e
  keep := fun b o n _ e => k b o (by rintro rfl; exact n ⟨d, .head _⟩) e
  alive := fun b e => by
    show (h'.get? b).isSome = true
    by_cases q : b = a
    · subst q; exact live
    · obtain ⟨o, ho⟩ := Option.isSome_iff_exists.mp e
      rw [k b o q ho]; rfl
  dom := fun b ⟨e, hb⟩ => .inl (by
    rcases List.mem_cons.mp hb with h | h
    · cases h; exact ⟨d, .head _⟩
    · exact ⟨e, .tail _ h⟩)
theorem GPost.upd {h' : Heap} {tk : Nat} {o : Obj} {v : Value} {e : D} {Q : D → Mu → Prop} (I : GInv K ((a, d) :: μ) g s.heap) (k : ∀ b o, b ≠ a → s.heap.get? b = some o → h'.get? b = some o) (ho : h'.get? a = some o)
    (x : ObjDen g a o d') (n : Den g v e) (q : Q e ((a, d') :: μ)) : GPost K ((a, d) :: μ) g s Q v { s with heap := h', toks := tk } :=
  ⟨g, e, _, I.upd k ho x, Step.upd k (by rw [ho]; rfl), n, q⟩

/-- a new mutable -/
theorem GPost.newMu {h' : Heap} {tk : Nat} {o : Obj} {Q : D → Mu → Prop} (I : GInv K μ g s.heap) (k : ∀ b o, s.heap.get? b = some o → h'.get? b = some o) (ha : s.heap.get? a = none) (ho : h'.get? a = some o)
    (x : ObjDen g a o d) (q : Q (.raw (.ref a)) ((a, d) :: μ)) : GPost K μ g s Q (.ref a) { s with heap := h', toks := tk } := by
  obtain ⟨y1, y2, y3, y4, y5, y6⟩ := Step.grown (tk := tk) I k
  refine ⟨g, _, _, ⟨I.bas, fun b o e => k b o (I.sub b o e), fun p hp => ?_, ?_⟩, ⟨y1, y2, y3, y4, y5, fun b ⟨e, hb⟩ => ?_⟩, .rawD _, q⟩
  · rcases List.mem_cons.mp hp with rfl | hp
    · exact ⟨I.non ha, o, ho, x⟩
    · obtain ⟨y, o', z, t⟩ := I.mu p hp
      exact ⟨y, o', k _ _ z, t⟩
  · rw [List.map_cons, List.nodup_cons]
    refine ⟨fun hm => ?_, I.nd⟩
    obtain ⟨p, hp, e⟩ := List.mem_map.mp hm
    obtain ⟨_, o', z, _⟩ := I.mu p hp
    rw [e, ha] at z; cases z
  · rcases List.mem_cons.mp hb with h | h
    · cases h; exact .inr ha
    · exact .inl ⟨e, h⟩

/-- a mutable that is written no more -/
theorem Inv.freeze {env : Env} {ρ ρ' : Rho} {h : Heap} (I : Inv K env ρ ((a, d) :: μ) g h)
    (hr : ∀ x e, ρ'.lookup x = some e → ρ.lookup x = some e ∨ (ρ.lookup x = some (.raw (.ref a)) ∧ e = d)) :
    ∃ g', Inv K env ρ' μ g' h ∧ Le g g' ∧ (∀ b, ¬ Dom ((a, d) :: μ) b → g b = none → g' b = none) := by
  obtain ⟨gn, o, ho, hx⟩ := I.gi.mu (a, d) (.head _)
  have hnd := I.gi.nd
  rw [List.map_cons, List.nodup_cons] at hnd
  have nd : ¬ Dom μ a := fun ⟨e, he⟩ => hnd.1 (List.mem_map_of_mem (f := (·.1)) he)
  have G : GInv K μ g h := ⟨I.gi.bas, I.gi.sub, fun p hp => I.gi.mu p (.tail _ hp), hnd.2⟩
  have le := le_put (o := o) gn
  have hden : Den (put g a o) (.ref a) d := (hx.mono le).den put_self
  have nw : ¬ Wr env a := I.ap a ⟨d, .head _⟩
  have keep : ∀ b, ¬ Dom ((a, d) :: μ) b → g b = none → put g a o b = none := fun b n e => by
    rw [put_ne]
    · exact e
    · rintro rfl; exact n ⟨d, .head _⟩
  refine ⟨put g a o, ⟨G.put gn ho nd, ⟨?_, fun y e l1 l2 => ?_, I.lo.apart, fun y c e => ?_, ?_⟩, fun b ⟨e, hb⟩ => I.ap b ⟨e, .tail _ hb⟩⟩, le, keep⟩
  · obtain ⟨m, hn, hm⟩ := I.lo.ns
    refine ⟨m, hn, fun y e l1 l2 => ?_⟩
    rcases hr y e l1 with q | ⟨q, rfl⟩
    · obtain ⟨v, e1, e2⟩ := hm y e q l2
      exact ⟨v, e1, e2.mono le⟩
    · obtain ⟨v, e1, e2⟩ := hm y _ q l2
      rw [Den] at e2; subst e2
      exact ⟨_, e1, hden⟩
  · rcases hr y e l1 with q | ⟨q, rfl⟩
    · obtain ⟨c, v, e1, e2, e3⟩ := I.lo.cell y e q l2
      exact ⟨c, v, e1, e2, e3.mono le⟩
    · obtain ⟨c, v, e1, e2, e3⟩ := I.lo.cell y _ q l2
      rw [Den] at e3; subst e3
      exact ⟨c, _, e1, e2, hden⟩
  · obtain ⟨e1, e2, e3⟩ := I.lo.cells y c e
    exact ⟨by rw [put_ne]; exact e1; rintro rfl; exact nw (.inr ⟨y, e⟩), e2, e3⟩
  · rw [put_ne]
    · exact I.lo.gl
    · intro e; exact nw (.inl e.symm)
theorem Step.freeze {g' : Gh} (le : Le g g') (keep : ∀ b, ¬ Dom ((a, d) :: μ) b → g b = none → g' b = none) : Step Nowr ((a, d) :: μ) μ g g' s s :=
  ⟨⟨rfl, rfl⟩, le, fun b _ n e => keep b n e, fun _ _ _ _ e => e, fun _ e => e, fun b ⟨e, hb⟩ => .inl ⟨e, .tail _ hb⟩⟩
end

/-- the names of `ρ'` hold in `ρ` too -/
def Sub (ρ' ρ : Rho) : Prop := ∀ x d, ρ'.lookup x = some d → ρ.lookup x = some d
theorem Sub.refl {ρ : Rho} : Sub ρ ρ := fun _ _ e => e
theorem Sub.cons {ρ ρ' : Rho} {x : Str} {d : D} (h : Sub ρ' ρ) (e : ρ'.lookup x = none := by rfl) : Sub ρ' ((x, d) :: ρ) := fun y d' l => by
  rw [List.lookup_cons]
  by_cases q : y = x
  · subst q; rw [e] at l; cases l
  · rw [show (y == x) = false by simpa using q]; exact h y d' l
theorem Sub.both {ρ ρ' : Rho} {x : Str} {d : D} (h : Sub ρ' ρ) : Sub ((x, d) :: ρ') ((x, d) :: ρ) := fun y d' l => by
  rw [List.lookup_cons] at l ⊢
  by_cases q : y = x
  · subst q; simpa using l
  · rw [show (y == x) = false by simpa using q] at l ⊢; exact h y d' l
theorem Sub.nil {ρ : Rho} : Sub [] ρ := fun _ _ l => by simp at l
theorem Sub.trans {ρ ρ' ρ'' : Rho} (h : Sub ρ ρ') (k : Sub ρ' ρ'') : Sub ρ ρ'' := fun x d e => k x d (h x d e)
theorem Inv.sub {K : Frag} {env : Env} {ρ ρ' : Rho} {μ : Mu} {g : Gh} {h : Heap} (I : Inv K env ρ μ g h) (k : Sub ρ' ρ) : Inv K env ρ' μ g h :=
  ⟨I.gi, ⟨let ⟨m, a, b⟩ := I.lo.ns; ⟨m, a, fun x d e1 e2 => b x d (k x d e1) e2⟩, fun x d e1 e2 => I.lo.cell x d (k x d e1) e2, I.lo.apart, I.lo.cells, I.lo.gl⟩, I.ap⟩

section
variable {c : Cx} {ρ : Rho} {μ : Mu} {Q : Fl → Rho → Mu → Prop} {QD : D → Mu → Prop} {a : Addr}

theorem Ex.sub {ρ' : Rho} {ss : List Stmt} (k : Sub ρ' ρ) (h : Ex c ρ' μ ss Q) : Ex c ρ μ ss Q := fun g s I => h g s (I.sub k)
theorem Ex.freeze {ρ' : Rho} {d : D} {ss : List Stmt} (hr : ∀ x e, ρ'.lookup x = some e → ρ.lookup x = some e ∨ (ρ.lookup x = some (.raw (.ref a)) ∧ e = d)) (h : Ex c ρ' μ ss Q) : Ex c ρ ((a, d) :: μ) ss Q := fun g s I => by
  obtain ⟨g', I', le, keep⟩ := I.freeze hr
  exact wpAny_mono (h g' s I') (fun _ _ p => p.trans (Step.freeze le keep).wr) fun _ _ f => f
/-- the frozen name: first in the list of names -/
theorem Ex.freezeHd {ρ' : Rho} {d : D} {x : Str} {ss : List Stmt} (k : Sub ((x, .raw (.ref a)) :: ρ') ρ) (h : Ex c ((x, d) :: ρ') μ ss Q) : Ex c ρ ((a, d) :: μ) ss Q :=
  Ex.freeze (fun y e l => by
    rw [List.lookup_cons] at l
    by_cases q : y = x
    · subst q
      simp only [beq_self_eq_true, Option.some.injEq] at l
      exact .inr ⟨k y _ (by rw [List.lookup_cons]; simp), l.symm⟩
    · rw [show (y == x) = false by simpa using q] at l
      exact .inl (k y e (by rw [List.lookup_cons, show (y == x) = false by simpa using q]; exact l))) h

/- new mutables -/
theorem Bas.modules {K : Frag} {h : Heap} (B : Bas K h) {b : Addr} (hb : h.objs.size ≤ b) : b ≠ sysModules := by
  obtain ⟨mg, mb, G, _, _⟩ := B.glob
  have h1 := G.lt
  have h2 : sysModules < mainGlobals := by decide
  intro e; rw [e] at hb
  exact absurd (Nat.lt_of_lt_of_le (Nat.lt_trans h2 h1) hb) (Nat.lt_irrefl _)
theorem Ev.newL {pos : Pos} (q : ∀ a, QD (.raw (.ref a)) ((a, .lst []) :: μ)) : Ev c ρ μ (.List [] pos) QD := fun g s I => by
  refine List_ (spliced_nil (wpAny_newList ?_ (by size_fits)))
  exact GPost.newMu (d := .lst []) (o := { cls := .type "list", data := .seq [].toArray }) (tk := s.toks) I.gi (fun _ _ e => Heap.get?_push_of_some _ e) (fresh_size (Nat.le_refl _)) (Heap.get?_push_size _ rfl)
    ⟨#[], 0, rfl, DenL.nil⟩ (q _)
theorem Ev.newD {pos : Pos} (q : ∀ a, QD (.raw (.ref a)) ((a, .dct []) :: μ)) : Ev c ρ μ (.Dict [] [] pos) QD := fun g s I => by
  have B := I.gi.base
  refine wpAny_Dict_empty (GPost.newMu (d := .dct []) (o := { cls := .type "dict", data := .dict #[] }) (tk := s.toks) I.gi (fun _ _ e => Heap.get?_push_of_some _ e) (fresh_size (Nat.le_refl _)) (Heap.get?_push_size _ rfl)
    ⟨B.modules (Nat.le_refl _), [], 0, rfl, by rw [DenKV]; trivial, List.nodup_nil⟩ (q _))
theorem Ev.vec {es : List Expr} {pos : Pos} (h : EvL c ρ μ es fun ds μ₁ => ds.length ≤ 1000 ∧ ∀ a, QD (.raw (.ref a)) ((a, .vec ds) :: μ₁)) : Ev c ρ μ (.List es pos) QD := fun g s I => by
  refine List_ (wpAny_mono (h _ g s I) (fun vs s₁ p₁ => ?_) fun _ _ f => f)
  obtain ⟨g₁, ds, μ₁, I₁, st₁, n₁, hl, q₁⟩ := p₁
  refine wpAny_newList ((GPost.newMu (d := .vec ds) (o := { cls := .type "list", data := .seq vs.toArray }) (tk := s₁.toks) I₁ (fun _ _ e => Heap.get?_push_of_some _ e) (fresh_size (Nat.le_refl _)) (Heap.get?_push_size _ rfl)
    ⟨rfl, _, _, rfl, n₁⟩ (q₁ _)).trans st₁) (by rw [n₁.length]; exact small_line hl)

/- methods -/
def Meth (c : Cx) (μ : Mu) (d : D) (name : Str) (f : Value) (ds : List D) : Prop :=
  ∀ g s v pl (R : Value × List Value → Shared → Prop) (E : Value → Shared → Prop), GInv c.K μ g s.heap → Den g v d → (∀ vs, DenL g vs ds → R (f, vs) s) → wpAny c.M c.A (getMethod v name pl) R E s
theorem Ev.meth {o : Expr} {name : Str} {apos pos : Pos} {args : List Expr} (h : Ev c ρ μ o fun d₁ μ₁ => ∃ f ds₀, Meth c μ₁ d₁ name f ds₀ ∧ Keep c.K f ∧ EvL c ρ μ₁ args fun ds μ₂ => OpC c μ₂ f (ds₀ ++ ds) QD)
    (hp : (args.all fun e => match e with | .Starred .. => false | _ => true) = true := by rfl)
    (he : ∃ pl, eval (.Call (.Attribute o name apos) args [] pos) c.env = (do
      let ov ← eval o c.env
      standAt apos.atName
      let (f, first) ← holding [ov] (getMethod ov name pl)
      callWith pos f first (backTo pos (starEach args c.env)) (backToKw pos (keywordEach [] c.env))) := by exact ⟨_, rfl⟩) : Ev c ρ μ (.Call (.Attribute o name apos) args [] pos) QD := fun g s I => by
  obtain ⟨pl, he⟩ := he
  rw [he]
  refine wpAny_bind (wpAny_mono (h g s I) (fun v₁ s₁ p₁ => ?_) fun _ _ f => f)
  obtain ⟨g₁, d₁, μ₁, I₁, st₁, n₁, f, ds₀, hm, hk, q₁⟩ := p₁.inv I
  refine wpAny_bind (wpAny_standAt (wpAny_bind (wpAny_holding (hm g₁ s₁ v₁ pl _ _ I₁.gi n₁ fun vs₀ n₀ => ?_))))
  refine callWith_any hk hp (wpAny_mono (q₁ pos g₁ s₁ I₁) (fun vs s₂ p₂ => ?_) fun _ _ f => f)
  obtain ⟨g₂, ds, μ₂, I₂, st₂, n₂, q₂⟩ := p₂.inv I₁
  refine ⟨I₂.gi.base.mem, wpAny_mono (q₂ g₂ s₂ _ I₂.gi ((n₀.mono st₂.le).append n₂)) (fun v s' p => p.trans (st₁.trans st₂)) fun _ _ f => f⟩

theorem Meth.append {d : D} {xs : List D} (h : (a, .lst xs) ∈ μ) (hd : d = .raw (.ref a)) : Meth c μ d "append" (.builtin "list.append") [.raw (.ref a)] := fun g s v pl R E I n k => by
  subst hd; rw [Den] at n; subst n
  obtain ⟨_, o, ho, vs, z, rfl, _⟩ := I.mu _ h
  exact PySem.Calls.getMethod_list_append ho rfl rfl (k _ (DenL.one (.rawD _)))
theorem Meth.get {l : List (Int × D)} : Meth c μ (.dct l) "get" (.builtin "dict.get") [.dct l] := fun g s v pl R E I n k => by
  have n' := n
  rw [Den] at n
  obtain ⟨a, es, z, rfl, _, ho, _, _⟩ := n
  have hg := I.sub _ _ ho
  exact getMethod_builtin ⟨_, hg, rfl⟩ PySem.F.plainAttrs_dict PySem.F.slot_dict_get PySem.F.type_dict_get (fun b e => by cases e; exact ⟨_, hg, rfl⟩) (k _ (DenL.one n'))
theorem Meth.getMu {d : D} {l : List (Int × D)} (h : (a, .dct l) ∈ μ) (hd : d = .raw (.ref a)) : Meth c μ d "get" (.builtin "dict.get") [.raw (.ref a)] := fun g s v pl R E I n k => by
  subst hd; rw [Den] at n; subst n
  obtain ⟨_, o, ho, _, es, z, rfl, _⟩ := I.mu _ h
  exact getMethod_builtin ⟨_, ho, rfl⟩ PySem.F.plainAttrs_dict PySem.F.slot_dict_get PySem.F.type_dict_get (fun b e => by cases e; exact ⟨_, ho, rfl⟩) (k _ (DenL.one (.rawD _)))

theorem OpC.append {d : D} {xs : List D} (hl : xs.length ≤ 10000) (q : QD .none ((a, .lst (xs ++ [d])) :: μ)) : OpC c ((a, .lst xs) :: μ) (.builtin "list.append") [.raw (.ref a), d] QD := fun g s vs I n => by
  obtain ⟨v, us, rfl, n1, n2⟩ := n.inv'
  obtain ⟨x, us', rfl, n2, n3⟩ := n2.inv'
  rw [n3.invNil]
  rw [Den] at n1; subst n1
  obtain ⟨_, o, ho, its, z, rfl, hx⟩ := I.mu _ (.head _)
  have hlen := hx.length
  rw [Array.length_toList] at hlen
  have ho' : s.heap.get? a = some { cls := .type "list", dict := none, data := .seq its z, slots := #[] } := ho
  refine call_meets slot_list_append ⟨_, ho, rfl⟩ entry_list_append (args_list_append _ _) (PySem.list_append a its z x (by rw [sizeLine_eq]; omega)) ⟨ho', ?_⟩
  refine GPost.upd (d' := .lst (xs ++ [d])) (tk := s.toks) (e := .none) I (fun b o n e => (Heap.get?_update_other _ _ (Ne.symm n)).trans e) (IsL.update ho' _) ⟨_, _, rfl, ?_⟩ .noneD q
  rw [Array.toList_push]
  exact hx.append (.one n2)
theorem getD_at {g : Gh} {kvs : List (Int × Value)} {l : List (Int × D)} {k : Int} {v : Value} {d : D} (x : DenP g kvs l) (n : Den g v d) : Den g ((valueAt kvs k).getD v) ((l.lookup k).getD d) := by
  have := x.at_ k
  cases h1 : l.lookup k <;> cases h2 : valueAt kvs k <;> rw [h1, h2] at this <;> first | exact this.elim | exact this | exact n
theorem OpC.get {d : D} {l : List (Int × D)} {k : Int} (q : QD ((l.lookup k).getD d) μ) : OpC c μ (.builtin "dict.get") [.dct l, .int k, d] QD := fun g s vs I n => by
  obtain ⟨v, us, rfl, n1, m2⟩ := n.inv'
  obtain ⟨x, us', rfl, n2, m3⟩ := m2.inv'
  obtain ⟨y, us', rfl, n3, n4⟩ := m3.inv'
  rw [n4.invNil]
  rw [Den] at n1; rw [Den] at n2
  obtain ⟨a, es, z, rfl, hs, ho, hx, hn⟩ := n1
  obtain ⟨t, rfl⟩ := n2
  obtain ⟨kvs, hd, hp⟩ := dictAt_of (prog := c.prog) (w := c.w) (I.sub _ _ ho) hx hn
  refine call_meetsIn PySem.F.slot_dict_get hd.dictOf.typeIs PySem.F.entry_dict_get (PySem.F.args_dict_get_3 _ _ _) (meets_dict_get_default (intKind c.prog c.w) a (isInt_self k t) (by simpa using hs) y) ⟨_, hd.dictOf.mapOf, ?_⟩
  exact GPost.same I _ (getD_at hp n3) q
theorem OpC.getMu {d : D} {l : List (Int × D)} {k : Int} (h : (a, .dct l) ∈ μ) (q : QD ((l.lookup k).getD d) μ) : OpC c μ (.builtin "dict.get") [.raw (.ref a), .int k, d] QD := fun g s vs I n => by
  obtain ⟨v, us, rfl, n1, m2⟩ := n.inv'
  obtain ⟨x, us', rfl, n2, m3⟩ := m2.inv'
  obtain ⟨y, us', rfl, n3, n4⟩ := m3.inv'
  rw [n4.invNil]
  rw [Den] at n1; rw [Den] at n2
  subst n1
  obtain ⟨_, o, ho, hs, es, z, rfl, hx, hn⟩ := I.mu _ h
  obtain ⟨t, rfl⟩ := n2
  obtain ⟨kvs, hd, hp⟩ := dictAt_of (prog := c.prog) (w := c.w) ho hx hn
  refine call_meetsIn PySem.F.slot_dict_get hd.dictOf.typeIs PySem.F.entry_dict_get (PySem.F.args_dict_get_3 _ _ _) (meets_dict_get_default (intKind c.prog c.w) a (isInt_self k t) (by simpa using hs) y) ⟨_, hd.dictOf.mapOf, ?_⟩
  exact GPost.same I _ (getD_at hp n3) q

/-- an expression for its effect -/
theorem ExS.expr {e : Expr} {pos : Pos} (h : Ev c ρ μ e fun d μ' => d = .none ∧ Q .next ρ μ') (hi : interactive c.env = false := by rfl) (hs : swapsWith e none pos.line c.env = pure false := by rfl) : ExS c ρ μ (.Expr e pos) Q := fun g s I => by
  refine wpAny_Expr (wpAny_mono (h g s I) (fun v s₁ p₁ => ?_) fun _ _ f => f) hi hs
  obtain ⟨g₁, d₁, μ₁, I₁, st₁, n₁, rfl, q₁⟩ := p₁.inv I
  rw [Den] at n₁; subst n₁
  exact ⟨g₁, ρ, μ₁, .next, I₁, st₁.wr, trivial, q₁⟩

/- stores at a subscript -/
def OpSet (c : Cx) (μ : Mu) (d k v : D) (Q : Mu → Prop) : Prop :=
  ∀ g s u i x, GInv c.K μ g s.heap → Den g u d → Den g i k → Den g x v → wpAny c.M c.A (setItem u i x) (fun _ s' => GPost c.K μ g s (fun _ μ' => Q μ') .none s') Never s
theorem ExS.setSub {value o i : Expr} {p pos : Pos} (h : Ev c ρ μ value fun dv μ₁ => Ev c ρ μ₁ o fun d μ₂ => Ev c ρ μ₂ i fun k μ₃ => OpSet c μ₃ d k dv (Q .next ρ))
    (hs : swapsWith value (some (.Subscript o i p)) pos.line c.env = pure false := by rfl) : ExS c ρ μ (.Assign [.Subscript o i p] value pos) Q := fun g s I => by
  refine wpAny_Assign_Subscript (wpAny_mono (h g s I) (fun v₁ s₁ p₁ => ?_) fun _ _ f => f) hs
  obtain ⟨g₁, d₁, μ₁, I₁, st₁, n₁, q₁⟩ := p₁.inv I
  refine wpAny_mono (q₁ g₁ s₁ I₁) (fun v₂ s₂ p₂ => ?_) fun _ _ f => f
  obtain ⟨g₂, d₂, μ₂, I₂, st₂, n₂, q₂⟩ := p₂.inv I₁
  refine wpAny_mono (q₂ g₂ s₂ I₂) (fun v₃ s₃ p₃ => ?_) fun _ _ f => f
  obtain ⟨g₃, d₃, μ₃, I₃, st₃, n₃, q₃⟩ := p₃.inv I₂
  refine wpAny_mono (q₃ g₃ s₃ v₂ v₃ v₁ I₃.gi (n₂.mono st₃.le) n₃ ((n₁.mono st₂.le).mono st₃.le)) (fun _ s₄ p₄ => ?_) fun _ _ f => f
  obtain ⟨g₄, d₄, μ₄, I₄, st₄, _, q₄⟩ := p₄.inv I₃
  exact ⟨g₄, ρ, μ₄, .next, I₄, (((st₁.trans st₂).trans st₃).trans st₄).wr, trivial, q₄⟩
theorem OpSet.dict {l : List (Int × D)} {k : Int} {v : D} {QM : Mu → Prop} (hl : l.length ≤ 10000) (q : QM ((a, .dct (sto l k v)) :: μ)) : OpSet c ((a, .dct l) :: μ) (.raw (.ref a)) (.int k) v QM := fun g s u i x I n1 n2 n3 => by
  rw [Den] at n1; rw [Den] at n2
  subst n1
  obtain ⟨t, rfl⟩ := n2
  obtain ⟨_, o, ho, hs, es, z, rfl, hx, hn⟩ := I.mu _ (.head _)
  obtain ⟨kvs, hd, hp⟩ := dictAt_of (prog := c.prog) (w := c.w) ho hx hn
  refine wpAny_setItem_pairs (isInt_self k t) hd.dictOf (fun h' hd' sb => ?_) (by rw [hp.length, sizeLine_eq]; omega)
  obtain ⟨o', ho', hx'⟩ := objDen_of hd' hs (hp.stored n3)
  exact GPost.upd (d' := .dct (sto l k v)) (e := .none) I (fun b o n e => (sb.2 b n).trans e) ho' hx' .noneD q
theorem DenL.set {g : Gh} : ∀ {vs : List Value} {ds : List D} (i : Nat) {v : Value} {d : D}, DenL g vs ds → Den g v d → DenL g (vs.set i v) (ds.set i d)
  | [], [], _, _, _, _, _ => by simp [DenL]
  | _ :: _, _ :: _, 0, _, _, x, n => by rw [DenL] at x; exact DenL.cons n x.2
  | _ :: _, _ :: _, i + 1, _, _, x, n => by rw [DenL] at x; exact DenL.cons x.1 (x.2.set i n)
  | [], _ :: _, _, _, _, x, _ => by simp [DenL] at x
  | _ :: _, [], _, _, _, x, _ => by simp [DenL] at x
theorem OpSet.vec {l : List D} {k : Int} {v : D} {QM : Mu → Prop} (h0 : 0 ≤ k) (h1 : k < l.length) (h2 : k < 2 ^ 63) (q : QM ((a, .vec (l.set k.toNat v)) :: μ)) : OpSet c ((a, .vec l) :: μ) (.raw (.ref a)) (.int k) v QM := fun g s u i x I n1 n2 n3 => by
  rw [Den] at n1; rw [Den] at n2
  subst n1
  obtain ⟨t, rfl⟩ := n2
  obtain ⟨_, o, ho, hc, its, z, hdt, hx⟩ := I.mu _ (.head _)
  have hlen := hx.length
  rw [Array.length_toList] at hlen
  refine wpAny_setItem_list ⟨_, ho, hc, z, hdt⟩ h0 h2 (by omega) fun h' hl' sb => ?_
  obtain ⟨o', ho', hc', z', hdt'⟩ := hl'
  refine GPost.upd (d' := .vec (l.set k.toNat v)) (tk := s.toks) (e := .none) I (fun b o n e => (sb.2 b n).trans e) ho' ⟨hc', _, z', hdt', ?_⟩ .noneD q
  rw [Array.toList_setIfInBounds]
  exact hx.set _ n3
end
end Pb
end
section
open PySem PySem.W PySem.Calls PyProof.Rows PySem.Spec
set_option Elab.async false
set_option linter.unusedVariables false
set_option maxRecDepth 100000
namespace Pb

section
variable {c : Cx} {ρ : Rho} {μ : Mu} {Q : Fl → Rho → Mu → Prop} {QD : D → Mu → Prop} {QI : List D → Mu → Prop} {a : Addr}

theorem IPost.mk' {g : Gh} {s : Shared} {o : Obj} {ds : List D} {fp wr : List Addr} {P : Nat → Value → Prop} {St : Nat → Heap → Prop} (I : GInv c.K μ g s.heap) (no : o.isFreed = false)
    (T : Itr c.prog c.w c.A g (s.heap.push o) s.heap.objs.size ds fp wr P St) (q : QI ds μ) : IPost c μ g s QI (.ref s.heap.objs.size) { s with heap := s.heap.push o } := by
  have f := fresh_size (h := s.heap) (Nat.le_refl _)
  exact ⟨g, μ, s.heap.objs.size, ds, fp, wr, P, St, rfl, I.keeps (fun _ _ e => Heap.get?_push_of_some _ e), Step.grown (tk := s.toks) I (fun _ _ e => Heap.get?_push_of_some _ e), T, f, I.non f, I.domNone f, q⟩

theorem OpI.lst (hh : c.A.handled = none) {ds : List D} (q : QI ds μ) : OpI c μ (.lst ds) QI := fun g s v I n => by
  rw [Den] at n
  obtain ⟨a, vs, z, rfl, ha, hx⟩ := n
  have ho := I.sub _ _ ha
  have hl : s.heap.IsList a vs := ⟨_, ho, rfl, z, rfl⟩
  have hlen := hx.length
  rw [Array.length_toList] at hlen
  have hne : a ≠ s.heap.objs.size := Nat.ne_of_lt (Heap.lt_size ho)
  have W := Walks.list (prog := c.prog) (w := c.w) hh _ a hne vs
  rw [hlen] at W
  refine wpAny_pyIter_list hl (IPost.mk' I rfl (T := ⟨W, by simp, fun b hb => ?_, fun i v hP => ?_, ⟨⟨_, Heap.get?_push_size _ rfl, rfl, rfl⟩, hl.at fun o e => Heap.get?_push_of_some _ e⟩, fun i h st => ?_⟩) q)
  · simp only [List.mem_cons, List.not_mem_nil, or_false] at hb
    rcases hb with rfl | rfl
    · exact .inl rfl
    · exact .inr ⟨_, ha⟩
  · exact hx.get (by rw [Array.getElem?_toList]; exact hP)
  · obtain ⟨⟨o, ho, _⟩, _⟩ := st; rw [ho]; rfl
theorem OpI.tup (hh : c.A.handled = none) {ds : List D} (q : QI ds μ) : OpI c μ (.tup ds) QI := fun g s v I n => by
  rw [Den] at n
  obtain ⟨a, vs, z, rfl, ha, hx⟩ := n
  have ho := I.sub _ _ ha
  have hl : IsTup s.heap a vs := ⟨_, ho, rfl, z, rfl⟩
  have hlen := hx.length
  rw [Array.length_toList] at hlen
  have hne : a ≠ s.heap.objs.size := Nat.ne_of_lt (Heap.lt_size ho)
  have W := Walks.tuple (prog := c.prog) (w := c.w) hh _ a hne vs
  rw [hlen] at W
  refine iter_tuple hl (IPost.mk' I rfl (T := ⟨W, by simp, fun b hb => ?_, fun i v hP => ?_, ⟨⟨_, Heap.get?_push_size _ rfl, rfl, rfl⟩, ⟨_, Heap.get?_push_of_some _ ho, rfl, z, rfl⟩⟩, fun i h st => ?_⟩) q)
  · simp only [List.mem_cons, List.not_mem_nil, or_false] at hb
    rcases hb with rfl | rfl
    · exact .inl rfl
    · exact .inr ⟨_, ha⟩
  · exact hx.get (by rw [Array.getElem?_toList]; exact hP)
  · obtain ⟨⟨o, ho, _⟩, _⟩ := st; rw [ho]; rfl
theorem DenP.get {g : Gh} : ∀ {kvs : List (Int × Value)} {l : List (Int × D)} {i : Nat} {k : Int} {v : Value}, DenP g kvs l → kvs[i]? = some (k, v) → (l.map fun p => D.int p.1)[i]? = some (.int k)
  | (_, _) :: _, (_, _) :: _, 0, _, _, ⟨e, _, _⟩, h => by simp at h ⊢; rw [← e, h.1]
  | (_, _) :: _, (_, _) :: _, i + 1, _, _, ⟨_, _, r⟩, h => by simpa using DenP.get (i := i) r (by simpa using h)
  | [], _, _, _, _, _, h => by simp at h
  | _ :: _, [], _, _, _, x, _ => x.elim
theorem OpI.dct (hh : c.A.handled = none) {l : List (Int × D)} (q : QI (l.map fun p => .int p.1) μ) : OpI c μ (.dct l) QI := fun g s v I n => by
  rw [Den] at n
  obtain ⟨a, es, z, rfl, hs, ha, hx, hn⟩ := n
  have ho := I.sub _ _ ha
  obtain ⟨kvs, hd, hp⟩ := dictAt_of (prog := c.prog) (w := c.w) ho hx hn
  have hlen : kvs.length = (l.map fun p => D.int p.1).length := by rw [hp.length, List.length_map]
  have hne : a ≠ s.heap.objs.size := Nat.ne_of_lt (Heap.lt_size ho)
  have W := Walks.dictKeys (prog := c.prog) (w := c.w) (knd := intKind c.prog c.w) hh _ a hne kvs z
  have T : Itr c.prog c.w c.A g (s.heap.push { cls := .type "dict_keyiterator", data := .fields #[.ref a, .int 0 0, .int kvs.length 0, .int z 0] }) s.heap.objs.size (l.map fun p => D.int p.1) [s.heap.objs.size, a] [s.heap.objs.size] (fun i v => ∃ k x, kvs[i]? = some (k, x) ∧ (intKind c.prog c.w).is k v = true) (fun i h => h.IsKeyIter s.heap.objs.size a i kvs.length z ∧ h.DictAt (intKind c.prog c.w) a kvs z) :=
    ⟨by rw [← hlen]; exact W, by simp, fun b hb => ?_, fun i v hP => ?_, ⟨⟨_, Heap.get?_push_size _ rfl, rfl, rfl⟩, hd.at' fun o e => Heap.get?_push_of_some _ e⟩, fun i h st => ?_⟩
  · exact wpAny_pyIter_dict (by simpa using hs) hd (IPost.mk' I rfl T q)
  · simp only [List.mem_cons, List.not_mem_nil, or_false] at hb
    rcases hb with rfl | rfl
    · exact .inl rfl
    · exact .inr ⟨_, ha⟩
  · obtain ⟨k, x, e, hk⟩ := hP
    obtain ⟨t, rfl⟩ := Value.isInt_shape hk
    exact ⟨_, hp.get e, .intD _ _⟩
  · obtain ⟨⟨o, ho, _⟩, _⟩ := st; rw [ho]; rfl
def rngL (a b : Int) : List D := (List.range (b - a).toNat).map fun (i : Nat) => .int (a + (i : Int))
theorem OpI.rng (hh : c.A.handled = none) {a b : Int} (h1 : -(2 ^ 62) ≤ a ∧ a < 2 ^ 62 ∧ -(2 ^ 62) ≤ b ∧ b < 2 ^ 62) (q : QI (rngL a b) μ) : OpI c μ (.rng a b) QI := fun g s v I n => by
  rw [Den] at n
  obtain ⟨r, t, u, x, rfl, hr⟩ := n
  have ho : IsRange s.heap r a b 1 t u x := I.sub _ _ hr
  have hlen : (b - a).toNat = (rngL a b).length := by simp [rngL]
  have hsz : Builtin.Range.rangeSize a b 1 = ((b - a).toNat : Int) := by rw [rangeSize_one]; split <;> omega
  have W := (Walks.range (prog := c.prog) (w := c.w) hh s.heap.objs.size a 1 (b - a).toNat).bound
  refine wpAny_pyIter_range ho (small_one h1.1 h1.2.1 h1.2.2.1 h1.2.2.2) (IPost.mk' I rfl (T := ⟨by rw [← hlen]; exact W, by simp, fun b hb => ?_, fun i v hP => ?_, ?_, fun i h st => ?_⟩) q)
  · exact .inl (by simpa using hb)
  · obtain ⟨hi, t, rfl⟩ := hP
    refine ⟨.int (a + i * 1), ?_, .intD _ _⟩
    simp [rngL, hi]
  · show IsRangeIter _ _ _ _ _
    rw [hsz]; simpa using Heap.get?_push_size _ rfl
  · rw [st]; rfl
theorem OpC.rng1 {b : Int} (q : QD (.rng 0 b) μ) : OpC c μ (.type "range") [.int b] QD := fun g s vs I n => by
  obtain ⟨v, us, rfl, n1, m2⟩ := n.inv'
  rw [m2.invNil]
  rw [Den] at n1
  obtain ⟨t, rfl⟩ := n1
  exact call_range_1 (GPost.made (d := .rng 0 b) I (fun _ _ e => Heap.get?_push_of_some _ e) (fresh_size (Nat.le_refl _)) (Heap.get?_push_size _ rfl) ⟨_, _, _, rfl⟩ q)
theorem OpC.rng2 {a b : Int} (q : QD (.rng a b) μ) : OpC c μ (.type "range") [.int a, .int b] QD := fun g s vs I n => by
  obtain ⟨v, us, rfl, n1, m2⟩ := n.inv'
  obtain ⟨v', us', rfl, n2, m3⟩ := m2.inv'
  rw [m3.invNil]
  rw [Den] at n1 n2
  obtain ⟨t, rfl⟩ := n1
  obtain ⟨t', rfl⟩ := n2
  exact call_range_2 (GPost.made (d := .rng a b) I (fun _ _ e => Heap.get?_push_of_some _ e) (fresh_size (Nat.le_refl _)) (Heap.get?_push_size _ rfl) ⟨_, _, _, rfl⟩ q)

/- three names at once -/
theorem draw_any {prog : Program} {w : World} {A : Around} {g : Gh} {h₀ : Heap} {I : Addr} {ds : List D} {fp wr : List Addr} {P : Nat → Value → Prop} {St : Nat → Heap → Prop} (T : Itr prog w A g h₀ I ds fp wr P St) :
    ∀ (n i : Nat) (s : Shared) (R : List Value → Shared → Prop), i + n ≤ ds.length → St i s.heap →
      (∀ vs h' tk, DenL g vs ((ds.drop i).take n) → St (i + n) h' → (∀ b o, b ≠ I → s.heap.get? b = some o → h'.get? b = some o) → R vs { s with heap := h', toks := tk }) → wpAny (model prog w) A (draw (.ref I) n) R Never s
  | 0, i, s, R, _, st, h => by
    show wpAny _ _ (pure []) _ _ s
    exact wpAny_pure (h [] s.heap s.toks (by simp [DenL]) st fun _ _ _ e => e)
  | n + 1, i, s, R, hle, st, h => by
    show wpAny _ _ (pyNext (.ref I) >>= _) _ _ s
    refine wpAny_bind (T.walks.item i s _ _ (by omega) st fun v h₁ tk hP st₁ hk => ?_)
    obtain ⟨d, hd, hden⟩ := T.item i v hP
    refine wpAny_bind (wpAny_holding (draw_any T n (i + 1) _ _ (by omega) st₁ fun vs h₂ tk₂ hvs st₂ hk₂ => wpAny_pure ?_))
    have hlt : i < ds.length := by omega
    have e : ds.drop i = d :: ds.drop (i + 1) := by
      rw [List.drop_eq_getElem_cons hlt]
      rw [List.getElem?_eq_getElem hlt] at hd
      rw [Option.some.inj hd]
    refine h _ h₂ tk₂ ?_ (by rw [show i + (n + 1) = i + 1 + n by omega]; exact st₂) fun b o n e => hk₂ b o n (hk b o (fun m => n (T.own b m)) e)
    rw [e, List.take_succ_cons]
    exact DenL.cons hden hvs
theorem unpackList {g : Gh} {s : Shared} {R : List Value → Shared → Prop} {ds : List D} {v : Value} {n : Nat} (hh : c.A.handled = none) (I : GInv c.K μ g s.heap) (n₁ : Den g v (.lst ds)) (hn : ds.length = n)
    (h : ∀ g' vs s', DenL g' vs ds → GInv c.K μ g' s'.heap → Step Nowr μ μ g g' s s' → R vs s') : wpAny c.M c.A (unpackItems v n none) R Never s := by
  have n₂ := n₁
  rw [Den] at n₁
  obtain ⟨a, vs, z, rfl, ha, hx⟩ := n₁
  have ho := I.sub _ _ ha
  have hl : s.heap.IsList a vs := ⟨_, ho, rfl, z, rfl⟩
  unfold unpackItems
  refine wpAny_bind ?_
  unfold notIterableAtAll
  refine wpAny_bind (wpAny_specialOf hl.typeIs slot_list_iter.lookup ?_)
  refine wpAny_pure ?_
  simp only [Bool.false_eq_true, if_false]
  refine wpAny_bind (wpAny_holding (wpAny_mono (OpI.lst (QI := fun ds' μ' => ds' = ds ∧ μ' = μ) hh ⟨rfl, rfl⟩ g s _ I n₂) (fun it s₁ p => ?_) fun _ _ f => f))
  obtain ⟨g₁, μ₁, J, ds', fp, wr, P, St, rfl, G₁, st₁, T, f, gi, nd, rfl, rfl⟩ := p
  refine wpAny_bind (wpAny_holding (draw_any T n 0 s₁ _ (by omega) T.st fun ws h₂ tk₂ hws st₂ hk₂ => ?_))
  rw [List.drop_zero, List.take_of_length_le (by omega)] at hws
  rw [if_neg (by rw [hws.length]; omega)]
  have e : 0 + n = ds'.length := by omega
  rw [e] at st₂
  refine wpAny_bind (wpAny_holding (T.walks.done _ _ _ st₂ fun h₃ tk₃ hk₃ => ?_))
  simp only [Option.isSome_none, Bool.false_eq_true, if_false]
  have k : ∀ b o, b ≠ J → s₁.heap.get? b = some o → h₃.get? b = some o := fun b o n e => hk₃ b o (fun m => n (T.own b m)) (hk₂ b o n e)
  exact wpAny_pure (h g₁ ws _ hws (G₁.but gi nd k) (st₁.after f k))

theorem ExS.unpack3 {x y z : Str} {p1 p2 p3 tp pos : Pos} {k : Nat} {value : Expr} (hh : c.A.handled = none)
    (h : Ev c ρ μ value fun d μ' => ∃ d1 d2 d3, d = .lst [d1, d2, d3] ∧ Q .next ((z, d3) :: (y, d2) :: (x, d1) :: ρ) μ')
    (S1 : stoB c.env x = true := by rfl) (S2 : stoB c.env y = true := by rfl) (S3 : stoB c.env z = true := by rfl)
    (hs : swapsWithSole [.Tuple [.Name x p1, .Name y p2, .Name z p3] k tp] value pos.line c.env = pure false := by rfl)
    (hw : swappedStores [.Tuple [.Name x p1, .Name y p2, .Name z p3] k tp] value c.env = pure none := by rfl) : ExS c ρ μ (.Assign [.Tuple [.Name x p1, .Name y p2, .Name z p3] k tp] value pos) Q := fun g s I => by
  refine Assign_Tuple (wpAny_mono (h g s I) (fun v s₁ p₁ => ?_) fun _ _ f => f) hs hw
  obtain ⟨g₁, d₁, μ₁, I₁, st₁, n₁, e1, e2, e3, rfl, q₁⟩ := p₁.inv I
  rw [PyProof.Rows.assign_Tuple]
  refine wpAny_bind (wpAny_standAt ?_)
  unfold unpack
  refine wpAny_bind (wpAny_holding (unpackList (n := 3) hh I₁.gi n₁ rfl fun g₂ vs s₂ hvs G₂ st₂ => ?_))
  obtain ⟨v1, us, rfl, m1, hvs⟩ := hvs.inv'
  obtain ⟨v2, us, rfl, m2, hvs⟩ := hvs.inv'
  obtain ⟨v3, us, rfl, m3, hvs⟩ := hvs.inv'
  rw [hvs.invNil]
  have I₂ := I₁.step st₂ G₂
  show wpAny _ _ (assignInOrder [assign (.Name x p1) c.env, assign (.Name y p2) c.env, assign (.Name z p3) c.env] [v1, v2, v3]) _ _ _
  refine assignInOrder_cons (wpAny_assign_Name (store_any I₂ S1 m1 fun s₃ I₃ st₃ => ?_))
  refine assignInOrder_cons (wpAny_assign_Name (store_any I₃ S2 m2 fun s₄ I₄ st₄ => ?_))
  refine assignInOrder_cons (wpAny_assign_Name (store_any I₄ S3 m3 fun s₅ I₅ st₅ => ?_))
  refine assignInOrder_nil ⟨g₂, _, μ₁, .next, I₅, ?_, trivial, q₁⟩
  exact (((st₁.trans st₂).wr.trans (st₃.wk fun _ => WrX.wr)).trans (st₄.wk fun _ => WrX.wr)).trans (st₅.wk fun _ => WrX.wr)
end
end Pb
end
section
open PySem PySem.W PySem.Calls PyProof.Rows PySem.Spec
set_option Elab.async false
set_option linter.unusedVariables false
set_option maxRecDepth 100000
namespace Pb

def Ifs (c : Cx) (ρ : Rho) (μ : Mu) : List Expr → (Bool → Mu → Prop) → Prop
  | [], Q => Q true μ
  | [e], Q => Te c ρ μ e Q
  | _, _ => False

abbrev Cx.at (c : Cx) (env : Env) : Cx := { c with env := env }

theorem Step.trans' {wr : Addr → Prop} {μ μ₁ μ₂ : Mu} {g g₁ g₂ : Gh} {s s₁ s₂ : Shared} (x : Step Nowr μ μ₁ g g₁ s s₁) (y : Step wr μ₁ μ₂ g₁ g₂ s₁ s₂) (h : ∀ b, wr b → s.heap.get? b = none) : Step Nowr μ μ₂ g g₂ s s₂ :=
  Step.cast (wr := wr) (x.wr.trans y) fun b q => .inr (h b q)

/-- where a comprehension's loop stands -/
structure CompSt (c : Cx) (cenv : Env) (ρc : Rho) (s₀ : Shared) (g₀ : Gh) (μ₀ : Mu) (I a : Addr) (ob : Obj → Prop) (g₂ g' : Gh) (μ' : Mu) (s' : Shared) : Prop where
  iv : ∃ ρ', Sub ρc ρ' ∧ Inv c.K cenv ρ' μ' g' s'.heap
  step : Step Nowr μ₀ μ' g₀ g' s₀ s'
  le : Le g₂ g'
  asI : Aside cenv μ' g' I
  asD : Aside cenv μ' g' a
  acc : ∃ o, s'.heap.get? a = some o ∧ ob o

section
variable {c : Cx} {cenv : Env} {ρc : Rho} {s₀ : Shared} {g₀ g₂ : Gh} {μ₀ : Mu} {I a : Addr}

theorem ifs_run {ifs : List Expr} {ρ : Rho} {μ : Mu} {QB : Bool → Mu → Prop} {g : Gh} {s : Shared} {E : Value → Shared → Prop} (h : Ifs (c.at cenv) ρ μ ifs QB) (Iv : Inv c.K cenv ρ μ g s.heap) :
    wpAny c.M c.A (forIn ifs true fun c r => if r = true then do let ok ← isTrue c cenv (eval c cenv); pure (ForInStep.yield ok) else pure (ForInStep.yield r)) (BPost c.K μ g s QB) E s := by
  match ifs, h with
  | [], h => exact wpAny_tests_nil ⟨g, μ, Iv.gi, Step.refl, h⟩
  | [e], h => exact wpAny_tests_one (wpAny_mono (h g s Iv) (fun _ _ p => p) fun _ _ f => f.elim)

theorem compLoop {s₃ : Shared} {μ₃ : Mu} {g₃ : Gh} {R : Result → Shared → Prop} {elt iter : Expr} {t : Str} {tp pos : Pos} {ifs : List Expr} {scope : Scope} {ds : List D} {fp wr : List Addr} {P : Nat → Value → Prop} {St : Nat → Heap → Prop} {h₀ : Heap}
    (T : Itr c.prog c.w c.A g₂ h₀ I ds fp wr P St) (hI : s₀.heap.get? I = none) (hD : s₀.heap.get? a = none) (hDI : a ≠ I) (hw : ∀ b, WrX cenv t b → s₀.heap.get? b = none) (hn : ds.length ≤ 10000)
    (S : stoB cenv t = true) (ht : ρc.lookup t = none) (J : Nat → List D → Mu → Prop) (j0 : J 0 [] μ₃)
    (jb : ∀ i d out μ', ds[i]? = some d → J i out μ' → Ifs (c.at cenv) ((t, d) :: ρc) μ' ifs fun b μ'' => if b then Ev (c.at cenv) ((t, d) :: ρc) μ'' elt fun e μ₃ => J (i + 1) (out ++ [e]) μ₃ else J (i + 1) out μ'')
    (C0 : CompSt c cenv ρc s₀ g₀ μ₀ I a (fun o => ∃ vs n, o = seqObj "list" vs n ∧ DenL g₃ vs.toList []) g₂ g₃ μ₃ s₃) (st0 : St 0 s₃.heap)
    (hR : ∀ s' g' μ' out, J ds.length out μ' → CompSt c cenv ρc s₀ g₀ μ₀ I a (fun o => ∃ vs n, o = seqObj "list" vs n ∧ DenL g' vs.toList out) g₂ g' μ' s' → R (.ok .next) s') :
    codeAny c.M c.A (.compLoop (.ListComp elt [⟨.Name t tp, iter, ifs, 0⟩] scope pos) 0 (.ref I) (.ref a) cenv) R s₃ := by
  refine codeAny_compLoop_tests (fun n s' => ∃ i g' μ' out, i ≤ ds.length ∧ n = ds.length - i ∧ out.length ≤ i ∧ St i s'.heap ∧ J i out μ' ∧ CompSt c cenv ρc s₀ g₀ μ₀ I a (fun o => ∃ vs n, o = seqObj "list" vs n ∧ DenL g' vs.toList out) g₂ g' μ' s') ?_ ds.length
    ⟨0, g₃, μ₃, [], Nat.zero_le _, rfl, Nat.le_refl _, st0, j0, C0⟩
  rintro n s' ⟨i, g', μ', out, hi, rfl, ho, hst, hj, ⟨⟨ρ', sub, Iv⟩, stp, le, asI, asD, o, hobj, vs, z, rfl, hout⟩⟩
  by_cases hlt : i < ds.length
  · refine T.walks.item i s' _ _ hlt hst fun v h₁ tk hP hst₁ hk => ?_
    have hk' : ∀ b o, b ≠ I → s'.heap.get? b = some o → h₁.get? b = some o := fun b o n e => hk b o (fun m => n (T.own b m)) e
    obtain ⟨d, hd, hden⟩ := T.item i v hP
    have I₁ : Inv c.K cenv ρ' μ' g' h₁ := Iv.but asI hk'
    have stp₁ : Step Nowr μ₀ μ' g₀ g' s₀ { s' with heap := h₁, toks := tk } := stp.after hI hk'
    have hD₁ := hk' a _ hDI hobj
    refine wpAny_assign_Name (store_any (c := c.at cenv) I₁ S (hden.mono le) fun s₂ I₂ st₂ => ?_)
    have stp₂ := stp₁.trans' st₂ hw
    have live₁ : (h₁.get? I).isSome = true := T.live _ _ hst₁
    have asI₂ : Aside cenv μ' g' I := asI.step live₁ st₂
    have hD₂ : s₂.heap.get? a = some (seqObj "list" vs z) := st₂.keep a _ asD.nd (fun q => asD.nw q.wr) hD₁
    have hst₂ : St (i + 1) s₂.heap := T.frame (c := c) le asI (fun _ q => WrX.wr q) I₂.gi I₁.gi st₂ hst₁
    refine wpAny_mono (ifs_run (jb i d out μ' hd hj) (I₂.sub sub.both)) (fun ok s₃ p => ?_) fun _ _ f => f
    obtain ⟨g₃, μ₃, G₃, st₃, q₃⟩ := p
    have I₃ := I₂.step st₃ G₃
    have asI₃ := asI₂.step (T.live _ _ hst₂) st₃
    have asD₃ := asD.step (s := s₂) (by rw [hD₂]; rfl) st₃
    have hD₃ := st₃.keep a _ asD.nd (fun q => q) hD₂
    have hst₃ : St (i + 1) s₃.heap := T.frame (c := c) le asI₂ (fun _ q => q.elim) G₃ I₂.gi st₃ hst₂
    have stp₃ := stp₂.trans st₃
    have le₃ : Le g₂ g₃ := fun a o e => st₃.le a o (le a o e)
    have sub₃ : Sub ρc ((t, d) :: ρ') := sub.cons ht
    cases ok with
    | false =>
      rw [if_neg (by decide)]
      exact ⟨_, by omega, i + 1, g₃, μ₃, out, hlt, rfl, by omega, hst₃, q₃, ⟨_, sub₃, I₃⟩, stp₃, le₃, asI₃, asD₃, _, hD₃, vs, z, rfl, hout.mono st₃.le⟩
    | true =>
      rw [if_pos rfl]
      refine wpAny_mono (q₃ g₃ s₃ (I₃.sub sub.both)) (fun x s₄ p => ?_) fun _ _ f => f.elim
      obtain ⟨g₄, e, μ₄, G₄, st₄, ne, q₄⟩ := p
      have I₄ := I₃.step st₄ G₄
      have asI₄ := asI₃.step (T.live _ _ hst₃) st₄
      have asD₄ := asD₃.step (by rw [hD₃]; rfl) st₄
      have hD₄ := st₄.keep a _ asD₃.nd (fun q => q) hD₃
      have hst₄ : St (i + 1) s₄.heap := T.frame (c := c) le₃ asI₃ (fun _ q => q.elim) G₄ G₃ st₄ hst₃
      have stp₄ := stp₃.trans st₄
      have le₄ : Le g₂ g₄ := fun a o e => st₄.le a o (le₃ a o e)
      have hout₄ := hout.mono (fun a o e => st₄.le a o (st₃.le a o e))
      have hlen := hout.length
      rw [Array.length_toList] at hlen
      refine call_meets slot_list_append ⟨_, hD₄, rfl⟩ entry_list_append (args_list_append _ _) (PySem.list_append a vs z x (by rw [sizeLine_eq]; omega)) ⟨hD₄, ?_⟩
      have hu : ∀ b o, b ≠ a → s₄.heap.get? b = some o → (s₄.heap.update a (Obj.mapSeq fun l => l.push x)).get? b = some o := fun b o n e => (Heap.get?_update_other _ _ (Ne.symm n)).trans e
      have hst₅ : St (i + 1) (s₄.heap.update a (Obj.mapSeq fun l => l.push x)) := T.walks.frame _ _ _ hst₄ fun b hb o e => hu b o (by
        rintro rfl
        rcases T.foot b hb with h | ⟨o', h⟩
        · exact hDI h
        · have := asD₄.gn; rw [le₄ _ _ h] at this; cases this) e
      refine ⟨_, by omega, i + 1, g₄, μ₄, out ++ [e], hlt, rfl, by rw [List.length_append]; simp; omega, hst₅, q₄, ⟨_, sub₃, I₄.but asD₄ hu⟩, stp₄.after hD hu, le₄, asI₄, asD₄, _, IsL.update hD₄ _, _, _, rfl, ?_⟩
      rw [Array.toList_push]
      exact hout₄.append (.one ne)
  · have hi' : i = ds.length := by omega
    subst hi'
    refine T.walks.done s' _ _ hst fun h₁ tk hk => ?_
    have hk' : ∀ b o, b ≠ I → s'.heap.get? b = some o → h₁.get? b = some o := fun b o n e => hk b o (fun m => n (T.own b m)) e
    exact hR _ g' μ' out hj ⟨⟨ρ', sub, Iv.but asI hk'⟩, stp.after hI hk', le, asI, asD, _, hk' a _ hDI hobj, vs, z, rfl, hout⟩
end

/- the frame of a comprehension -/
def clOf (env : Env) : List (Str × NameKind) → List (Str × Addr) → List (Str × Addr)
  | [], acc => acc
  | (n, k) :: r, acc => if k == .free then clOf env r ((n, (env.cells.lookup n).getD 0) :: acc) else clOf env r acc
theorem forIn_clOf {env : Env} (f : Str × NameKind → List (Str × Addr) → Sem (ForInStep (List (Str × Addr))))
    (hf : ∀ name kind cs, f (name, kind) cs = if kind == .free then (do let a ← cellOf env name; pure (.yield ((name, a) :: cs))) else pure (.yield cs)) :
    ∀ (names : List (Str × NameKind)) (acc : List (Str × Addr)), (∀ p ∈ names, p.2 = .free → (env.cells.lookup p.1).isSome = true) → forIn names acc f = (pure (clOf env names acc) : Sem _)
  | [], acc, _ => by rw [List.forIn_nil]; rfl
  | (n, k) :: r, acc, h => by
    rw [List.forIn_cons, hf]
    unfold clOf
    by_cases hk : (k == NameKind.free) = true
    · rw [if_pos hk, if_pos hk]
      obtain ⟨a, ha⟩ := Option.isSome_iff_exists.mp (h (n, k) (.head _) (by simpa using hk))
      have e : cellOf env n = pure a := by unfold cellOf; dsimp only at ha; rw [ha]
      rw [e, ha]
      exact forIn_clOf f hf r _ fun p hp => h p (.tail _ hp)
    · rw [if_neg hk, if_neg hk]
      exact forIn_clOf f hf r _ fun p hp => h p (.tail _ hp)
theorem closureFor_clOf {scope : Scope} {env : Env} (h : ∀ p ∈ scope.names, p.2 = .free → (env.cells.lookup p.1).isSome = true) : closureFor scope env = pure (clOf env scope.names []) := by
  unfold closureFor
  dsimp only
  rw [forIn_clOf (env := env) _ (fun name kind cs => by cases hk : kind == NameKind.free <;> simp [hk]) _ _ h]
  rfl
theorem clOf_mem {env : Env} {x : Str} {a : Addr} : ∀ {names : List (Str × NameKind)} {acc : List (Str × Addr)}, (x, a) ∈ clOf env names acc → (x, a) ∈ acc ∨ ((x, .free) ∈ names ∧ a = (env.cells.lookup x).getD 0)
  | [], _, h => .inl h
  | (n, k) :: r, acc, h => by
    unfold clOf at h
    by_cases hk : (k == NameKind.free) = true
    · rw [if_pos hk] at h
      have hk' : k = .free := by simpa using hk
      subst hk'
      rcases clOf_mem h with q | ⟨q, e⟩
      · rcases List.mem_cons.mp q with q | q
        · obtain ⟨rfl, rfl⟩ := Prod.mk.inj q; exact .inr ⟨.head _, rfl⟩
        · exact .inl q
      · exact .inr ⟨.tail _ q, e⟩
    · rw [if_neg hk] at h
      rcases clOf_mem h with q | ⟨q, e⟩
      · exact .inl q
      · exact .inr ⟨.tail _ q, e⟩
theorem lookup_isSome_of_mem {x : Str} {a : Addr} : ∀ {l : List (Str × Addr)}, (x, a) ∈ l → (l.lookup x).isSome = true
  | [], h => by cases h
  | (n, b) :: r, h => by
    rw [List.lookup_cons]
    by_cases q : x = n
    · subst q; simp
    · rw [show (x == n) = false by simpa using q]
      rcases List.mem_cons.mp h with e | h
      · exact absurd (Prod.mk.inj e).1 q
      · exact lookup_isSome_of_mem h
theorem clOf_acc {env : Env} {x : Str} {a : Addr} : ∀ {names : List (Str × NameKind)} {acc : List (Str × Addr)}, (x, a) ∈ acc → (x, a) ∈ clOf env names acc
  | [], _, h => h
  | (n, k) :: r, acc, h => by
    unfold clOf
    split
    · exact clOf_acc (.tail _ h)
    · exact clOf_acc h
theorem clOf_has {env : Env} {x : Str} : ∀ {names : List (Str × NameKind)} {acc : List (Str × Addr)}, (x, .free) ∈ names → (x, (env.cells.lookup x).getD 0) ∈ clOf env names acc
  | (n, k) :: r, acc, h => by
    unfold clOf
    rcases List.mem_cons.mp h with e | h
    · obtain ⟨rfl, rfl⟩ := Prod.mk.inj e
      rw [if_pos (by decide)]; exact clOf_acc (.head _)
    · split
      · exact clOf_has h
      · exact clOf_has h
  | [], _, h => by cases h
theorem clOf_lookup {env : Env} {names : List (Str × NameKind)} {x : Str} {a : Addr} (h : (clOf env names []).lookup x = some a) : (x, .free) ∈ names ∧ a = (env.cells.lookup x).getD 0 := by
  rcases clOf_mem (mem_of_lookup h) with q | q
  · cases q
  · exact q
theorem clOf_at {env : Env} {names : List (Str × NameKind)} {x : Str} {a : Addr} (h : (x, .free) ∈ names) (e : env.cells.lookup x = some a) : (clOf env names []).lookup x = some a := by
  obtain ⟨b, hb⟩ := Option.isSome_iff_exists.mp (lookup_isSome_of_mem (clOf_has (env := env) (acc := []) h))
  have := (clOf_lookup hb).2
  rw [e] at this
  rw [hb, this]; rfl

def compRho (scope : Scope) (ρ : Rho) : Rho := ρ.filter fun p => scope.names.lookup p.1 == some .free
theorem lookup_filter {f : Str → Bool} {x : Str} : ∀ {ρ : Rho}, (ρ.filter fun p => f p.1).lookup x = if f x then ρ.lookup x else none
  | [] => by simp
  | (y, d) :: r => by
    have ih := lookup_filter (f := f) (x := x) (ρ := r)
    rw [List.filter_cons]
    by_cases hy : f y = true
    · rw [if_pos hy, List.lookup_cons, List.lookup_cons]
      by_cases q : x = y
      · subst q; simp [hy]
      · rw [show (x == y) = false by simpa using q]; exact ih
    · rw [if_neg hy, ih, List.lookup_cons]
      by_cases q : x = y
      · subst q; simp [hy]
      · rw [show (x == y) = false by simpa using q]
theorem compRho_lookup {scope : Scope} {ρ : Rho} {x : Str} {d : D} (h : (compRho scope ρ).lookup x = some d) : ρ.lookup x = some d ∧ scope.names.lookup x = some .free := by
  unfold compRho at h
  rw [lookup_filter (f := fun y => scope.names.lookup y == some .free)] at h
  by_cases q : (scope.names.lookup x == some NameKind.free) = true
  · rw [if_pos q] at h; exact ⟨h, by simpa using q⟩
  · rw [if_neg q] at h; cases h

def compOk (scope : Scope) (env : Env) (t : Str) : Bool :=
  scope.kind == .function && (scope.names.lookup t == some .local) && scope.names.all fun p => match p.2 with
    | .free => scope.names.lookup p.1 == some .free && (env.cells.lookup p.1).isSome && (env.kindOf p.1 == some .cell || env.kindOf p.1 == some .free)
    | .local => scope.names.lookup p.1 == some .local
    | .cell => false
    | _ => true
structure CompOk (scope : Scope) (env : Env) (t : Str) : Prop where
  kind : scope.kind = .function
  tgt : scope.names.lookup t = some .local
  free : ∀ x, (x, NameKind.free) ∈ scope.names → scope.names.lookup x = some .free ∧ (env.cells.lookup x).isSome = true ∧ (env.kindOf x = some .cell ∨ env.kindOf x = some .free)
  locals : ∀ p ∈ scope.names, p.2 = .local → scope.names.lookup p.1 = some .local
  nocell : ∀ p ∈ scope.names, p.2 ≠ .cell
theorem CompOk.of {scope : Scope} {env : Env} {t : Str} (h : compOk scope env t = true) : CompOk scope env t := by
  unfold compOk at h
  rw [Bool.and_eq_true, Bool.and_eq_true, List.all_eq_true] at h
  obtain ⟨⟨h1, h2⟩, h3⟩ := h
  refine ⟨by simpa using h1, by simpa using h2, fun x hx => ?_, fun p hp e => ?_, fun p hp e => ?_⟩
  · have := h3 _ hx
    simp only [Bool.and_eq_true, Bool.or_eq_true, beq_iff_eq] at this
    exact ⟨this.1.1, this.1.2, this.2⟩
  · obtain ⟨n, k⟩ := p
    dsimp only at e; subst e
    have := h3 _ hp
    simpa using this
  · obtain ⟨n, k⟩ := p
    dsimp only at e; subst e
    have := h3 _ hp
    cases this

theorem lookup_relabel_free {env : Env} : ∀ {names : List (Str × NameKind)} {x : Str}, names.lookup x = some .free →
    (names.map fun (n, k) => if (k == NameKind.free && env.scope.kind == .function && env.kindOf n == some .cell) then (n, NameKind.cell) else (n, k)).lookup x = some .cell ∨
    (names.map fun (n, k) => if (k == NameKind.free && env.scope.kind == .function && env.kindOf n == some .cell) then (n, NameKind.cell) else (n, k)).lookup x = some .free
  | [], x, h => by simp at h
  | (n, k) :: r, x, h => by
    have ih := @lookup_relabel_free env r x
    show List.lookup x ((if (k == NameKind.free && env.scope.kind == .function && env.kindOf n == some .cell) = true then (n, NameKind.cell) else (n, k)) :: _) = _ ∨ List.lookup x ((if (k == NameKind.free && env.scope.kind == .function && env.kindOf n == some .cell) = true then (n, NameKind.cell) else (n, k)) :: _) = _
    cases hx : x == n with
    | true =>
      simp only [List.lookup_cons, hx] at h
      cases h
      by_cases hc : (env.scope.kind == .function && env.kindOf n == some .cell) = true
      · exact .inl (by simp [List.lookup_cons, hx, hc])
      · exact .inr (by simp [List.lookup_cons, hx, hc])
    | false =>
      simp only [List.lookup_cons, hx] at h
      by_cases hc : (k == NameKind.free && env.scope.kind == .function && env.kindOf n == some .cell) = true
      · rw [if_pos hc]; simp only [List.lookup_cons, hx]; exact ih h
      · rw [if_neg hc]; simp only [List.lookup_cons, hx]; exact ih h

abbrev cenvOf (scope : Scope) (C : Addr) (env : Env) : Env := compEnvC scope (clOf env scope.names []) C env

theorem Inv.comp {K : Frag} {env : Env} {ρ : Rho} {μ : Mu} {g : Gh} {h h₁ : Heap} {scope : Scope} {t : Str} {C : Addr} {m : Str → Option Value} (I : Inv K env ρ μ g h) (ok : CompOk scope env t) (hns : h₁.Ns C m)
    (k : ∀ b o, h.get? b = some o → h₁.get? b = some o) (hC : h.get? C = none) : Inv K (cenvOf scope C env) (compRho scope ρ) μ g h₁ := by
  have back : ∀ x a, (clOf env scope.names []).lookup x = some a → env.cells.lookup x = some a := fun x a e => by
    obtain ⟨q, rfl⟩ := clOf_lookup e
    obtain ⟨b, hb⟩ := Option.isSome_iff_exists.mp (ok.free x q).2.1
    rw [hb]; rfl
  have cne : ∀ x a, env.cells.lookup x = some a → a ≠ C := fun x a e => by
    obtain ⟨o, ho⟩ := I.lo.lt a (.inr ⟨x, e⟩)
    rintro rfl; rw [hC] at ho; cases ho
  refine ⟨I.gi.keeps k, ⟨⟨m, hns, fun x d e1 e2 => ?_⟩, fun x d e1 e2 => ?_, fun x y a e1 e2 => I.lo.apart x y a (back x a e1) (back y a e2), fun x a e => ?_, I.gi.non hC⟩, fun a q w => ?_⟩
  · have e2' : (scope.names.map fun (n, k) => if (k == NameKind.free && env.scope.kind == .function && env.kindOf n == some .cell) then (n, NameKind.cell) else (n, k)).lookup x = some .local := e2
    rcases lookup_relabel_free (env := env) (compRho_lookup e1).2 with q | q
    · rw [q] at e2'; cases e2'
    · rw [q] at e2'; cases e2'
  · obtain ⟨l1, l2⟩ := compRho_lookup e1
    have hm := mem_of_lookup l2
    obtain ⟨_, _, hk⟩ := ok.free x hm
    obtain ⟨a, v, q1, ⟨o, q2, q3⟩, q4⟩ := I.lo.cell x d l1 hk
    exact ⟨a, v, clOf_at hm q1, ⟨o, k a o q2, q3⟩, q4⟩
  · have e' := back x a e
    obtain ⟨q1, q2, v, o, q3, q4⟩ := I.lo.cells x a e'
    exact ⟨q1, cne x a e', v, o, k a o q3, q4⟩
  · rcases w with w | ⟨x, w⟩
    · obtain ⟨d, hd⟩ := q
      obtain ⟨_, o, ho, _⟩ := I.gi.mu _ hd
      dsimp only at ho
      rw [show a = C from w, hC] at ho; cases ho
    · exact I.ap a q (.inr ⟨x, back x a w⟩)

theorem GPost.frozen {K : Frag} {μ μ' : Mu} {g g' : Gh} {s s' : Shared} {a : Addr} {o : Obj} {d : D} {Q : D → Mu → Prop} (G : GInv K μ' g' s'.heap) (st : Step Nowr μ μ' g g' s s') (ha : s.heap.get? a = none) (ho : s'.heap.get? a = some o) (gn : g' a = none) (nd : ¬ Dom μ' a)
    (x : ObjDen g' a o d) (q : Q d μ') : GPost K μ g s Q (.ref a) s' := by
  refine ⟨put g' a o, d, μ', G.put gn ho nd, ⟨st.eq, fun b o' e => le_put gn _ _ (st.le b o' e), fun b e n z => ?_, st.keep, st.alive, st.dom⟩, (x.mono (le_put gn)).den put_self, q⟩
  rw [put_ne]
  · exact st.new b e n z
  · rintro rfl; rw [ha] at e; cases e

section
variable {c : Cx} {ρ : Rho} {μ : Mu} {Q : Fl → Rho → Mu → Prop} {QD : D → Mu → Prop}

theorem compRun {g : Gh} {s s₂ : Shared} {μ₂ : Mu} {g₂ : Gh} {I : Addr} {ds : List D} {fp wr : List Addr} {P : Nat → Value → Prop} {St : Nat → Heap → Prop} {elt iter : Expr} {t : Str} {tp pos : Pos} {ifs : List Expr} {scope : Scope}
    {RR : Value → Addr → Result → Shared → Prop}
    (ok : CompOk scope c.env t) (Iv : Inv c.K c.env ρ μ g s.heap) (G₂ : GInv c.K μ₂ g₂ s₂.heap) (st₂ : Step Nowr μ μ₂ g g₂ s s₂) (T : Itr c.prog c.w c.A g₂ s₂.heap I ds fp wr P St) (hI : s.heap.get? I = none) (gI : g₂ I = none) (nI : ¬ Dom μ₂ I)
    (hn : ds.length ≤ 10000) (J : Nat → List D → Mu → Prop) (j0 : J 0 [] μ₂)
    (jb : ∀ C i d out μ', ds[i]? = some d → J i out μ' → Ifs (c.at (cenvOf scope C c.env)) ((t, d) :: compRho scope ρ) μ' ifs fun b μ'' =>
      if b then Ev (c.at (cenvOf scope C c.env)) ((t, d) :: compRho scope ρ) μ'' elt fun e μ₃ => J (i + 1) (out ++ [e]) μ₃ else J (i + 1) out μ'')
    (hRR : ∀ C a s' g' μ' out m' vs z, J ds.length out μ' → GInv c.K μ' g' s'.heap → Step Nowr μ μ' g g' s s' → s'.heap.Ns C m' → s.heap.get? C = none → g' C = none → ¬ Dom μ' C → a ≠ C →
      s'.heap.get? a = some (seqObj "list" vs z) → g' a = none → ¬ Dom μ' a → s.heap.get? a = none → DenL g' vs.toList out → RR (.ref a) C (.ok .next) s') :
    wpAny c.M c.A (newList []) (fun acc s₃ => wpAny c.M c.A (newFunctionEnv scope c.env.globals (clOf c.env scope.names []) [] c.env.qual none .none (some c.env)) (fun cenv s₄ =>
      codeAny c.M c.A (.compStart (.ListComp elt [⟨.Name t tp, iter, ifs, 0⟩] scope pos) 0 (.ref I) acc { cenv with scope := relabel scope c.env }) (RR acc cenv.locals) s₄) Never s₃) Never s₂ := by
  refine wpAny_newObj_type (wpAny_newFunctionEnv ok.nocell (by intro y hy; simp at hy) (fun h₁ hns₁ hsb₁ => ?_) ok.kind)
  dsimp only at hns₁ hsb₁ ⊢
  generalize hH2 : s₂.heap.push { cls := .type "list", dict := none, data := .seq ([] : List Value).toArray } = H2 at hns₁ hsb₁ ⊢
  have hC : H2.objs.size = s₂.heap.objs.size + 1 := by rw [← hH2, Heap.size_push]
  have k2 : ∀ b o, s₂.heap.get? b = some o → h₁.get? b = some o := fun b o e => by
    have hb := Heap.lt_size e
    refine hsb₁.extBut b o (Nat.ne_of_lt (by rw [hC]; exact Nat.lt_succ_of_lt hb)) ?_
    exact Heap.get?_push_of_some _ (hH2 ▸ Heap.get?_push_of_some _ e)
  have nD2 : s₂.heap.get? s₂.heap.objs.size = none := fresh_size (Nat.le_refl _)
  have nC2 : s₂.heap.get? H2.objs.size = none := fresh_size (by rw [hC]; exact Nat.le_succ _)
  have back : ∀ b, s₂.heap.get? b = none → s.heap.get? b = none := fun b e => by
    cases z : s.heap.get? b with
    | none => rfl
    | some o => have := st₂.alive b (by rw [z]; rfl); rw [e] at this; cases this
  have hDC : s₂.heap.objs.size ≠ H2.objs.size := by rw [hC]; exact Nat.ne_of_lt (Nat.lt_succ_self _)
  have hobj : h₁.get? s₂.heap.objs.size = some (seqObj "list" #[] 0) := by
    refine hsb₁.extBut _ _ hDC (Heap.get?_push_of_some _ ?_)
    rw [← hH2]; exact Heap.get?_push_size _ rfl
  have liveI : (s₂.heap.get? I).isSome = true := T.live _ _ T.st
  have hDI : s₂.heap.objs.size ≠ I := by rintro rfl; rw [nD2] at liveI; cases liveI
  have Iv₂ := Iv.step st₂ G₂
  have Ivc : Inv c.K (cenvOf scope H2.objs.size c.env) (compRho scope ρ) μ₂ g₂ h₁ := Iv₂.comp ok hns₁ k2 nC2
  have wrC : ∀ x a, (clOf c.env scope.names []).lookup x = some a → ∃ o, s.heap.get? a = some o := fun x a e => by
    obtain ⟨q, rfl⟩ := clOf_lookup e
    obtain ⟨b, hb⟩ := Option.isSome_iff_exists.mp (ok.free x q).2.1
    rw [hb]
    exact Iv.lo.lt b (.inr ⟨x, hb⟩)
  have tl : (cenvOf scope H2.objs.size c.env).kindOf t = some .local := lookup_relabel_local ok.tgt
  have hw : ∀ b, WrX (cenvOf scope H2.objs.size c.env) t b → s.heap.get? b = none := fun b q => by
    rcases q with ⟨_, rfl⟩ | ⟨q, _⟩
    · exact back _ nC2
    · rw [tl] at q; cases q
  have S : stoB (cenvOf scope H2.objs.size c.env) t = true := by
    unfold stoB
    rw [tl]
    show (!((relabel scope c.env).kind == .class || ((relabel scope c.env).kind == .module && _))) = true
    rw [show (relabel scope c.env).kind = .function from ok.kind]; rfl
  have ht : (compRho scope ρ).lookup t = none := by
    cases e : (compRho scope ρ).lookup t with
    | none => rfl
    | some d => have := (compRho_lookup e).2; rw [ok.tgt] at this; cases this
  have nw : ∀ b, s.heap.get? b = none → b ≠ H2.objs.size → ¬ Wr (cenvOf scope H2.objs.size c.env) b := fun b e n q => by
    rcases q with rfl | ⟨x, q⟩
    · exact n rfl
    · obtain ⟨o, ho⟩ := wrC x b q; rw [e] at ho; cases ho
  have hIC : I ≠ H2.objs.size := by rintro rfl; rw [nC2] at liveI; cases liveI
  have st₃ : Step Nowr μ μ₂ g g₂ s { s₂ with heap := h₁, toks := s₂.toks + ([] : List (Str × Value)).length } := st₂.trans (Step.grown G₂ k2)
  have st0 : St 0 h₁ := T.walks.frame _ _ _ T.st fun b _ o e => k2 b o e
  have loop : codeAny c.M c.A (.compLoop (.ListComp elt [⟨.Name t tp, iter, ifs, 0⟩] scope pos) 0 (.ref I) (.ref s₂.heap.objs.size) (cenvOf scope H2.objs.size c.env)) (RR (.ref s₂.heap.objs.size) H2.objs.size)
      { s₂ with heap := h₁, toks := s₂.toks + ([] : List (Str × Value)).length } := by
    refine compLoop (g₂ := g₂) (g₃ := g₂) T hI (back _ nD2) hDI hw hn S ht J j0 (fun i d out μ' => jb _ i d out μ')
      ⟨⟨_, Sub.refl, Ivc⟩, st₃, fun _ _ e => e, ⟨gI, nI, nw I hI hIC⟩, ⟨G₂.non nD2, G₂.domNone nD2, nw _ (back _ nD2) hDC⟩, _, hobj, _, _, rfl, DenL.nil⟩ st0 fun s' g' μ' out hj C => ?_
    obtain ⟨⟨ρ', _, Iv'⟩, st', _, _, asD, o, ho, vs, z, rfl, hd⟩ := C
    obtain ⟨m', hns', _⟩ := Iv'.lo.ns
    exact hRR _ _ s' g' μ' out m' vs z hj Iv'.gi st' hns' (back _ nC2) Iv'.lo.gl (fun q => Iv'.ap _ q (.inl rfl)) hDC ho asD.gn asD.nd (back _ nD2) hd
  exact codeAny_compStart_list loop (T.walks.self 0 _ _ _ st0 loop)

theorem Ev.listcomp {elt iter : Expr} {t : Str} {tp pos : Pos} {ifs : List Expr} {scope : Scope}
    (h : EvI c ρ μ iter fun ds μ₂ => ds.length ≤ 10000 ∧ ∃ J : Nat → List D → Mu → Prop, J 0 [] μ₂ ∧
      (∀ C i d out μ', ds[i]? = some d → J i out μ' → Ifs (c.at (cenvOf scope C c.env)) ((t, d) :: compRho scope ρ) μ' ifs fun b μ'' =>
        if b then Ev (c.at (cenvOf scope C c.env)) ((t, d) :: compRho scope ρ) μ'' elt fun e μ₃ => J (i + 1) (out ++ [e]) μ₃ else J (i + 1) out μ'') ∧
      (∀ out μ', J ds.length out μ' → QD (.lst out) μ'))
    (ok : compOk scope c.env t = true := by rfl) (hf : ∀ v, foldedSetIterable iter c.env v = pure v := by intro _; rfl) : Ev c ρ μ (.ListComp elt [⟨.Name t tp, iter, ifs, 0⟩] scope pos) QD := fun g s Iv => by
  have ok := CompOk.of ok
  rw [eval_ListComp]
  refine wpAny_comprehension_free (use := none) rfl hf (closureFor_clOf fun p hp e => by obtain ⟨x, k⟩ := p; dsimp only at e; subst e; exact (ok.free x hp).2.1) ok.kind ok.locals
    (wpAny_mono (h g s Iv) (fun x s₁ p₁ => wpAny_mono p₁ (fun it s₂ p₂ => ?_) fun _ _ f => f) fun _ _ f => f)
  obtain ⟨g₂, μ₂, I, ds, fp, wr, P, St, rfl, G₂, st₂, T, hI, gI, nI, hn, J, j0, jb, je⟩ := p₂
  refine compRun (RR := fun acc C => compPost c.M c.A Never none (GPost c.K μ g s QD) acc C) ok Iv G₂ st₂ T hI gI nI hn J j0 jb ?_
  intro C a s' g' μ' out m' vs z hj G' st' hns hC gC nC haC ho ga na ha hd
  refine ⟨m', hns, fun h' sb => ?_⟩
  have k : ∀ b o, b ≠ C → s'.heap.get? b = some o → h'.get? b = some o := fun b o n e => (sb.2 b n).trans e
  exact GPost.frozen (d := .lst out) (s' := { s' with heap := h' }) (G'.but gC nC k) (st'.after (tk := s'.toks) hC k) ha (k a _ haC ho) ga na ⟨vs, z, rfl, hd⟩ (je _ _ hj)

theorem ExS.asgComp {elt iter : Expr} {t y : Str} {tp pos py spos : Pos} {ifs : List Expr} {scope : Scope}
    (h : EvI c ρ μ iter fun ds μ₂ => ds.length ≤ 10000 ∧ ∃ J : Nat → List D → Mu → Prop, J 0 [] μ₂ ∧
      (∀ C i d out μ', ds[i]? = some d → J i out μ' → Ifs (c.at (cenvOf scope C c.env)) ((t, d) :: compRho scope ρ) μ' ifs fun b μ'' =>
        if b then Ev (c.at (cenvOf scope C c.env)) ((t, d) :: compRho scope ρ) μ'' elt fun e μ₃ => J (i + 1) (out ++ [e]) μ₃ else J (i + 1) out μ'') ∧
      (∀ out μ', J ds.length out μ' → Q .next ((y, .lst out) :: ρ) μ'))
    (hsw : swapsWith (.ListComp elt [⟨.Name t tp, iter, ifs, 0⟩] scope pos) (some (.Name y py)) spos.line c.env = pure true := by rfl)
    (ok : compOk scope c.env t = true := by rfl) (S : stoB c.env y = true := by rfl) (hf : ∀ v, foldedSetIterable iter c.env v = pure v := by intro _; rfl) : ExS c ρ μ (.Assign [.Name y py] (.ListComp elt [⟨.Name t tp, iter, ifs, 0⟩] scope pos) spos) Q := fun g s Iv => by
  have ok := CompOk.of ok
  rw [exec_Assign_Name_used _ _ _ _ hsw]
  refine wpAny_bind (wpAny_standAt (wpAny_bind ?_))
  show wpAny _ c.A (do let _ ← comprehension (.ListComp elt [⟨.Name t tp, iter, ifs, 0⟩] scope pos) scope c.env _ (newList []) false (eval iter c.env) (some (assign (.Name y py) c.env))) _ _ s
  refine wpAny_bind (wpAny_mono (wpAny_comprehension_free (use := some (assign (.Name y py) c.env)) (Q := fun _ s' => EPost c.K c.env μ g s Q .next s') rfl hf
    (closureFor_clOf fun p hp e => by obtain ⟨x, k⟩ := p; dsimp only at e; subst e; exact (ok.free x hp).2.1) ok.kind ok.locals
    (wpAny_mono (h g s Iv) (fun x s₁ p₁ => wpAny_mono p₁ (fun it s₂ p₂ => ?_) fun _ _ f => f) fun _ _ f => f)) (fun _ s' hq => wpAny_pure (wpAny_pure hq)) fun _ _ f => f)
  obtain ⟨g₂, μ₂, I, ds, fp, wr, P, St, rfl, G₂, st₂, T, hI, gI, nI, hn, J, j0, jb, je⟩ := p₂
  refine compRun (RR := fun acc C => compPost c.M c.A Never (some (assign (.Name y py) c.env)) (fun _ s' => EPost c.K c.env μ g s Q .next s') acc C) ok Iv G₂ st₂ T hI gI nI hn J j0 jb ?_
  intro C a s' g' μ' out m' vs z hj G' st' hns hC gC nC haC ho ga na ha hd
  have st'' : Step Nowr μ μ' g (put g' a (seqObj "list" vs z)) s s' := ⟨st'.eq, fun b o' e => le_put ga _ _ (st'.le b o' e), fun b e n z => (by
    rw [put_ne]
    · exact st'.new b e n z
    · rintro rfl; rw [ha] at e; cases e), st'.keep, st'.alive, st'.dom⟩
  have I' := Iv.step st'' (G'.put ga ho na)
  have nwC : ¬ Wr c.env C := fun q => by obtain ⟨o, ho⟩ := Iv.lo.lt C q; rw [hC] at ho; cases ho
  have den : Den (put g' a (seqObj "list" vs z)) (.ref a) (.lst out) := by
    rw [Den]; exact ⟨a, vs, z, rfl, put_self, hd.mono (le_put ga)⟩
  refine wpAny_assign_Name (store_any I' S den fun s₃ I₃ st₃ => ?_)
  refine ⟨m', hns.at' fun o e => st₃.keep C o nC (fun q => nwC q.wr) e, fun h' sb => ?_⟩
  have k : ∀ b o, b ≠ C → s₃.heap.get? b = some o → h'.get? b = some o := fun b o n e => (sb.2 b n).trans e
  have gC' : put g' a (seqObj "list" vs z) C = none := by rw [put_ne (Ne.symm haC)]; exact gC
  have st₄ : Step (Wr c.env) μ μ' g (put g' a (seqObj "list" vs z)) s { s₃ with heap := h' } := (st''.wr.trans (st₃.wk fun _ => WrX.wr)).after (tk := s₃.toks) hC k
  exact ⟨_, _, μ', .next, I₃.but ⟨gC', nC, nwC⟩ k, st₄, trivial, je _ _ hj⟩
end
end Pb
end
section
open PySem PySem.W PySem.Calls PyProof.Rows PySem.Spec
set_option Elab.async false
set_option linter.unusedVariables false
set_option maxRecDepth 100000
namespace Pb
def compOkC (scope : Scope) (t : Str) : Bool :=
  scope.kind == .function && (scope.names.lookup t == some .cell) && scope.names.all fun p => match p.2 with
    | .free => false
    | .local => scope.names.lookup p.1 == some .local
    | _ => true
structure CompOkC (scope : Scope) (t : Str) : Prop where
  kind : scope.kind = .function
  tgt : scope.names.lookup t = some .cell
  locals : ∀ p ∈ scope.names, p.2 = .local → scope.names.lookup p.1 = some .local
  free : ∀ p ∈ scope.names, p.2 ≠ .free
  has : ∀ n, ((cellsFrom n scope.names []).lookup t).isSome = true
theorem CompOkC.of {scope : Scope} {t : Str} (h : compOkC scope t = true) (hh : ∀ n, ((cellsFrom n scope.names []).lookup t).isSome = true) : CompOkC scope t := by
  unfold compOkC at h
  rw [Bool.and_eq_true, Bool.and_eq_true, List.all_eq_true] at h
  obtain ⟨⟨h1, h2⟩, h3⟩ := h
  refine ⟨by simpa using h1, by simpa using h2, fun p hp e => ?_, fun p hp e => ?_, hh⟩
  · obtain ⟨n, k⟩ := p
    dsimp only at e; subst e
    have := h3 _ hp
    simpa using this
  · obtain ⟨n, k⟩ := p
    dsimp only at e; subst e
    have := h3 _ hp
    cases this
abbrev kenvOf (scope : Scope) (C : Addr) (env : Env) : Env := compEnvC scope (cellsFrom (C + 1) scope.names []) C env
theorem lookup_relabel_cell {env : Env} : ∀ {names : List (Str × NameKind)} {x : Str}, names.lookup x = some .cell →
    (names.map fun (n, k) => if (k == NameKind.free && env.scope.kind == .function && env.kindOf n == some .cell) then (n, NameKind.cell) else (n, k)).lookup x = some .cell
  | [], x, h => by simp at h
  | (n, k) :: r, x, h => by
    have ih := @lookup_relabel_cell env r x
    show List.lookup x ((if (k == NameKind.free && env.scope.kind == .function && env.kindOf n == some .cell) = true then (n, NameKind.cell) else (n, k)) :: _) = _
    cases hx : x == n with
    | true =>
      simp only [List.lookup_cons, hx] at h
      cases h
      simp [List.lookup_cons, hx]
    | false =>
      simp only [List.lookup_cons, hx] at h
      by_cases hc : (k == NameKind.free && env.scope.kind == .function && env.kindOf n == some .cell) = true
      · rw [if_pos hc]; simp only [List.lookup_cons, hx]; exact ih h
      · rw [if_neg hc]; simp only [List.lookup_cons, hx]; exact ih h
theorem newCompEnvC {M : Model} {A : Around} {E : Value → Shared → Prop} {s : Shared} {scope : Scope} {env : Env} {Q : Env → Shared → Prop}
    (h : Q { scope := scope, locals := s.heap.objs.size, globals := env.globals, cells := cellsFrom (s.heap.objs.size + 1) scope.names [], qual := env.qual, func := none, code := env.code, frame := env.frame, builtins := env.builtins }
      { s with heap := pushCells (s.heap.push { cls := .type "dict", data := .dict #[] }) scope.names }) :
    wpAny M A (newFunctionEnv scope env.globals [] [] env.qual none .none (some env)) Q E s := by
  simp only [newFunctionEnv, Option.isSome_some, if_true]
  refine wpAny_bind (wpAny_alloc ?_)
  refine wpAny_bind (wpAny_layCells _ (fun name kind cells => by cases hkc : kind == NameKind.cell <;> simp [hkc]) _ _ _ _ ?_)
  rw [show ({ s with heap := s.heap.push { cls := .type "dict", data := .dict #[] } } : Shared).heap.objs.size = s.heap.objs.size + 1 from Heap.size_push ..]
  refine wpAny_bind ?_
  rw [List.forIn_nil]
  exact wpAny_pure (wpAny_pure h)
theorem Inv.compC {K : Frag} {env : Env} {ρ : Rho} {μ : Mu} {g : Gh} {h h₁ : Heap} {scope : Scope} {C : Addr} {m : Str → Option Value} (I : Inv K env ρ μ g h) (hns : h₁.Ns C m)
    (k : ∀ b o, h.get? b = some o → h₁.get? b = some o) (hC : h.get? C = none) (okc : CellsOk h₁ (C + 1) (cellsFrom (C + 1) scope.names [])) (fr : ∀ b, C < b → h.get? b = none) : Inv K (kenvOf scope C env) [] μ g h₁ := by
  refine ⟨I.gi.keeps k, ⟨⟨m, hns, fun x d e1 e2 => by simp at e1⟩, fun x d e1 e2 => by simp at e1, fun x y a e1 e2 => name_of_addr okc.apart (mem_of_lookup e1) (mem_of_lookup e2), fun x a e => ?_, I.gi.non hC⟩, fun a q w => ?_⟩
  · obtain ⟨h1, h2⟩ := okc.empty x a (mem_of_lookup e)
    exact ⟨I.gi.non (fr a h2), Nat.ne_of_gt h2, _, h1⟩
  · obtain ⟨d, hd⟩ := q
    obtain ⟨_, o, ho, _⟩ := I.gi.mu _ hd
    dsimp only at ho
    rcases w with w | ⟨x, w⟩
    · rw [show a = C from w, hC] at ho; cases ho
    · rw [fr a (okc.empty x a (mem_of_lookup w)).2] at ho; cases ho
section
variable {c : Cx} {ρ : Rho} {μ : Mu} {Q : Fl → Rho → Mu → Prop} {QD : D → Mu → Prop}
theorem compRunC {g : Gh} {s s₂ : Shared} {μ₂ : Mu} {g₂ : Gh} {I : Addr} {ds : List D} {fp wr : List Addr} {P : Nat → Value → Prop} {St : Nat → Heap → Prop} {elt iter : Expr} {t : Str} {tp pos : Pos} {ifs : List Expr} {scope : Scope}
    {RR : Value → Addr → Result → Shared → Prop}
    (ok : CompOkC scope t) (Iv : Inv c.K c.env ρ μ g s.heap) (G₂ : GInv c.K μ₂ g₂ s₂.heap) (st₂ : Step Nowr μ μ₂ g g₂ s s₂) (T : Itr c.prog c.w c.A g₂ s₂.heap I ds fp wr P St) (hI : s.heap.get? I = none) (gI : g₂ I = none) (nI : ¬ Dom μ₂ I)
    (hn : ds.length ≤ 10000) (J : Nat → List D → Mu → Prop) (j0 : J 0 [] μ₂)
    (jb : ∀ C i d out μ', ds[i]? = some d → J i out μ' → Ifs (c.at (kenvOf scope C c.env)) [(t, d)] μ' ifs fun b μ'' =>
      if b then Ev (c.at (kenvOf scope C c.env)) [(t, d)] μ'' elt fun e μ₃ => J (i + 1) (out ++ [e]) μ₃ else J (i + 1) out μ'')
    (hRR : ∀ C a s' g' μ' out m' vs z, J ds.length out μ' → GInv c.K μ' g' s'.heap → Step Nowr μ μ' g g' s s' → s'.heap.Ns C m' → s.heap.get? C = none → g' C = none → ¬ Dom μ' C → a ≠ C →
      s'.heap.get? a = some (seqObj "list" vs z) → g' a = none → ¬ Dom μ' a → s.heap.get? a = none → DenL g' vs.toList out → RR (.ref a) C (.ok .next) s') :
    wpAny c.M c.A (newList []) (fun acc s₃ => wpAny c.M c.A (newFunctionEnv scope c.env.globals [] [] c.env.qual none .none (some c.env)) (fun cenv s₄ =>
      codeAny c.M c.A (.compStart (.ListComp elt [⟨.Name t tp, iter, ifs, 0⟩] scope pos) 0 (.ref I) acc { cenv with scope := relabel scope c.env }) (RR acc cenv.locals) s₄) Never s₃) Never s₂ := by
  refine wpAny_newObj_type (newCompEnvC ?_)
  dsimp only
  generalize hH2 : s₂.heap.push { cls := .type "list", dict := none, data := .seq ([] : List Value).toArray } = H2
  have hC : H2.objs.size = s₂.heap.objs.size + 1 := by rw [← hH2, Heap.size_push]
  generalize hh₁ : pushCells (H2.push { cls := .type "dict", data := .dict #[] }) scope.names = h₁
  have k1 : ∀ b o, H2.get? b = some o → h₁.get? b = some o := fun b o e => by rw [← hh₁]; exact pushCells_keeps _ _ b o (Heap.get?_push_of_some _ e)
  have k2 : ∀ b o, s₂.heap.get? b = some o → h₁.get? b = some o := fun b o e => k1 b o (hH2 ▸ Heap.get?_push_of_some _ e)
  have hns₁ : h₁.Ns H2.objs.size (fun _ => none) := by rw [← hh₁]; exact (Heap.Ns.new H2 (.type "dict")).keeps (pushCells_keeps _ _)
  have okc := cellsFrom_ok scope.names (H2.push { cls := .type "dict", data := .dict #[] }) (H2.objs.size + 1) [] ⟨fun _ _ hm => (nomatch hm), List.Pairwise.nil⟩ (by rw [Heap.size_push]; exact Nat.le_refl _)
  rw [Heap.size_push, hh₁] at okc
  have nD2 : s₂.heap.get? s₂.heap.objs.size = none := fresh_size (Nat.le_refl _)
  have nC2 : s₂.heap.get? H2.objs.size = none := fresh_size (by rw [hC]; exact Nat.le_succ _)
  have back : ∀ b, s₂.heap.get? b = none → s.heap.get? b = none := fun b e => by
    cases z : s.heap.get? b with
    | none => rfl
    | some o => have := st₂.alive b (by rw [z]; rfl); rw [e] at this; cases this
  have hDC : s₂.heap.objs.size ≠ H2.objs.size := by rw [hC]; exact Nat.ne_of_lt (Nat.lt_succ_self _)
  have hobj : h₁.get? s₂.heap.objs.size = some (seqObj "list" #[] 0) := by
    refine k1 _ _ ?_
    rw [← hH2]; exact Heap.get?_push_size _ rfl
  have liveI : (s₂.heap.get? I).isSome = true := T.live _ _ T.st
  have hDI : s₂.heap.objs.size ≠ I := by rintro rfl; rw [nD2] at liveI; cases liveI
  have Iv₂ := Iv.step st₂ G₂
  have Ivc : Inv c.K (kenvOf scope H2.objs.size c.env) [] μ₂ g₂ h₁ := Iv₂.compC hns₁ k2 nC2 okc fun b hb => fresh_size (Nat.le_trans (by rw [hC]; exact Nat.le_succ _) (Nat.le_of_lt hb))
  have up : ∀ x a, (cellsFrom (H2.objs.size + 1) scope.names []).lookup x = some a → H2.objs.size < a := fun x a e => (okc.empty x a (mem_of_lookup e)).2
  have s2le : ∀ a, H2.objs.size < a → s₂.heap.get? a = none := fun a h => fresh_size (Nat.le_trans (by rw [hC]; exact Nat.le_succ _) (Nat.le_of_lt h))
  have hw : ∀ b, WrX (kenvOf scope H2.objs.size c.env) t b → s.heap.get? b = none := fun b q => by
    rcases q with ⟨_, rfl⟩ | ⟨_, q⟩
    · exact back _ nC2
    · exact back _ (s2le _ (up _ _ q))
  have tl : (kenvOf scope H2.objs.size c.env).kindOf t = some .cell := lookup_relabel_cell ok.tgt
  have S : stoB (kenvOf scope H2.objs.size c.env) t = true := by
    unfold stoB
    rw [tl]
    show ((relabel scope c.env).kind == .function && _) = true
    rw [show (relabel scope c.env).kind = .function from ok.kind]
    exact ok.has _
  have ht : ([] : Rho).lookup t = none := rfl
  have nw : ∀ b, (h : (b = I ∨ b = s₂.heap.objs.size)) → ¬ Wr (kenvOf scope H2.objs.size c.env) b := fun b h q => by
    have hlt : b < H2.objs.size := by
      rcases h with rfl | rfl
      · obtain ⟨o, ho⟩ := Option.isSome_iff_exists.mp liveI
        have := Heap.lt_size ho
        rw [hC]; exact Nat.lt_succ_of_lt this
      · rw [hC]; exact Nat.lt_succ_self _
    rcases q with rfl | ⟨x, q⟩
    · exact absurd hlt (Nat.lt_irrefl _)
    · exact absurd (Nat.lt_trans hlt (up x b q)) (Nat.lt_irrefl _)
  have hIC : I ≠ H2.objs.size := by rintro rfl; rw [nC2] at liveI; cases liveI
  have st₃ : Step Nowr μ μ₂ g g₂ s { s₂ with heap := h₁ } := st₂.trans (Step.grown (tk := s₂.toks) G₂ k2)
  have st0 : St 0 h₁ := T.walks.frame _ _ _ T.st fun b _ o e => k2 b o e
  have loop : codeAny c.M c.A (.compLoop (.ListComp elt [⟨.Name t tp, iter, ifs, 0⟩] scope pos) 0 (.ref I) (.ref s₂.heap.objs.size) (kenvOf scope H2.objs.size c.env)) (RR (.ref s₂.heap.objs.size) H2.objs.size)
      { s₂ with heap := h₁ } := by
    refine compLoop (g₂ := g₂) (g₃ := g₂) T hI (back _ nD2) hDI hw hn S ht J j0 (fun i d out μ' => jb _ i d out μ')
      ⟨⟨_, Sub.refl, Ivc⟩, st₃, fun _ _ e => e, ⟨gI, nI, nw I (.inl rfl)⟩, ⟨G₂.non nD2, G₂.domNone nD2, nw _ (.inr rfl)⟩, _, hobj, _, _, rfl, DenL.nil⟩ st0 fun s' g' μ' out hj C => ?_
    obtain ⟨⟨ρ', _, Iv'⟩, st', _, _, asD, o, ho, vs, z, rfl, hd⟩ := C
    obtain ⟨m', hns', _⟩ := Iv'.lo.ns
    exact hRR _ _ s' g' μ' out m' vs z hj Iv'.gi st' hns' (back _ nC2) Iv'.lo.gl (fun q => Iv'.ap _ q (.inl rfl)) hDC ho asD.gn asD.nd (back _ nD2) hd
  exact codeAny_compStart_list loop (T.walks.self 0 _ _ _ st0 loop)

theorem Ev.cellcomp {elt iter : Expr} {t : Str} {tp pos : Pos} {ifs : List Expr} {scope : Scope}
    (h : EvI c ρ μ iter fun ds μ₂ => ds.length ≤ 10000 ∧ ∃ J : Nat → List D → Mu → Prop, J 0 [] μ₂ ∧
      (∀ C i d out μ', ds[i]? = some d → J i out μ' → Ifs (c.at (kenvOf scope C c.env)) [(t, d)] μ' ifs fun b μ'' =>
        if b then Ev (c.at (kenvOf scope C c.env)) [(t, d)] μ'' elt fun e μ₃ => J (i + 1) (out ++ [e]) μ₃ else J (i + 1) out μ'') ∧
      (∀ out μ', J ds.length out μ' → QD (.lst out) μ'))
    (ok : compOkC scope t = true := by rfl) (hhas : ∀ n, ((cellsFrom n scope.names []).lookup t).isSome = true := by intro n; rfl) (hf : ∀ v, foldedSetIterable iter c.env v = pure v := by intro _; rfl) : Ev c ρ μ (.ListComp elt [⟨.Name t tp, iter, ifs, 0⟩] scope pos) QD := fun g s Iv => by
  have ok := CompOkC.of ok hhas
  rw [eval_ListComp]
  refine wpAny_comprehension_free (use := none) rfl hf (cl := []) (by rw [closureFor_none ok.free]) ok.kind ok.locals
    (wpAny_mono (h g s Iv) (fun x s₁ p₁ => wpAny_mono p₁ (fun it s₂ p₂ => ?_) fun _ _ f => f) fun _ _ f => f)
  obtain ⟨g₂, μ₂, I, ds, fp, wr, P, St, rfl, G₂, st₂, T, hI, gI, nI, hn, J, j0, jb, je⟩ := p₂
  refine compRunC (RR := fun acc C => compPost c.M c.A Never none (GPost c.K μ g s QD) acc C) ok Iv G₂ st₂ T hI gI nI hn J j0 jb ?_
  intro C a s' g' μ' out m' vs z hj G' st' hns hC gC nC haC ho ga na ha hd
  refine ⟨m', hns, fun h' sb => ?_⟩
  have k : ∀ b o, b ≠ C → s'.heap.get? b = some o → h'.get? b = some o := fun b o n e => (sb.2 b n).trans e
  exact GPost.frozen (d := .lst out) (s' := { s' with heap := h' }) (G'.but gC nC k) (st'.after (tk := s'.toks) hC k) ha (k a _ haC ho) ga na ⟨vs, z, rfl, hd⟩ (je _ _ hj)

end
end Pb
end
section
open PySem PySem.W PySem.Calls PyProof.Rows PySem.Spec
set_option Elab.async false
set_option linter.unusedVariables false
set_option maxRecDepth 100000
namespace Pb
theorem sto_length {α : Type} (l : List (Int × α)) (k : Int) (d : α) : (sto l k d).length ≤ l.length + 1 := by
  unfold sto; split <;> simp
theorem wpAny_alloc_dict {M : Model} {A : Around} {E : Value → Shared → Prop} {s : Shared} {Q : Value → Shared → Prop} (h : Q (.ref s.heap.objs.size) { s with heap := s.heap.push { cls := .type "dict", dict := none, data := .dict #[] } }) :
    wpAny M A newDict Q E s := by
  simp only [newDict, newObj]
  exact wpAny_bind (wpAny_alloc (wpAny_pure h))
section
variable {c : Cx} {cenv : Env} {ρc : Rho} {s₀ : Shared} {g₀ g₂ : Gh} {μ₀ : Mu} {I a : Addr}
theorem compLoopD {s₃ : Shared} {μ₃ : Mu} {g₃ : Gh} {R : Result → Shared → Prop} {kx vx iter : Expr} {t : Str} {tp pos : Pos} {ifs : List Expr} {scope : Scope} {ds : List D} {fp wr : List Addr} {P : Nat → Value → Prop} {St : Nat → Heap → Prop} {h₀ : Heap}
    (T : Itr c.prog c.w c.A g₂ h₀ I ds fp wr P St) (hI : s₀.heap.get? I = none) (hD : s₀.heap.get? a = none) (hDI : a ≠ I) (hw : ∀ b, WrX cenv t b → s₀.heap.get? b = none) (hn : ds.length ≤ 10000)
    (S : stoB cenv t = true) (ht : ρc.lookup t = none) (J : Nat → List (Int × D) → Mu → Prop) (j0 : J 0 [] μ₃)
    (jb : ∀ i d out μ', ds[i]? = some d → J i out μ' → Ifs (c.at cenv) ((t, d) :: ρc) μ' ifs fun b μ'' => if b then Ev (c.at cenv) ((t, d) :: ρc) μ'' kx fun e μ₃ => ∃ k, e = .int k ∧ Ev (c.at cenv) ((t, d) :: ρc) μ₃ vx fun e μ₃ => J (i + 1) (sto out k e) μ₃ else J (i + 1) out μ'')
    (C0 : CompSt c cenv ρc s₀ g₀ μ₀ I a (fun o => ObjDen g₃ a o (.dct [])) g₂ g₃ μ₃ s₃) (st0 : St 0 s₃.heap)
    (hR : ∀ s' g' μ' out, J ds.length out μ' → CompSt c cenv ρc s₀ g₀ μ₀ I a (fun o => ObjDen g' a o (.dct out)) g₂ g' μ' s' → R (.ok .next) s') :
    codeAny c.M c.A (.compLoop (.DictComp kx vx [⟨.Name t tp, iter, ifs, 0⟩] scope pos) 0 (.ref I) (.ref a) cenv) R s₃ := by
  refine codeAny_compLoop_testsD (fun n s' => ∃ i g' μ' out, i ≤ ds.length ∧ n = ds.length - i ∧ out.length ≤ i ∧ St i s'.heap ∧ J i out μ' ∧ CompSt c cenv ρc s₀ g₀ μ₀ I a (fun o => ObjDen g' a o (.dct out)) g₂ g' μ' s') ?_ ds.length
    ⟨0, g₃, μ₃, [], Nat.zero_le _, rfl, Nat.le_refl _, st0, j0, C0⟩
  rintro n s' ⟨i, g', μ', out, hi, rfl, ho, hst, hj, ⟨⟨ρ', sub, Iv⟩, stp, le, asI, asD, o, hobj, hout⟩⟩
  by_cases hlt : i < ds.length
  · refine T.walks.item i s' _ _ hlt hst fun v h₁ tk hP hst₁ hk => ?_
    have hk' : ∀ b o, b ≠ I → s'.heap.get? b = some o → h₁.get? b = some o := fun b o n e => hk b o (fun m => n (T.own b m)) e
    obtain ⟨d, hd, hden⟩ := T.item i v hP
    have I₁ : Inv c.K cenv ρ' μ' g' h₁ := Iv.but asI hk'
    have stp₁ : Step Nowr μ₀ μ' g₀ g' s₀ { s' with heap := h₁, toks := tk } := stp.after hI hk'
    have hD₁ := hk' a _ hDI hobj
    refine wpAny_assign_Name (store_any (c := c.at cenv) I₁ S (hden.mono le) fun s₂ I₂ st₂ => ?_)
    have stp₂ := stp₁.trans' st₂ hw
    have live₁ : (h₁.get? I).isSome = true := T.live _ _ hst₁
    have asI₂ : Aside cenv μ' g' I := asI.step live₁ st₂
    have hD₂ : s₂.heap.get? a = some o := st₂.keep a _ asD.nd (fun q => asD.nw q.wr) hD₁
    have hst₂ : St (i + 1) s₂.heap := T.frame (c := c) le asI (fun _ q => WrX.wr q) I₂.gi I₁.gi st₂ hst₁
    refine wpAny_mono (ifs_run (jb i d out μ' hd hj) (I₂.sub sub.both)) (fun ok s₃ p => ?_) fun _ _ f => f
    obtain ⟨g₃, μ₃, G₃, st₃, q₃⟩ := p
    have I₃ := I₂.step st₃ G₃
    have asI₃ := asI₂.step (T.live _ _ hst₂) st₃
    have asD₃ := asD.step (s := s₂) (by rw [hD₂]; rfl) st₃
    have hD₃ := st₃.keep a _ asD.nd (fun q => q) hD₂
    have hst₃ : St (i + 1) s₃.heap := T.frame (c := c) le asI₂ (fun _ q => q.elim) G₃ I₂.gi st₃ hst₂
    have stp₃ := stp₂.trans st₃
    have le₃ : Le g₂ g₃ := fun a o e => st₃.le a o (le a o e)
    have sub₃ : Sub ρc ((t, d) :: ρ') := sub.cons ht
    cases ok with
    | false =>
      rw [if_neg (by decide)]
      exact ⟨_, by omega, i + 1, g₃, μ₃, out, hlt, rfl, by omega, hst₃, q₃, ⟨_, sub₃, I₃⟩, stp₃, le₃, asI₃, asD₃, _, hD₃, hout.mono st₃.le⟩
    | true =>
      rw [if_pos rfl]
      refine wpAny_mono (q₃ g₃ s₃ (I₃.sub sub.both)) (fun x s₄ p => ?_) fun _ _ f => f.elim
      obtain ⟨g₄, e, μ₄, G₄, st₄, nk, k, rfl, q₄⟩ := p
      have I₄ := I₃.step st₄ G₄
      have asI₄ := asI₃.step (T.live _ _ hst₃) st₄
      have asD₄ := asD₃.step (by rw [hD₃]; rfl) st₄
      have hD₄ := st₄.keep a _ asD₃.nd (fun q => q) hD₃
      have hst₄ : St (i + 1) s₄.heap := T.frame (c := c) le₃ asI₃ (fun _ q => q.elim) G₄ G₃ st₄ hst₃
      refine wpAny_mono (q₄ g₄ s₄ (I₄.sub sub.both)) (fun y s₅ p => ?_) fun _ _ f => f.elim
      obtain ⟨g₅, e, μ₅, G₅, st₅, ne, q₅⟩ := p
      have I₅ := I₄.step st₅ G₅
      have asI₅ := asI₄.step (T.live _ _ hst₄) st₅
      have asD₅ := asD₄.step (by rw [hD₄]; rfl) st₅
      have hD₅ := st₅.keep a _ asD₄.nd (fun q => q) hD₄
      have hst₅ : St (i + 1) s₅.heap := T.frame (c := c) (fun a o e => st₄.le a o (le₃ a o e)) asI₄ (fun _ q => q.elim) G₅ G₄ st₅ hst₄
      have stp₅ := (stp₃.trans st₄).trans st₅
      have le₅ : Le g₂ g₅ := fun a o e => st₅.le a o (st₄.le a o (le₃ a o e))
      have hout₅ : ObjDen g₅ a o (.dct out) := hout.mono (fun a o e => st₅.le a o (st₄.le a o (st₃.le a o e)))
      obtain ⟨hs, es, z, rfl, hx, hnd⟩ := hout₅
      obtain ⟨kvs, hd, hp⟩ := dictAt_of (prog := c.prog) (w := c.w) hD₅ hx hnd
      rw [Den] at nk
      obtain ⟨tk, rfl⟩ := nk
      refine wpAny_dictSet_pairs (isInt_self k tk) hd.dictOf (fun h' hd' sb => ?_) (by rw [hp.length, sizeLine_eq]; omega)
      obtain ⟨o', ho', hx'⟩ := objDen_of hd' hs (hp.stored ne)
      have hu : ∀ b o, b ≠ a → s₅.heap.get? b = some o → h'.get? b = some o := fun b o n e => (sb.2 b n).trans e
      have hst₆ : St (i + 1) h' := T.walks.frame _ _ _ hst₅ fun b hb o e => hu b o (by
        rintro rfl
        rcases T.foot b hb with h | ⟨o', h⟩
        · exact hDI h
        · have := asD₅.gn; rw [le₅ _ _ h] at this; cases this) e
      refine ⟨_, by omega, i + 1, g₅, μ₅, sto out k e, hlt, rfl, ?_, hst₆, q₅, ⟨_, sub₃, I₅.but asD₅ hu⟩, stp₅.after hD hu, le₅, asI₅, asD₅, _, ho', hx'⟩
      have := sto_length out k e
      omega
  · have hi' : i = ds.length := by omega
    subst hi'
    refine T.walks.done s' _ _ hst fun h₁ tk hk => ?_
    have hk' : ∀ b o, b ≠ I → s'.heap.get? b = some o → h₁.get? b = some o := fun b o n e => hk b o (fun m => n (T.own b m)) e
    exact hR _ g' μ' out hj ⟨⟨ρ', sub, Iv.but asI hk'⟩, stp.after hI hk', le, asI, asD, _, hk' a _ hDI hobj, hout⟩
end
section
variable {c : Cx} {ρ : Rho} {μ : Mu} {Q : Fl → Rho → Mu → Prop} {QD : D → Mu → Prop}
theorem compRunD {g : Gh} {s s₂ : Shared} {μ₂ : Mu} {g₂ : Gh} {I : Addr} {ds : List D} {fp wr : List Addr} {P : Nat → Value → Prop} {St : Nat → Heap → Prop} {kx vx iter : Expr} {t : Str} {tp pos : Pos} {ifs : List Expr} {scope : Scope}
    {RR : Value → Addr → Result → Shared → Prop}
    (ok : CompOk scope c.env t) (Iv : Inv c.K c.env ρ μ g s.heap) (G₂ : GInv c.K μ₂ g₂ s₂.heap) (st₂ : Step Nowr μ μ₂ g g₂ s s₂) (T : Itr c.prog c.w c.A g₂ s₂.heap I ds fp wr P St) (hI : s.heap.get? I = none) (gI : g₂ I = none) (nI : ¬ Dom μ₂ I)
    (hn : ds.length ≤ 10000) (J : Nat → List (Int × D) → Mu → Prop) (j0 : J 0 [] μ₂)
    (jb : ∀ C i d out μ', ds[i]? = some d → J i out μ' → Ifs (c.at (cenvOf scope C c.env)) ((t, d) :: compRho scope ρ) μ' ifs fun b μ'' =>
      if b then Ev (c.at (cenvOf scope C c.env)) ((t, d) :: compRho scope ρ) μ'' kx fun e μ₃ => ∃ k, e = .int k ∧ Ev (c.at (cenvOf scope C c.env)) ((t, d) :: compRho scope ρ) μ₃ vx fun e μ₃ => J (i + 1) (sto out k e) μ₃ else J (i + 1) out μ'')
    (hRR : ∀ C a s' g' μ' out m' o, J ds.length out μ' → GInv c.K μ' g' s'.heap → Step Nowr μ μ' g g' s s' → s'.heap.Ns C m' → s.heap.get? C = none → g' C = none → ¬ Dom μ' C → a ≠ C →
      s'.heap.get? a = some o → g' a = none → ¬ Dom μ' a → s.heap.get? a = none → ObjDen g' a o (.dct out) → RR (.ref a) C (.ok .next) s') :
    wpAny c.M c.A newDict (fun acc s₃ => wpAny c.M c.A (newFunctionEnv scope c.env.globals (clOf c.env scope.names []) [] c.env.qual none .none (some c.env)) (fun cenv s₄ =>
      codeAny c.M c.A (.compStart (.DictComp kx vx [⟨.Name t tp, iter, ifs, 0⟩] scope pos) 0 (.ref I) acc { cenv with scope := relabel scope c.env }) (RR acc cenv.locals) s₄) Never s₃) Never s₂ := by
  refine wpAny_alloc_dict (wpAny_newFunctionEnv ok.nocell (by intro y hy; simp at hy) (fun h₁ hns₁ hsb₁ => ?_) ok.kind)
  dsimp only at hns₁ hsb₁ ⊢
  generalize hH2 : s₂.heap.push { cls := .type "dict", dict := none, data := .dict #[] } = H2 at hns₁ hsb₁ ⊢
  have hC : H2.objs.size = s₂.heap.objs.size + 1 := by rw [← hH2, Heap.size_push]
  have k2 : ∀ b o, s₂.heap.get? b = some o → h₁.get? b = some o := fun b o e => by
    have hb := Heap.lt_size e
    refine hsb₁.extBut b o (Nat.ne_of_lt (by rw [hC]; exact Nat.lt_succ_of_lt hb)) ?_
    exact Heap.get?_push_of_some _ (hH2 ▸ Heap.get?_push_of_some _ e)
  have nD2 : s₂.heap.get? s₂.heap.objs.size = none := fresh_size (Nat.le_refl _)
  have nC2 : s₂.heap.get? H2.objs.size = none := fresh_size (by rw [hC]; exact Nat.le_succ _)
  have back : ∀ b, s₂.heap.get? b = none → s.heap.get? b = none := fun b e => by
    cases z : s.heap.get? b with
    | none => rfl
    | some o => have := st₂.alive b (by rw [z]; rfl); rw [e] at this; cases this
  have hDC : s₂.heap.objs.size ≠ H2.objs.size := by rw [hC]; exact Nat.ne_of_lt (Nat.lt_succ_self _)
  have hobj : h₁.get? s₂.heap.objs.size = some (dictOf [] 0) := by
    refine hsb₁.extBut _ _ hDC (Heap.get?_push_of_some _ ?_)
    rw [← hH2]; exact Heap.get?_push_size _ rfl
  have liveI : (s₂.heap.get? I).isSome = true := T.live _ _ T.st
  have hDI : s₂.heap.objs.size ≠ I := by rintro rfl; rw [nD2] at liveI; cases liveI
  have Iv₂ := Iv.step st₂ G₂
  have Ivc : Inv c.K (cenvOf scope H2.objs.size c.env) (compRho scope ρ) μ₂ g₂ h₁ := Iv₂.comp ok hns₁ k2 nC2
  have wrC : ∀ x a, (clOf c.env scope.names []).lookup x = some a → ∃ o, s.heap.get? a = some o := fun x a e => by
    obtain ⟨q, rfl⟩ := clOf_lookup e
    obtain ⟨b, hb⟩ := Option.isSome_iff_exists.mp (ok.free x q).2.1
    rw [hb]
    exact Iv.lo.lt b (.inr ⟨x, hb⟩)
  have tl : (cenvOf scope H2.objs.size c.env).kindOf t = some .local := lookup_relabel_local ok.tgt
  have hw : ∀ b, WrX (cenvOf scope H2.objs.size c.env) t b → s.heap.get? b = none := fun b q => by
    rcases q with ⟨_, rfl⟩ | ⟨q, _⟩
    · exact back _ nC2
    · rw [tl] at q; cases q
  have S : stoB (cenvOf scope H2.objs.size c.env) t = true := by
    unfold stoB
    rw [tl]
    show (!((relabel scope c.env).kind == .class || ((relabel scope c.env).kind == .module && _))) = true
    rw [show (relabel scope c.env).kind = .function from ok.kind]; rfl
  have ht : (compRho scope ρ).lookup t = none := by
    cases e : (compRho scope ρ).lookup t with
    | none => rfl
    | some d => have := (compRho_lookup e).2; rw [ok.tgt] at this; cases this
  have nw : ∀ b, s.heap.get? b = none → b ≠ H2.objs.size → ¬ Wr (cenvOf scope H2.objs.size c.env) b := fun b e n q => by
    rcases q with rfl | ⟨x, q⟩
    · exact n rfl
    · obtain ⟨o, ho⟩ := wrC x b q; rw [e] at ho; cases ho
  have hIC : I ≠ H2.objs.size := by rintro rfl; rw [nC2] at liveI; cases liveI
  have st₃ : Step Nowr μ μ₂ g g₂ s { s₂ with heap := h₁, toks := s₂.toks + ([] : List (Str × Value)).length } := st₂.trans (Step.grown G₂ k2)
  have st0 : St 0 h₁ := T.walks.frame _ _ _ T.st fun b _ o e => k2 b o e
  have loop : codeAny c.M c.A (.compLoop (.DictComp kx vx [⟨.Name t tp, iter, ifs, 0⟩] scope pos) 0 (.ref I) (.ref s₂.heap.objs.size) (cenvOf scope H2.objs.size c.env)) (RR (.ref s₂.heap.objs.size) H2.objs.size)
      { s₂ with heap := h₁, toks := s₂.toks + ([] : List (Str × Value)).length } := by
    refine compLoopD (g₂ := g₂) (g₃ := g₂) T hI (back _ nD2) hDI hw hn S ht J j0 (fun i d out μ' => jb _ i d out μ')
      ⟨⟨_, Sub.refl, Ivc⟩, st₃, fun _ _ e => e, ⟨gI, nI, nw I hI hIC⟩, ⟨G₂.non nD2, G₂.domNone nD2, nw _ (back _ nD2) hDC⟩, _, hobj, G₂.base.modules (Nat.le_refl _), [], 0, rfl, by rw [DenKV]; trivial, List.nodup_nil⟩ st0 fun s' g' μ' out hj C => ?_
    obtain ⟨⟨ρ', _, Iv'⟩, st', _, _, asD, o, ho, hd⟩ := C
    obtain ⟨m', hns', _⟩ := Iv'.lo.ns
    exact hRR _ _ s' g' μ' out m' o hj Iv'.gi st' hns' (back _ nC2) Iv'.lo.gl (fun q => Iv'.ap _ q (.inl rfl)) hDC ho asD.gn asD.nd (back _ nD2) hd
  exact codeAny_compStart_dict loop (T.walks.self 0 _ _ _ st0 loop)

theorem Ev.dictcomp {kx vx iter : Expr} {t : Str} {tp pos : Pos} {ifs : List Expr} {scope : Scope}
    (h : EvI c ρ μ iter fun ds μ₂ => ds.length ≤ 10000 ∧ ∃ J : Nat → List (Int × D) → Mu → Prop, J 0 [] μ₂ ∧
      (∀ C i d out μ', ds[i]? = some d → J i out μ' → Ifs (c.at (cenvOf scope C c.env)) ((t, d) :: compRho scope ρ) μ' ifs fun b μ'' =>
        if b then Ev (c.at (cenvOf scope C c.env)) ((t, d) :: compRho scope ρ) μ'' kx fun e μ₃ => ∃ k, e = .int k ∧ Ev (c.at (cenvOf scope C c.env)) ((t, d) :: compRho scope ρ) μ₃ vx fun e μ₃ => J (i + 1) (sto out k e) μ₃ else J (i + 1) out μ'') ∧
      (∀ out μ', J ds.length out μ' → QD (.dct out) μ'))
    (ok : compOk scope c.env t = true := by rfl) (hf : ∀ v, foldedSetIterable iter c.env v = pure v := by intro _; rfl) : Ev c ρ μ (.DictComp kx vx [⟨.Name t tp, iter, ifs, 0⟩] scope pos) QD := fun g s Iv => by
  have ok := CompOk.of ok
  rw [arm_eval_DictComp]
  refine wpAny_comprehension_free (use := none) rfl hf (closureFor_clOf fun p hp e => by obtain ⟨x, k⟩ := p; dsimp only at e; subst e; exact (ok.free x hp).2.1) ok.kind ok.locals
    (wpAny_mono (h g s Iv) (fun x s₁ p₁ => wpAny_mono p₁ (fun it s₂ p₂ => ?_) fun _ _ f => f) fun _ _ f => f)
  obtain ⟨g₂, μ₂, I, ds, fp, wr, P, St, rfl, G₂, st₂, T, hI, gI, nI, hn, J, j0, jb, je⟩ := p₂
  refine compRunD (RR := fun acc C => compPost c.M c.A Never none (GPost c.K μ g s QD) acc C) ok Iv G₂ st₂ T hI gI nI hn J j0 jb ?_
  intro C a s' g' μ' out m' o hj G' st' hns hC gC nC haC ho ga na ha hd
  refine ⟨m', hns, fun h' sb => ?_⟩
  have k : ∀ b o, b ≠ C → s'.heap.get? b = some o → h'.get? b = some o := fun b o n e => (sb.2 b n).trans e
  exact GPost.frozen (d := .dct out) (s' := { s' with heap := h' }) (G'.but gC nC k) (st'.after (tk := s'.toks) hC k) ha (k a _ haC ho) ga na hd (je _ _ hj)

end
end Pb
end
section
open PySem PySem.W PySem.Calls PyProof.Rows PySem.Spec
set_option Elab.async false
set_option linter.unusedVariables false
set_option maxRecDepth 100000
namespace Pb

/- what is asked of the top -/
def attrOk (K : Frag) (C : Addr) (name : Str) : Bool :=
  findIn K (.ref C) "__getattribute__" == some (some (.builtin "object.__getattribute__")) && hasDictIn K C && findIn K (.ref C) name == some none
def methOk (K : Frag) (C : Addr) (name : Str) (f : Addr) : Bool :=
  findIn K (.ref C) "__getattribute__" == some (some (.builtin "object.__getattribute__")) && findIn K (.ref C) "__getattr__" == some none && findIn K (.ref C) name == some (some (.ref f)) && typeIn K (.ref f) == some (.type "function") && keepIn K (.ref f)
def setOk (K : Frag) (C : Addr) (name : Str) : Bool :=
  findIn K (.ref C) "__setattr__" == some (some (.builtin "object.__setattr__")) && plainOver K C && takerIn K C name == some none && hasDictIn K C
def makeOk (K : Frag) (C fI : Addr) : Bool :=
  makesIn K C && findIn K (.ref C) "__init__" == some (some (.ref fI)) && typeIn K (.ref fI) == some (.type "function") && keepIn K (.ref C)

theorem DenF.getL {g : Gh} : ∀ {es : List DictEntry} {l : List (Str × D)} (x : Str), DenF g es l →
    match l.lookup x with
    | some d => ∃ v, getL x es = some (some v) ∧ Den g v d
    | none => getL x es = some none
  | [], [], _, _ => rfl
  | e :: es, (y, d) :: l, x, h => by
    rw [DenF] at h
    obtain ⟨⟨t, hk⟩, hd, h⟩ := h
    have ih := DenF.getL x h
    rw [List.lookup_cons]
    by_cases q : x = y
    · subst q
      simp only [beq_self_eq_true]
      refine ⟨e.val, ?_, hd⟩
      unfold W.getL
      rw [List.find?_cons]
      simp [hk, Value.isStr]
    · rw [show (x == y) = false by simpa using q]
      dsimp only
      have h1 : e.key.isStr x = false := by rw [hk]; simp [Value.isStr]; exact fun e => q e.symm
      have h2 : e.refKey = false := by unfold DictEntry.refKey; rw [hk]
      have e3 : W.getL x (e :: es) = W.getL x es := by
        unfold W.getL
        rw [List.find?_cons, h1]
        simp only [List.any_cons, h2, Bool.false_or]
      rw [e3]; exact ih
  | [], _ :: _, _, h => by simp [DenF] at h
  | _ :: _, [], _, h => by simp [DenF] at h

def D.isRaw : D → Bool
  | .raw _ => true
  | _ => false
theorem Den.handed {g : Gh} {v : Value} {d : D} (h : d.isRaw = false) (n : Den g v d) : handedIn v = true := by
  cases d <;> first | cases h | skip
  all_goals rw [Den] at n
  case none => subst n; rfl
  case bool => subst n; rfl
  case int => obtain ⟨t, rfl⟩ := n; rfl
  case str => obtain ⟨t, rfl⟩ := n; rfl
  case tup => obtain ⟨_, _, _, rfl, _⟩ := n; rfl
  case lst => obtain ⟨_, _, _, rfl, _⟩ := n; rfl
  case vec => obtain ⟨_, _, _, _, rfl, _⟩ := n; rfl
  case rng => obtain ⟨_, _, _, _, rfl, _⟩ := n; rfl
  case set => obtain ⟨_, _, _, _, rfl, _⟩ := n; rfl
  case self => obtain ⟨rfl, _⟩ := n; rfl
  case dct => obtain ⟨_, _, _, rfl, _⟩ := n; rfl
  case inst => obtain ⟨_, _, _, _, rfl, _⟩ := n; rfl
  case flds => obtain ⟨_, _, _, rfl, _⟩ := n; rfl

section
variable {c : Cx} {ρ : Rho} {μ : Mu} {Q : Fl → Rho → Mu → Prop} {QD : D → Mu → Prop}

def OpA (c : Cx) (μ : Mu) (d : D) (name : Str) (Q : D → Mu → Prop) : Prop :=
  ∀ g s v, GInv c.K μ g s.heap → Den g v d → wpAny c.M c.A (getAttr v name true) (GPost c.K μ g s Q) Never s
theorem Ev.attr {e : Expr} {name : Str} {pos : Pos} (h : Ev c ρ μ e fun d μ' => OpA c μ' d name QD) (h1 : attributeBase e name c.env (eval e c.env) = eval e c.env := by rfl) (h2 : ∀ o r, letTemporaryGo e o r = pure () := by intro _ _; rfl) :
    Ev c ρ μ (.Attribute e name pos) QD := fun g s I => by
  rw [arm_eval_Attribute, h1]
  refine wpAny_bind (wpAny_mono (h g s I) (fun v s₁ p₁ => ?_) fun _ _ f => f)
  obtain ⟨g₁, d₁, μ₁, I₁, st₁, n₁, q₁⟩ := p₁
  refine wpAny_bind (wpAny_standAt (wpAny_bind (wpAny_holding (wpAny_mono (q₁ g₁ s₁ v I₁ n₁) (fun r s₂ p₂ => ?_) fun _ _ f => f))))
  rw [h2]
  exact wpAny_bind (wpAny_pure (wpAny_pure (p₂.trans st₁)))
theorem OpA.inst {C : Addr} {l : List (Str × D)} {name : Str} {d : D} (k : attrOk c.K C name = true) (e : l.lookup name = some d) (hd : d.isRaw = false) (q : QD d μ) : OpA c μ (.inst C l) name QD := fun g s v I n => by
  rw [Den] at n
  obtain ⟨a, dx, es, z, rfl, ha, hx, hf⟩ := n
  simp only [attrOk, Bool.and_eq_true, beq_iff_eq] at k
  obtain ⟨⟨k1, k2⟩, k3⟩ := k
  have hg := hf.getL name
  rw [e] at hg
  obtain ⟨u, hu, nu⟩ := hg
  have It : InstAt s.heap a (instObj C dx) C (some (dictOf es z)) := ⟨I.sub _ _ ha, rfl, rfl, I.sub _ _ hx⟩
  exact get_value I.base.mem It k1 (findObj_own (attr := none) k2 k3 rfl hu) (nu.handed hd) (GPost.same I _ nu q)
theorem Meth.inst {C f : Addr} {l : List (Str × D)} {name : Str} (k : methOk c.K C name f = true) (e : l.lookup name = none) : Meth c μ (.inst C l) name (.ref f) [.inst C l] := fun g s v pl R E I n h => by
  have n' := n
  rw [Den] at n
  obtain ⟨a, dx, es, z, rfl, ha, hx, hf⟩ := n
  simp only [methOk, Bool.and_eq_true, beq_iff_eq] at k
  obtain ⟨⟨⟨⟨k1, k2⟩, k3⟩, k4⟩, k5⟩ := k
  have hg := hf.getL name
  rw [e] at hg
  have It : InstAt s.heap a (instObj C dx) C (some (dictOf es z)) := ⟨I.sub _ _ ha, rfl, rfl, I.sub _ _ hx⟩
  refine method_fn I.base.mem It k1 k2 k3 k4 ?_ (h _ (DenL.one n'))
  show ((lookIn name (dictOf es z)).map (·.isSome)) = some false
  rw [lookIn_dict, hg]; rfl
theorem keep_of_meth {K : Frag} {C f : Addr} {name : Str} (k : methOk K C name f = true) : Keep K (.ref f) := by
  simp only [methOk, Bool.and_eq_true] at k
  exact Keep.ref k.2
theorem keep_of_make {K : Frag} {C f : Addr} (k : makeOk K C f = true) : Keep K (.ref C) := by
  simp only [makeOk, Bool.and_eq_true] at k
  exact Keep.ref k.2
/-- a method call on an object -/
theorem Ev.methI {o : Expr} {name : Str} {apos pos : Pos} {args : List Expr} (h : Ev c ρ μ o fun d₁ μ₁ => ∃ C l f, d₁ = .inst C l ∧ methOk c.K C name f = true ∧ l.lookup name = none ∧ EvL c ρ μ₁ args fun ds μ₂ => OpC c μ₂ (.ref f) (.inst C l :: ds) QD)
    (hp : (args.all fun e => match e with | .Starred .. => false | _ => true) = true := by rfl)
    (he : ∃ pl, eval (.Call (.Attribute o name apos) args [] pos) c.env = (do
      let ov ← eval o c.env
      standAt apos.atName
      let (f, first) ← holding [ov] (getMethod ov name pl)
      callWith pos f first (backTo pos (starEach args c.env)) (backToKw pos (keywordEach [] c.env))) := by exact ⟨_, rfl⟩) : Ev c ρ μ (.Call (.Attribute o name apos) args [] pos) QD :=
  Ev.meth (h.mono fun d μ ⟨C, l, f, e, k, n, r⟩ => ⟨.ref f, [.inst C l], by subst e; exact Meth.inst k n, keep_of_meth k, r⟩) hp he

theorem DenF.snoc {g : Gh} {e : DictEntry} {x : Str} {d : D} (h1 : ∃ t, e.key = .str x t) (h2 : Den g e.val d) : ∀ {es : List DictEntry} {l : List (Str × D)}, DenF g es l → DenF g (es ++ [e]) (l ++ [(x, d)])
  | [], [], _ => by
    show DenF g [e] [(x, d)]
    rw [DenF]; exact ⟨h1, h2, by rw [DenF]; trivial⟩
  | _ :: _, (_, _) :: _, h => by
    rw [DenF] at h
    rw [List.cons_append, List.cons_append, DenF]; exact ⟨h.1, h.2.1, DenF.snoc h1 h2 h.2.2⟩
  | [], _ :: _, h => by simp [DenF] at h
  | _ :: _, [], h => by simp [DenF] at h
theorem DenF.len {g : Gh} : ∀ {es : List DictEntry} {l : List (Str × D)}, DenF g es l → es.length = l.length
  | [], [], _ => rfl
  | _ :: _, (_, _) :: _, h => by rw [DenF] at h; simp [DenF.len h.2.2]
  | [], _ :: _, h => by simp [DenF] at h
  | _ :: _, [], h => by simp [DenF] at h
theorem DenF.putL {g : Gh} {x : Str} {hsh : Int} {t : Tok} {v : Value} {d : D} (n : Den g v d) : ∀ {es : List DictEntry} {l : List (Str × D)}, DenF g es l → l.lookup x = none → DenF g (W.putL x hsh (.str x t) v es) (l ++ [(x, d)])
  | [], [], _, _ => by
    show DenF g [⟨hsh, .str x t, v⟩] [(x, d)]
    rw [DenF]; exact ⟨⟨t, rfl⟩, n, by rw [DenF]; trivial⟩
  | e :: es, (y, d') :: l, h, hl => by
    rw [DenF] at h
    obtain ⟨⟨t', hk⟩, hd, h⟩ := h
    rw [List.lookup_cons] at hl
    by_cases q : x = y
    · subst q; simp at hl
    · rw [show (x == y) = false by simpa using q] at hl
      have h1 : e.key.isStr x = false := by rw [hk]; simp [Value.isStr]; exact fun e => q e.symm
      unfold W.putL
      rw [h1, List.cons_append]
      simp only [Bool.false_eq_true, if_false]
      rw [DenF]; exact ⟨⟨t', hk⟩, hd, DenF.putL n h hl⟩
  | [], _ :: _, h, _ => by simp [DenF] at h
  | _ :: _, [], h, _ => by simp [DenF] at h

/-- a field is written for the first time -/
theorem ExS.setAttr {value : Expr} {self name : Str} {sp ap pos : Pos} (h : Ev c ρ μ value fun d μ₁ => Ev c ρ μ₁ (.Name self sp) fun o μ₂ => ∃ C x dx fs μ', o = .self C x dx ∧ μ₂ = (dx, .flds fs) :: μ' ∧ setOk c.K C name = true ∧ fs.lookup name = none ∧ fs.length < 100 ∧
      Q .next ρ ((dx, .flds (fs ++ [(name, d)])) :: μ'))
    (hs : swapsWith value (some (.Attribute (.Name self sp) name ap)) pos.line c.env = pure false := by rfl) : ExS c ρ μ (.Assign [.Attribute (.Name self sp) name ap] value pos) Q := fun g s I => by
  refine plainObj_wpAny_Assign_Attribute (wpAny_mono (h g s I) (fun v s₁ p₁ => ?_) fun _ _ f => f) hs
  obtain ⟨g₁, d₁, μ₁, I₁, st₁, n₁, q₁⟩ := p₁.inv I
  refine wpAny_mono (q₁ g₁ s₁ I₁) (fun o s₂ p₂ => ?_) fun _ _ f => f
  obtain ⟨g₂, d₂, μ₂, I₂, st₂, n₂, C, x, dx, fs, μ', rfl, rfl, k, hl, hz, q₂⟩ := p₂.inv I₁
  have n₁' := n₁.mono st₂.le
  rw [Den] at n₂
  obtain ⟨rfl, hx⟩ := n₂
  simp only [setOk, Bool.and_eq_true, beq_iff_eq] at k
  obtain ⟨⟨⟨k1, k2⟩, k3⟩, k4⟩ := k
  obtain ⟨gn, od, ho, es, z, rfl, hf⟩ := I₂.gi.mu _ (.head _)
  dsimp only at ho
  have hxs := I₂.gi.sub _ _ hx
  have hlen := hf.len
  have hgl := hf.getL name
  rw [hl] at hgl
  replace hgl : W.getL name es = some none := hgl
  have It : InstAt s₂.heap x (instObj C dx) C (some (dictOf es z)) := ⟨hxs, rfl, rfl, ho⟩
  have X := I₂.gi.base.mem
  refine set_plain X It k1 (osa_open (s := { s₂ with toks := s₂.toks + 1 }) X It k2 k3 fun b => ?_)
  obtain ⟨cd, hc, hd'⟩ := any_some k4
  have X' : c.K.In ({ s₂ with toks := s₂.toks + 1 } : Shared).heap := X
  refine wpAny_bind (wpAny_pure (wpAny_bind (wpAny_bind (wpAny_loadPart hxs (wpAny_bind ((looks_clsIn X' hc).here ?_))))))
  rw [hd']
  refine wpAny_pure (a := some dx) (wpAny_bind (wpAny_pure (wpAny_bind ?_)))
  unfold nsSet
  refine wpAny_bind (wpAny_bind (wpAny_askSetting (wpAny_pure (wpAny_bind (wpAny_mkText (wpAny_bind (wpAny_loadPart ho ?_)))))))
  show wpAny _ _ (if aRefKeyMayBeTheName name es.toArray = true then _ else _) _ _ _
  have hr : aRefKeyMayBeTheName name es.toArray = false := by
    rw [aRefKeyMayBeTheName_at, ← Array.any_toList, ← Array.any_toList, List.toList_toArray]
    unfold W.getL at hgl
    split at hgl
    · exact absurd hgl (by simp)
    · split at hgl
      · exact absurd hgl (by simp)
      · rename_i z; rw [Bool.not_eq_true] at z; rw [z, Bool.and_false]
  rw [hr]
  have hP := putName_dict name (PyData.keyHash c.w.params name) (.str name (s₂.toks + 1)) v es z
  have hu : (s₂.heap.update dx (Obj.putName name (PyData.keyHash c.w.params name) (.str name (s₂.toks + 1)) v)).get? dx = some (dictOf (W.putL name (PyData.keyHash c.w.params name) (.str name (s₂.toks + 1)) v es) (putN name es z)) := by
    rw [← hP]; exact Heap.get?_update_self _ ho (by rw [hP]; rfl)
  have hn := DenF.putL (hsh := PyData.keyHash c.w.params name) (t := s₂.toks + 1) n₁' hf hl
  have hk : ∀ b o, b ≠ dx → s₂.heap.get? b = some o → (s₂.heap.update dx (Obj.putName name (PyData.keyHash c.w.params name) (.str name (s₂.toks + 1)) v)).get? b = some o := fun b o n e => (Heap.get?_update_other _ _ (Ne.symm n)).trans e
  refine wpAny_updatePart ho ?_
  refine wpAny_bind (wpAny_lookBehind hu (pastItsLine_dict (by rw [List.size_toArray, hn.len, sizeLine_eq, List.length_append]; simp; omega)) ?_)
  obtain ⟨g₃, d₃, μ₃, G₃, st₃, _, q₃⟩ := GPost.upd (Q := fun d m => m = (dx, .flds (fs ++ [(name, d₁)])) :: μ') (d' := .flds (fs ++ [(name, d₁)])) (e := .none) (v := .none) (tk := s₂.toks + 1 + 1) I₂.gi hk hu ⟨_, _, rfl, hn⟩ .noneD rfl
  subst q₃
  exact wpAny_pure ⟨g₃, ρ, _, .next, I₂.step st₃ G₃, ((st₁.trans st₂).trans st₃).wr, trivial, q₂⟩

/- classes -/
theorem Fit.under {A : Around} {n : Nat} {C : Addr} {vs : List Value} (f : Fit A (n + 1)) : Fit (A.under (.builtin "type.__call__" ⟨.ref C :: vs, []⟩)) n := by
  have h0 : (Code.builtin "type.__call__" ⟨.ref C :: vs, []⟩).frames = 0 := by with_unfolding_all rfl
  have h3 : (Code.builtin "type.__call__" ⟨.ref C :: vs, []⟩).isGuard = false := by
    show guardIds.contains "type.__call__" = false
    decide +kernel
  have h4 : (Code.builtin "type.__call__" ⟨.ref C :: vs, []⟩).isCaller = false := by with_unfolding_all rfl
  have h1 : (Code.builtin "type.__call__" ⟨.ref C :: vs, []⟩).weight ≤ 2 := by
    unfold Code.weight
    rw [h0, h3, h4]
    split <;> simp
  have h2 : (Code.builtin "type.__call__" ⟨.ref C :: vs, []⟩).cUnits ≤ 10 := by
    unfold Code.cUnits
    simp only [h0]
    omega
  refine ⟨f.h, ?_, ?_⟩
  · have := f.d
    show A.depth + (Code.builtin "type.__call__" ⟨.ref C :: vs, []⟩).weight + 3 * n < 1000
    omega
  · have := f.u
    show A.units + (Code.builtin "type.__call__" ⟨.ref C :: vs, []⟩).cUnits + 20 * n + 100 < 9900
    omega

theorem Fn.make {prog : Program} {w : World} {K : Frag} {n : Nat} {C fI : Addr} {ds : List D} (k : makeOk K C fI = true)
    (h : ∀ x dx, Fn prog w K n (.ref fI) ((dx, .flds []) :: μ) (.self C x dx :: ds) fun d μ' => d = .none ∧ ∃ fs μ'', μ' = (dx, .flds fs) :: μ'' ∧ QD (.inst C fs) μ'') : Fn prog w K (n + 1) (.ref C) μ ds QD := fun A g s vs FA I hd => by
  simp only [makeOk, Bool.and_eq_true, beq_iff_eq] at k
  obtain ⟨⟨⟨k1, k2⟩, k3⟩, k4⟩ := k
  have B := I.base
  have X := B.mem
  obtain ⟨hh, gg, dd, tt, os⟩ := s
  dsimp only at I B X
  have nd0 : hh.get? hh.objs.size = none := fresh_size (Nat.le_refl _)
  have nx0 : hh.get? (hh.objs.size + 1) = none := fresh_size (Nat.le_succ _)
  have kp : ∀ b o, hh.get? b = some o → ((hh.push emptyDict).push (instObj C hh.objs.size)).get? b = some o := fun b o e => Heap.get?_push_of_some _ (Heap.get?_push_of_some _ e)
  have hx : ((hh.push emptyDict).push (instObj C hh.objs.size)).get? (hh.objs.size + 1) = some (instObj C hh.objs.size) := by
    have := Heap.get?_push_size (hh.push emptyDict) (o := instObj C hh.objs.size) rfl
    rwa [Heap.size_push] at this
  have hdx : ((hh.push emptyDict).push (instObj C hh.objs.size)).get? hh.objs.size = some emptyDict := Heap.get?_push_of_some _ (Heap.get?_push_size _ rfl)
  have hne : hh.objs.size ≠ hh.objs.size + 1 := Nat.ne_of_lt (Nat.lt_succ_self _)
  refine make_core (makes_of X k1) (looks_findIn X k2) (fun self => bind_fn X self k3) (.inl rfl) ?_
  have I₁ : GInv K μ (put g (hh.objs.size + 1) (instObj C hh.objs.size)) ((hh.push emptyDict).push (instObj C hh.objs.size)) := (I.keeps kp).put (I.non nx0) hx (I.domNone nx0)
  have le₁ := le_put (o := instObj C hh.objs.size) (I.non nx0)
  have gdx : put g (hh.objs.size + 1) (instObj C hh.objs.size) hh.objs.size = none := by rw [put_ne hne]; exact I.non nd0
  have I₂ : GInv K ((hh.objs.size, .flds []) :: μ) (put g (hh.objs.size + 1) (instObj C hh.objs.size)) ((hh.push emptyDict).push (instObj C hh.objs.size)) := by
    refine ⟨I₁.bas, I₁.sub, fun p hp => ?_, ?_⟩
    · rcases List.mem_cons.mp hp with rfl | hp
      · exact ⟨gdx, _, hdx, [], 0, rfl, by rw [DenF]; trivial⟩
      · exact I₁.mu p hp
    · rw [List.map_cons, List.nodup_cons]
      refine ⟨fun hm => ?_, I₁.nd⟩
      obtain ⟨p, hp, e⟩ := List.mem_map.mp hm
      obtain ⟨_, o, ho, _⟩ := I.mu p hp
      rw [e, nd0] at ho; cases ho
  refine codeAny_mono (h (hh.objs.size + 1) hh.objs.size _ _ _ (.ref (hh.objs.size + 1) :: vs) FA.under I₂ (DenL.cons (by rw [Den]; exact ⟨rfl, put_self⟩) (hd.mono le₁))) fun r s' p => ?_
  obtain ⟨v, rfl, g', d, μ', G', st', hv, rfl, fs, μ'', rfl, q⟩ := p
  rw [Den] at hv; subst hv
  refine ⟨rfl, _, rfl, ?_⟩
  obtain ⟨gn, od, ho, hfd⟩ := G'.mu _ (.head _)
  dsimp only at gn ho hfd
  have hnd := G'.nd
  rw [List.map_cons, List.nodup_cons] at hnd
  have nd : ¬ Dom μ'' hh.objs.size := fun ⟨e, he⟩ => hnd.1 (List.mem_map_of_mem (f := (·.1)) he)
  have G'' : GInv K μ'' g' s'.heap := ⟨G'.bas, G'.sub, fun p hp => G'.mu p (.tail _ hp), hnd.2⟩
  obtain ⟨es, z, rfl, hf⟩ := hfd
  have le₂ := le_put (o := dictOf es z) gn
  refine ⟨put g' hh.objs.size (dictOf es z), .inst C fs, μ'', G''.put gn ho nd, ?_, ?_, q⟩
  · refine ⟨?_, fun b o e => le₂ _ _ (st'.le _ _ (le₁ _ _ e)), fun b e n z => ?_, fun b o n _ e => ?_, fun b e => ?_, fun b ⟨e, hb⟩ => ?_⟩
    · exact st'.eq
    · have hb0 : b ≠ hh.objs.size := by rintro rfl; rw [nd0] at e; cases e
      have hb1 : b ≠ hh.objs.size + 1 := by rintro rfl; rw [nx0] at e; cases e
      rw [put_ne hb0]
      obtain ⟨o, ho⟩ := Option.isSome_iff_exists.mp e
      refine st'.new b (by rw [show Shared.heap ⟨(hh.push emptyDict).push (instObj C hh.objs.size), gg, dd, tt, os⟩ = _ from rfl, kp b o ho]; rfl) (fun ⟨e', he'⟩ => ?_) (by rw [put_ne hb1]; exact z)
      rcases List.mem_cons.mp he' with h | h
      · cases h; exact hb0 rfl
      · exact n ⟨e', h⟩
    · have hb0 : b ≠ hh.objs.size := by rintro rfl; rw [show Shared.heap ⟨hh, gg, dd, tt, os⟩ = hh from rfl, nd0] at e; cases e
      refine st'.keep b o (fun ⟨e', he'⟩ => ?_) (fun q => q) (kp b o e)
      rcases List.mem_cons.mp he' with h | h
      · cases h; exact hb0 rfl
      · exact n ⟨e', h⟩
    · obtain ⟨o, ho⟩ := Option.isSome_iff_exists.mp e
      exact st'.alive b (by rw [show Shared.heap ⟨(hh.push emptyDict).push (instObj C hh.objs.size), gg, dd, tt, os⟩ = _ from rfl, kp b o ho]; rfl)
    · rcases st'.dom b ⟨e, .tail _ hb⟩ with ⟨e', he'⟩ | h
      · rcases List.mem_cons.mp he' with h | h
        · cases h; exact .inr nd0
        · exact .inl ⟨e', h⟩
      · refine .inr ?_
        cases z : hh.get? b with
        | none => rfl
        | some o => have := kp b o z; rw [show Shared.heap ⟨(hh.push emptyDict).push (instObj C hh.objs.size), gg, dd, tt, os⟩ = _ from rfl] at h; rw [h] at this; cases this
  · rw [Den]
    exact ⟨_, _, es, z, rfl, le₂ _ _ (st'.le _ _ put_self), put_self, hf.mono le₂⟩
end
end Pb
end
section
open PySem PySem.W PySem.Calls PyProof.Rows PySem.Spec
set_option Elab.async false
set_option linter.unusedVariables false
set_option maxRecDepth 100000
namespace Pb
section
variable {c : Cx} {ρ : Rho} {μ : Mu} {QD : D → Mu → Prop} {i j : Int} {a : Addr}

theorem DenL.one' {g : Gh} {vs : List Value} {d : D} (n : DenL g vs [d]) : ∃ v, vs = [v] ∧ Den g v d := by
  obtain ⟨v, us, rfl, n1, m2⟩ := n.inv'
  rw [m2.invNil]; exact ⟨v, rfl, n1⟩

/- len -/
theorem OpC.lenL {xs : List D} (hl : xs.length < 2 ^ 62) (q : QD (.int xs.length) μ) : OpC c μ (.builtin "len") [.lst xs] QD := fun g s vs I n => by
  obtain ⟨v, rfl, nn⟩ := n.one'; replace n := nn
  rw [Den] at n
  obtain ⟨a, its, z, rfl, ha, hx⟩ := n
  have hlen := hx.length
  rw [Array.length_toList] at hlen
  exact call_len_list ⟨_, I.sub _ _ ha, rfl, z, rfl⟩ (by omega) (GPost.same I _ (by rw [hlen]; exact .intD _ _) q)
theorem OpC.lenT {xs : List D} (hl : xs.length < 2 ^ 62) (q : QD (.int xs.length) μ) : OpC c μ (.builtin "len") [.tup xs] QD := fun g s vs I n => by
  obtain ⟨v, rfl, nn⟩ := n.one'; replace n := nn
  rw [Den] at n
  obtain ⟨a, its, z, rfl, ha, hx⟩ := n
  have hlen := hx.length
  rw [Array.length_toList] at hlen
  exact PyProof.Rows.len_tuple ⟨_, I.sub _ _ ha, rfl, z, rfl⟩ (by omega) (GPost.same I _ (by rw [hlen]; exact .intD _ _) q)
theorem OpC.lenDMu {l : List (Int × D)} (h : (a, .dct l) ∈ μ) (hl : l.length < 2 ^ 62) (q : QD (.int l.length) μ) : OpC c μ (.builtin "len") [.raw (.ref a)] QD := fun g s vs I n => by
  obtain ⟨v, rfl, nn⟩ := n.one'; replace n := nn
  rw [Den] at n; subst n
  obtain ⟨_, o, ho, hs, es, z, rfl, hx, hn⟩ := I.mu _ h
  obtain ⟨kvs, hd, hp⟩ := dictAt_of (prog := c.prog) (w := c.w) ho hx hn
  have := hp.length
  exact call_len_dict (by simpa using hs) hd.dictOf (by omega) (GPost.same I _ (by rw [this]; exact .intD _ _) q)

/- tuple, list -/
theorem OpC.tupL {xs : List D} (hl : xs.length ≤ 10000) (q : QD (.tup xs) μ) : OpC c μ (.type "tuple") [.lst xs] QD := fun g s vs I n => by
  obtain ⟨v, rfl, nn⟩ := n.one'; replace n := nn
  rw [Den] at n
  obtain ⟨a, its, z, rfl, ha, hx⟩ := n
  have hlen := hx.length
  rw [Array.length_toList] at hlen
  refine call_tuple_list ⟨_, I.sub _ _ ha, rfl, z, rfl⟩ (fun h' k => ?_) (by rw [sizeLine_eq]; omega)
  have hf : s.heap.get? h'.objs.size = none := by
    cases e : s.heap.get? h'.objs.size with
    | none => rfl
    | some o => exact absurd (Heap.lt_size (k _ _ e)) (Nat.lt_irrefl _)
  exact GPost.made (d := .tup xs) (tk := s.toks) I (fun b o e => Heap.get?_push_of_some _ (k b o e)) hf (Heap.get?_push_size _ rfl) ⟨its, 0, rfl, hx⟩ q
theorem OpC.tupT {xs : List D} (q : QD (.tup xs) μ) : OpC c μ (.type "tuple") [.tup xs] QD := fun g s vs I n => by
  obtain ⟨v, rfl, nn⟩ := n.one'; replace n := nn
  have n' := n
  rw [Den] at n
  obtain ⟨a, its, z, rfl, ha, hx⟩ := n
  exact call_tuple_same ⟨_, I.sub _ _ ha, rfl, z, rfl⟩ (GPost.here I n' q)
theorem OpC.lstT {xs : List D} (hl : xs.length ≤ 10000) (q : QD (.lst xs) μ) : OpC c μ (.type "list") [.tup xs] QD := fun g s vs I n => by
  obtain ⟨v, rfl, nn⟩ := n.one'; replace n := nn
  rw [Den] at n
  obtain ⟨a, its, z, rfl, ha, hx⟩ := n
  have hlen := hx.length
  rw [Array.length_toList] at hlen
  refine call_list_seq a (.inr rfl) (I.sub _ _ ha) rfl rfl (fun h' c' k ho => ?_) (by rw [sizeLine_eq]; omega)
  exact GPost.made (d := .lst xs) (tk := s.toks) I k (fresh_size (Nat.le_refl _)) ho ⟨its, c', rfl, hx⟩ q
theorem OpC.lstR (hh : c.A.handled = none) {a b : Int} (h1 : -(2 ^ 20) ≤ a ∧ a < 2 ^ 20 ∧ -(2 ^ 20) ≤ b ∧ b < 2 ^ 20) (q : QD (.lst (rngL a b)) μ) : OpC c μ (.type "list") [.rng a b] QD := fun g s vs I n => by
  obtain ⟨v, rfl, nn⟩ := n.one'; replace n := nn
  rw [Den] at n
  obtain ⟨r, t, u, x, rfl, hr⟩ := n
  have ho : IsRange s.heap r a b 1 t u x := I.sub _ _ hr
  have hsz : Builtin.Range.rangeSize a b 1 = ((b - a).toNat : Int) := by rw [rangeSize_one]; split <;> omega
  refine call_list_range hh ho (small_one (by omega) (by omega) (by omega) (by omega)) hsz (by omega) fun h' tk acc' c' k ho' hacc => ?_
  refine GPost.made (d := .lst (rngL a b)) I k (fresh_size (Nat.le_refl _)) ho' ⟨acc', c', rfl, DenL.of_get ?_ fun i v d e1 e2 => ?_⟩ q
  · rw [Array.length_toList, hacc.1]; simp [rngL]
  · rw [Array.getElem?_toList] at e1
    obtain ⟨t, rfl⟩ := hacc.2 i v e1
    unfold rngL at e2
    rw [List.getElem?_map] at e2
    obtain ⟨m, hm, rfl⟩ := Option.map_eq_some_iff.mp e2
    have : m = i := by
      rw [List.getElem?_range] at hm
      · exact (Option.some.inj hm).symm
      · by_cases hi : i < (b - a).toNat
        · exact hi
        · rw [List.getElem?_eq_none (by simp; omega)] at hm; cases hm
    subst this
    rw [Int.mul_one]; exact .intD _ _

/- int, abs, isinstance -/
theorem OpC.int (q : QD (.int i) μ) : OpC c μ (.type "int") [.int i] QD := fun g s vs I n => by
  obtain ⟨v, rfl, nn⟩ := n.one'; replace n := nn
  rw [Den] at n; obtain ⟨t, rfl⟩ := n
  exact call_int_int (GPost.here I (.intD _ _) q)
theorem OpC.abs (q : QD (.int (if i < 0 then -i else i)) μ) : OpC c μ (.builtin "abs") [.int i] QD := fun g s vs I n => by
  obtain ⟨v, rfl, nn⟩ := n.one'; replace n := nn
  rw [Den] at n; obtain ⟨t, rfl⟩ := n
  exact call_abs_int fun u tk => GPost.same I _ (.intD _ _) q
theorem OpC.isYes {C C' : Addr} {l : List (Str × D)} (k : isIn c.K (.ref C) C' = true) (q : QD (.bool true) μ) : OpC c μ (.builtin "isinstance") [.inst C l, .raw (.ref C')] QD := fun g s vs I n => by
  obtain ⟨v, us, rfl, n1, m2⟩ := n.inv'
  obtain ⟨u, rfl, n2⟩ := m2.one'
  rw [Den] at n1; rw [Den] at n2
  obtain ⟨x, dx, es, z, rfl, ha, hx, hf⟩ := n1
  subst n2
  refine isi_call I.base.mem (fun M => ?_) k (by simp) (GPost.here I (.boolD _) q)
  exact (Looks.ld (I.sub _ _ ha)).andThen .now
theorem OpC.isNoInt {C : Addr} (k : isNotIn c.K "int" C = true) (q : QD (.bool false) μ) : OpC c μ (.builtin "isinstance") [.int i, .raw (.ref C)] QD := fun g s vs I n => by
  obtain ⟨v, us, rfl, n1, m2⟩ := n.inv'
  obtain ⟨u, rfl, n2⟩ := m2.one'
  rw [Den] at n1; rw [Den] at n2
  obtain ⟨t, rfl⟩ := n1
  subst n2
  exact isn_call (P := fun _ => True) I.base.mem (fun M => .now) k (by simp) trivial (fun p h => int_cls p h) (GPost.same I _ (.boolD _) q)

/- sorted -/
def IsSorted (ns : List Int) (ms : List Int) : Prop := ns.Perm ms ∧ ns.Pairwise (· ≤ ·)
theorem OpC.sortL {ms : List Int} (hl : ms.length < 64) (q : ∀ ns, IsSorted ns ms → QD (.lst (ns.map D.int)) μ) : OpC c μ (.builtin "sorted") [.lst (ms.map D.int)] QD := fun g s vs I n => by
  obtain ⟨v, rfl, nn⟩ := n.one'; replace n := nn
  rw [Den] at n
  obtain ⟨a, its, z, rfl, ha, hx⟩ := n
  have hlen := hx.length
  rw [List.length_map] at hlen
  refine sorted_ints (vs := its.toList) (by exact ⟨_, I.sub _ _ ha, rfl, z, rfl⟩) hx.ints (by omega) fun out ns' h1 h2 h3 => ?_
  obtain ⟨e, he⟩ := sortedAll_at s.heap its.toList out
  exact GPost.made (d := .lst (ns'.map D.int)) (tk := s.toks) I (fun b o => sortedAll_old) (fresh_size (Nat.le_succ _)) he ⟨out, e, rfl, DenL.of_ints h1⟩ (q ns' ⟨h2, h3⟩)
theorem intsAre_get : ∀ {vs : List Value} {ns : List Int}, vs.length = ns.length → (∀ (j : Nat) (v : Value), vs[j]? = some v → ∃ k : Int, ns[j]? = some k ∧ ∃ t : Tok, v = Value.int k t) → IntsAre vs ns
  | [], [], _, _ => .nil
  | v :: vs, n :: ns, e, h => by
    obtain ⟨k, hk, t, rfl⟩ := h 0 v rfl
    simp at hk; subst hk
    exact .cons _ _ (intsAre_get (by simpa using e) fun j v hj => by simpa using h (j + 1) v (by simpa using hj))
  | [], _ :: _, e, _ => by simp at e
  | _ :: _, [], e, _ => by simp at e
theorem sortTail {g : Gh} {s s' : Shared} {vs : List Value} {ms : List Int} {E : Value → Shared → Prop} (I : GInv c.K μ g s.heap) (hl : vs.length < 64) (k : ∀ b o, s.heap.get? b = some o → s'.heap.get? b = some o) (hs : ∃ h tk, s' = { s with heap := h, toks := tk }) (hi : IntsAre vs ms)
    (q : ∀ ns, IsSorted ns ms → QD (.lst (ns.map D.int)) μ) :
    wpAny c.M c.A.in1 (do let l ← newList vs; let _ ← holding [l] (call (.builtin "list.sort") [l]); ret l) (fun fin s' => ∃ v, fin = .done (.ret v) ∧ GPost c.K μ g s QD v s') E s' := by
  refine wpAny_bind (wpAny_newList ?_ (by rw [sizeLine_eq]; omega))
  have ho : (s'.heap.push { cls := .type "list", data := .seq vs.toArray }).get? s'.heap.objs.size = some (seqObj "list" vs.toArray 0) := Heap.get?_push_size _ rfl
  refine wpAny_bind (wpAny_holding (wpAny_call_entry slot_list_sort ⟨_, ho, rfl⟩ entry_list_sort (list_sort_tree ho hi hl fun out ns' a1 a2 a3 => ⟨_, rfl, ?_⟩) (args_list_sort _)))
  refine wpAny_pure ⟨_, rfl, ?_⟩
  obtain ⟨h, tk, rfl⟩ := hs
  obtain ⟨e, he⟩ := sortedHeap_at (out := out) ho
  have hf : s.heap.get? h.objs.size = none := by
    cases e : s.heap.get? h.objs.size with
    | none => rfl
    | some o => exact absurd (Heap.lt_size (k _ _ e)) (Nat.lt_irrefl _)
  refine GPost.made (d := .lst (ns'.map D.int)) I (fun b o e => ?_) hf he ⟨out, e, rfl, DenL.of_ints a1⟩ (q ns' ⟨a2, a3⟩)
  have hb : b < h.objs.size := Heap.lt_size (k _ _ e)
  rw [sortedHeap_old (Nat.ne_of_lt hb) (by rw [size_push']; exact Nat.lt_succ_of_lt hb)]
  exact Heap.get?_push_of_some _ (k _ _ e)
theorem OpC.sortD (hh : c.A.handled = none) {l : List (Int × D)} (hl : l.length < 64) (q : ∀ ns, IsSorted ns (l.map (·.1)) → QD (.lst (ns.map D.int)) μ) : OpC c μ (.builtin "sorted") [.dct l] QD := fun g s vs I n => by
  obtain ⟨v, rfl, nn⟩ := n.one'; replace n := nn
  rw [Den] at n
  obtain ⟨a, es, z, rfl, hs, ha, hx, hn⟩ := n
  obtain ⟨kvs, hd, hp⟩ := dictAt_of (prog := c.prog) (w := c.w) (I.sub _ _ ha) hx hn
  have hlen := hp.length
  refine call_function_entry kind_sorted plain_sorted entry_sorted (args_sorted1 _) ?_
  unfold Builtin.«sorted»
  refine wpAny_bind (m := checkCount "sorted" 1 1 _) (wpAny_pure ?_)
  refine wpAny_bind (kdu_collect (A := c.A.in1) (kdl_dict (knd := intKind c.prog c.w) (kvs := kvs) (ep := z) (by simpa using hs)) hh hd (by rw [sizeLine_eq]; omega) fun h' tk acc hk hacc => ?_)
  have hal : acc.toList.length = kvs.length := by rw [Array.length_toList]; exact hacc.1
  refine sortTail I (by omega) hk ⟨_, _, rfl⟩ (intsAre_get (by rw [hal, List.length_map]; exact hlen) fun j v hj => ?_) q
  rw [Array.getElem?_toList] at hj
  obtain ⟨k, x, e1, e2⟩ := hacc.2 j v hj
  obtain ⟨t, rfl⟩ := Value.isInt_shape e2
  refine ⟨k, ?_, t, rfl⟩
  have := hp.keys
  rw [← this, List.getElem?_map, e1]; rfl

/- comparisons of lists with the empty list -/
theorem Op2.eqNil (hu : c.A.units < cLine) (hu64 : c.A.units + 64 < cLine) {xs : List D} (q : QD (.bool xs.isEmpty) μ) : Op2 c μ (compareOp .Eq) (.lst xs) (.lst []) QD := fun g s u v I m n => by
  rw [Den] at m n
  obtain ⟨a, vs, k, rfl, ha, hm⟩ := m
  obtain ⟨b, ws, k', rfl, hb, hn⟩ := n
  have l1 := hm.length; have l2 := hn.length
  rw [Array.length_toList] at l1 l2
  cases xs with
  | nil =>
    refine eq_dataH (da := .list []) (db := .list []) (.list (I.sub _ _ ha) rfl rfl (by rw [hm.invNil]; exact .nil)) (.list (I.sub _ _ hb) rfl rfl (by rw [hn.invNil]; exact .nil)) (by decide) (by decide) hu64 ?_
    exact GPost.here I (.boolD _) q
  | cons x xs =>
    exact SeqAt.RcAt.lists_lengths ⟨_, I.sub _ _ ha, rfl, k, rfl⟩ ⟨_, I.sub _ _ hb, rfl, k', rfl⟩ (by rw [l1, l2]; simp) hu _ _ _ _ (GPost.here I (.boolD _) q)
theorem Op2.neNil (hu : c.A.units < cLine) (hu64 : c.A.units + 64 < cLine) {xs : List D} (q : QD (.bool (!xs.isEmpty)) μ) : Op2 c μ (compareOp .NotEq) (.lst xs) (.lst []) QD := fun g s u v I m n => by
  rw [Den] at m n
  obtain ⟨a, vs, k, rfl, ha, hm⟩ := m
  obtain ⟨b, ws, k', rfl, hb, hn⟩ := n
  have l1 := hm.length; have l2 := hn.length
  rw [Array.length_toList] at l1 l2
  cases xs with
  | nil =>
    refine ne_dataH (da := .list []) (db := .list []) (.list (I.sub _ _ ha) rfl rfl (by rw [hm.invNil]; exact .nil)) (.list (I.sub _ _ hb) rfl rfl (by rw [hn.invNil]; exact .nil)) (by decide) (by decide) hu64 ?_
    exact GPost.here I (.boolD _) q
  | cons x xs =>
    exact SeqAt.RcNeAt.lists_lengths ⟨_, I.sub _ _ ha, rfl, k, rfl⟩ ⟨_, I.sub _ _ hb, rfl, k', rfl⟩ (by rw [l1, l2]; simp) hu _ _ _ _ (GPost.here I (.boolD _) q)
end
end Pb
end
section
open PySem PySem.W PySem.Calls PyProof.Rows PySem.Spec
set_option Elab.async false
set_option linter.unusedVariables false
set_option maxRecDepth 100000
namespace Pb

/- plain data, for «==» -/
def Pl : Nat → D → Prop
  | _, .none => True
  | _, .bool _ => True
  | _, .int _ => True
  | n + 1, .tup l => ∀ x ∈ l, Pl n x
  | n + 1, .lst l => ∀ x ∈ l, Pl n x
  | _, _ => False
def py : Nat → D → PyData
  | _, .none => .none
  | _, .bool b => .bool b
  | _, .int i => .int i
  | n + 1, .tup l => .tuple (l.map (py n))
  | n + 1, .lst l => .list (l.map (py n))
  | _, _ => .none
theorem readsAll_of {h : Heap} {g : Gh} {n : Nat} (ih : ∀ (d : D) (v : Value), Pl n d → Den g v d → ∃ as, Reads h v (py n d) as) : ∀ {l : List D} {vs : List Value}, (∀ x ∈ l, Pl n x) → DenL g vs l → ∃ as, ReadsAll h vs (l.map (py n)) as
  | [], vs, _, x => by rw [x.invNil]; exact ⟨_, .nil⟩
  | d :: l, vs, p, x => by
    obtain ⟨v, us, rfl, n1, n2⟩ := x.inv'
    obtain ⟨as, ha⟩ := ih d v (p d (.head _)) n1
    obtain ⟨bs, hb⟩ := readsAll_of ih (fun x hx => p x (.tail _ hx)) n2
    exact ⟨_, .cons ha hb⟩
theorem Pl.reads {h : Heap} {g : Gh} (k : ∀ a o, g a = some o → h.get? a = some o) : ∀ (n : Nat) (d : D) (v : Value), Pl n d → Den g v d → ∃ as, Reads h v (py n d) as
  | n, d, v, p, x => by
    cases d with
    | none => rw [Den] at x; subst x; cases n <;> exact ⟨_, .none⟩
    | bool b => rw [Den] at x; subst x; cases n <;> exact ⟨_, .bool b⟩
    | int i => rw [Den] at x; obtain ⟨t, rfl⟩ := x; cases n <;> exact ⟨_, .int i t⟩
    | tup l =>
      cases n with
      | zero => exact p.elim
      | succ n =>
        rw [Den] at x
        obtain ⟨a, vs, z, rfl, ha, hx⟩ := x
        obtain ⟨as, hr⟩ := readsAll_of (fun d v => Pl.reads k n d v) p hx
        exact ⟨_, .tuple (k _ _ ha) rfl rfl hr⟩
    | lst l =>
      cases n with
      | zero => exact p.elim
      | succ n =>
        rw [Den] at x
        obtain ⟨a, vs, z, rfl, ha, hx⟩ := x
        obtain ⟨as, hr⟩ := readsAll_of (fun d v => Pl.reads k n d v) p hx
        exact ⟨_, .list (k _ _ ha) rfl rfl hr⟩
    | _ => cases n <;> exact p.elim
theorem py_all {n : Nat} (ih : ∀ d, Pl n d → (py n d).canLay0 = true ∧ (py n d).depth ≤ n) : ∀ {l : List D}, (∀ x ∈ l, Pl n x) → PyData.canLayAll0 (l.map (py n)) = true ∧ PyData.depthAll (l.map (py n)) ≤ n
  | [], _ => ⟨rfl, Nat.zero_le _⟩
  | d :: l, p => by
    obtain ⟨h1, h2⟩ := ih d (p d (.head _))
    obtain ⟨h3, h4⟩ := py_all ih (l := l) fun x hx => p x (.tail _ hx)
    rw [List.map_cons]
    refine ⟨by simp [PyData.canLayAll0, h1, h3], ?_⟩
    simp only [PyData.depthAll]
    exact Nat.max_le.mpr ⟨h2, h4⟩
theorem Pl.shape : ∀ (n : Nat) (d : D), Pl n d → (py n d).canLay0 = true ∧ (py n d).depth ≤ n
  | n, d, p => by
    cases d with
    | none => cases n <;> exact ⟨rfl, Nat.zero_le _⟩
    | bool b => cases n <;> exact ⟨rfl, Nat.zero_le _⟩
    | int i => cases n <;> exact ⟨rfl, Nat.zero_le _⟩
    | tup l =>
      cases n with
      | zero => exact p.elim
      | succ n =>
        obtain ⟨h1, h2⟩ := py_all (fun d => Pl.shape n d) p
        refine ⟨by rw [py, PyData.canLay0]; exact h1, ?_⟩
        rw [py, PyData.depth]; omega
    | lst l =>
      cases n with
      | zero => exact p.elim
      | succ n =>
        obtain ⟨h1, h2⟩ := py_all (fun d => Pl.shape n d) p
        refine ⟨by rw [py, PyData.canLay0]; exact h1, ?_⟩
        rw [py, PyData.depth]; omega
    | _ => cases n <;> exact p.elim
theorem Pl.shaped {n : Nat} {d : D} (hn : n ≤ 64) (p : Pl n d) : SeqAt.shaped (py n d) = true := by
  obtain ⟨h1, h2⟩ := Pl.shape n d p
  unfold SeqAt.shaped
  rw [h1, Bool.true_and, decide_eq_true_eq]; omega

section
variable {c : Cx} {ρ : Rho} {μ : Mu} {QD : D → Mu → Prop} {i j : Int} {a : Addr}
/-- equal data -/
theorem Op2.eqSame (hu64 : c.A.units + 64 < cLine) {n : Nat} (hn : n ≤ 64) {d : D} (p : Pl n d) (q : QD (.bool true) μ) : Op2 c μ (compareOp .Eq) d d QD := fun g s u v I m k => by
  obtain ⟨as, ra⟩ := Pl.reads I.sub n d u p m
  obtain ⟨bs, rb⟩ := Pl.reads I.sub n d v p k
  refine eq_dataH ra rb (p.shaped hn) (p.shaped hn) hu64 (GPost.here I ?_ q)
  rw [SeqAt.eqv_refl _ (Pl.shape n d p).1]; exact .boolD _
theorem Op2.neSame (hu64 : c.A.units + 64 < cLine) {n : Nat} (hn : n ≤ 64) {d : D} (p : Pl n d) (q : QD (.bool false) μ) : Op2 c μ (compareOp .NotEq) d d QD := fun g s u v I m k => by
  obtain ⟨as, ra⟩ := Pl.reads I.sub n d u p m
  obtain ⟨bs, rb⟩ := Pl.reads I.sub n d v p k
  refine ne_dataH ra rb (p.shaped hn) (p.shaped hn) hu64 (GPost.here I ?_ q)
  rw [SeqAt.eqv_refl _ (Pl.shape n d p).1]; exact .boolD _

/- slices -/
theorem Ev.from {value lo : Expr} {p pos : Pos} (h : Ev c ρ μ value fun d μ₁ => Ev c ρ μ₁ lo fun k μ₂ => ∃ (xs : List D) (n : Nat), d = .lst xs ∧ k = .int (n : Int) ∧ xs.length ≤ 10000 ∧ QD (.lst (xs.drop n)) μ₂)
    (ht : ∀ o r, letTemporaryGo value o r = pure () := by intro _ _; rfl) : Ev c ρ μ (.Subscript value (.Slice (some lo) none none p) pos) QD := fun g s I => by
  refine wpAny_Subscript_list_slice (wpAny_mono (h g s I) (fun v₁ s₁ p₁ => ?_) fun _ _ f => f) ht
  obtain ⟨g₁, d₁, μ₁, I₁, st₁, n₁, q₁⟩ := p₁.inv I
  rw [evalPart_some]
  refine wpAny_mono (q₁ g₁ s₁ I₁) (fun v₂ s₂ p₂ => ?_) fun _ _ f => f
  obtain ⟨g₂, d₂, μ₂, I₂, st₂, n₂, xs, n, rfl, rfl, hl, q₂⟩ := p₂.inv I₁
  rw [evalPart_none]
  refine wpAny_pure ?_
  have n₁' := n₁.mono st₂.le
  rw [Den] at n₁'; rw [Den] at n₂
  obtain ⟨a, vs, z, rfl, ha, hx⟩ := n₁'
  obtain ⟨t, rfl⟩ := n₂
  have hlen := hx.length
  rw [Array.length_toList] at hlen
  refine ⟨a, vs, some n, none, rfl, ⟨_, I₂.gi.sub _ _ ha, rfl, z, rfl⟩, by rw [sizeLine_eq]; omega, .int _ _, .none, ?_⟩
  rw [slicePick_from']
  have e := Heap.get?_push_size (s₂.heap.push { cls := .type "slice", data := .fields #[.int (n : Int) t, .none, .none] }) (o := { cls := .type "list", data := .seq (vs.toList.drop n).toArray }) rfl
  rw [Heap.size_push] at e
  exact (GPost.made (d := .lst (xs.drop n)) (tk := s₂.toks) I₂.gi (fun b o e => Heap.get?_push_of_some _ (Heap.get?_push_of_some _ e)) (fresh_size (Nat.le_succ _)) e ⟨_, 0, rfl, hx.drop n⟩ q₂).trans (st₁.trans st₂)
theorem Ev.upto {value hi : Expr} {p pos : Pos} (h : Ev c ρ μ value fun d μ₁ => Ev c ρ μ₁ hi fun k μ₂ => ∃ (xs : List D) (n : Nat), d = .vec xs ∧ k = .int (n : Int) ∧ xs.length ≤ 10000 ∧ QD (.lst (xs.take n)) μ₂)
    (ht : ∀ o r, letTemporaryGo value o r = pure () := by intro _ _; rfl) : Ev c ρ μ (.Subscript value (.Slice none (some hi) none p) pos) QD := fun g s I => by
  refine wpAny_Subscript_list_slice (wpAny_mono (h g s I) (fun v₁ s₁ p₁ => ?_) fun _ _ f => f) ht
  obtain ⟨g₁, d₁, μ₁, I₁, st₁, n₁, q₁⟩ := p₁.inv I
  rw [evalPart_none]
  refine wpAny_pure ?_
  rw [evalPart_some]
  refine wpAny_mono (q₁ g₁ s₁ I₁) (fun v₂ s₂ p₂ => ?_) fun _ _ f => f
  obtain ⟨g₂, d₂, μ₂, I₂, st₂, n₂, xs, n, rfl, rfl, hl, q₂⟩ := p₂.inv I₁
  have n₁' := n₁.mono st₂.le
  rw [Den] at n₁'; rw [Den] at n₂
  obtain ⟨a, o, vs, z, rfl, ha, hc, hd, hx⟩ := n₁'
  obtain ⟨t, rfl⟩ := n₂
  have hlen := hx.length
  rw [Array.length_toList] at hlen
  refine ⟨a, vs, none, some n, rfl, ⟨_, I₂.gi.sub _ _ ha, hc, z, hd⟩, by rw [sizeLine_eq]; omega, .none, .int _ _, ?_⟩
  rw [slicePick_upto']
  have e := Heap.get?_push_size (s₂.heap.push { cls := .type "slice", data := .fields #[.none, .int (n : Int) t, .none] }) (o := { cls := .type "list", data := .seq (vs.toList.take n).toArray }) rfl
  rw [Heap.size_push] at e
  exact (GPost.made (d := .lst (xs.take n)) (tk := s₂.toks) I₂.gi (fun b o e => Heap.get?_push_of_some _ (Heap.get?_push_of_some _ e)) (fresh_size (Nat.le_succ _)) e ⟨_, 0, rfl, hx.take n⟩ q₂).trans (st₁.trans st₂)
end
end Pb
end
section
open PySem PySem.W PySem.Calls PyProof.Rows PySem.Spec
open Sem (wp)
set_option Elab.async false
set_option linter.unusedVariables false
set_option maxRecDepth 100000
namespace Pb
theorem keys_miss_list : typeLookup (.type "list") "keys" = pure none := by rw [typeLookup_type, builtinLookup_eq_fast]; kernel_rfl
theorem list_no_keys {prog : Program} {w : World} {A : Around} {E : Value → Shared → Prop} {s : Shared} {a : Addr} {xs : Array Value} {k : Nat} {Q : Option Value → Shared → Prop}
    (hx : s.heap.get? a = some (seqObj "list" xs k)) (hA : A.handled = none) (h : ∀ h' tk, (∀ b o, s.heap.get? b = some o → h'.get? b = some o) → Q none { s with heap := h', toks := tk }) : wpAny (model prog w) A (getAttr? (.ref a) "keys") Q E s := by
  have hx0 : s.heap.get? a = some { cls := .type "list", dict := none, data := .seq xs k, slots := #[] } := hx
  obtain ⟨hp, g, d, tk, os⟩ := s
  have hT : ∀ tk', (⟨hp, g, d, tk', os⟩ : Shared).TypeIs (.ref a) "list" := fun _ => ⟨_, hx, rfl⟩
  have f1 := sub_AttributeError
  have f3 := F.slot_list_getattribute.lookup
  have f4 := F.slot_list_getattribute.bind (.ref a)
  have f5 := am_list_getattr_none
  unfold getAttr? getAttrBy? getAttrBy
  repeat (any_goals (first | assumption | exact hT _ | ((with_reducible show wpAny _ _ (call (Value.builtin "list.__getattribute__") _ _) _ _ _); refine call_meets F.slot_list_getattribute (hT _) am_entry_list_getattribute (F.args_list_getattribute_2 _ _) (meets_getattribute_miss_list a xs k #[] "keys" _ keys_miss_list (by decide +kernel) (by decide +kernel)) ⟨hx0, hA, fun h' tk' e hx' => ?_⟩) | wp_step))
  obtain ⟨t', u', he⟩ := hx'.there
  have hk := hx'.of.keeps
  show wpAny _ _ (getattributeRaised _ _ _ _ _ _ _) _ _ _
  unfold getattributeRaised
  repeat (any_goals (first | assumption | wp_step))
  exact h _ _ hk
end Pb
namespace Pb
theorem entry_dict_loop : entryFor table "dict.update.loop" = some Builtin.«dict.update.loop» := entryFor_of_tree (by kernel_rfl)
theorem plain_dict_loop : plainId "dict.update.loop" = true := by decide +kernel

def pairD (p : Int × D) : D := .tup [.int p.1, p.2]
def dictOfL (acc l : List (Int × D)) : List (Int × D) := l.foldl (fun acc p => sto acc p.1 p.2) acc
theorem dictOfL_length : ∀ (l acc : List (Int × D)), (dictOfL acc l).length ≤ acc.length + l.length
  | [], acc => by simp [dictOfL]
  | p :: l, acc => by
    have h1 := sto_length acc p.1 p.2
    have h2 := dictOfL_length l (sto acc p.1 p.2)
    show (dictOfL (sto acc p.1 p.2) l).length ≤ _
    simp only [List.length_cons]; omega
theorem drop_at {α : Type} {l : List α} {i : Nat} {x : α} (h : l[i]? = some x) : l.drop i = x :: l.drop (i + 1) := by
  have hi : i < l.length := by
    rcases Nat.lt_or_ge i l.length with h' | h'
    · exact h'
    · rw [List.getElem?_eq_none h'] at h; cases h
  rw [List.drop_eq_getElem_cons hi]
  rw [List.getElem?_eq_getElem hi] at h
  rw [Option.some.inj h]

theorem dictLoop {prog : Program} {w : World} {A : Around} {g : Gh} {h₀ : Heap} {I a : Addr} {l : List (Int × D)} {fp wr : List Addr} {P : Nat → Value → Prop} {St : Nat → Heap → Prop} {R : Result → Shared → Prop}
    (T : Itr prog w A.in1 g h₀ I (l.map pairD) fp wr P St) (haI : a ≠ I) (haf : a ∉ fp) (ga : g a = none) (gI : g I = none) (hz : l.length ≤ 5000) :
    ∀ (k i : Nat) (s : Shared) (acc : List (Int × D)) (kvs : List (Int × Value)), l.length - i = k → i ≤ l.length → acc.length ≤ i → St i s.heap → (∀ b o, g b = some o → s.heap.get? b = some o) → s.heap.DictOf (intKind prog w) a kvs → DenP g kvs acc →
      (∀ h' tk kvs', (∀ b o, b ≠ a → b ≠ I → s.heap.get? b = some o → h'.get? b = some o) → h'.DictOf (intKind prog w) a kvs' → DenP g kvs' (dictOfL acc (l.drop i)) → R (.ok (.ret .none)) { s with heap := h', toks := tk }) →
      codeAny (model prog w) A (.builtin "dict.update.loop" ⟨[.ref a, .ref I, rawInt (i : Int), .none], []⟩) R s := by
  intro k
  induction k with
  | zero =>
    intro i s acc kvs hk hi hal st sub hd hp hR
    have hin : i = (l.map pairD).length := by rw [List.length_map]; omega
    subst hin
    refine codeAny_builtin entry_dict_loop ?_
    rw [Around.under_plainId plain_dict_loop _]
    show wpAny _ A.in1 (pyNext (.ref I) >>= _) _ _ s
    refine wpAny_bind (T.walks.done s _ _ st fun h' tk hk' => ?_)
    show wpAny _ A.in1 (Builtin.Dict.addKeywords a [] >>= _) _ _ _
    refine wpAny_bind (wpAny_pure ?_)
    refine wpAny_pure (hR h' tk kvs (fun b o n1 n2 e => hk' b o (fun m => n2 (T.own b m)) e) (hd.at fun o e => hk' a o (fun m => haI (T.own a m)) e) ?_)
    rw [List.drop_eq_nil_of_le (by rw [List.length_map]; exact Nat.le_refl _)]
    exact hp
  | succ k ih =>
    intro i s acc kvs hk hi hal st sub hd hp hR
    have hlt : i < (l.map pairD).length := by rw [List.length_map]; omega
    refine codeAny_builtin entry_dict_loop ?_
    rw [Around.under_plainId plain_dict_loop _]
    show wpAny _ A.in1 (pyNext (.ref I) >>= _) _ _ s
    refine wpAny_bind (T.walks.item i s _ _ hlt st fun v h₁ tk hP st₁ hk₁ => ?_)
    have hk' : ∀ b o, b ≠ I → s.heap.get? b = some o → h₁.get? b = some o := fun b o n e => hk₁ b o (fun m => n (T.own b m)) e
    obtain ⟨d, hd1, hden⟩ := T.item i v hP
    rw [List.getElem?_map] at hd1
    obtain ⟨p, hp1, rfl⟩ := Option.map_eq_some_iff.mp hd1
    obtain ⟨pk, pd⟩ := p
    unfold pairD at hden
    rw [Den] at hden
    obtain ⟨b, vs, z, rfl, hb, hx⟩ := hden
    obtain ⟨x, us, hvs, nx, hx⟩ := hx.inv'
    obtain ⟨y, us', rfl, ny, hx⟩ := hx.inv'
    have hx := hx.invNil; subst hx
    rw [Den] at nx
    obtain ⟨t, rfl⟩ := nx
    have hbI : b ≠ I := by rintro rfl; rw [gI] at hb; cases hb
    have hob : h₁.get? b = some (seqObj "tuple" vs z) := hk' b _ hbI (sub _ _ hb)
    show wpAny _ A.in1 (holding [Value.ref b] _ >>= _) _ _ _
    refine wpAny_bind (wpAny_holding ?_)
    refine wpAny_bind (wpAny_tryCatch ?_)
    unfold Builtin.Dict.pairItems
    refine wpAny_bind (wpAny_typeOf ⟨_, hob, rfl⟩ ?_)
    rw [if_pos (by decide)]
    refine wpAny_bind (wpAny_seqItems hob rfl ?_)
    refine wpAny_pure ?_
    simp only [Option.getD_some, hvs]
    have hd₁ : h₁.DictOf (intKind prog w) a kvs := hd.at fun o e => hk' a o haI e
    refine wpAny_holding (wpAny_dictSet_pairs (isInt_self pk t) hd₁ (fun h₂ hd₂ sb => ?_) (by rw [hp.length, sizeLine_eq]; omega))
    have ku : ∀ b o, b ≠ a → h₁.get? b = some o → h₂.get? b = some o := fun b o n e => (sb.2 b n).trans e
    have st₂ : St (i + 1) h₂ := T.walks.frame _ _ _ st₁ fun b hb o e => ku b o (by rintro rfl; exact haf hb) e
    have hl' := sto_length acc pk pd
    refine wpAny_pure ⟨plainId_quiet plain_dict_loop _, ?_⟩
    have hlt' : i < l.length := by rw [List.length_map] at hlt; exact hlt
    refine ih (i + 1) _ (sto acc pk pd) _ (by omega) hlt' (by omega) st₂ (fun b o e => ku b o (by rintro rfl; rw [ga] at e; cases e) (hk' b o (by rintro rfl; rw [gI] at e; cases e) (sub b o e))) hd₂ (hp.stored ny) fun h' tk' kvs' hk2 hd' hp' => ?_
    refine hR h' tk' kvs' (fun b o n1 n2 e => hk2 b o n1 n2 (ku b o n1 (hk' b o n2 e))) hd' ?_
    rw [drop_at hp1]
    exact hp'

theorem GInv.off {K : Frag} {μ : Mu} {g : Gh} {h h' : Heap} (G : GInv K μ g h) (k : ∀ b o, (g b ≠ none ∨ Dom μ b) → h.get? b = some o → h'.get? b = some o) : GInv K μ g h' :=
  ⟨G.bas, fun a o e => k a o (.inl (by rw [e]; simp)) (G.sub a o e), fun p hp => by
    obtain ⟨y, o, z, t⟩ := G.mu p hp
    exact ⟨y, o, k _ o (.inr ⟨p.2, hp⟩) z, t⟩, G.nd⟩
theorem Step.off {wr : Addr → Prop} {μ μ' : Mu} {g g' : Gh} {s s' : Shared} {h' : Heap} {tk : Nat} (x : Step wr μ μ' g g' s s') (k : ∀ b o, (s.heap.get? b).isSome = true → s'.heap.get? b = some o → h'.get? b = some o) : Step wr μ μ' g g' s { s' with heap := h', toks := tk } where
  eq := x.eq
  le := x.le
  new := x.new
  keep := fun b o n z e => k b o (by rw [e]; rfl) (x.keep b o n z e)
  alive := fun a e => by
    obtain ⟨o, ho⟩ := Option.isSome_iff_exists.mp (x.alive a e)
    show (h'.get? a).isSome = true
    rw [k a o e ho]; rfl
  dom := x.dom
theorem OpC.dict {c : Cx} {μ : Mu} {QD : D → Mu → Prop} (hh : c.A.handled = none) {l : List (Int × D)} (hl : l.length ≤ 5000) (q : QD (.dct (dictOfL [] l)) μ) : OpC c μ (.type "dict") [.lst (l.map pairD)] QD := fun g s vs I n => by
  obtain ⟨v, rfl, nn⟩ := n.one'; replace n := nn
  have n₀ := n
  rw [Den] at n
  obtain ⟨b, its, z, rfl, hb, hx⟩ := n
  have B := I.base
  have hbs := I.sub _ _ hb
  have nD : s.heap.get? s.heap.objs.size = none := fresh_size (Nat.le_refl _)
  have hns := B.modules (b := s.heap.objs.size) (Nat.le_refl _)
  refine callType_codes (Q₁ := fun obj s₁ => obj = .ref s.heap.objs.size ∧ s₁ = { s with heap := s.heap.push { cls := .type "dict", data := .dict #[] } }) F.kt_called_dict (F.kt_typeCall_dict_1 _) F.entry_dict_init (kt_code_dict_new _ ⟨rfl, rfl⟩) ?_
  rintro obj s₁ ⟨rfl, rfl⟩
  have hnew : (s.heap.push { cls := .type "dict", data := .dict #[] }).DictOf (intKind c.prog c.w) s.heap.objs.size [] := Heap.DictOf.new s.heap
  refine ⟨hnew.typeIs, F.args_dict_init_2 _ _, ?_⟩
  unfold Builtin.«dict.__init__»
  refine wpAny_bind ?_
  unfold Builtin.Dict.selfAndRest
  refine wpAny_bind (wpAny_notOrdered_dict hnew.typeIs ?_)
  show wpAny _ _ (Pure.pure (s.heap.objs.size, [Value.ref b])) _ _ _
  refine wpAny_pure ?_
  show wpAny _ _ (Builtin.Dict.updateFrom "dict.__init__" s.heap.objs.size (.ref b) [] .none) _ _ _
  unfold Builtin.Dict.updateFrom
  have hb1 : (s.heap.push { cls := .type "dict", data := .dict #[] }).get? b = some (seqObj "list" its z) := Heap.get?_push_of_some _ hbs
  refine wpAny_bind (wpAny_typeOf ⟨_, hb1, rfl⟩ ?_)
  rw [if_pos (by decide)]
  refine wpAny_bind (list_no_keys hb1 hh fun h₂ tk₂ k₂ => ?_)
  simp only [Option.isNone_none, if_true]
  refine wpAny_bind (wpAny_rule ?_)
  have k1 : ∀ b o, s.heap.get? b = some o → h₂.get? b = some o := fun b o e => k₂ b o (Heap.get?_push_of_some _ e)
  have I₂ : GInv c.K μ g h₂ := I.keeps k1
  have hD2 : h₂.get? s.heap.objs.size = some { cls := .type "dict", data := .dict #[] } := k₂ _ _ (Heap.get?_push_size _ rfl)
  refine wpAny_bind (wpAny_mono (OpI.lst (c := ⟨c.prog, c.w, c.K, c.A.in1.in1, c.env⟩) (QI := fun ds μ' => ds = l.map pairD ∧ μ' = μ) hh ⟨rfl, rfl⟩ g { s with heap := h₂, toks := tk₂ } _ I₂ n₀) (fun it s₃ p => ?_) fun _ _ f => f.elim)
  obtain ⟨g₃, μ₃, J, ds, fp, wr, P, St, rfl, G₃, st₃, T, hJ, gJ, nJ, rfl, rfl⟩ := p
  have nd := I.domNone nD
  have D3 := st₃.keep s.heap.objs.size _ nd (fun q => q) hD2
  have gD : g₃ s.heap.objs.size = none := st₃.new _ (by show (h₂.get? s.heap.objs.size).isSome = true; rw [hD2]; rfl) nd (I.non nD)
  have hdJ : s.heap.objs.size ≠ J := by rintro rfl; dsimp only at hJ; rw [hD2] at hJ; cases hJ
  have haf : s.heap.objs.size ∉ fp := fun hm => by
    rcases T.foot _ hm with h | ⟨o, h⟩
    · exact hdJ h
    · rw [gD] at h; cases h
  have hdd : s₃.heap.DictOf (intKind c.prog c.w) s.heap.objs.size [] := hnew.at fun o e => by
    have e' : (s.heap.push { cls := .type "dict", data := .dict #[] }).get? s.heap.objs.size = some { cls := .type "dict", data := .dict #[] } := Heap.get?_push_size _ rfl
    rw [e'] at e; cases e; exact D3
  refine wpAny_pure ⟨plainId_quiet plain_dict_loop _, ?_⟩
  refine dictLoop (A := c.A.in1) T hdJ haf gD gJ hl _ 0 s₃ [] [] rfl (Nat.zero_le _) (Nat.le_refl _) T.st G₃.sub hdd trivial fun h' tk kvs' k' hd' hp' => ?_
  refine ⟨rfl, ?_⟩
  have st₀ : Step Nowr μ₃ μ₃ g g s { s with heap := h₂, toks := tk₂ } := Step.grown I k1
  have st := (st₀.trans st₃).off (h' := h') (tk := tk) fun b o e eb => k' b o (by rintro rfl; rw [nD] at e; cases e) (by
    rintro rfl
    obtain ⟨o', ho'⟩ := Option.isSome_iff_exists.mp e
    dsimp only at hJ
    rw [k1 _ _ ho'] at hJ; cases hJ) eb
  have nd₃ : ¬ Dom μ₃ s.heap.objs.size := nd
  obtain ⟨o, ho, hod⟩ := objDen_of hd' hns hp'
  exact GPost.frozen (d := .dct (dictOfL [] l)) (s' := { s₃ with heap := h', toks := tk }) (G₃.off fun b o e eb => k' b o (by
    rintro rfl
    exact e.elim (fun q => q gD) nd₃) (by rintro rfl; exact e.elim (fun q => q gJ) nJ) eb) st nD ho gD nd₃ hod q
end Pb
end
section
open PySem PySem.W PySem.Calls PyProof.Rows PySem.Spec
set_option Elab.async false
set_option linter.unusedVariables false
set_option maxRecDepth 100000
namespace Pb
theorem Ev.dict1 {c : Cx} {ρ : Rho} {μ : Mu} {QD : D → Mu → Prop} {k v : Expr} {pos : Pos} (h : Ev c ρ μ k fun dk μ₁ => ∃ i, dk = .int i ∧ Ev c ρ μ₁ v fun d μ₂ => QD (.dct [(i, d)]) μ₂) : Ev c ρ μ (.Dict [some k] [v] pos) QD := fun g s I => by
  have nD : s.heap.get? s.heap.objs.size = none := fresh_size (Nat.le_refl _)
  have nd := I.gi.domNone nD
  have st₀ : Step Nowr μ μ g g s { s with heap := s.heap.push { cls := .type "dict", data := .dict #[] } } := Step.grown (tk := s.toks) I.gi fun _ _ e => Heap.get?_push_of_some _ e
  have I₀ : Inv c.K c.env ρ μ g (s.heap.push { cls := .type "dict", data := .dict #[] }) := I.step st₀ (I.gi.keeps fun _ _ e => Heap.get?_push_of_some _ e)
  have hD : (s.heap.push { cls := .type "dict", data := .dict #[] }).get? s.heap.objs.size = some { cls := .type "dict", data := .dict #[] } := Heap.get?_push_size _ rfl
  refine wpAny_Dict_walk (knd := intKind c.prog c.w) rfl rfl (by simp) (by simp) (pairTrees_cons_walk ?_)
  refine wpAny_mono (h g _ I₀) (fun v₁ s₁ p₁ => ?_) fun _ _ f => f
  obtain ⟨g₁, d₁, μ₁, I₁, st₁, n₁, i, rfl, q₁⟩ := p₁.inv I₀
  refine wpAny_mono (q₁ g₁ s₁ I₁) (fun v₂ s₂ p₂ => ?_) fun _ _ f => f
  obtain ⟨g₂, d₂, μ₂, I₂, st₂, n₂, q₂⟩ := p₂.inv I₁
  refine pairTrees_nil_walk ?_
  rw [Den] at n₁
  obtain ⟨t, rfl⟩ := n₁
  have st := st₁.trans st₂
  have hD₂ := st.keep s.heap.objs.size _ nd (fun q => q) hD
  have gD₂ : g₂ s.heap.objs.size = none := st.new _ (by rw [hD]; rfl) nd (I.gi.non nD)
  have nd₂ : ¬ Dom μ₂ s.heap.objs.size := fun q => (st.dom _ q).elim nd fun z => by rw [hD] at z; cases z
  refine ⟨[(i, v₂)], ⟨by simp [intKind, Value.isInt], rfl, trivial⟩, ?_, fun h' hd' sb => ?_⟩
  · exact (Heap.DictOf.new s.heap).at fun o e => by rw [hD] at e; cases e; exact hD₂
  · obtain ⟨o, ho, hod⟩ := objDen_of (g := g₂) (l := [(i, d₂)]) hd' (I.gi.base.modules (Nat.le_refl _)) (by
      show DenP g₂ [(i, v₂)] [(i, d₂)]
      exact ⟨rfl, n₂, trivial⟩)
    have kk : ∀ b o, b ≠ s.heap.objs.size → s₂.heap.get? b = some o → h'.get? b = some o := fun b o n e => (sb.2 b n).trans e
    exact GPost.frozen (d := .dct [(i, d₂)]) (s' := { s₂ with heap := h', toks := s₂.toks + 1 }) (I₂.gi.but gD₂ nd₂ kk) ((st₀.trans st).after nD kk) nD ho gD₂ nd₂ hod q₂
/-- the empty dict, frozen at once -/
theorem Ev.dict0 {c : Cx} {ρ : Rho} {μ : Mu} {QD : D → Mu → Prop} {pos : Pos} (q : QD (.dct []) μ) : Ev c ρ μ (.Dict [] [] pos) QD := fun g s I => by
  refine wpAny_Dict_empty (GPost.made (d := .dct []) (o := { cls := .type "dict", data := .dict #[] }) (tk := s.toks) I.gi (fun _ _ e => Heap.get?_push_of_some _ e) (fresh_size (Nat.le_refl _)) (Heap.get?_push_size _ rfl)
    ⟨I.gi.base.modules (Nat.le_refl _), [], 0, rfl, by rw [DenKV]; trivial, List.nodup_nil⟩ q)
theorem Ev.list0 {c : Cx} {ρ : Rho} {μ : Mu} {QD : D → Mu → Prop} {pos : Pos} (q : QD (.lst []) μ) : Ev c ρ μ (.List [] pos) QD := Ev.list (EvL.nil ⟨by simp, q⟩)
end Pb
end
section
open PySem PySem.W PySem.Calls PyProof.Rows PySem.Spec
set_option Elab.async false
set_option linter.unusedVariables false
set_option maxRecDepth 100000
namespace Pb

theorem Ris.get {xs : Array Nat} (h : Ris xs) {a b : Nat} (hab : a < b) (hb : b < xs.size) : xs.getD a 0 < xs.getD b 0 := by
  have ha : a < xs.size := Nat.lt_trans hab hb
  have := List.pairwise_iff_getElem.mp h a b (by simpa using ha) (by simpa using hb) hab
  simpa [Array.getD, ha, hb] using this

theorem below_go {xs : Array Nat} (h : Ris xs) (j : Nat) : ∀ (fuel lo hi : Nat), hi - lo ≤ fuel → lo ≤ hi → hi ≤ xs.size → (∀ i, i < lo → xs.getD i 0 < j) → (∀ i, hi ≤ i → i < xs.size → j ≤ xs.getD i 0) →
    let r := SetTable.below.go xs j fuel lo hi
    r ≤ xs.size ∧ (∀ i, i < r → xs.getD i 0 < j) ∧ (∀ i, r ≤ i → i < xs.size → j ≤ xs.getD i 0)
  | 0, lo, hi, hf, hl, hs, h1, h2 => by
    have : lo = hi := by omega
    subst this
    exact ⟨hs, h1, h2⟩
  | fuel + 1, lo, hi, hf, hl, hs, h1, h2 => by
    dsimp only
    unfold SetTable.below.go
    by_cases hlt : lo < hi
    · rw [if_pos hlt]
      dsimp only
      have hm1 : lo ≤ (lo + hi) / 2 := by omega
      have hm2 : (lo + hi) / 2 < hi := by omega
      by_cases hj : xs.getD ((lo + hi) / 2) j < j
      · rw [if_pos hj]
        have hms : (lo + hi) / 2 < xs.size := by omega
        have hj' : xs.getD ((lo + hi) / 2) 0 < j := by simpa [Array.getD, hms] using hj
        refine below_go h j fuel _ hi (by omega) (by omega) hs (fun i hi' => ?_) h2
        rcases Nat.lt_or_ge i ((lo + hi) / 2) with q | q
        · exact Nat.lt_trans (h.get q hms) hj'
        · have : i = (lo + hi) / 2 := by omega
          rw [this]; exact hj'
      · rw [if_neg hj]
        have hms : (lo + hi) / 2 < xs.size := by omega
        have hj' : j ≤ xs.getD ((lo + hi) / 2) 0 := by
          have : ¬ xs.getD ((lo + hi) / 2) 0 < j := by simpa [Array.getD, hms] using hj
          omega
        refine below_go h j fuel lo _ (by omega) hm1 (by omega) h1 fun i hi' hi'' => ?_
        rcases Nat.lt_or_ge ((lo + hi) / 2) i with q | q
        · exact Nat.le_of_lt (Nat.lt_of_le_of_lt hj' (h.get q hi''))
        · have : i = (lo + hi) / 2 := by omega
          rw [this]; exact hj'
    · rw [if_neg hlt]
      have : lo = hi := by omega
      subst this
      exact ⟨hs, h1, h2⟩
theorem below_spec {xs : Array Nat} (h : Ris xs) (j : Nat) :
    SetTable.below xs j ≤ xs.size ∧ (∀ i, i < SetTable.below xs j → xs.getD i 0 < j) ∧ (∀ i, SetTable.below xs j ≤ i → i < xs.size → j ≤ xs.getD i 0) :=
  below_go h j xs.size 0 xs.size (by omega) (Nat.zero_le _) (Nat.le_refl _) (fun i hi => by omega) fun i h1 h2 => by omega

theorem insertAt_toList {α : Type} (xs : Array α) (p : Nat) (x : α) : (SetTable.insertAt xs p x).toList = xs.toList.take p ++ x :: xs.toList.drop p := by
  unfold SetTable.insertAt
  rw [Array.toList_append, Array.toList_push, Array.toList_extract, Array.toList_extract]
  simp [List.extract_eq_take_drop]
  rw [List.take_of_length_le (by simp)]
theorem Ris.insert {xs : Array Nat} (h : Ris xs) {j : Nat} (hn : xs[SetTable.below xs j]? ≠ some j) : Ris (SetTable.insertAt xs (SetTable.below xs j) j) := by
  obtain ⟨h1, h2, h3⟩ := below_spec h j
  unfold Ris
  rw [insertAt_toList, List.pairwise_append]
  refine ⟨h.sublist (List.take_sublist _ _), ?_, fun a ha b hb => ?_⟩
  · rw [List.pairwise_cons]
    refine ⟨fun b hb => ?_, h.sublist (List.drop_sublist _ _)⟩
    obtain ⟨i, hi, rfl⟩ := List.getElem_of_mem hb
    rw [List.getElem_drop]
    rw [List.length_drop, Array.length_toList] at hi
    have hlt : SetTable.below xs j + i < xs.size := by omega
    have h4 := h3 (SetTable.below xs j + i) (Nat.le_add_right _ _) hlt
    have e : xs.getD (SetTable.below xs j + i) 0 = xs[SetTable.below xs j + i] := by simp [Array.getD, hlt]
    rw [e] at h4
    rw [Array.getElem_toList]
    rcases Nat.eq_zero_or_pos i with q | q
    · subst q
      have hne : xs[SetTable.below xs j + 0] ≠ j := fun e => hn (by rw [Array.getElem?_eq_getElem (by omega)]; exact congrArg some e)
      omega
    · have hb0 : SetTable.below xs j < xs.size := by omega
      have h5 := h3 (SetTable.below xs j) (Nat.le_refl _) hb0
      have h6 := h.get (show SetTable.below xs j < SetTable.below xs j + i by omega) hlt
      omega
  · obtain ⟨i, hi, rfl⟩ := List.getElem_of_mem ha
    rw [List.length_take, Array.length_toList] at hi
    have hlt : i < xs.size := by omega
    have hlo : xs.toList[i]'(by simpa using hlt) < j := by
      have := h2 i (by omega)
      simpa [Array.getD, hlt] using this
    rw [List.getElem_take]
    rcases List.mem_cons.mp hb with rfl | hb
    · exact hlo
    · obtain ⟨k, hk, rfl⟩ := List.getElem_of_mem hb
      rw [List.length_drop, Array.length_toList] at hk
      rw [List.getElem_drop]
      exact List.pairwise_iff_getElem.mp h i _ _ _ (by omega)

def notLive (t : SetTable) (j : Nat) : Prop := t.place[SetTable.below t.place j]? ≠ some j
theorem slot_notLive {t : SetTable} {j : Nat} (h : t.slot j = .empty ∨ t.slot j = .dummy) : notLive t j := by
  unfold SetTable.slot at h
  unfold notLive
  by_cases q : (t.place[SetTable.below t.place j]? == some j) = true
  · dsimp only at h
    rw [if_pos q] at h
    rcases h with h | h <;> cases h
  · simpa using q
theorem probe_notLive {t : SetTable} {f : Nat → Int} {h : Int} : ∀ (fuel : Nat) (p : SetTable.Probe) (j : Nat) (dm : Option Nat), (∀ d, p.dummy = some d → notLive t d) → SetTable.probe.go t f h fuel p = some (.empty j dm) → notLive t (dm.getD j)
  | 0, p, j, dm, _, e => by simp [SetTable.probe.go] at e
  | fuel + 1, p, j, dm, hd, e => by
    unfold SetTable.probe.go at e
    cases hs : t.slot p.j with
    | empty =>
      rw [hs] at e
      simp only [Option.some.injEq, SetTable.Met.empty.injEq] at e
      obtain ⟨rfl, rfl⟩ := e
      cases hp : p.dummy with
      | none => exact slot_notLive (.inl hs)
      | some d => exact hd d hp
    | dummy =>
      rw [hs] at e
      refine probe_notLive fuel _ j dm (fun d hd' => ?_) e
      have : (t.advance { p with dummy := some p.j }).dummy = some p.j := by
        unfold SetTable.advance; split <;> rfl
      rw [this] at hd'
      cases hd'
      exact slot_notLive (.inr hs)
    | live i =>
      rw [hs] at e
      dsimp only at e
      split at e
      · simp at e
      · refine probe_notLive fuel _ j dm (fun d hd' => ?_) e
        have : (t.advance p).dummy = p.dummy := by unfold SetTable.advance; split <;> rfl
        rw [this] at hd'
        exact hd d hd'
theorem standIn_tab {t : SetTable} {led : Bool} {n : Nat} (h : t.led = led) : Tab (t.standIn n) led := by
  refine ⟨?_, h⟩
  unfold Ris SetTable.standIn
  simp only [Array.toList_range]
  exact List.pairwise_lt_range
theorem layNew_tab {t : SetTable} {led : Bool} (T : Tab t led) (es : Array (Int × Value)) (h : Int) (x : Value) : Tab (layNew t es h x).2.1 led := by
  unfold layNew
  split
  · rename_i slot wasDummy hf
    dsimp only
    unfold SetTable.orStandIn
    split
    · unfold SetTable.freeSlot at hf
      split at hf
      · rename_i j dm hp
        have nl := probe_notLive _ _ _ _ (fun d hd => by simp [SetTable.probeStart] at hd) hp
        simp only [Option.some.injEq, Prod.mk.injEq] at hf
        obtain ⟨rfl, rfl⟩ := hf
        exact ⟨T.ris.insert nl, T.led⟩
      · cases hf
    · exact standIn_tab T.led
  · exact standIn_tab T.led
theorem relayAll_tab {t : SetTable} {led : Bool} (T : Tab t led) (es : Array (Int × Value)) (wanted : Nat) : Tab (relayAll t es wanted).2.1 led := by
  unfold relayAll
  split
  · rename_i t' order hr
    dsimp only
    split
    · unfold SetTable.relaid SetTable.laid at hr
      cases ho : SetTable.layClean (SetTable.sizeAbove wanted - 1) (es.map (·.1)) with
      | none => rw [ho] at hr; simp at hr
      | some owner =>
        rw [ho] at hr
        simp only [Option.bind_eq_bind, Option.bind_some, Option.pure_def, Option.some.injEq, Prod.mk.injEq] at hr
        obtain ⟨rfl, _⟩ := hr
        refine ⟨?_, T.led⟩
        unfold Ris
        simp only [List.toList_toArray]
        rw [List.map_filterMap]
        have : (List.range (SetTable.sizeAbove wanted - 1 + 1)).filterMap (fun j => ((owner.getD j none).map (j, ·)).map (·.1)) = (List.range (SetTable.sizeAbove wanted - 1 + 1)).filter fun j => (owner.getD j none).isSome := by
          generalize List.range (SetTable.sizeAbove wanted - 1 + 1) = rs
          induction rs with
          | nil => rfl
          | cons j rs ih =>
            rw [List.filterMap_cons, List.filter_cons, ih]
            cases owner.getD j none <;> simp
        rw [this]
        exact List.Pairwise.sublist List.filter_sublist List.pairwise_lt_range
    · exact standIn_tab T.led
  · exact standIn_tab T.led
end Pb
end
section
open PySem PySem.W PySem.Calls PyProof.Rows PySem.Spec
set_option Elab.async false
set_option linter.unusedVariables false
set_option maxRecDepth 100000
namespace Pb

def byTextOf (w : World) : Bool := w.params.followText "set-order"

/-- a set of ints made here -/
structure SetIn (prog : Program) (w : World) (h : Heap) (a : Addr) (S : List Int) (es : Array (Int × Value)) (ep : Nat) (t : SetTable) : Prop where
  at_ : h.get? a = some { cls := .type "set", dict := none, data := .set es ep t, slots := #[] }
  el : ElemsOf (intKind prog w) es.toList
  nd : (es.toList.map (keyOf ·.2)).Nodup
  mem : ∀ k, k ∈ S ↔ k ∈ es.toList.map (keyOf ·.2)
  le : es.size ≤ S.length
  fits : t.fits es.size = true
  tab : Tab t (!byTextOf w)

section
variable {prog : Program} {w : World} {A : Around} {E : Value → Shared → Prop} {s : Shared} {a : Addr}

theorem ElemsOf.ints {l : List (Int × Value)} (h : ElemsOf (intKind prog w) l) : ∀ e ∈ l, ∃ t, e.2 = .int (keyOf e.2) t := fun e he => by
  obtain ⟨⟨k, hk, _⟩, _⟩ := h e he
  obtain ⟨t, ht⟩ := Value.isInt_shape hk
  exact ⟨t, by rw [ht]; rfl⟩
theorem isIn_key {k : Int} {v : Value} (h : (intKind prog w).is k v = true) : keyOf v = k := by
  obtain ⟨t, ht⟩ := Value.isInt_shape h
  rw [ht]; rfl

theorem set_store {S : List Int} {es : Array (Int × Value)} {ep : Nat} {t : SetTable} {es' : Array (Int × Value)} {t' : SetTable} (ho : s.heap.get? a = some { cls := .type "set", dict := none, data := .set es ep t, slots := #[] }) :
    (s.heap.update a (Obj.putSet es' t')).get? a = some { cls := .type "set", dict := none, data := .set es' (ep + 1) t', slots := #[] } := by
  have := Heap.get?_update_self (Obj.putSet es' t') ho (by rw [putSet_of (es := es) (ep := ep) (t := t) es' t' rfl]; rfl)
  rw [putSet_of (es := es) (ep := ep) (t := t) es' t' rfl] at this; exact this

theorem set_add {S : List Int} {es : Array (Int × Value)} {ep : Nat} {t : SetTable} {k : Int} {tk : Tok} {Q : Bool → Shared → Prop} (Z : SetIn prog w s.heap a S es ep t) (hS : S.length < 1000)
    (h : ∀ b h' es' ep' t', Heap.SameBut a s.heap h' → SetIn prog w h' a (S ++ [k]) es' ep' t' → Q b { s with heap := h' }) : wpAny (model prog w) A (setAddHashed a (.int k tk) ((intKind prog w).hash k)) Q E s := by
  have hkey : (intKind prog w).is k (.int k tk) = true := isInt_self k tk
  have hsb : scanBound = 4096 := rfl
  have hle := Z.le
  unfold setAddHashed setAddHashedIn
  refine wpAny_holding (wpAny_bind (wpAny_setState_of Z.at_ rfl Z.fits ?_))
  dsimp only
  rw [byScan_of rfl (by omega) Z.el]
  simp only [↓reduceIte]
  unfold setAddByScan
  refine wpAny_bind ?_
  refine wpAny_bind (wpAny_rule ?_)
  refine wpAny_bind (wpAny_setScan_of hkey Z.at_ rfl Z.fits Z.el ?_)
  cases hr : List.findIdx? (fun e => (intKind prog w).is k e.2) es.toList with
  | some j =>
    dsimp only
    obtain ⟨hj, hpj, _⟩ := List.findIdx?_eq_some_iff_getElem.mp hr
    refine wpAny_pure (wpAny_pure ?_)
    have hin : k ∈ es.toList.map (keyOf ·.2) := List.mem_map.mpr ⟨es.toList[j], List.getElem_mem hj, isIn_key hpj⟩
    refine h _ s.heap es ep t (Heap.SameBut.refl a s.heap) ⟨Z.at_, Z.el, Z.nd, fun k' => ?_, by rw [List.length_append]; omega, Z.fits, Z.tab⟩
    rw [List.mem_append, List.mem_singleton, Z.mem]
    exact ⟨fun q => q.elim id fun e => e ▸ hin, .inl⟩
  | none =>
    dsimp only
    have hout : k ∉ es.toList.map (keyOf ·.2) := fun hm => by
      obtain ⟨e, he, hk⟩ := List.mem_map.mp hm
      have := List.findIdx?_eq_none_iff.mp hr e he
      obtain ⟨t', ht'⟩ := ElemsOf.ints Z.el e he
      skip
      rw [ht', hk, isInt_self] at this; cases this
    have hperm := layNew_perm t es ((intKind prog w).hash k) (.int k tk)
    have hfits := layNew_fits t es ((intKind prog w).hash k) (.int k tk)
    have htab := layNew_tab Z.tab es ((intKind prog w).hash k) (.int k tk)
    generalize hL : layNew t es ((intKind prog w).hash k) (.int k tk) = L at hperm hfits htab ⊢
    obtain ⟨es1, t1, wasDummy, gave⟩ := L
    dsimp only at hperm hfits htab ⊢
    rw [Array.toList_push] at hperm
    have hel1 : ElemsOf (intKind prog w) es1.toList := (ElemsOf.push Z.el hkey rfl).perm hperm
    have hmp := hperm.map (fun e : Int × Value => keyOf e.2)
    rw [List.map_append] at hmp
    have hnd1 : (es1.toList.map (keyOf ·.2)).Nodup := by
      refine hmp.nodup_iff.mpr ?_
      rw [List.nodup_append]
      refine ⟨Z.nd, by simp, fun x hx y hy => ?_⟩
      simp only [List.map_cons, List.map_nil, List.mem_singleton] at hy
      subst hy
      intro e; subst e; exact hout hx
    have hmem1 : ∀ k', k' ∈ S ++ [k] ↔ k' ∈ es1.toList.map (keyOf ·.2) := fun k' => by
      rw [hmp.mem_iff, List.mem_append, List.mem_append, Z.mem]; rfl
    have hsz1 : es1.size = es.size + 1 := by rw [← Array.length_toList, hperm.length_eq, List.length_append, Array.length_toList]; rfl
    have fin : ∀ (t2 : SetTable), t2.fits es1.size = true → Tab t2 (!byTextOf w) → wpAny (model prog w) A (do
        storeSet a es1 t2
        if (!wasDummy && t2.tooFull) = true then do
            (match (relayAll t2 es1 (SetTable.grown es1.size)).2.2 with | true => rule "set.scan.the-table-gave-way" | false => pure ())
            storeSet a (relayAll t2 es1 (SetTable.grown es1.size)).1 (relayAll t2 es1 (SetTable.grown es1.size)).2.1
            pure (some true)
          else pure (some true)) (fun r s' => ∃ b h' es' ep' t', r = some b ∧ s' = { s with heap := h' } ∧ Heap.SameBut a s.heap h' ∧ SetIn prog w h' a (S ++ [k]) es' ep' t') E s := by
      intro t2 hf2 ht2
      refine wpAny_bind (wpAny_storeSet_of Z.at_ rfl ?_ (by rw [sizeLine_eq]; omega))
      have ho1 := set_store (s := s) (S := S) (es' := es1) (t' := t2) Z.at_
      have hsb1 := Heap.SameBut.update s.heap a (Obj.putSet es1 t2)
      split
      · have hp := relayAll_perm t2 es1 (SetTable.grown es1.size)
        have hfr := relayAll_fits t2 es1 (SetTable.grown es1.size)
        have htr := relayAll_tab ht2 es1 (SetTable.grown es1.size)
        generalize hRl : relayAll t2 es1 (SetTable.grown es1.size) = Rl at hp hfr htr ⊢
        obtain ⟨es2, t3, gave2⟩ := Rl
        dsimp only at hp hfr htr ⊢
        have hsz : es2.size = es1.size := by rw [← Array.length_toList, hp.length_eq, Array.length_toList]
        have hmp2 := hp.map (fun e : Int × Value => keyOf e.2)
        refine wpAny_bind ?_
        have cont : wpAny (model prog w) A (storeSet a es2 t3 >>= fun _ => pure (some true)) (fun r s' => ∃ b h' es' ep' t', r = some b ∧ s' = { s with heap := h' } ∧ Heap.SameBut a s.heap h' ∧ SetIn prog w h' a (S ++ [k]) es' ep' t') E
            { s with heap := s.heap.update a (Obj.putSet es1 t2) } := by
          refine wpAny_bind (wpAny_storeSet_of ho1 rfl ?_ (by rw [sizeLine_eq]; omega))
          have ho2 := set_store (s := { s with heap := s.heap.update a (Obj.putSet es1 t2) }) (S := S) (es' := es2) (t' := t3) ho1
          exact wpAny_pure ⟨true, _, es2, _, t3, rfl, rfl, hsb1.trans (Heap.SameBut.update _ a _), ho2, hel1.perm hp, hmp2.nodup_iff.mpr hnd1, fun k' => (hmem1 k').trans hmp2.mem_iff.symm, by rw [List.length_append]; simp; omega, hfr, htr⟩
        cases gave2
        · exact wpAny_pure cont
        · exact wpAny_rule cont
      · exact wpAny_pure ⟨true, _, es1, _, t2, rfl, rfl, hsb1, ho1, hel1, hnd1, hmem1, by rw [List.length_append]; simp; omega, hf2, ht2⟩
    have hgw : ∀ (b : Bool) {s₁ : Shared} {Q' : Unit → Shared → Prop}, Q' () s₁ → wpAny (model prog w) A (match b with | true => rule "set.scan.the-table-gave-way" | false => pure ()) Q' E s₁ :=
      fun b s₁ Q' hq => by cases b <;> first | exact wpAny_pure hq | exact wpAny_rule hq
    refine wpAny_bind (hgw _ ?_)
    have done : ∀ (t2 : SetTable), t2.fits es1.size = true → Tab t2 (!byTextOf w) → wpAny (model prog w) A (do
        storeSet a es1 t2
        if (!wasDummy && t2.tooFull) = true then do
            (match (relayAll t2 es1 (SetTable.grown es1.size)).2.2 with | true => rule "set.scan.the-table-gave-way" | false => pure ())
            storeSet a (relayAll t2 es1 (SetTable.grown es1.size)).1 (relayAll t2 es1 (SetTable.grown es1.size)).2.1
            pure (some true)
          else pure (some true)) (fun r s' => wpAny (model prog w) A (match r with | some added => pure added | none => setAddHashedIn a (.int k tk) ((intKind prog w).hash k) 99999) Q E s') E s := fun t2 a1 a2 =>
      wpAny_mono (fin t2 a1 a2) (fun r s' p => by
        obtain ⟨b, h', es', ep', t', rfl, rfl, hsb', Z'⟩ := p
        exact wpAny_pure (h b h' es' ep' t' hsb' Z')) fun _ _ e => e
    split
    · refine wpAny_bind ?_
      rw [hashByValue_scannable 8 rfl]
      refine wpAny_pure ?_
      refine done _ ?_ ?_
      · split
        · exact hfits
        · exact SetTable.fits_plain_off hfits
      · split
        · exact htab
        · exact ⟨htab.ris, htab.led⟩
    · refine wpAny_bind (wpAny_pure ?_)
      simp only [↓reduceIte]
      exact done _ hfits htab

theorem SetIn.setD {h : Heap} {S : List Int} {es : Array (Int × Value)} {ep : Nat} {t : SetTable} (Z : SetIn prog w h a S es ep t) : SetD es t S (!byTextOf w) := ⟨ElemsOf.ints Z.el, Z.nd, Z.mem, Z.le, Z.fits, Z.tab⟩
theorem SetIn.at' {h h' : Heap} {S : List Int} {es : Array (Int × Value)} {ep : Nat} {t : SetTable} (Z : SetIn prog w h a S es ep t) (k : ∀ o, h.get? a = some o → h'.get? a = some o) : SetIn prog w h' a S es ep t :=
  ⟨k _ Z.at_, Z.el, Z.nd, Z.mem, Z.le, Z.fits, Z.tab⟩

theorem setLoop {g : Gh} {h₀ : Heap} {I : Addr} {ns : List Int} {fp wr : List Addr} {P : Nat → Value → Prop} {St : Nat → Heap → Prop} {R : Result → Shared → Prop}
    (T : Itr prog w A.in1 g h₀ I (ns.map D.int) fp wr P St) (haI : a ≠ I) (haf : a ∉ fp) (hz : ns.length < 1000) :
    ∀ (k i : Nat) (s : Shared) (es : Array (Int × Value)) (ep : Nat) (t : SetTable), ns.length - i = k → i ≤ ns.length → St i s.heap → SetIn prog w s.heap a (ns.take i) es ep t →
      (∀ h' tk es' ep' t', (∀ b o, b ≠ a → b ≠ I → s.heap.get? b = some o → h'.get? b = some o) → SetIn prog w h' a ns es' ep' t' → R (.ok (.ret .none)) { s with heap := h', toks := tk }) →
      codeAny (model prog w) A (.builtin "set.update.loop" ⟨[.ref a, .ref I], []⟩) R s := by
  intro k
  induction k with
  | zero =>
    intro i s es ep t hk hi st Z hR
    have hin : i = (ns.map D.int).length := by rw [List.length_map]; omega
    subst hin
    refine codeAny_builtin F.entry_set_update_loop ?_
    rw [Around.under_plainId F.plain_set_update_loop _]
    show wpAny _ A.in1 (pyNext (.ref I) >>= _) _ _ s
    refine wpAny_bind (T.walks.done s _ _ st fun h' tk hk' => ?_)
    show wpAny _ A.in1 (ret Value.none) _ _ _
    rw [List.take_of_length_le (by rw [List.length_map]; exact Nat.le_refl _)] at Z
    exact wpAny_pure (hR h' tk es ep t (fun b o n1 n2 e => hk' b o (fun m => n2 (T.own b m)) e) (Z.at' fun o e => hk' a o (fun m => haI (T.own a m)) e))
  | succ k ih =>
    intro i s es ep t hk hi st Z hR
    have hlt : i < (ns.map D.int).length := by rw [List.length_map]; omega
    refine codeAny_builtin F.entry_set_update_loop ?_
    rw [Around.under_plainId F.plain_set_update_loop _]
    show wpAny _ A.in1 (pyNext (.ref I) >>= _) _ _ s
    refine wpAny_bind (T.walks.item i s _ _ hlt st fun v h₁ tk hP st₁ hk₁ => ?_)
    have hk' : ∀ b o, b ≠ I → s.heap.get? b = some o → h₁.get? b = some o := fun b o n e => hk₁ b o (fun m => n (T.own b m)) e
    obtain ⟨d, hd1, hden⟩ := T.item i v hP
    rw [List.getElem?_map] at hd1
    obtain ⟨m, hm, rfl⟩ := Option.map_eq_some_iff.mp hd1
    rw [Den] at hden
    obtain ⟨tv, rfl⟩ := hden
    show wpAny _ A.in1 (holding [Value.int m tv] (setAdd a (.int m tv)) >>= _) _ _ _
    refine wpAny_bind (wpAny_holding ?_)
    unfold setAdd
    refine wpAny_holding ?_
    refine wpAny_bind ((intKind prog w).pyHash (k := m) (intKind_is _ _ _ _) ?_)
    refine set_add (s := { s with heap := h₁, toks := tk + 1 }) (S := ns.take i) (Z.at' fun o e => hk' a o haI e) (by rw [List.length_take]; omega) fun b h₂ es' ep' t' sb Z₂ => ?_
    have ku : ∀ b o, b ≠ a → h₁.get? b = some o → h₂.get? b = some o := fun b o n e => (sb.2 b n).trans e
    have st₂ : St (i + 1) h₂ := T.walks.frame _ _ _ st₁ fun b hb o e => ku b o (by rintro rfl; exact haf hb) e
    have e : ns.take i ++ [m] = ns.take (i + 1) := by rw [List.take_add_one, hm]; rfl
    rw [e] at Z₂
    have hlt' : i < ns.length := by rw [List.length_map] at hlt; exact hlt
    refine wpAny_pure ⟨plainId_quiet F.plain_set_update_loop _, ih (i + 1) _ es' ep' t' (by omega) hlt' st₂ Z₂ fun h' tk' es'' ep'' t'' hk2 Z' => ?_⟩
    exact hR h' tk' es'' ep'' t'' (fun b o n1 n2 e => hk2 b o n1 n2 (ku b o n1 (hk' b o n2 e))) Z'

theorem set_new (x : Value) {Q₁ : Value → Shared → Prop}
    (h : Q₁ (.ref s.heap.objs.size) { s with heap := s.heap.push { cls := .type "set", dict := none, data := .set #[] 0 (.fresh 0 0 (!byTextOf w)) } }) :
    codeAny (model prog w) A (.call (.builtin "set.__new__") ⟨[.type "set", x], []⟩) (wants Q₁ E) s := by
  refine codeAny_of_tree ?_
  show wpAny _ A.in1 (do checkBuiltinCall "set.__new__" ⟨[.type "set", x], []⟩; again (.builtin "set.__new__" ⟨[.type "set", x], []⟩)) _ _ s
  refine wpAny_bind (wpAny_of_eq (F.newCall_set_1 x) (wpAny_pure ⟨plainId_quiet F.plain_set_new _, codeAny_builtin F.entry_set_new ?_⟩))
  rw [Around.under_plainId F.plain_set_new _]
  unfold Builtin.«set.__new__» Builtin.Frozenset.newClass
  have hsub := sub_set_self
  obtain ⟨hp, g, d, tk, os⟩ := s
  dsimp only
  wp_walk
  refine wpAny_askSetting (wpAny_pure ?_)
  dsimp only
  simp only [newObj]
  refine wpAny_bind (wpAny_alloc (wpAny_pure ?_))
  exact wpAny_pure h
end
end Pb
end
section
open PySem PySem.W PySem.Calls PyProof.Rows PySem.Spec
set_option Elab.async false
set_option linter.unusedVariables false
set_option maxRecDepth 100000
namespace Pb
section
variable {prog : Program} {w : World} {A : Around} {E : Value → Shared → Prop} {s : Shared}

set_option maxHeartbeats 3200000 in
theorem call_set {l : Addr} {items : Array Value} {z : Nat} {g : Gh} {ns : List Int} {Q : Value → Shared → Prop} (hh : A.handled = none) (hg : g l = some (seqObj "list" items z)) (hl : s.heap.get? l = some (seqObj "list" items z)) (hx : DenL g items.toList (ns.map D.int)) (hb : ns.length < 1000)
    (h : ∀ (h' : Heap) (tk : Nat) es ep t, SetIn prog w h' s.heap.objs.size ns es ep t → (∀ b o, s.heap.get? b = some o → h'.get? b = some o) → Q (.ref s.heap.objs.size) { s with heap := h', toks := tk }) :
    wpAny (model prog w) A (call (.type "set") [.ref l]) Q E s := by
  obtain ⟨c, tl, hmro⟩ := F.called_set.mro
  have hmade := F.called_set.made
  have hsub := F.called_set.sub
  refine wpAny_call (codeAny_of_tree ?_)
  show wpAny _ _ (callAny (.type "set") _) _ _ _
  refine wpAny_pure ⟨Code.quiet_builtin _ (by decide +kernel), codeAny_builtin F.entry_type_call ?_⟩
  rw [Around.under_plain (weight_type_call_type "set" [.ref l] []) rfl]
  have h1 := F.called_set.notType
  have h2 := F.called_set.canCreate
  have hct := F.typeCall_set_1 (.ref l)
  repeat (any_goals (first | assumption | wp_step))
  refine codeAny_mono (set_new (.ref l) (E := E) (Q₁ := fun obj s₁ => obj = .ref s.heap.objs.size ∧ s₁ = { s with heap := s.heap.push { cls := .type "set", dict := none, data := .set #[] 0 (.fresh 0 0 (!byTextOf w)) } }) ⟨rfl, rfl⟩) fun r s₁ hr => ?_
  cases r with
  | error e => exact hr
  | ok fl =>
    cases fl with
    | ret obj =>
      obtain ⟨rfl, rfl⟩ := hr
      have hS : (s.heap.push { cls := .type "set", dict := none, data := .set #[] 0 (.fresh 0 0 (!byTextOf w)) }).get? s.heap.objs.size = some { cls := .type "set", dict := none, data := .set #[] 0 (.fresh 0 0 (!byTextOf w)) } := Heap.get?_push_size _ rfl
      have hT : Shared.TypeIs { s with heap := s.heap.push { cls := .type "set", dict := none, data := .set #[] 0 (.fresh 0 0 (!byTextOf w)) } } (.ref s.heap.objs.size) "set" := ⟨_, hS, rfl⟩
      have hli := F.called_set.init.lookup
      have hbi := F.called_set.init.bind (.ref s.heap.objs.size)
      repeat (any_goals (first | assumption | wp_step))
      refine codeAny_mono (codeAny_call_builtin (R := wants (fun r s₂ => r = .none ∧ ∃ h' tk es ep t, s₂ = { s with heap := h', toks := tk } ∧ SetIn prog w h' s.heap.objs.size ns es ep t ∧
          (∀ b o, s.heap.get? b = some o → h'.get? b = some o)) E) F.called_set.init.plain F.entry_set_init (check_set_init_1 hT ?_)) fun r₂ s₂ hr₂ => ?_
      · have hol' : (s.heap.push { cls := .type "set", dict := none, data := .set #[] 0 (.fresh 0 0 (!byTextOf w)) }).get? l = some { cls := .type "list", dict := none, data := .seq items z, slots := #[] } := Heap.get?_push_of_some _ hl
        have hsls := F.sub_list_set
        have hslf := F.sub_list_frozenset
        have hne : (Value.type "list" == Value.type "dict") = false := by decide
        have hl1 : (s.heap.push { cls := .type "set", dict := none, data := .set #[] 0 (.fresh 0 0 (!byTextOf w)) }).IsList l items := ⟨_, hol', rfl, z, rfl⟩
        unfold Builtin.«set.__init__» noKeywords Builtin.Frozenset.updateFrom
        generalize hPI : pyIter = PI
        wp_walk
        subst hPI
        refine wpAny_pyIter_list hl1 ?_
        refine wpAny_bind (wpAny_runValue ?_)
        have hlS : l < s.heap.objs.size := Heap.lt_size hl
        have hh3 : A.in1.in1.in1.handled = none := by simp [hh]
        have hsz1 : (s.heap.push { cls := .type "set", dict := none, data := .set #[] 0 (.fresh 0 0 (!byTextOf w)) }).objs.size = s.heap.objs.size + 1 := Heap.size_push ..
        have hneI : l ≠ (s.heap.push { cls := .type "set", dict := none, data := .set #[] 0 (.fresh 0 0 (!byTextOf w)) }).objs.size := by
          rw [hsz1]; exact Nat.ne_of_lt (Nat.lt_succ_of_lt hlS)
        have hSI : s.heap.objs.size ≠ (s.heap.push { cls := .type "set", dict := none, data := .set #[] 0 (.fresh 0 0 (!byTextOf w)) }).objs.size := by
          rw [hsz1]; exact Nat.ne_of_lt (Nat.lt_succ_self _)
        have hlen := hx.length
        rw [Array.length_toList] at hlen
        have W := Walks.list (prog := prog) (w := w) hh3 _ l hneI items
        rw [hlen] at W
        have T : Itr prog w A.in1.in1.in1 g ((s.heap.push { cls := .type "set", dict := none, data := .set #[] 0 (.fresh 0 0 (!byTextOf w)) }).push { cls := .type "list_iterator", data := .fields #[.ref l, .int 0 0] })
            (s.heap.push { cls := .type "set", dict := none, data := .set #[] 0 (.fresh 0 0 (!byTextOf w)) }).objs.size (ns.map D.int) _ _ _ _ :=
          ⟨W, by simp, fun b hb => by
            simp only [List.mem_cons, List.not_mem_nil, or_false] at hb
            rcases hb with rfl | rfl
            · exact .inl rfl
            · exact .inr ⟨_, hg⟩, fun i v hP => hx.get (by rw [Array.getElem?_toList]; exact hP), ⟨⟨_, Heap.get?_push_size _ rfl, rfl, rfl⟩, hl1.push _⟩, fun i h st => by obtain ⟨⟨o, ho, _⟩, _⟩ := st; rw [ho]; rfl⟩
        have haf : s.heap.objs.size ∉ [(s.heap.push { cls := .type "set", dict := none, data := .set #[] 0 (.fresh 0 0 (!byTextOf w)) }).objs.size, l] := by
          simp only [List.mem_cons, List.not_mem_nil, or_false, not_or]
          exact ⟨hSI, Nat.ne_of_gt hlS⟩
        have Z0 : SetIn prog w ((s.heap.push { cls := .type "set", dict := none, data := .set #[] 0 (.fresh 0 0 (!byTextOf w)) }).push { cls := .type "list_iterator", data := .fields #[.ref l, .int 0 0] }) s.heap.objs.size (ns.take 0) #[] 0 (.fresh 0 0 (!byTextOf w)) :=
          ⟨Heap.get?_push_of_some _ hS, fun e he => by simp at he, by simp, fun k => by simp, Nat.zero_le _, rfl, ⟨List.Pairwise.nil, rfl⟩⟩
        refine setLoop (A := A.in1.in1) T hSI haf hb _ 0 _ #[] 0 _ rfl (Nat.zero_le _) T.st Z0 fun h' tk' es' ep' t' hk Z' => ?_
        show wpAny _ _ _ _ _ _
        refine wpAny_pure ?_
        show wpAny _ _ (ret Value.none) _ _ _
        refine wpAny_pure ⟨rfl, h', tk', es', ep', t', rfl, Z', fun b o e => ?_⟩
        have hb0 := Heap.lt_size e
        exact hk b o (Nat.ne_of_lt hb0) (by rw [hsz1]; exact Nat.ne_of_lt (Nat.lt_succ_of_lt hb0)) (Heap.get?_push_of_some _ (Heap.get?_push_of_some _ e))
      · cases r₂ with
        | error e => exact hr₂
        | ok fl₂ =>
          cases fl₂ with
          | ret r =>
            obtain ⟨rfl, h', tk, es, ep, t, rfl, hS', hk'⟩ := hr₂
            repeat (any_goals (first | assumption | wp_step))
            exact h _ _ _ _ _ hS' hk'
          | _ => exact hr₂.elim
    | _ => exact hr.elim
end
theorem OpC.setL {c : Cx} {μ : Mu} {QD : D → Mu → Prop} (hh : c.A.handled = none) {ns : List Int} (hb : ns.length < 1000) (q : QD (.set ns (!byTextOf c.w)) μ) : OpC c μ (.type "set") [.lst (ns.map D.int)] QD := fun g s vs I n => by
  obtain ⟨v, rfl, nn⟩ := n.one'; replace n := nn
  rw [Den] at n
  obtain ⟨a, its, z, rfl, ha, hx⟩ := n
  refine call_set hh ha (I.sub _ _ ha) hx hb fun h' tk es ep t Z k => ?_
  exact GPost.made (d := .set ns (!byTextOf c.w)) I k (fresh_size (Nat.le_refl _)) Z.at_ ⟨es, ep, t, rfl, Z.setD⟩ q
end Pb
end
section
open PySem PySem.W PySem.Calls PyProof.Rows PySem.Spec
set_option Elab.async false
set_option linter.unusedVariables false
set_option maxRecDepth 100000
namespace Pb

theorem slot_seti_next : Slot "set_iterator" "__next__" "set_iterator.__next__" :=
  .of (owner := "set_iterator") (n := "__next__") (by rw [typeLookup_type, builtinLookup_eq_fast]; kernel_rfl) (by decide +kernel) (by decide +kernel) (by decide +kernel)
    (by first | exact .inl (by decide +kernel) | exact .inr (by decide +kernel)) (by rw [isSubtype_type]; kernel_rfl)
theorem entry_seti_next : entryFor table "set_iterator.__next__" = some Builtin.«set_iterator.__next__» := entryFor_of_tree (by kernel_rfl)
theorem args_seti_next (a : Value) : argsOk "set_iterator.__next__" ⟨[a], []⟩ := by unfold argsOk; kernel_rfl
theorem slot_seti_iter : Slot "set_iterator" "__iter__" "set_iterator.__iter__" :=
  .of (owner := "set_iterator") (n := "__iter__") (by rw [typeLookup_type, builtinLookup_eq_fast]; kernel_rfl) (by decide +kernel) (by decide +kernel) (by decide +kernel)
    (by first | exact .inl (by decide +kernel) | exact .inr (by decide +kernel)) (by rw [isSubtype_type]; kernel_rfl)
theorem entry_set_iter : entryFor table "set.__iter__" = some Builtin.«frozenset.__iter__» :=
  entryFor_alias (id' := "frozenset.__iter__") (by kernel_rfl) rfl (by decide +kernel) (by kernel_rfl)
end Pb
namespace Pb
structure Nx (prog : Program) (w : World) (A : Around) (I : Addr) (fp : List Addr) (n : Nat) (P : Nat → Value → Prop) (St : Nat → Heap → Prop) : Prop where
  frame : ∀ i h h', St i h → (∀ b ∈ fp, ∀ o, h.get? b = some o → h'.get? b = some o) → St i h'
  item : ∀ i (s : Shared) (Q : Option Value → Shared → Prop) (E : Value → Shared → Prop), i < n → St i s.heap →
    (∀ v h' tk, P i v → St (i + 1) h' → (∀ b o, b ≠ I → s.heap.get? b = some o → h'.get? b = some o) → Q (some v) { s with heap := h', toks := tk }) → wpAny (model prog w) A (pyNext (.ref I)) Q E s
  done : ∀ (s : Shared) (Q : Option Value → Shared → Prop) (E : Value → Shared → Prop), St n s.heap →
    (∀ h' tk, (∀ b o, b ≠ I → s.heap.get? b = some o → h'.get? b = some o) → Q none { s with heap := h', toks := tk }) → wpAny (model prog w) A (pyNext (.ref I)) Q E s

section
variable {prog : Program} {w : World} {A : Around} {E : Value → Shared → Prop} {s : Shared} {R : Result → Shared → Prop} {I S : Addr} {fp : List Addr} {n : Nat} {P : Nat → Value → Prop} {St : Nat → Heap → Prop}

theorem extLoop (W : Nx prog w A.in1 I fp n P St) (hn : n ≤ 1000) (hSf : S ∉ fp) (hSI : S ≠ I) (res : Value) :
    ∀ (k i : Nat) (s : Shared) (acc : Array Value) (c : Nat), n - i = k → i ≤ n → St i s.heap → s.heap.get? S = some (seqObj "list" acc c) → ItemsOf P acc i →
      (∀ h' tk acc' c', (∀ b o, b ≠ S → b ≠ I → s.heap.get? b = some o → h'.get? b = some o) → h'.get? S = some (seqObj "list" acc' c') → ItemsOf P acc' n → R (.ok (.ret res)) { s with heap := h', toks := tk }) →
      codeAny (model prog w) A (.builtin "list.extend.loop" ⟨[.ref S, .ref I, res], []⟩) R s := by
  intro k
  induction k with
  | zero =>
    intro i s acc c hk hi hst hS hacc hR
    have hin : i = n := by omega
    subst hin
    refine codeAny_builtin F.entry_extend_loop ?_
    rw [Around.under_plainId F.plain_extend_loop _]
    show wpAny _ A.in1 (pyNext (.ref I) >>= _) _ _ s
    refine wpAny_bind (W.done s _ _ hst fun h' tk hk => ?_)
    exact wpAny_pure (hR h' tk acc c (fun b o _ n2 e => hk b o n2 e) (hk S _ hSI hS) hacc)
  | succ k ih =>
    intro i s acc c hk hi hst hS hacc hR
    have hlt : i < n := by omega
    refine codeAny_builtin F.entry_extend_loop ?_
    rw [Around.under_plainId F.plain_extend_loop _]
    show wpAny _ A.in1 (pyNext (.ref I) >>= _) _ _ s
    refine wpAny_bind (W.item i s _ _ hlt hst fun v h₁ tk hP hst₁ hk₁ => ?_)
    have hS₁ := hk₁ S _ hSI hS
    show wpAny _ A.in1 (updateSeq S (·.push v) >>= _) _ _ _
    have hz : acc.size ≤ sizeLine := by rw [hacc.1, sizeLine_eq]; omega
    refine wpAny_bind (wpAny_updateSeq (hz := hz) (_hz' := by rw [Array.size_push]; omega) hS₁ rfl ?_)
    have hS₂ := IsL.update hS₁ (·.push v)
    have hu : ∀ b o, b ≠ S → h₁.get? b = some o → (h₁.update S (Obj.mapSeq (·.push v))).get? b = some o := fun b o n e => (Heap.get?_update_other _ _ (Ne.symm n)).trans e
    refine wpAny_pure ⟨plainId_quiet F.plain_extend_loop _, ih (i + 1) _ (acc.push v) _ (by omega) hlt (W.frame _ _ _ hst₁ fun b hb o e => hu b o (by rintro rfl; exact hSf hb) e) hS₂ (hacc.push hP) fun h' tk' acc' c' hk' hS' hacc' => ?_⟩
    exact hR h' tk' acc' c' (fun b o n1 n2 e => hk' b o n1 n2 (hu b o n1 (hk₁ b o n2 e))) hS' hacc'

/-- what an iterator of a set hands on -/
def SetIt (prog : Program) (w : World) (A : Around) (a : Addr) (s : Shared) (it : Value) (s' : Shared) (vals : List Value) : Prop :=
  ∃ (I : Addr) (fp : List Addr) (P : Nat → Value → Prop) (St : Nat → Heap → Prop) (L : List Value) (n : Nat), n = vals.length ∧ it = .ref I ∧ s.heap.get? I = none ∧ (∀ b ∈ fp, b = a ∨ s.heap.get? b = none) ∧ (∀ b o, s.heap.get? b = some o → s'.heap.get? b = some o) ∧ s'.gens = s.gens ∧ s'.os = s.os ∧
    Nx prog w A I fp n P St ∧ St 0 s'.heap ∧ (∀ i v, P i v → L[i]? = some v) ∧ L.Perm vals

theorem set_hint {r : Addr} {Q : Bool → Shared → Prop} (hT : s.TypeIs (.ref r) "set") (h : Q false s) : wpAny (model prog w) A (Builtin.List.listLengthHint (.ref r)) Q E s := by
  unfold Builtin.List.listLengthHint
  refine wpAny_bind (wpAny_specialOf hT F.slot_set_len.lookup ?_)
  generalize hid : ("set.__len__" : String) = id0
  wp_delta
  rw [show splitId id0 = some ("set", "__len__") from by subst hid; decide +kernel]
  subst hid
  refine wpAny_bind (wpAny_isInstance (T := "set") (b := true) hT (by rw [isSubtype_type]; kernel_rfl) ?_)
  refine wpAny_ite_split (fun hab => absurd hab (by decide)) (fun _ => ?_)
  refine wpAny_ite_split (fun _ => ?_) (fun hab => absurd (by decide +kernel) hab)
  refine wpAny_bind (wpAny_typeOf hT ?_)
  exact wpAny_pure h

theorem set_extend {a : Addr} {oa : Obj} {vals : List Value} (ha : s.heap.get? a = some oa) (hT : oa.cls = .type "set") (hSa : S ≠ a) (res : Value) (c₀ : Nat) (hS : s.heap.get? S = some (seqObj "list" #[] c₀)) (hn : vals.length ≤ 1000)
    (hit : wpAny (model prog w) A.in1 (pyIter (.ref a)) (fun it s' => SetIt prog w A.in1 a s it s' vals) Never s)
    (hR : ∀ s' acc' c', (∀ b o, b ≠ S → s.heap.get? b = some o → s'.heap.get? b = some o) → s'.gens = s.gens → s'.os = s.os → s'.heap.get? S = some (seqObj "list" acc' c') → (∃ L : List Value, L.Perm vals ∧ acc'.toList = L) → R (.ok (.ret res)) s') :
    wpAny (model prog w) A.in1 (Builtin.List.listExtendWith (.ref S) (.ref a) res)
      (fun fin s' => match fin with | .done f => R (.ok f) s' | .again c' => c'.quiet = true ∧ codeAny (model prog w) A c' R s') (fun e s' => R (.error e) s') s := by
  unfold Builtin.List.listExtendWith
  refine wpAny_bind (wpAny_typeOf (T := "set") ⟨_, ha, hT⟩ ?_)
  have h1 : Builtin.List.listSameRef (.ref S) (.ref a) = false := by simp [Builtin.List.listSameRef, hSa]
  have h2 : (Value.type "set" == Value.type "list") = false := by decide
  have h3 : (Value.type "set" == Value.type "tuple") = false := by decide
  simp only [h1, h2, h3, Bool.or_false, Bool.false_eq_true, if_false]
  refine wpAny_bind (wpAny_mono hit (fun it s₁ p => ?_) fun _ _ f => f.elim)
  obtain ⟨I, fp, P, St, L, n, rfl, rfl, hI, hfp, hk, hg, ho, W, st, hL, hp⟩ := p
  have hS₁ := hk _ _ hS
  have hSI : S ≠ I := by rintro rfl; rw [hI] at hS; cases hS
  have hSf : S ∉ fp := fun hm => (hfp _ hm).elim hSa fun z => by rw [hS] at z; cases z
  have key : ∀ (h : Heap) (c₁ : Nat), St 0 h → (∀ b o, b ≠ S → s₁.heap.get? b = some o → h.get? b = some o) → h.get? S = some (seqObj "list" #[] c₁) →
      codeAny (model prog w) A (.builtin "list.extend.loop" ⟨[.ref S, .ref I, res], []⟩) R { s₁ with heap := h } := by
    intro h c₁ hst hk₁ hS₂
    refine extLoop W hn hSf hSI res _ 0 _ #[] c₁ rfl (Nat.zero_le _) hst hS₂ (ItemsOf.nil _) fun h' tk acc' c' hk₂ hS' hacc => ?_
    refine hR _ acc' c' (fun b o n e => hk₂ b o n (by rintro rfl; rw [hI] at e; cases e) (hk₁ b o n (hk b o e))) hg ho hS' ⟨L, hp, ?_⟩
    refine List.ext_getElem? fun i => ?_
    have hlen : L.length = vals.length := hp.length_eq
    rcases Nat.lt_or_ge i acc'.size with hi | hi
    · have e1 : acc'[i]? = some acc'[i] := Array.getElem?_eq_getElem hi
      rw [Array.getElem?_toList, e1]
      exact (hL i _ (hacc.2 i _ e1)).symm
    · rw [List.getElem?_eq_none (by rw [Array.length_toList]; exact hi), List.getElem?_eq_none (by rw [hlen, ← hacc.1]; exact hi)]
  refine wpAny_bind (wpAny_holding (set_hint ⟨_, hk _ _ ha, hT⟩ ?_))
  refine wpAny_ite_split (fun _ => ?_) (fun _ => wpAny_pure ⟨plainId_quiet PySem.F.plain_extend_loop _, key _ c₀ st (fun b o _ e => e) hS₁⟩)
  refine wpAny_bind (wpAny_rule ?_)
  refine wpAny_bind ?_
  show wpAny _ _ (updateSeq S (·.push .none) >>= fun _ => updateSeq S (·.pop)) _ _ _
  refine wpAny_bind (wpAny_updateSeq hS₁ rfl ?_)
  have hS₂ := Heap.get?_update_self (Obj.mapSeq (·.push Value.none)) hS₁ rfl
  refine wpAny_updateSeq (hz := by seq_fits) hS₂ rfl ?_
  have hS₃ := Heap.get?_update_self (Obj.mapSeq (·.pop)) hS₂ rfl
  have oth : ∀ b o, b ≠ S → s₁.heap.get? b = some o → ((s₁.heap.update S (Obj.mapSeq (·.push Value.none))).update S (Obj.mapSeq (·.pop))).get? b = some o := fun b o n e =>
    (Heap.get?_update_other _ _ (Ne.symm n)).trans ((Heap.get?_update_other _ _ (Ne.symm n)).trans e)
  exact wpAny_pure ⟨plainId_quiet PySem.F.plain_extend_loop _, key _ _ (W.frame _ _ _ st fun b hb o e => oth b o (by rintro rfl; exact hSf hb) e) oth hS₃⟩

theorem set_collect {a : Addr} {oa : Obj} {vals : List Value} {Q : List Value → Shared → Prop} (ha : s.heap.get? a = some oa) (hT : oa.cls = .type "set") (hn : vals.length ≤ 1000)
    (hit : ∀ (A' : Around) (s₁ : Shared), A'.handled = A.handled → s₁.heap.get? a = some oa → wpAny (model prog w) A' (pyIter (.ref a)) (fun it s' => SetIt prog w A' a s₁ it s' vals) Never s₁)
    (h : ∀ s' (L : List Value), (∀ b o, s.heap.get? b = some o → s'.heap.get? b = some o) → s'.gens = s.gens → s'.os = s.os → L.Perm vals → Q L s') :
    wpAny (model prog w) A (collect (.ref a)) Q E s := by
  have hlt := Heap.lt_size ha
  unfold collect
  refine wpAny_bind (wpAny_runValue (codeAny_builtin entry_proto_collect' ?_))
  rw [Around.under_plainId PySem.F.plain_proto_collect _]
  show wpAny _ A.in1 (newList [] >>= fun l => again (.builtin "list.__iadd__" ⟨[l, .ref a], []⟩)) _ _ s
  refine wpAny_bind (wpAny_newObj_type ?_)
  refine wpAny_pure ⟨plainId_quiet PySem.F.plain_list_iadd _, codeAny_builtin entry_list_iadd' ?_⟩
  rw [Around.under_plainId PySem.F.plain_list_iadd _]
  have hS₁ : (s.heap.push { cls := .type "list", data := .seq ([] : List Value).toArray }).get? s.heap.objs.size = some (seqObj "list" #[] 0) := Heap.get?_push_size _ rfl
  have ha₁ : (s.heap.push { cls := .type "list", data := .seq ([] : List Value).toArray }).get? a = some oa := Heap.get?_push_of_some _ ha
  show wpAny _ A.in1 (Builtin.List.listExtendWith (.ref s.heap.objs.size) (.ref a) (.ref s.heap.objs.size)) _ _ _
  have key := set_extend (A := A) (s := { s with heap := s.heap.push { cls := .type "list", data := .seq ([] : List Value).toArray } })
    (R := fun (q : Result) (s' : Shared) => ∃ (acc' : Array Value) (c' : Nat), q = .ok (.ret (.ref s.heap.objs.size)) ∧ (∀ b o, s.heap.get? b = some o → s'.heap.get? b = some o) ∧ s'.gens = s.gens ∧ s'.os = s.os ∧
      s'.heap.get? s.heap.objs.size = some (seqObj "list" acc' c') ∧ acc'.toList.Perm vals)
    ha₁ hT (Nat.ne_of_gt hlt) (.ref s.heap.objs.size) 0 hS₁ hn (hit _ _ rfl ha₁)
    (fun s' acc' c' hk hg ho hS' ⟨L, hp, e⟩ => ⟨acc', c', rfl, fun b o e => hk b o (Nat.ne_of_lt (Heap.lt_size e)) (Heap.get?_push_of_some _ e), hg, ho, hS', e ▸ hp⟩)
  refine wpAny_mono key (fun fin s' x => ?_) fun e s' x => ?_
  · cases fin with
    | done f =>
      obtain ⟨acc', c', e, hk, hg, ho, hS', hacc⟩ := x
      cases e
      show wpAny _ A (load s.heap.objs.size >>= _) _ _ _
      refine wpAny_bind (wpAny_load hS' ?_)
      exact wpAny_pure (h s' _ hk hg ho hacc)
    | again c₁ =>
      refine ⟨x.1, codeAny_mono x.2 fun q s₂ y => ?_⟩
      obtain ⟨acc', c', rfl, hk, hg, ho, hS', hacc⟩ := y
      show wpAny _ A (load s.heap.objs.size >>= _) _ _ _
      refine wpAny_bind (wpAny_load hS' ?_)
      exact wpAny_pure (h s₂ _ hk hg ho hacc)
  · obtain ⟨_, _, e', _⟩ := x
    cases e'
end
end Pb
end
section
open PySem PySem.W PySem.Calls PyProof.Rows PySem.Spec
set_option Elab.async false
set_option linter.unusedVariables false
set_option maxRecDepth 100000
namespace Pb
def setiObj (first : Value) (i : Nat) (a : Addr) (n ep : Nat) : Obj := { cls := .type "set_iterator", dict := none, data := .fields #[first, .int (i : Int) 0, .ref a, .int (n : Int) 0, .int (ep : Int) 0], slots := #[] }

section
variable {prog : Program} {w : World} {A : Around} {E : Value → Shared → Prop} {s : Shared} {I a : Addr} {n ep : Nat} {es : Array (Int × Value)} {t : SetTable}

theorem wpAny_choose {M : Model} {src : Source} {n : Nat} {Q : Nat → Shared → Prop} (hn : n ≠ 0) (h : ∀ i dr, i < n → Q i { s with drawn := dr }) : wpAny M A (choose src n) Q E s := fun Γ p hΓ => by
  unfold choose
  rw [Sem.wp_choose]
  exact ⟨hn, h _ _ (Nat.mod_lt _ (Nat.pos_of_ne_zero hn))⟩
theorem erase_perm {α : Type} : ∀ {xs : List α} {i : Nat} (hi : i < xs.length), (xs[i] :: xs.eraseIdx i).Perm xs
  | x :: xs, 0, _ => by simp
  | x :: xs, i + 1, hi => by
    have hi' : i < xs.length := by simpa using hi
    simp only [List.getElem_cons_succ, List.eraseIdx_cons_succ]
    exact (List.Perm.swap _ _ _).trans ((erase_perm hi').cons x)
theorem drawOrder_ {α : Type} {M : Model} : ∀ (n : Nat) (xs : List α) (s : Shared) (Q : List α → Shared → Prop), n = xs.length → (∀ L dr, L.Perm xs → Q L { s with drawn := dr }) → wpAny M A (drawOrder n xs) Q E s
  | 0, [], s, Q, _, h => by
    unfold drawOrder
    exact wpAny_pure (h [] s.drawn (.refl _))
  | n + 1, x :: xs, s, Q, e, h => by
    unfold drawOrder
    refine wpAny_bind (wpAny_choose (by simp) fun i dr hi => ?_)
    have hx : (x :: xs)[i]? = some (x :: xs)[i] := List.getElem?_eq_getElem hi
    rw [hx]
    dsimp only
    refine wpAny_bind (drawOrder_ n _ _ _ (by rw [List.length_eraseIdx, if_pos hi]; simp at e ⊢; omega) fun L dr' hL => wpAny_pure ?_)
    refine h _ dr' ?_
    exact (List.Perm.cons _ hL).trans (erase_perm hi)
  | 0, _ :: _, _, _, e, _ => by simp at e
  | _ + 1, [], _, _, e, _ => by simp at e

theorem setsByText_ {M : Model} {Q : Bool → Shared → Prop} (h : Q (byTextOf M.w) s) : wpAny M A setsByText Q E s := by
  unfold setsByText
  exact wpAny_bind (wpAny_askSetting (wpAny_pure h))

/-- a turn of a set's iterator -/
theorem seti_turn {slot : Nat} {i : Nat} {Q : Option Value → Shared → Prop} (hh : A.handled = none) (hit : s.heap.get? I = some (setiObj (.int (slot : Int) 0) i a n ep)) (ha : s.heap.get? a = some (setObj es ep t)) (hf : t.fits es.size = true) (hn : es.size = n)
    (r : Option (Value × Nat)) (hx : ∀ (A' : Around) (E' : Value → Shared → Prop) (Q' : Option (Value × Nat) → Shared → Prop), Q' r s → wpAny (model prog w) A' (setNext a slot i ep) Q' E' s)
    (h : match r with
      | some (x, nx) => ∀ h', h'.get? I = some (setiObj (.int (nx : Int) 0) (i + 1) a n ep) → (∀ b o, b ≠ I → s.heap.get? b = some o → h'.get? b = some o) → Q (some x) { s with heap := h' }
      | none => ∀ h', (∀ b o, b ≠ I → s.heap.get? b = some o → h'.get? b = some o) → Q none { s with heap := h' }) :
    wpAny (model prog w) A (pyNext (.ref I)) Q E s := by
  have hT : s.TypeIs (.ref I) "set_iterator" := ⟨_, hit, rfl⟩
  have hit0 : s.heap.get? I = some { cls := .type "set_iterator", dict := none, data := .fields #[.int (slot : Int) 0, .int (i : Int) 0, .ref a, .int (n : Int) 0, .int (ep : Int) 0], slots := #[] } := hit
  unfold pyNext
  refine wpAny_bind (wpAny_attempt (wpAny_callSpecial?_slot (name := Str.ofString "__next__") hT slot_seti_next
    (wpAny_call_entry slot_seti_next hT entry_seti_next ?_ (args_seti_next _))))
  unfold Builtin.«set_iterator.__next__»
  refine wpAny_bind (m := slotArgs "__next__" 0 _) (wpAny_pure ?_)
  refine wpAny_bind (wpAny_fieldsOf hit0 rfl ?_)
  dsimp only
  refine wpAny_bind (wpAny_setEntries_of ha rfl hf ?_)
  rw [if_neg (by rw [hn]; simp)]
  refine wpAny_bind (hx _ _ _ ?_)
  cases r with
  | some p =>
    obtain ⟨x, nx⟩ := p
    dsimp only
    refine wpAny_bind (wpAny_setField_rec hit0 (by simp) fun h₁ ho₁ sb₁ => ?_)
    refine wpAny_bind (wpAny_setField_rec (s := { s with heap := h₁ }) ho₁ (by simp) fun h₂ ho₂ sb₂ => ?_)
    refine wpAny_pure ⟨x, rfl, ?_⟩
    refine wpAny_pure (h h₂ ?_ fun b o n e => (sb₂.2 b n).trans ((sb₁.2 b n).trans e))
    rw [ho₂]; simp [setiObj, rawInt]
  | none =>
    dsimp only
    refine wpAny_bind (wpAny_setField_rec hit0 (by simp) fun h₁ ho₁ sb₁ => ?_)
    show wpAny _ _ (newExc (.type "StopIteration") [] >>= _) _ _ _
    refine wpAny_bind ?_
    simp only [newExc, newTuple]
    refine wpAny_bind (wpAny_newObj_type ?_ (by size_fits))
    refine wpAny_bind (m := firstArgMember _ _) (wpAny_of_eq (a := Value.none) (by first | rfl | (simp only [firstArgMember]; rfl)) ?_)
    refine wpAny_newObj_type ?_ (by size_fits)
    simp only [raiseNew]
    refine wpAny_bind (wpAny_handled ?_)
    first | rw [show A.in1.handled = none from hh] | rw [hh]
    refine wpAny_bind (wpAny_pure (wpAny_throw ?_))
    refine wpAny_bind (wpAny_isInstance (T := "StopIteration") (b := true) ⟨_, Heap.get?_push_size _ rfl, rfl⟩ isSubtype_stop ?_)
    refine wpAny_pure (h _ fun b o n e => ?_)
    exact Heap.get?_push_of_some _ (Heap.get?_push_of_some _ ((sb₁.2 b n).trans e))
end
end Pb
namespace Pb
theorem pickOrder_perm {α : Type} (next : Nat → Nat) : ∀ (fuel k : Nat) (left : List α) (out : Array α), fuel = left.length → (pickOrder.go next fuel k left out).toList.Perm (out.toList ++ left)
  | 0, k, [], out, _ => by unfold pickOrder.go; simp
  | fuel + 1, k, x :: left, out, e => by
    unfold pickOrder.go
    have hlt : next k % (x :: left).length < (x :: left).length := Nat.mod_lt _ (by simp)
    rw [List.getElem?_eq_getElem hlt]
    dsimp only
    refine (pickOrder_perm next fuel (k + 1) _ _ (by rw [List.length_eraseIdx, if_pos hlt]; simp at e ⊢; omega)).trans ?_
    rw [Array.toList_push, List.append_assoc]
    exact List.Perm.append_left _ (erase_perm hlt)
  | 0, _, _ :: _, _, e => by simp at e
  | _ + 1, _, [], _, e => by simp at e

section
variable {prog : Program} {w : World} {A : Around} {E : Value → Shared → Prop} {s : Shared} {I a T : Addr} {ep : Nat} {es : Array (Int × Value)} {t : SetTable}

def slotOf (t : SetTable) (i : Nat) : Nat := if i = 0 then 0 else t.place.getD (i - 1) 0 + 1
theorem below_slotOf {t : SetTable} (h : Ris t.place) {i : Nat} (hi : i ≤ t.place.size) : SetTable.below t.place (slotOf t i) = i := by
  obtain ⟨h1, h2, h3⟩ := below_spec h (slotOf t i)
  unfold slotOf at h1 h2 h3 ⊢
  by_cases q : i = 0
  · subst q
    simp only [if_true] at h1 h2 h3 ⊢
    rcases Nat.eq_zero_or_pos (SetTable.below t.place 0) with e | e
    · exact e
    · exact absurd (h2 0 e) (Nat.not_lt_zero _)
  · simp only [q, if_false] at h1 h2 h3 ⊢
    generalize SetTable.below t.place (t.place.getD (i - 1) 0 + 1) = r at h1 h2 h3 ⊢
    have lo : ¬ r ≤ i - 1 := fun hr => by have := h3 (i - 1) hr (by omega); omega
    have hi' : ¬ i < r := fun hr => by
      have h4 := h2 i hr
      have h5 := h.get (show i - 1 < i by omega) (show i < t.place.size by omega)
      omega
    omega

theorem nxB (hh : A.handled = none) (hb : byTextOf w = true) (hf : t.fits es.size = true) (haI : a ≠ I) :
    Nx prog w A I [I, a] es.size (fun i v => ((pickOrder (w.params.setOrder a ep) es).toList.map (·.2))[i]? = some v) (fun i h => h.get? I = some (setiObj (.int ((0 : Nat) : Int) 0) i a es.size ep) ∧ h.get? a = some (setObj es ep t)) := by
  have nxt : ∀ (i : Nat) (s : Shared), s.heap.get? a = some (setObj es ep t) → ∀ (A' : Around) (E' : Value → Shared → Prop) (Q' : Option (Value × Nat) → Shared → Prop), Q' (((pickOrder (w.params.setOrder a ep) es)[i]?).map fun e => (e.2, 0)) s →
      wpAny (model prog w) A' (setNext a 0 i ep) Q' E' s := fun i s ha A' E' Q' q => by
    unfold setNext
    refine wpAny_bind (wpAny_setState_of ha rfl hf ?_)
    dsimp only
    refine wpAny_bind (setsByText_ ?_)
    rw [show byTextOf (model prog w).w = true from hb]
    simp only [if_true, bne_self_eq_false, Bool.false_eq_true, if_false]
    refine wpAny_bind ?_
    unfold setWalk
    refine wpAny_bind (wpAny_setState_of ha rfl hf ?_)
    dsimp only
    refine wpAny_bind (setsByText_ ?_)
    rw [show byTextOf (model prog w).w = true from hb]
    simp only [if_true]
    exact wpAny_bind (wpAny_askSetting (wpAny_pure (wpAny_pure q)))
  have hp : (pickOrder (w.params.setOrder a ep) es).toList.Perm es.toList := by
    have := pickOrder_perm (w.params.setOrder a ep) es.size 0 es.toList #[] (by simp)
    simpa [pickOrder] using this
  have hsz : (pickOrder (w.params.setOrder a ep) es).size = es.size := by rw [← Array.length_toList, hp.length_eq, Array.length_toList]
  refine ⟨fun i h h' st k => ⟨k I (by simp) _ st.1, k a (by simp) _ st.2⟩, fun i s Q E hi st hQ => ?_, fun s Q E st hQ => ?_⟩
  · have hx : (pickOrder (w.params.setOrder a ep) es)[i]? = some (pickOrder (w.params.setOrder a ep) es)[i] := Array.getElem?_eq_getElem (by omega)
    refine seti_turn (slot := 0) hh st.1 st.2 hf rfl (some ((pickOrder (w.params.setOrder a ep) es)[i].2, 0)) (fun A' E' Q' q => nxt i s st.2 A' E' Q' (by rw [hx]; exact q)) fun h' ho k => ?_
    exact hQ _ h' s.toks (by rw [List.getElem?_map, Array.getElem?_toList, hx]; rfl) ⟨ho, k a _ haI st.2 ⟩ k
  · refine seti_turn (slot := 0) hh st.1 st.2 hf rfl none (fun A' E' Q' q => nxt es.size s st.2 A' E' Q' (by rw [Array.getElem?_eq_none (by omega)]; exact q)) fun h' k => ?_
    exact hQ h' s.toks k

theorem nxL (hh : A.handled = none) (hb : byTextOf w = false) (hdr : (!t.plain && decide (es.size > 1)) = false) (hled : t.led = true) (hris : Ris t.place) (hf : t.fits es.size = true) (haI : a ≠ I) :
    Nx prog w A I [I, a] es.size (fun i v => (es.toList.map (·.2))[i]? = some v) (fun i h => h.get? I = some (setiObj (.int (slotOf t i : Int) 0) i a es.size ep) ∧ h.get? a = some (setObj es ep t)) := by
  have hps : t.place.size = es.size := by
    simp only [SetTable.fits, Bool.and_eq_true, beq_iff_eq] at hf
    exact hf.1
  have nxt : ∀ (i : Nat) (s : Shared), i ≤ es.size → s.heap.get? a = some (setObj es ep t) → ∀ (A' : Around) (E' : Value → Shared → Prop) (Q' : Option (Value × Nat) → Shared → Prop),
      Q' (match es[i]?, t.place[i]? with | some (_, x), some j => some (x, j + 1) | _, _ => none) s → wpAny (model prog w) A' (setNext a (slotOf t i) i ep) Q' E' s := fun i s hi ha A' E' Q' q => by
    unfold setNext
    refine wpAny_bind (wpAny_setState_of ha rfl hf ?_)
    dsimp only
    refine wpAny_bind (setsByText_ ?_)
    rw [show byTextOf (model prog w).w = false from hb]
    simp only [Bool.false_eq_true, if_false]
    show wpAny _ _ (if (!t.plain && decide (es.size > 1)) = true then _ else _) _ _ _
    rw [hdr]
    simp only [Bool.false_eq_true, if_false]
    refine wpAny_bind ?_
    show wpAny _ _ (if (!t.led && !es.isEmpty) = true then unsupported "set:maker-not-led" else pure () : Sem Unit) _ _ _
    rw [hled]
    simp only [Bool.not_true, Bool.false_and, Bool.false_eq_true, if_false]
    refine wpAny_pure (wpAny_pure ?_)
    rw [below_slotOf hris (by omega)]
    exact q
  refine ⟨fun i h h' st k => ⟨k I (by simp) _ st.1, k a (by simp) _ st.2⟩, fun i s Q E hi st hQ => ?_, fun s Q E st hQ => ?_⟩
  · have hx : es[i]? = some es[i] := Array.getElem?_eq_getElem hi
    have hy : t.place[i]? = some (t.place[i]'(by omega)) := Array.getElem?_eq_getElem (by omega)
    refine seti_turn (slot := slotOf t i) hh st.1 st.2 hf rfl (some (es[i].2, (t.place[i]'(by omega)) + 1)) (fun A' E' Q' q => nxt i s (Nat.le_of_lt hi) st.2 A' E' Q' (by rw [hx, hy]; exact q)) fun h' ho k => ?_
    refine hQ _ h' s.toks (by rw [List.getElem?_map, Array.getElem?_toList, hx]; rfl) ⟨?_, k a _ haI st.2⟩ k
    rw [ho]
    have : slotOf t (i + 1) = (t.place[i]'(by omega)) + 1 := by
      unfold slotOf
      simp [Array.getD, show i < t.place.size by omega]
    rw [this]
  · refine seti_turn (slot := slotOf t es.size) hh st.1 st.2 hf rfl none (fun A' E' Q' q => nxt es.size s (Nat.le_refl _) st.2 A' E' Q' (by rw [Array.getElem?_eq_none (Nat.le_refl _)]; exact q)) fun h' k => ?_
    exact hQ h' s.toks k
end
end Pb
end
section
open PySem PySem.W PySem.Calls PyProof.Rows PySem.Spec
set_option Elab.async false
set_option linter.unusedVariables false
set_option maxRecDepth 100000
namespace Pb
section
variable {prog : Program} {w : World} {A : Around} {E : Value → Shared → Prop} {s : Shared} {I a T : Addr} {ep : Nat} {es : Array (Int × Value)} {t : SetTable}

def rawNat (i : Nat) : Value := rawInt (i : Int)
/-- a turn of a set's iterator that goes by a drawn order -/
theorem seti_turnD {i n : Nat} {σ : List Nat} {Q : Option Value → Shared → Prop} (hh : A.handled = none) (hit : s.heap.get? I = some (setiObj (.ref T) i a n ep)) (hT : s.heap.get? T = some (seqObj "tuple" (σ.map rawNat).toArray 0))
    (ha : s.heap.get? a = some (setObj es ep t)) (hf : t.fits es.size = true) (hn : es.size = n) (hσ : ∀ p ∈ σ, p < es.size)
    (h : match σ[i]? with
      | some p => ∀ x h', es[p]? = some x → h'.get? I = some (setiObj (.ref T) (i + 1) a n ep) → (∀ b o, b ≠ I → s.heap.get? b = some o → h'.get? b = some o) → Q (some x.2) { s with heap := h' }
      | none => ∀ h', (∀ b o, b ≠ I → s.heap.get? b = some o → h'.get? b = some o) → Q none { s with heap := h' }) :
    wpAny (model prog w) A (pyNext (.ref I)) Q E s := by
  have hTy : s.TypeIs (.ref I) "set_iterator" := ⟨_, hit, rfl⟩
  have hit0 : s.heap.get? I = some { cls := .type "set_iterator", dict := none, data := .fields #[.ref T, .int (i : Int) 0, .ref a, .int (n : Int) 0, .int (ep : Int) 0], slots := #[] } := hit
  unfold pyNext
  refine wpAny_bind (wpAny_attempt (wpAny_callSpecial?_slot (name := Str.ofString "__next__") hTy slot_seti_next
    (wpAny_call_entry slot_seti_next hTy entry_seti_next ?_ (args_seti_next _))))
  unfold Builtin.«set_iterator.__next__»
  refine wpAny_bind (m := slotArgs "__next__" 0 _) (wpAny_pure ?_)
  refine wpAny_bind (wpAny_fieldsOf hit0 rfl ?_)
  dsimp only
  refine wpAny_bind (wpAny_setEntries_of ha rfl hf ?_)
  rw [if_neg (by rw [hn]; simp)]
  refine wpAny_bind (wpAny_seqItems hT rfl ?_)
  dsimp only
  rw [show ((i : Nat) : Int).toNat = i from rfl]
  have hget : (σ.map rawNat).toArray[i]? = (σ[i]?).map rawNat := by simp
  rw [hget]
  cases hi : σ[i]? with
  | some p =>
    rw [hi] at h
    dsimp only at h ⊢
    simp only [Option.map_some]
    have hp : p < es.size := hσ p (List.mem_of_getElem? hi)
    have hx : es[p]? = some es[p] := Array.getElem?_eq_getElem hp
    show wpAny _ _ (setNextDrawn a p ep >>= _) _ _ _
    refine wpAny_bind ?_
    unfold setNextDrawn
    refine wpAny_bind (wpAny_setState_of ha rfl hf ?_)
    dsimp only
    rw [if_neg (by simp)]
    refine wpAny_bind (wpAny_pure ?_)
    rw [hx]
    dsimp only
    refine wpAny_pure ?_
    refine wpAny_bind (wpAny_setField_rec hit0 (by simp) fun h₁ ho₁ sb₁ => ?_)
    refine wpAny_pure ⟨_, rfl, ?_⟩
    refine wpAny_pure (h _ h₁ hx ?_ fun b o n e => (sb₁.2 b n).trans e)
    rw [ho₁]; simp [setiObj, rawInt]
  | none =>
    rw [hi] at h
    dsimp only at h ⊢
    simp only [Option.map_none]
    refine wpAny_bind (wpAny_setField_rec hit0 (by simp) fun h₁ ho₁ sb₁ => ?_)
    refine wpAny_bind (wpAny_setField_rec (s := { s with heap := h₁ }) ho₁ (by simp) fun h₂ ho₂ sb₂ => ?_)
    show wpAny _ _ (newExc (.type "StopIteration") [] >>= _) _ _ _
    refine wpAny_bind ?_
    simp only [newExc, newTuple]
    refine wpAny_bind (wpAny_newObj_type ?_ (by size_fits))
    refine wpAny_bind (m := firstArgMember _ _) (wpAny_of_eq (a := Value.none) (by first | rfl | (simp only [firstArgMember]; rfl)) ?_)
    refine wpAny_newObj_type ?_ (by size_fits)
    simp only [raiseNew]
    refine wpAny_bind (wpAny_handled ?_)
    first | rw [show A.in1.handled = none from hh] | rw [hh]
    refine wpAny_bind (wpAny_pure (wpAny_throw ?_))
    refine wpAny_bind (wpAny_isInstance (T := "StopIteration") (b := true) ⟨_, Heap.get?_push_size _ rfl, rfl⟩ isSubtype_stop ?_)
    refine wpAny_pure (h _ fun b o n e => ?_)
    exact Heap.get?_push_of_some _ (Heap.get?_push_of_some _ ((sb₂.2 b n).trans ((sb₁.2 b n).trans e)))

theorem nxD {σ : List Nat} (hh : A.handled = none) (hf : t.fits es.size = true) (hσ : σ.Perm (List.range es.size)) (haI : a ≠ I) (hTI : T ≠ I) :
    Nx prog w A I [I, a, T] es.size (fun i v => (σ.map fun p => (es.getD p (0, .none)).2)[i]? = some v)
      (fun i h => h.get? I = some (setiObj (.ref T) i a es.size ep) ∧ h.get? a = some (setObj es ep t) ∧ h.get? T = some (seqObj "tuple" (σ.map rawNat).toArray 0)) := by
  have hb : ∀ p ∈ σ, p < es.size := fun p hp => List.mem_range.mp (hσ.mem_iff.mp hp)
  have hl : σ.length = es.size := by rw [hσ.length_eq, List.length_range]
  refine ⟨fun i h h' st k => ⟨k I (by simp) _ st.1, k a (by simp) _ st.2.1, k T (by simp) _ st.2.2⟩, fun i s Q E hi st hQ => ?_, fun s Q E st hQ => ?_⟩
  · have hx : σ[i]? = some (σ[i]'(by omega)) := List.getElem?_eq_getElem (by omega)
    refine seti_turnD hh st.1 st.2.2 st.2.1 hf rfl hb ?_
    rw [hx]
    intro x h' e ho k
    refine hQ _ h' s.toks ?_ ⟨ho, k a _ haI st.2.1, k T _ hTI st.2.2⟩ k
    rw [List.getElem?_map, hx]
    have hp := hb _ (List.getElem_mem (l := σ) (n := i) (by omega))
    rw [Array.getElem?_eq_getElem hp] at e
    simp only [Option.map_some]
    rw [← Option.some.inj e]
    simp [Array.getD, hp]
  · refine seti_turnD hh st.1 st.2.2 st.2.1 hf rfl hb ?_
    rw [List.getElem?_eq_none (by omega)]
    intro h' k
    exact hQ h' s.toks k

theorem set_iter {S : List Int} (hh : A.handled = none) (ha : s.heap.get? a = some (setObj es ep t)) (hd : SetD es t S (!byTextOf w)) (hz : es.size ≤ 1000) :
    wpAny (model prog w) A (pyIter (.ref a)) (fun it s' => SetIt prog w A a s it s' (es.toList.map (·.2))) Never s := by
  have hT : s.TypeIs (.ref a) "set" := ⟨_, ha, rfl⟩
  have hal := Heap.lt_size ha
  have hlen : (es.toList.map (·.2)).length = es.size := by rw [List.length_map, Array.length_toList]
  refine wpAny_pyIter_slot hT F.slot_set_iter (wpAny_call_entry F.slot_set_iter hT entry_set_iter ?_ (F.args_set_iter_1 _))
  unfold Builtin.«frozenset.__iter__» Builtin.Frozenset.slot0
  refine wpAny_bind ?_
  refine wpAny_bind (m := slotArgs "__iter__" 0 _) (wpAny_pure ?_)
  unfold Builtin.Frozenset.addrOf
  refine wpAny_pure ?_
  unfold Builtin.Frozenset.sizeOf
  refine wpAny_bind (wpAny_bind (wpAny_setEntries_of ha rfl hd.fits (wpAny_pure ?_)))
  refine wpAny_bind ?_
  unfold setDrawn
  refine wpAny_bind (wpAny_setState_of ha rfl hd.fits ?_)
  dsimp only
  refine wpAny_bind (setsByText_ ?_)
  show wpAny _ _ (pure (!byTextOf w && (!t.plain && decide (es.size > 1)))) _ _ _
  refine wpAny_pure ?_
  cases hb : byTextOf w with
  | true =>
    simp only [Bool.not_true, Bool.false_and, Bool.false_eq_true, if_false]
    refine wpAny_bind (wpAny_pure ?_)
    refine wpAny_bind (wpAny_setEpoch_of ha rfl hd.fits ?_)
    show wpAny _ _ (newFields "set_iterator" [rawInt 0, rawInt 0, .ref a, rawInt (es.size : Int), rawInt (ep : Int)] >>= _) _ _ _
    refine wpAny_bind (wpAny_newObj_type (wpAny_pure ⟨_, rfl, "set_iterator", _, ⟨_, Heap.get?_push_size _ rfl, rfl⟩, slot_seti_next.lookup, ?_⟩))
    have hf := fresh_size (h := s.heap) (Nat.le_refl _)
    have W := nxB (prog := prog) (ep := ep) (A := A) hh hb hd.fits (Nat.ne_of_lt hal)
    have hp : (pickOrder (w.params.setOrder a ep) es).toList.Perm es.toList := by
      have := pickOrder_perm (w.params.setOrder a ep) es.size 0 es.toList #[] (by simp)
      simpa [pickOrder] using this
    refine ⟨s.heap.objs.size, [s.heap.objs.size, a], _, _, (pickOrder (w.params.setOrder a ep) es).toList.map (·.2), _, hlen.symm, rfl, hf, fun b hb' => ?_, fun b o e => Heap.get?_push_of_some _ e, rfl, rfl, W, ⟨Heap.get?_push_size _ rfl, Heap.get?_push_of_some _ ha⟩, fun i v q => q, hp.map _⟩
    simp only [List.mem_cons, List.not_mem_nil, or_false] at hb'
    rcases hb' with rfl | rfl
    · exact .inr hf
    · exact .inl rfl
  | false =>
    cases hdr : (!t.plain && decide (es.size > 1)) with
    | false =>
      simp only [Bool.not_false, Bool.true_and, Bool.false_eq_true, if_false]
      refine wpAny_bind (wpAny_pure ?_)
      refine wpAny_bind (wpAny_setEpoch_of ha rfl hd.fits ?_)
      show wpAny _ _ (newFields "set_iterator" [rawInt 0, rawInt 0, .ref a, rawInt (es.size : Int), rawInt (ep : Int)] >>= _) _ _ _
      refine wpAny_bind (wpAny_newObj_type (wpAny_pure ⟨_, rfl, "set_iterator", _, ⟨_, Heap.get?_push_size _ rfl, rfl⟩, slot_seti_next.lookup, ?_⟩))
      have hf := fresh_size (h := s.heap) (Nat.le_refl _)
      have hled := hd.tab.led
      rw [hb] at hled
      have W := nxL (prog := prog) (ep := ep) (A := A) hh hb hdr hled hd.tab.ris hd.fits (Nat.ne_of_lt hal)
      refine ⟨s.heap.objs.size, [s.heap.objs.size, a], _, _, es.toList.map (·.2), _, hlen.symm, rfl, hf, fun b hb' => ?_, fun b o e => Heap.get?_push_of_some _ e, rfl, rfl, W,
        ⟨Heap.get?_push_size _ rfl, Heap.get?_push_of_some _ ha⟩, fun i v q => q, .refl _⟩
      simp only [List.mem_cons, List.not_mem_nil, or_false] at hb'
      rcases hb' with rfl | rfl
      · exact .inr hf
      · exact .inl rfl
    | true =>
      rw [if_pos (by decide)]
      refine wpAny_bind (drawOrder_ _ _ _ _ (by simp) fun σ dr hσ => ?_)
      refine wpAny_bind (wpAny_newTuple ?_ (by rw [List.length_map, hσ.length_eq, List.length_range, sizeLine_eq]; omega))
      have ha₁ : (s.heap.push { cls := .type "tuple", data := .seq (σ.map rawNat).toArray }).get? a = some (setObj es ep t) := Heap.get?_push_of_some _ ha
      refine wpAny_bind (wpAny_setEpoch_of ha₁ rfl hd.fits ?_)
      show wpAny _ _ (newFields "set_iterator" [.ref s.heap.objs.size, rawInt 0, .ref a, rawInt (es.size : Int), rawInt (ep : Int)] >>= _) _ _ _
      refine wpAny_bind (wpAny_newObj_type (wpAny_pure ⟨_, rfl, "set_iterator", _, ⟨_, Heap.get?_push_size _ rfl, rfl⟩, slot_seti_next.lookup, ?_⟩))
      have hsz : (s.heap.push { cls := .type "tuple", data := .seq (σ.map rawNat).toArray }).objs.size = s.heap.objs.size + 1 := Heap.size_push ..
      have hf0 := fresh_size (h := s.heap) (Nat.le_refl _)
      have hf := fresh_size (h := s.heap) (a := (s.heap.push { cls := .type "tuple", data := .seq (σ.map rawNat).toArray }).objs.size) (by rw [hsz]; exact Nat.le_succ _)
      have haI : a ≠ (s.heap.push { cls := .type "tuple", data := .seq (σ.map rawNat).toArray }).objs.size := Nat.ne_of_lt (by rw [hsz]; exact Nat.lt_succ_of_lt hal)
      have hTI : s.heap.objs.size ≠ (s.heap.push { cls := .type "tuple", data := .seq (σ.map rawNat).toArray }).objs.size := Nat.ne_of_lt (by rw [hsz]; exact Nat.lt_succ_self _)
      have W := nxD (prog := prog) (w := w) (ep := ep) (A := A) hh hd.fits hσ haI hTI
      have hL : ((List.range es.size).map fun p => (es.getD p (0, .none)).2) = es.toList.map (·.2) := by
        refine List.ext_getElem? fun i => ?_
        rw [List.getElem?_map, List.getElem?_map, Array.getElem?_toList]
        by_cases hi : i < es.size
        · simp [hi, Array.getD]
        · simp [hi]
      refine ⟨_, [(s.heap.push { cls := .type "tuple", data := .seq (σ.map rawNat).toArray }).objs.size, a, s.heap.objs.size], _, _, σ.map fun p => (es.getD p (0, .none)).2, _, hlen.symm, rfl, hf, fun b hb' => ?_, fun b o e => Heap.get?_push_of_some _ (Heap.get?_push_of_some _ e), rfl, rfl,
        W, ⟨Heap.get?_push_size _ rfl, Heap.get?_push_of_some _ ha₁, Heap.get?_push_of_some _ (Heap.get?_push_size _ rfl)⟩, fun i v q => q, by rw [← hL]; exact hσ.map _⟩
      simp only [List.mem_cons, List.not_mem_nil, or_false] at hb'
      rcases hb' with rfl | rfl | rfl
      · exact .inr hf
      · exact .inl rfl
      · exact .inr hf0
end
end Pb
end
section
open PySem PySem.W PySem.Calls PyProof.Rows PySem.Spec
set_option Elab.async false
set_option linter.unusedVariables false
set_option maxRecDepth 100000
namespace Pb
theorem GPost.made' {K : Frag} {μ : Mu} {g : Gh} {s s' : Shared} {Q : D → Mu → Prop} (I : GInv K μ g s.heap) {a : Addr} {o : Obj} {d : D} (hg : s'.gens = s.gens) (hos : s'.os = s.os) (k : ∀ b o, s.heap.get? b = some o → s'.heap.get? b = some o)
    (ha : s.heap.get? a = none) (ho : s'.heap.get? a = some o) (x : ObjDen g a o d) (q : Q d μ) : GPost K μ g s Q (.ref a) s' := by
  have hgn := I.non ha
  refine ⟨put g a o, d, μ, (I.keeps k).put hgn ho (I.domNone ha), ⟨⟨hg, hos⟩, le_put hgn, fun b e n z => ?_, fun b o _ _ e => k b o e, fun b e => ?_, fun _ e => .inl e⟩, (x.mono (le_put hgn)).den put_self, q⟩
  · rw [put_ne]
    · exact z
    · rintro rfl; rw [ha] at e; cases e
  · obtain ⟨o, ho⟩ := Option.isSome_iff_exists.mp e
    rw [k b o ho]; rfl

theorem sortedHeap_keep {h : Heap} {L : List Value} {out : Array Value} {ob : Obj} {b : Addr} {o : Obj} (e : h.get? b = some o) : (sortedHeap (h.push ob) h.objs.size L out).get? b = some o := by
  have hb : b < h.objs.size := Heap.lt_size e
  rw [sortedHeap_old (Nat.ne_of_lt hb) (by rw [size_push']; exact Nat.lt_succ_of_lt hb)]
  exact Heap.get?_push_of_some _ e
section
variable {c : Cx} {μ : Mu} {QD : D → Mu → Prop}
theorem OpC.sortS (hh : c.A.handled = none) {S : List Int} (hl : S.length < 64) (q : ∀ ns : List Int, ns.Nodup → (∀ k, k ∈ ns ↔ k ∈ S) → ns.Pairwise (· ≤ ·) → QD (.lst (ns.map D.int)) μ) : OpC c μ (.builtin "sorted") [.set S (!byTextOf c.w)] QD := fun g s vs I n => by
  obtain ⟨v, rfl, nn⟩ := n.one'; replace n := nn
  rw [Den] at n
  obtain ⟨a, es, ep, t, rfl, ha, hd⟩ := n
  have hle := hd.le
  have hlen : (es.toList.map (·.2)).length = es.size := by rw [List.length_map, Array.length_toList]
  refine call_function_entry kind_sorted plain_sorted entry_sorted (args_sorted1 _) ?_
  unfold Builtin.«sorted»
  refine wpAny_bind (m := checkCount "sorted" 1 1 _) (wpAny_pure ?_)
  refine wpAny_bind (set_collect (A := c.A.in1) (vals := es.toList.map (·.2)) (I.sub _ _ ha) rfl (by omega) (fun A' s₁ hA h₁ => set_iter (hA.trans hh) h₁ hd (by omega)) fun s' L k hg hos hp => ?_)
  have hLl : L.length = es.size := by rw [hp.length_eq, hlen]
  have hi : IntsAre L (L.map keyOf) := intsAre_get (by rw [List.length_map]) fun j v hj => by
    refine ⟨keyOf v, by rw [List.getElem?_map, hj]; rfl, ?_⟩
    have hm := hp.mem_iff.mp (List.mem_of_getElem? hj)
    obtain ⟨e, he, rfl⟩ := List.mem_map.mp hm
    exact hd.vals e he
  have hkp : (L.map keyOf).Perm (es.toList.map (keyOf ·.2)) := by
    have := hp.map keyOf
    rwa [List.map_map] at this
  refine wpAny_bind (wpAny_newList ?_ (by rw [sizeLine_eq]; omega))
  have ho : (s'.heap.push { cls := .type "list", data := .seq L.toArray }).get? s'.heap.objs.size = some (seqObj "list" L.toArray 0) := Heap.get?_push_size _ rfl
  refine wpAny_bind (wpAny_holding (wpAny_call_entry slot_list_sort ⟨_, ho, rfl⟩ entry_list_sort (list_sort_tree ho hi (by omega) fun out ns' a1 a2 a3 => ⟨_, rfl, ?_⟩) (args_list_sort _)))
  refine wpAny_pure ⟨_, rfl, ?_⟩
  obtain ⟨e, he⟩ := sortedHeap_at (out := out) ho
  have hf : s.heap.get? s'.heap.objs.size = none := by
    cases e : s.heap.get? s'.heap.objs.size with
    | none => rfl
    | some o => exact absurd (Heap.lt_size (k _ _ e)) (Nat.lt_irrefl _)
  refine GPost.made' (d := .lst (ns'.map D.int)) I hg hos (fun b o e => ?_) hf he ⟨out, e, rfl, DenL.of_ints a1⟩ (q ns' ?_ (fun k => ?_) a3)
  · exact sortedHeap_keep (k _ _ e)
  · exact (a2.trans hkp).nodup_iff.mpr hd.nd
  · rw [(a2.trans hkp).mem_iff, hd.mem]
end
end Pb
end
section
open PySem PySem.W PySem.Calls PyProof.Rows PySem.Spec
set_option Elab.async false
set_option linter.unusedVariables false
set_option maxRecDepth 100000
namespace Pb

/- the program's own functions, by their place -/
def topAt (k : Nat) : Stmt := (PySem.Challenge.pw_pb0179_01.main.body)[k]?.getD (.Pass ⟨0, 0, 0, 0⟩)
def inCls (k j : Nat) : Stmt := match topAt k with
  | .ClassDef _ _ _ b .. => b[j]?.getD (.Pass ⟨0, 0, 0, 0⟩)
  | _ => .Pass ⟨0, 0, 0, 0⟩
def fBody : Stmt → List Stmt
  | .FunctionDef _ _ b .. => b
  | _ => []
def fPars : Stmt → Arguments
  | .FunctionDef _ p .. => p
  | _ => { posonlyargs := [], args := [], vararg := none, kwonlyargs := [], kw_defaults := [], kwarg := none, defaults := [] }
def fScope : Stmt → Scope
  | .FunctionDef _ _ _ _ _ _ s .. => s
  | _ => default

def objOf (K : Frag) (a : Addr) : Obj := (K.lookup a).getD default
def fdOf (K : Frag) (a : Addr) : FuncData := match (objOf K a).data with
  | .func fd => fd
  | _ => default
structure FnOk (K : Frag) (f : Addr) (qual : Str) (st : Stmt) (dV : Value) : Prop where
  at_ : K.lookup f = some ⟨(objOf K f).cls, (objOf K f).dict, .func (fnOf (fdOf K f).name qual (fPars st) (fBody st) (fScope st) dV (fdOf K f).kwdefaults (fdOf K f).doc (fdOf K f).pyModule (fdOf K f).annotations (fdOf K f).code (fdOf K f).closureTuple), (objOf K f).slots⟩
  code : codeIn K (fdOf K f).code qual = true
theorem FnOk.at {K : Frag} {f : Addr} {qual : Str} {st : Stmt} {dV : Value} (h : FnOk K f qual st dV) : FnAt K f qual (fPars st) (fBody st) (fScope st) dV := ⟨_, _, _, _, _, _, _, _, _, _, h.at_, h.code⟩
theorem FnOk.keep {K : Frag} {f : Addr} {qual : Str} {st : Stmt} {dV : Value} (h : FnOk K f qual st dV) : Keep K (.ref f) := Keep.ref (by unfold keepIn; simp only [h.at_])

/-- what is asked of the top -/
structure Lay (K : Frag) : Prop where
  f35 : FnOk K 35 "Coverage.__init__" (inCls 2 0) .none
  f42 : FnOk K 42 "Coverage.index" (inCls 2 1) .none
  f49 : FnOk K 49 "Coverage.has" (inCls 2 2) .none
  f56 : FnOk K 56 "Coverage.told" (inCls 2 3) .none
  f70 : FnOk K 70 "coverage_of" (topAt 3) .none
  f75 : FnOk K 75 "turned_coverage" (topAt 4) .none
  f89 : FnOk K 89 "ClassDef.__init__" (inCls 6 0) .none
  f96 : FnOk K 96 "ClassDef.class_of" (inCls 6 1) .none
  f115 : FnOk K 115 "ClassDef.told" (inCls 6 4) .none
  f127 : FnOk K 127 "turned_classes" (topAt 7) .none
  f141 : FnOk K 141 "Rule.__init__" (inCls 12 0) .none
  f148 : FnOk K 148 "Rule.told" (inCls 12 1) .none
  f177 : FnOk K 177 "Contexts.__init__" (inCls 13 0) (.ref 170)
  o170 : K.lookup 170 = some (seqObj "tuple" #[.none, .none] 0)
  f182 : FnOk K 182 "Contexts.told" (inCls 13 1) .none
  f189 : FnOk K 189 "Contexts.used_classes" (inCls 13 2) .none
  f196 : FnOk K 196 "Contexts.rules" (inCls 13 3) .none
  f208 : FnOk K 208 "told_row" (topAt 14) .none
  f225 : FnOk K 225 "rules_at" (topAt 17) .none
  f232 : FnOk K 232 "all_in" (topAt 18) .none
  f237 : FnOk K 237 "cut_by_glyphs" (topAt 19) .none
  f242 : FnOk K 242 "cut_by_classes" (topAt 20) .none
  f247 : FnOk K 247 "cut_by_coverages" (topAt 21) .none
  f254 : FnOk K 254 "cut_context" (topAt 22) .none
  f259 : FnOk K 259 "_law_pen" (topAt 24) .none
  f266 : FnOk K 266 "_law_draw" (topAt 25) .none
  f271 : FnOk K 271 "_law_glyphs" (topAt 26) .none
  f276 : FnOk K 276 "_law_classes" (topAt 27) .none
  f283 : FnOk K 283 "_law_part" (topAt 28) .none
  f288 : FnOk K 288 "_law_rule" (topAt 29) .none
  f295 : FnOk K 295 "_law_table" (topAt 30) .none
  f300 : FnOk K 300 "_law_pool" (topAt 31) .none
  f307 : FnOk K 307 "_law_dict" (topAt 32) .none
  m59 : makeOk K 59 35 = true
  m118 : makeOk K 118 89 = true
  m158 : makeOk K 158 141 = true
  m199 : makeOk K 199 177 = true
  sets : (setOk K 59 "glyphs" && setOk K 118 "classes" && setOk K 158 "back" && setOk K 158 "inside" && setOk K 158 "ahead" && setOk K 158 "actions" && setOk K 199 "form" && setOk K 199 "is_chained" && setOk K 199 "sets" &&
    setOk K 199 "coverage" && setOk K 199 "classes") = true
  attrs : (attrOk K 59 "glyphs" && attrOk K 118 "classes" && attrOk K 158 "back" && attrOk K 158 "inside" && attrOk K 158 "ahead" && attrOk K 158 "actions" && attrOk K 199 "form" && attrOk K 199 "is_chained" && attrOk K 199 "sets" &&
    attrOk K 199 "coverage" && attrOk K 199 "classes") = true
  meths : (methOk K 59 "index" 42 && methOk K 59 "has" 49 && methOk K 59 "told" 56 && methOk K 118 "class_of" 96 && methOk K 118 "told" 115 && methOk K 158 "told" 148 && methOk K 199 "told" 182 && methOk K 199 "used_classes" 189 && methOk K 199 "rules" 196) = true
  isCov : isIn K (.ref 59) 59 = true
  notCov : isNotIn K "int" 59 = true
  gl : ([("Coverage", 59), ("coverage_of", 70), ("turned_coverage", 75), ("ClassDef", 118), ("turned_classes", 127), ("Rule", 158), ("Contexts", 199), ("told_row", 208), ("rules_at", 225), ("all_in", 232), ("cut_by_glyphs", 237),
    ("cut_by_classes", 242), ("cut_by_coverages", 247), ("cut_context", 254), ("_law_pen", 259), ("_law_draw", 266), ("_law_glyphs", 271), ("_law_classes", 276), ("_law_part", 283), ("_law_rule", 288), ("_law_table", 295), ("_law_pool", 300),
    ("_law_dict", 307)] : List (Str × Addr)).all (fun p => nsIn K mainGlobals p.1 == some (some (.ref p.2))) = true
  nums : ∃ t1 t2 t3, nsIn K mainGlobals "BY_GLYPHS" = some (some (.int 1 t1)) ∧ nsIn K mainGlobals "BY_CLASSES" = some (some (.int 2 t2)) ∧ nsIn K mainGlobals "BY_COVERAGES" = some (some (.int 3 t3))
  blt : (["len", "tuple", "sorted", "dict", "int", "abs", "range", "list", "set", "isinstance"] : List Str).all (fun x => nsIn K mainGlobals x == some none) = true

section
variable {K : Frag}
theorem Lay.glob (L : Lay K) {x : Str} {a : Addr} (h : (x, a) ∈ ([("Coverage", 59), ("coverage_of", 70), ("turned_coverage", 75), ("ClassDef", 118), ("turned_classes", 127), ("Rule", 158), ("Contexts", 199), ("told_row", 208), ("rules_at", 225), ("all_in", 232), ("cut_by_glyphs", 237),
    ("cut_by_classes", 242), ("cut_by_coverages", 247), ("cut_context", 254), ("_law_pen", 259), ("_law_draw", 266), ("_law_glyphs", 271), ("_law_classes", 276), ("_law_part", 283), ("_law_rule", 288), ("_law_table", 295), ("_law_pool", 300),
    ("_law_dict", 307)] : List (Str × Addr)) := by decide) : nsIn K mainGlobals x = some (some (.ref a)) := by
  have := List.all_eq_true.mp L.gl _ h
  simpa using this
theorem Lay.bl (L : Lay K) {x : Str} (h : x ∈ (["len", "tuple", "sorted", "dict", "int", "abs", "range", "list", "set", "isinstance"] : List Str) := by decide) : nsIn K mainGlobals x = some none := by
  have := List.all_eq_true.mp L.blt _ h
  simpa using this

/- binding arguments -/
theorem bind1 {s : Shared} {fd : FuncData} {x : Str} {vs : List Value} (hl : vs.length = 1) (h : ∀ a, bindArgs fd ⟨[a], []⟩ = pure [(x, a)]) : BindsTo s fd ⟨vs, []⟩ ([x].zip vs) := by
  match vs, hl with
  | [a], _ => exact BindsTo.of_eq (h a)
theorem bind2 {s : Shared} {fd : FuncData} {x y : Str} {vs : List Value} (hl : vs.length = 2) (h : ∀ a b, bindArgs fd ⟨[a, b], []⟩ = pure [(x, a), (y, b)]) : BindsTo s fd ⟨vs, []⟩ ([x, y].zip vs) := by
  match vs, hl with
  | [a, b], _ => exact BindsTo.of_eq (h a b)
theorem bind4 {s : Shared} {fd : FuncData} {x y z u : Str} {vs : List Value} (hl : vs.length = 4) (h : ∀ a b c d, bindArgs fd ⟨[a, b, c, d], []⟩ = pure [(x, a), (y, b), (z, c), (u, d)]) : BindsTo s fd ⟨vs, []⟩ ([x, y, z, u].zip vs) := by
  match vs, hl with
  | [a, b, c, d], _ => exact BindsTo.of_eq (h a b c d)
theorem bind5 {s : Shared} {fd : FuncData} {x y z u v : Str} {vs : List Value} (hl : vs.length = 5) (h : ∀ a b c d e, bindArgs fd ⟨[a, b, c, d, e], []⟩ = pure [(x, a), (y, b), (z, c), (u, d), (v, e)]) : BindsTo s fd ⟨vs, []⟩ ([x, y, z, u, v].zip vs) := by
  match vs, hl with
  | [a, b, c, d, e], _ => exact BindsTo.of_eq (h a b c d e)
end

section
variable {K : Frag} {prog : Program} {w : World} {μ : Mu} {Q : D → Mu → Prop}
theorem Lay.set (L : Lay K) : setOk K 59 "glyphs" = true ∧ setOk K 118 "classes" = true ∧ setOk K 158 "back" = true ∧ setOk K 158 "inside" = true ∧ setOk K 158 "ahead" = true ∧ setOk K 158 "actions" = true ∧ setOk K 199 "form" = true ∧ setOk K 199 "is_chained" = true ∧ setOk K 199 "sets" = true ∧
    setOk K 199 "coverage" = true ∧ setOk K 199 "classes" = true := by
  have := L.sets
  simpa only [Bool.and_eq_true, and_assoc] using this
theorem Lay.attr (L : Lay K) : attrOk K 59 "glyphs" = true ∧ attrOk K 118 "classes" = true ∧ attrOk K 158 "back" = true ∧ attrOk K 158 "inside" = true ∧ attrOk K 158 "ahead" = true ∧ attrOk K 158 "actions" = true ∧ attrOk K 199 "form" = true ∧ attrOk K 199 "is_chained" = true ∧ attrOk K 199 "sets" = true ∧
    attrOk K 199 "coverage" = true ∧ attrOk K 199 "classes" = true := by
  have := L.attrs
  simpa only [Bool.and_eq_true, and_assoc] using this
theorem Lay.meth (L : Lay K) : methOk K 59 "index" 42 = true ∧ methOk K 59 "has" 49 = true ∧ methOk K 59 "told" 56 = true ∧ methOk K 118 "class_of" 96 = true ∧ methOk K 118 "told" 115 = true ∧ methOk K 158 "told" 148 = true ∧ methOk K 199 "told" 182 = true ∧ methOk K 199 "used_classes" 189 = true ∧ methOk K 199 "rules" 196 = true := by
  have := L.meths
  simpa only [Bool.and_eq_true, and_assoc] using this

theorem cov_new (L : Lay K) {d : D} (q : Q (.inst 59 [("glyphs", d)]) μ) : Fn prog w K 2 (.ref 59) μ [d] Q := by
  refine Fn.make L.m59 fun x dx => ?_
  refine Fn.intro L.f35.at (names := ["self", "glyphs"]) (fun s vs _ _ _ _ _ _ _ _ hl => bind2 hl fun _ _ => rfl) (by decide) (by rfl) fun A' L' cd FA => ?_
  refine Ex.cons (ExS.setAttr (Ev.loc rfl (Ev.loc rfl ⟨59, x, dx, [], μ, rfl, rfl, L.set.1, rfl, by simp, ?_⟩)))
  exact Ex.nil ⟨rfl, _, μ, rfl, q⟩
end
end Pb
end
section
open PySem PySem.W PySem.Calls PyProof.Rows PySem.Spec
set_option Elab.async false
set_option linter.unusedVariables false
set_option maxRecDepth 100000
namespace Pb

/- plain data -/
theorem sorted_unique : ∀ {xs ys : List Int}, xs.Perm ys → xs.Pairwise (· ≤ ·) → ys.Pairwise (· ≤ ·) → xs = ys
  | [], ys, p, _, _ => by rw [List.nil_perm.mp p]
  | x :: xs, [], p, _, _ => by simp at p
  | x :: xs, y :: ys, p, hx, hy => by
    rw [List.pairwise_cons] at hx hy
    have e : x = y := by
      have h1 : x ∈ y :: ys := p.mem_iff.mp (.head _)
      have h2 : y ∈ x :: xs := p.mem_iff.mpr (.head _)
      rcases List.mem_cons.mp h1 with h1 | h1
      · exact h1
      · rcases List.mem_cons.mp h2 with h2 | h2
        · exact h2.symm
        · exact Int.le_antisymm (hx.1 _ h2) (hy.1 _ h1)
    subst e
    rw [sorted_unique (List.perm_cons _ |>.mp p) hx.2 hy.2]
def srt (ms : List Int) : List Int := ms.mergeSort (fun a b => decide (a ≤ b))
theorem srt_perm (ms : List Int) : (srt ms).Perm ms := List.mergeSort_perm ..
theorem srt_sorted (ms : List Int) : (srt ms).Pairwise (· ≤ ·) := by
  have := List.pairwise_mergeSort (le := fun (a b : Int) => decide (a ≤ b)) (fun a b c h1 h2 => by simp at *; omega) (fun a b => by simp; omega) ms
  simpa [srt] using this
theorem IsSorted.eq {ns ms : List Int} (h : IsSorted ns ms) : ns = srt ms := sorted_unique (h.1.trans (srt_perm ms).symm) h.2 (srt_sorted ms)
theorem IsSorted.srt {ms : List Int} : IsSorted (srt ms) ms := ⟨srt_perm _, srt_sorted _⟩
def dd : List Int → List Int
  | [] => []
  | g :: gs => if g ∈ dd gs then dd gs else g :: dd gs
theorem mem_dd {k : Int} : ∀ {gs : List Int}, k ∈ dd gs ↔ k ∈ gs
  | [] => Iff.rfl
  | g :: gs => by
    unfold dd
    have ih := mem_dd (k := k) (gs := gs)
    split
    · rename_i h
      rw [ih, List.mem_cons]
      exact ⟨.inr, fun q => q.elim (fun e => by subst e; exact mem_dd.mp h) id⟩
    · rw [List.mem_cons, List.mem_cons, ih]
theorem dd_nodup : ∀ (gs : List Int), (dd gs).Nodup
  | [] => List.nodup_nil
  | g :: gs => by
    unfold dd
    split
    · exact dd_nodup gs
    · rename_i h; exact List.nodup_cons.mpr ⟨h, dd_nodup gs⟩
theorem dd_length : ∀ (gs : List Int), (dd gs).length ≤ gs.length
  | [] => Nat.le_refl _
  | g :: gs => by
    have ih := dd_length gs
    unfold dd
    split
    · simp only [List.length_cons]; omega
    · simp only [List.length_cons]; omega
def ssrt (gs : List Int) : List Int := srt (dd gs)
theorem mem_srt {k : Int} {gs : List Int} : k ∈ srt gs ↔ k ∈ gs := (srt_perm gs).mem_iff
theorem mem_ssrt {k : Int} {gs : List Int} : k ∈ ssrt gs ↔ k ∈ gs := mem_srt.trans mem_dd
theorem ssrt_nodup (gs : List Int) : (ssrt gs).Nodup := (srt_perm _).nodup_iff.mpr (dd_nodup gs)
theorem ssrt_length (gs : List Int) : (ssrt gs).length ≤ gs.length := by rw [ssrt, (srt_perm _).length_eq]; exact dd_length gs
theorem srt_length (gs : List Int) : (srt gs).length = gs.length := (srt_perm _).length_eq
theorem perm_of_nodup : ∀ {xs ys : List Int}, xs.Nodup → ys.Nodup → (∀ k, k ∈ xs ↔ k ∈ ys) → xs.Perm ys := fun {xs ys} h1 h2 h => (List.perm_ext_iff_of_nodup h1 h2).mpr h
/-- a sorted list without doubles is told by its members -/
theorem ssrt_eq {ns gs : List Int} (h1 : ns.Nodup) (h2 : ns.Pairwise (· ≤ ·)) (h3 : ∀ k, k ∈ ns ↔ k ∈ gs) : ns = ssrt gs :=
  sorted_unique (perm_of_nodup h1 (ssrt_nodup gs) fun k => (h3 k).trans mem_ssrt.symm) h2 (srt_sorted _)
theorem ssrt_congr {gs hs : List Int} (h : ∀ k, k ∈ gs ↔ k ∈ hs) : ssrt gs = ssrt hs := ssrt_eq (ssrt_nodup _) (srt_sorted _) fun k => mem_ssrt.trans (h k)
theorem srt_eq_ssrt {gs : List Int} (h : gs.Nodup) : srt gs = ssrt gs := ssrt_eq ((srt_perm _).nodup_iff.mpr h) (srt_sorted _) fun k => mem_srt

abbrev iL (ns : List Int) : List D := ns.map D.int
abbrev dI (l : List (Int × Int)) : List (Int × D) := l.map fun p => (p.1, D.int p.2)
def cov (gs : List Int) : D := .inst 59 [("glyphs", .tup (iL gs))]
def cdef (l : List (Int × Int)) : D := .inst 118 [("classes", .dct (dI l))]
def ruleD (b i a acts : List D) : D := .inst 158 [("back", .tup b), ("inside", .tup i), ("ahead", .tup a), ("actions", .tup acts)]
def ctxD (form : Int) (ch : Bool) (sets : List (Int × D)) (cv cl : D) : D := .inst 199 [("form", .int form), ("is_chained", .bool ch), ("sets", .dct sets), ("coverage", cv), ("classes", cl)]

inductive Part where
  | num (i : Int)
  | cvg (gs : List Int)
def Part.d : Part → D
  | .num i => .int i
  | .cvg gs => cov gs
/-- what a part tells -/
def Part.t : Part → D
  | .num i => .int i
  | .cvg gs => .tup (iL gs)
structure RuleP where
  back : List Part
  inside : List Part
  ahead : List Part
  acts : List (Int × Int)
def actD (p : Int × Int) : D := .tup [.int p.1, .int p.2]
def RuleP.d (r : RuleP) : D := ruleD (r.back.map Part.d) (r.inside.map Part.d) (r.ahead.map Part.d) (r.acts.map actD)
def RuleP.t (r : RuleP) : D := .tup [.tup (r.back.map Part.t), .tup (r.inside.map Part.t), .tup (r.ahead.map Part.t), .tup (r.acts.map actD)]
abbrev SetsP := List (Int × List RuleP)
def setsD (s : SetsP) : List (Int × D) := s.map fun p => (p.1, .lst (p.2.map RuleP.d))
structure TableP where
  form : Int
  ch : Bool
  sets : SetsP
  ext : Option (List Int × List (List (Int × Int)))
def TableP.d (t : TableP) : D := match t.ext with
  | none => ctxD t.form t.ch (setsD t.sets) .none .none
  | some (gs, cs) => ctxD t.form t.ch (setsD t.sets) (cov gs) (.tup (cs.map cdef))

theorem lookup_dI {l : List (Int × Int)} {k : Int} : (dI l).lookup k = (l.lookup k).map D.int := by
  induction l with
  | nil => rfl
  | cons p l ih =>
    obtain ⟨a, b⟩ := p
    simp only [List.map_cons, List.lookup_cons]
    cases k == a <;> simp [ih]
theorem lookup_setsD {s : SetsP} {k : Int} : (setsD s).lookup k = (s.lookup k).map fun rs => .lst (rs.map RuleP.d) := by
  induction s with
  | nil => rfl
  | cons p l ih =>
    obtain ⟨a, b⟩ := p
    simp only [setsD, List.map_cons, List.lookup_cons]
    cases k == a with
    | true => rfl
    | false => exact ih
theorem keys_dI {l : List (Int × Int)} : (dI l).map (·.1) = l.map (·.1) := by simp [dI]
theorem keys_setsD {s : SetsP} : (setsD s).map (·.1) = s.map (·.1) := by simp [setsD]
theorem sto_map {α β : Type} (f : α → β) (l : List (Int × α)) (k : Int) (v : α) : sto (l.map fun p => (p.1, f p.2)) k (f v) = (sto l k v).map fun p => (p.1, f p.2) := by
  unfold sto
  have e : (l.map fun p => (p.1, f p.2)).any (fun kv => decide (kv.1 = k)) = l.any (fun kv => decide (kv.1 = k)) := by rw [List.any_map]; rfl
  rw [e]
  split
  · rw [List.map_map, List.map_map]
    refine List.map_congr_left fun p _ => ?_
    show (if p.1 = k then (p.1, f v) else (p.1, f p.2)) = ((if p.1 = k then (p.1, v) else p).1, f (if p.1 = k then (p.1, v) else p).2)
    split <;> rfl
  · rw [List.map_append]; rfl
theorem mem_keys_sto {α : Type} {l : List (Int × α)} {k k' : Int} {v : α} : k' ∈ (sto l k v).map (·.1) ↔ k' ∈ l.map (·.1) ∨ k' = k := by
  unfold sto
  split
  · rename_i q
    have e : (l.map fun kv => if kv.1 = k then (kv.1, v) else kv).map (·.1) = l.map (·.1) := by
      rw [List.map_map]
      refine List.map_congr_left fun p _ => ?_
      show (if p.1 = k then (p.1, v) else p).1 = p.1
      split <;> rfl
    rw [e]
    obtain ⟨p, hp, hk⟩ := List.any_eq_true.mp q
    refine ⟨.inl, fun q => q.elim id fun e => ?_⟩
    subst e
    exact List.mem_map.mpr ⟨p, hp, by simpa using hk⟩
  · rw [List.map_append, List.mem_append]; simp
theorem lookup_cons_if {α : Type} {a : Int} {b : α} {l : List (Int × α)} {k : Int} : ((a, b) :: l).lookup k = if k = a then some b else l.lookup k := by
  rw [List.lookup_cons]
  by_cases h : k = a
  · subst h; simp
  · rw [show (k == a) = false by simpa using h, if_neg h]
theorem lookup_set {α : Type} {k k' : Int} {v : α} : ∀ {l : List (Int × α)}, (l.map fun kv => if kv.1 = k then (kv.1, v) else kv).lookup k' = if k' = k then (l.lookup k).map (fun _ => v) else l.lookup k'
  | [] => by simp
  | (a, b) :: l => by
    have ih := lookup_set (k := k) (k' := k') (v := v) (l := l)
    rw [List.map_cons]
    by_cases h : a = k
    · subst h
      dsimp only
      rw [if_pos rfl, lookup_cons_if, ih, lookup_cons_if, lookup_cons_if]
      by_cases h' : k' = a
      · subst h'; simp
      · simp [h']
    · dsimp only
      rw [if_neg h, lookup_cons_if, ih, lookup_cons_if, lookup_cons_if]
      by_cases h' : k' = a
      · subst h'; simp [h]
      · simp [h', Ne.symm h]
theorem lookup_snoc {α : Type} {k k' : Int} {v : α} : ∀ {l : List (Int × α)}, (l ++ [(k, v)]).lookup k' = if (l.lookup k').isSome then l.lookup k' else if k' = k then some v else none
  | [] => by rw [List.nil_append, lookup_cons_if]; simp
  | (a, b) :: l => by
    rw [List.cons_append, lookup_cons_if, lookup_snoc (l := l), lookup_cons_if]
    by_cases h' : k' = a
    · subst h'; simp
    · simp only [if_neg h']
theorem lookup_isSome_iff {α : Type} {k : Int} : ∀ {l : List (Int × α)}, (l.lookup k).isSome = l.any (fun kv => decide (kv.1 = k))
  | [] => rfl
  | (a, b) :: l => by
    rw [lookup_cons_if, List.any_cons, ← lookup_isSome_iff (l := l)]
    by_cases h' : k = a
    · subst h'; simp
    · simp [h', Ne.symm h']
theorem lookup_sto {α : Type} {l : List (Int × α)} {k k' : Int} {v : α} : (sto l k v).lookup k' = if k' = k then some v else l.lookup k' := by
  unfold sto
  have hs := lookup_isSome_iff (l := l) (k := k)
  split
  · rename_i q
    rw [lookup_set]
    rw [q] at hs
    obtain ⟨x, hx⟩ := Option.isSome_iff_exists.mp hs
    rw [hx]; rfl
  · rename_i q
    rw [lookup_snoc]
    rw [Bool.not_eq_true] at q
    rw [q] at hs
    by_cases h' : k' = k
    · subst h'; rw [hs]; simp
    · rw [if_neg h', if_neg h']
      cases l.lookup k' <;> simp
theorem dI_sto (l : List (Int × Int)) (k v : Int) : sto (dI l) k (.int v) = dI (sto l k v) := sto_map D.int l k v
theorem setsD_sto (s : SetsP) (k : Int) (rs : List RuleP) : sto (setsD s) k (.lst (rs.map RuleP.d)) = setsD (sto s k rs) := sto_map (fun rs : List RuleP => D.lst (rs.map RuleP.d)) s k rs
end Pb
end
section
open PySem PySem.W PySem.Calls PyProof.Rows PySem.Spec
set_option Elab.async false
set_option linter.unusedVariables false
set_option maxRecDepth 100000
namespace Pb
section
variable {K : Frag} {prog : Program} {w : World} {μ : Mu} {Q : D → Mu → Prop}

theorem cdef_new (L : Lay K) {d : D} (q : Q (.inst 118 [("classes", d)]) μ) : Fn prog w K 2 (.ref 118) μ [d] Q := by
  refine Fn.make L.m118 fun x dx => ?_
  refine Fn.intro L.f89.at (names := ["self", "classes"]) (fun s vs _ _ _ _ _ _ _ _ hl => bind2 hl fun _ _ => rfl) (by decide) (by rfl) fun A' L' cd FA => ?_
  refine Ex.cons (ExS.setAttr (Ev.loc rfl (Ev.loc rfl ⟨118, x, dx, [], μ, rfl, rfl, L.set.2.1, rfl, by simp, ?_⟩)))
  exact Ex.nil ⟨rfl, _, μ, rfl, q⟩
theorem rule_new (L : Lay K) {b i a t : D} (q : Q (.inst 158 [("back", b), ("inside", i), ("ahead", a), ("actions", t)]) μ) : Fn prog w K 2 (.ref 158) μ [b, i, a, t] Q := by
  refine Fn.make L.m158 fun x dx => ?_
  refine Fn.intro L.f141.at (names := ["self", "back", "inside", "ahead", "actions"]) (fun s vs _ _ _ _ _ _ _ _ hl => bind5 hl fun _ _ _ _ _ => rfl) (by decide) (by rfl) fun A' L' cd FA => ?_
  obtain ⟨_, _, s1, s2, s3, s4, _⟩ := L.set
  refine Ex.cons (ExS.setAttr (Ev.loc rfl (Ev.loc rfl ⟨158, x, dx, _, μ, rfl, rfl, s1, rfl, by simp, ?_⟩)))
  refine Ex.cons (ExS.setAttr (Ev.loc rfl (Ev.loc rfl ⟨158, x, dx, _, μ, rfl, rfl, s2, rfl, by simp, ?_⟩)))
  refine Ex.cons (ExS.setAttr (Ev.loc rfl (Ev.loc rfl ⟨158, x, dx, _, μ, rfl, rfl, s3, rfl, by simp, ?_⟩)))
  refine Ex.cons (ExS.setAttr (Ev.loc rfl (Ev.loc rfl ⟨158, x, dx, _, μ, rfl, rfl, s4, rfl, by simp, ?_⟩)))
  exact Ex.nil ⟨rfl, _, μ, rfl, q⟩
theorem ctx_new5 (L : Lay K) {f c s v t : D} (q : Q (.inst 199 [("form", f), ("is_chained", c), ("sets", s), ("coverage", v), ("classes", t)]) μ) : Fn prog w K 2 (.ref 199) μ [f, c, s, v, t] Q := by
  refine Fn.make L.m199 fun x dx => ?_
  refine Fn.intro L.f177.at (names := ["self", "form", "is_chained", "sets", "coverage", "classes"]) (fun s vs _ _ _ _ _ _ _ X hl => ?_) (by decide) (by rfl) fun A' L' cd FA => ?_
  · match vs, hl with
    | [a, b, c, d, e, f], _ => exact BindsTo.of_defaults rfl (X _ _ L.o170) rfl rfl rfl
  obtain ⟨_, _, _, _, _, _, s1, s2, s3, s4, s5⟩ := L.set
  refine Ex.cons (ExS.setAttr (Ev.loc rfl (Ev.loc rfl ⟨199, x, dx, _, μ, rfl, rfl, s1, rfl, by simp, ?_⟩)))
  refine Ex.cons (ExS.setAttr (Ev.loc rfl (Ev.loc rfl ⟨199, x, dx, _, μ, rfl, rfl, s2, rfl, by simp, ?_⟩)))
  refine Ex.cons (ExS.setAttr (Ev.loc rfl (Ev.loc rfl ⟨199, x, dx, _, μ, rfl, rfl, s3, rfl, by simp, ?_⟩)))
  refine Ex.cons (ExS.setAttr (Ev.loc rfl (Ev.loc rfl ⟨199, x, dx, _, μ, rfl, rfl, s4, rfl, by simp, ?_⟩)))
  refine Ex.cons (ExS.setAttr (Ev.loc rfl (Ev.loc rfl ⟨199, x, dx, _, μ, rfl, rfl, s5, rfl, by simp, ?_⟩)))
  exact Ex.nil ⟨rfl, _, μ, rfl, q⟩
theorem cov_told (L : Lay K) {gs : List Int} (q : Q (.tup (iL gs)) μ) : Fn prog w K 1 (.ref 56) μ [cov gs] Q := by
  refine Fn.intro L.f56.at (names := ["self"]) (fun s vs _ _ _ _ _ _ _ _ hl => bind1 hl fun _ => rfl) (by decide) (by rfl) fun A' L' cd FA => ?_
  refine Ex.cons (ExS.ret ?_)
  refine Ev.call (Ev.blt L.bl rfl ⟨_, rfl, Keep.typ, ?_⟩)
  refine EvL.cons (Ev.attr (Ev.loc rfl (OpA.inst L.attr.1 rfl rfl ?_)))
  exact EvL.nil (OpC.tupT q)
theorem index_nil (L : Lay K) {g : Int} (q : Q (.int (-1)) μ) : Fn prog w K 1 (.ref 42) μ [cov [], .int g] Q := by
  refine Fn.intro L.f42.at (names := ["self", "glyph"]) (fun s vs _ _ _ _ _ _ _ _ hl => bind2 hl fun _ _ => rfl) (by decide) (by rfl) fun A' L' cd FA => ?_
  refine Ex.cons (ExS.asg (Ev.cint ?_))
  refine Ex.cons (ExS.asg (Ev.call (Ev.blt L.bl rfl ⟨_, rfl, Keep.blt, ?_⟩)))
  refine EvL.cons (Ev.attr (Ev.loc rfl (OpA.inst L.attr.1 rfl rfl ?_)))
  refine EvL.nil (OpC.lenT (by simp) ?_)
  refine Ex.cons (ExS.while (fun _ ρ' μ' => ρ' = ([("high", .int 0), ("low", .int 0), ("self", cov []), ("glyph", .int g)] : Rho) ∧ μ' = μ) 0 ⟨rfl, rfl⟩ ?_)
  rintro n ρ' μ' ⟨rfl, rfl⟩
  refine Te.cmp (Ev.loc rfl (Ev.loc rfl (Op2.ltI ⟨_, rfl, ?_⟩)))
  refine Ex.nil ?_
  refine Ex.cons (ExS.ite (Te.and (TeAnd.cons (Te.cmp (Ev.loc rfl (Ev.call (Ev.blt L.bl rfl ⟨_, rfl, Keep.blt, ?_⟩)))))))
  refine EvL.cons (Ev.attr (Ev.loc rfl (OpA.inst L.attr.1 rfl rfl ?_)))
  refine EvL.nil (OpC.lenT (by simp) ?_)
  refine Op2.ltI ⟨_, rfl, ?_⟩
  refine Ex.nil ?_
  refine Ex.cons (ExS.ret (Ev.una (Ev.cint (Op1.negI ?_))))
  exact q
theorem has_nil (L : Lay K) {g : Int} (q : Q (.bool false) μ) : Fn prog w K 2 (.ref 49) μ [cov [], .int g] Q := by
  refine Fn.intro L.f49.at (names := ["self", "glyph"]) (fun s vs _ _ _ _ _ _ _ _ hl => bind2 hl fun _ _ => rfl) (by decide) (by rfl) fun A' L' cd FA => ?_
  refine Ex.cons (ExS.ret (Ev.cmp ?_))
  refine Ev.methI (Ev.loc rfl ⟨59, _, 42, rfl, L.meth.1, rfl, ?_⟩)
  refine EvL.cons (Ev.loc rfl (EvL.nil ?_))
  refine OpC.pure FA (index_nil L (Ev.cint (Op2.geI ?_)))
  exact q

theorem coverage_of (L : Lay K) {gs : List Int} (hl : gs.length < 64) (q : Q (cov (ssrt gs)) μ) : Fn prog w K 3 (.ref 70) μ [.lst (iL gs)] Q := by
  refine Fn.intro L.f70.at (names := ["glyphs"]) (fun s vs _ _ _ _ _ _ _ _ hl => bind1 hl fun _ => rfl) (by decide) (by rfl) fun A' L' cd FA => ?_
  refine Ex.cons (ExS.asg (Ev.newD fun a => ?_))
  refine Ex.cons (ExS.for (EvI.of (Ev.loc rfl (OpI.lst FA.h ?_))))
  refine ⟨fun i ρ' μ' => Sub (("found", .raw (.ref a)) :: ([("glyphs", .lst (iL gs))] : Rho)) ρ' ∧ ∃ l, l.length ≤ i ∧ (l.map (·.1)).Nodup ∧ (∀ k, k ∈ l.map (·.1) ↔ k ∈ gs.take i) ∧ μ' = (a, .dct l) :: μ, ⟨Sub.refl, [], by simp, by simp, by simp, rfl⟩, ?_, ?_⟩
  · rintro i d ρ' μ' hd ⟨sub, l, hll, hnd, hmem, rfl⟩
    have hi : i < gs.length := by
      rcases Nat.lt_or_ge i gs.length with h | h
      · exact h
      · rw [List.getElem?_eq_none (by simpa using h)] at hd; cases hd
    rw [List.getElem?_map] at hd
    obtain ⟨k, hk, rfl⟩ := Option.map_eq_some_iff.mp hd
    refine Ex.sub (ρ' := ("glyph", .int k) :: ("found", .raw (.ref a)) :: ([("glyphs", .lst (iL gs))] : Rho)) sub.both ?_
    refine Ex.cons (ExS.setSub (Ev.cbool (Ev.loc rfl (Ev.loc rfl (OpSet.dict (by omega) ?_)))))
    refine Ex.nil ⟨Sub.refl.cons, sto l k (.bool true), ?_, sto_nodup hnd, fun k' => ?_, rfl⟩
    · have := sto_length l k (D.bool true); omega
    · rw [mem_keys_sto, hmem, List.take_add_one, hk]; simp
  · rintro ρ' μ' ⟨sub, l, hll, hnd, hmem, rfl⟩
    refine Ex.nil ?_
    refine Ex.freezeHd (x := "found") (d := .dct l) sub ?_
    refine Ex.cons (ExS.ret ?_)
    refine Ev.call (Ev.fn L.glob ⟨_, rfl, keep_of_make L.m59, ?_⟩)
    refine EvL.cons ?_
    refine Ev.call (Ev.blt L.bl rfl ⟨_, rfl, Keep.typ, ?_⟩)
    refine EvL.cons ?_
    refine Ev.call (Ev.blt L.bl rfl ⟨_, rfl, Keep.blt, ?_⟩)
    refine EvL.cons (Ev.loc rfl (EvL.nil ?_))
    rw [List.length_map] at hll
    refine OpC.sortD FA.h (by omega) fun ns hns => ?_
    have e : ns = ssrt gs := ssrt_eq (hns.1.nodup_iff.mpr hnd) hns.2 fun k => by
      rw [hns.1.mem_iff, hmem, List.length_map, List.take_length]
    subst e
    refine EvL.nil (OpC.tupL (by have := ssrt_length gs; simp; omega) ?_)
    exact EvL.nil (OpC.pure FA (cov_new L q))
end
end Pb
end
section
open PySem PySem.W PySem.Calls PyProof.Rows PySem.Spec
set_option Elab.async false
set_option linter.unusedVariables false
set_option maxRecDepth 100000
namespace Pb
theorem take_map_at {α : Type} {xs : List α} {φ : α → D} {i : Nat} {d : D} (h : (xs.map φ)[i]? = some d) : ∃ x, xs[i]? = some x ∧ d = φ x ∧ x ∈ xs := by
  rw [List.getElem?_map] at h
  obtain ⟨x, hx, rfl⟩ := Option.map_eq_some_iff.mp h
  exact ⟨x, hx, rfl, List.mem_of_getElem? hx⟩
theorem ifs_mono {c : Cx} {ρ : Rho} {μ : Mu} {ifs : List Expr} {Q Q' : Bool → Mu → Prop} (h : Ifs c ρ μ ifs Q) (k : ∀ b μ, Q b μ → Q' b μ) : Ifs c ρ μ ifs Q' := by
  match ifs, h with
  | [], h => exact k _ _ h
  | [e], h => exact Te.mono h k
section
variable {c : Cx} {ρ : Rho} {μ : Mu} {QD : D → Mu → Prop}
theorem Ev.map {α : Type} {elt iter : Expr} {t : Str} {tp pos : Pos} {ifs : List Expr} {scope : Scope} (xs : List α) (φ : α → D) (f : α → Option D) (μ₂ : Mu)
    (h : EvI c ρ μ iter fun ds μ' => ds = xs.map φ ∧ μ' = μ₂) (hz : xs.length ≤ 10000)
    (hb : ∀ C, ∀ x ∈ xs, Ifs (c.at (cenvOf scope C c.env)) ((t, φ x) :: compRho scope ρ) μ₂ ifs fun b μ'' =>
      if b then Ev (c.at (cenvOf scope C c.env)) ((t, φ x) :: compRho scope ρ) μ'' elt fun e μ₃ => f x = some e ∧ μ₃ = μ₂ else f x = none ∧ μ'' = μ₂)
    (q : QD (.lst (xs.filterMap f)) μ₂)
    (ok : compOk scope c.env t = true := by rfl) (hf : ∀ v, foldedSetIterable iter c.env v = pure v := by intro _; rfl) : Ev c ρ μ (.ListComp elt [⟨.Name t tp, iter, ifs, 0⟩] scope pos) QD := by
  refine Ev.listcomp ?_ ok hf
  refine fun g s I => wpAny_mono (h g s I) (fun x s₁ p₁ => wpAny_mono p₁ (fun it s₂ p₂ => ?_) fun _ _ f => f) fun _ _ f => f
  obtain ⟨g', μ', J, ds, fp, wr, P, St, e, a1, a2, a3, a4, a5, a6, rfl, rfl⟩ := p₂
  refine ⟨g', μ', J, _, fp, wr, P, St, e, a1, a2, a3, a4, a5, a6, by rw [List.length_map]; exact hz, fun i out m => out = (xs.take i).filterMap f ∧ m = μ', ⟨by simp, rfl⟩, ?_, ?_⟩
  · rintro C i d out m hd ⟨rfl, rfl⟩
    obtain ⟨x, hx, rfl, hm⟩ := take_map_at hd
    have e1 : (xs.take (i + 1)).filterMap f = (xs.take i).filterMap f ++ (match f x with | some e => [e] | none => []) := by
      rw [List.take_add_one, hx, List.filterMap_append]
      cases hfx : f x <;> simp [hfx]
    refine ifs_mono (hb C x hm) fun b m' hq => ?_
    cases b with
    | true =>
      exact Ev.mono hq fun e m'' ⟨h1, h2⟩ => ⟨by rw [e1, h1], h2⟩
    | false =>
      rw [if_neg (by decide)] at hq
      obtain ⟨h1, h2⟩ := hq
      refine ⟨?_, h2⟩
      rw [e1, h1, List.append_nil]
  · rintro out m ⟨rfl, rfl⟩
    rw [List.length_map, List.take_length]
    exact q
end
end Pb
end
section
open PySem PySem.W PySem.Calls PyProof.Rows PySem.Spec
set_option Elab.async false
set_option linter.unusedVariables false
set_option maxRecDepth 100000
namespace Pb
def tcov (gs : List Int) (T : List (Int × Int)) : List Int := ssrt (gs.filterMap fun g => T.lookup g)
def clsAt (l : List (Int × Int)) (k : Int) : Int := (l.lookup k).getD 0
def tclsStep (l T acc : List (Int × Int)) (k : Int) : List (Int × Int) := match T.lookup k with
  | some t => sto acc t (clsAt l k)
  | none => acc
def tcls (l T : List (Int × Int)) : List (Int × Int) := (srt (l.map (·.1))).foldl (tclsStep l T) []
def clsT (l : List (Int × Int)) : D := .tup ((srt (l.map (·.1))).map fun k => .tup [.int k, .int (clsAt l k)])
theorem filterMap_int {α : Type} (f : α → Option Int) (xs : List α) : xs.filterMap (fun x => (f x).map D.int) = iL (xs.filterMap f) := by
  induction xs with
  | nil => rfl
  | cons x xs ih => simp only [List.filterMap_cons]; cases f x <;> simp [ih]
theorem filterMap_some {α β : Type} (f : α → β) (xs : List α) : xs.filterMap (fun x => some (f x)) = xs.map f := by
  induction xs with
  | nil => rfl
  | cons x xs ih => simp [ih]
theorem lookup_of_key {α : Type} {l : List (Int × α)} {k : Int} (h : k ∈ l.map (·.1)) : ∃ v, l.lookup k = some v := by
  induction l with
  | nil => simp at h
  | cons p l ih =>
    obtain ⟨a, b⟩ := p
    simp only [List.map_cons, List.mem_cons] at h
    simp only [List.lookup_cons]
    by_cases q : k = a
    · subst q; exact ⟨b, by simp⟩
    · rw [show (k == a) = false by simpa using q]; exact ih (h.resolve_left q)

section
variable {K : Frag} {prog : Program} {w : World} {μ : Mu} {Q : D → Mu → Prop}

theorem turned_coverage (L : Lay K) {gs : List Int} {T : List (Int × Int)} (hl : gs.length < 64) (q : Q (cov (tcov gs T)) μ) : Fn prog w K 4 (.ref 75) μ [cov gs, .dct (dI T)] Q := by
  refine Fn.intro L.f75.at (names := ["coverage", "table"]) (fun s vs _ _ _ _ _ _ _ _ hl => bind2 hl fun _ _ => rfl) (by decide) (by rfl) fun A' L' cd FA => ?_
  refine Ex.cons (ExS.ret (Ev.call (Ev.fn L.glob ⟨_, rfl, L.f70.keep, ?_⟩)))
  refine EvL.cons (Ev.map gs D.int (fun g => (T.lookup g).map D.int) μ (EvI.of (Ev.attr (Ev.loc rfl (OpA.inst L.attr.1 rfl rfl (OpI.tup FA.h ⟨rfl, rfl⟩))))) (by omega) (fun C g hg => ?_) ?_)
  · refine Te.cmp (Ev.loc rfl (Ev.cell rfl (Op2.inD ⟨_, rfl, ?_⟩)))
    rw [lookup_dI]
    cases h : T.lookup g with
    | none => exact ⟨rfl, rfl⟩
    | some t => exact Ev.sub (Ev.cell rfl (Ev.loc rfl (OpS.dct (by rw [lookup_dI, h]; rfl) ⟨rfl, rfl⟩)))
  · rw [filterMap_int]
    refine EvL.nil (OpC.pure FA (coverage_of L ?_ q))
    exact Nat.lt_of_le_of_lt (List.length_filterMap_le _ _) hl
theorem class_of (L : Lay K) {l : List (Int × Int)} {g : Int} (q : Q (.int (clsAt l g)) μ) : Fn prog w K 1 (.ref 96) μ [cdef l, .int g] Q := by
  refine Fn.intro L.f96.at (names := ["self", "glyph"]) (fun s vs _ _ _ _ _ _ _ _ hl => bind2 hl fun _ _ => rfl) (by decide) (by rfl) fun A' L' cd FA => ?_
  refine Ex.cons (ExS.ret (Ev.meth (Ev.attr (Ev.loc rfl (OpA.inst L.attr.2.1 rfl rfl ⟨_, _, Meth.get, Keep.blt, ?_⟩)))))
  refine EvL.cons (Ev.loc rfl (EvL.cons (Ev.cint (EvL.nil (OpC.get ?_)))))
  rw [lookup_dI]
  unfold clsAt at q
  cases h : l.lookup g <;> rw [h] at q <;> exact q
theorem cdef_told (L : Lay K) {l : List (Int × Int)} (hl : l.length < 64) (q : Q (clsT l) μ) : Fn prog w K 2 (.ref 115) μ [cdef l] Q := by
  refine Fn.intro L.f115.at (names := ["self"]) (fun s vs _ _ _ _ _ _ _ _ hl => bind1 hl fun _ => rfl) (by decide) (by rfl) fun A' L' cd FA => ?_
  refine Ex.cons (ExS.ret (Ev.call (Ev.blt L.bl rfl ⟨_, rfl, Keep.typ, ?_⟩)))
  refine EvL.cons (Ev.map (srt (l.map (·.1))) D.int (fun k => some (D.tup [.int k, .int (clsAt l k)])) μ (EvI.of (Ev.call (Ev.blt L.bl rfl ⟨_, rfl, Keep.blt, ?_⟩))) (by rw [srt_length, List.length_map]; omega) (fun C k hk => ?_) ?_)
  · refine EvL.cons (Ev.attr (Ev.cell rfl (OpA.inst L.attr.2.1 rfl rfl ?_)))
    refine EvL.nil (OpC.sortD FA.h (by simpa using hl) fun ns hns => ?_)
    rw [keys_dI] at hns
    rw [hns.eq]
    exact OpI.lst FA.h ⟨rfl, rfl⟩
  · obtain ⟨v, hv⟩ := lookup_of_key (mem_srt.mp hk)
    refine Ev.tuple (EvL.cons (Ev.loc rfl (EvL.cons (Ev.sub (Ev.attr (Ev.cell rfl (OpA.inst L.attr.2.1 rfl rfl (Ev.loc rfl (OpS.dct (d := .int v) (by rw [lookup_dI, hv]; rfl) ?_)))))) )))
    exact EvL.nil ⟨by simp, by unfold clsAt; rw [hv]; rfl, rfl⟩
  · refine EvL.nil (OpC.tupL ?_ ?_)
    · refine Nat.le_trans (List.length_filterMap_le _ _) ?_
      rw [srt_length, List.length_map]; omega
    · have e : (srt (l.map (·.1))).filterMap (fun k => some (D.tup [.int k, .int (clsAt l k)])) = (srt (l.map (·.1))).map fun k => D.tup [.int k, .int (clsAt l k)] := filterMap_some _ _
      rw [e]; exact q
theorem turned_classes (L : Lay K) {l T : List (Int × Int)} (hl : l.length < 64) (q : Q (cdef (tcls l T)) μ) : Fn prog w K 3 (.ref 127) μ [cdef l, .dct (dI T)] Q := by
  refine Fn.intro L.f127.at (names := ["classdef", "table"]) (fun s vs _ _ _ _ _ _ _ _ hl => bind2 hl fun _ _ => rfl) (by decide) (by rfl) fun A' L' cd FA => ?_
  refine Ex.cons (ExS.ret (Ev.call (Ev.fn L.glob ⟨_, rfl, keep_of_make L.m118, ?_⟩)))
  refine EvL.cons (Ev.dictcomp (EvI.of (Ev.call (Ev.blt L.bl rfl ⟨_, rfl, Keep.blt, ?_⟩))))
  refine EvL.cons (Ev.attr (Ev.cell rfl (OpA.inst L.attr.2.1 rfl rfl ?_)))
  refine EvL.nil (OpC.sortD FA.h (by simpa using hl) fun ns hns => ?_)
  rw [keys_dI] at hns
  rw [hns.eq]
  refine OpI.lst FA.h ⟨by simp [srt_length]; omega, fun i out m => out = dI (((srt (l.map (·.1))).take i).foldl (tclsStep l T) []) ∧ m = μ, ⟨rfl, rfl⟩, ?_, ?_⟩
  · rintro C i d out m hd ⟨rfl, rfl⟩
    obtain ⟨k, hk, rfl, hm⟩ := take_map_at hd
    obtain ⟨v, hv⟩ := lookup_of_key (mem_srt.mp hm)
    have e1 : ((srt (l.map (·.1))).take (i + 1)).foldl (tclsStep l T) [] = tclsStep l T (((srt (l.map (·.1))).take i).foldl (tclsStep l T) []) k := by
      rw [List.take_add_one, hk, List.foldl_append]; rfl
    refine Te.cmp (Ev.loc rfl (Ev.cell rfl (Op2.inD ⟨_, rfl, ?_⟩)))
    rw [lookup_dI]
    cases h : T.lookup k with
    | none =>
      refine ⟨?_, rfl⟩
      rw [e1, tclsStep, h]
    | some t =>
      refine Ev.sub (Ev.cell rfl (Ev.loc rfl (OpS.dct (by rw [lookup_dI, h]; rfl) ⟨t, rfl, ?_⟩)))
      refine Ev.sub (Ev.attr (Ev.cell rfl (OpA.inst L.attr.2.1 rfl rfl (Ev.loc rfl (OpS.dct (by rw [lookup_dI, hv]; rfl) ⟨?_, rfl⟩)))))
      rw [dI_sto, e1, tclsStep, h, clsAt, hv]; rfl
  · rintro out m ⟨rfl, rfl⟩
    refine EvL.nil (OpC.pure FA (cdef_new L ?_))
    rw [List.length_map, List.take_length]
    exact q
theorem told_row (L : Lay K) {ps : List Part} (hl : ps.length ≤ 1000) (q : Q (.tup (ps.map Part.t)) μ) : Fn prog w K 3 (.ref 208) μ [.tup (ps.map Part.d)] Q := by
  refine Fn.intro L.f208.at (names := ["row"]) (fun s vs _ _ _ _ _ _ _ _ hl => bind1 hl fun _ => rfl) (by decide) (by rfl) fun A' L' cd FA => ?_
  refine Ex.cons (ExS.ret (Ev.call (Ev.blt L.bl rfl ⟨_, rfl, Keep.typ, ?_⟩)))
  refine EvL.cons (Ev.map ps Part.d (fun p => some p.t) μ (EvI.of (Ev.loc rfl (OpI.tup FA.h ⟨rfl, rfl⟩))) (by omega) (fun C p hp => ?_) ?_)
  · cases p with
    | num i =>
      refine Ev.ite (Te.plain (Ev.call (Ev.blt L.bl rfl ⟨_, rfl, Keep.blt, ?_⟩)))
      refine EvL.cons (Ev.loc rfl (EvL.cons (Ev.fn L.glob (EvL.nil (OpC.isNoInt L.notCov (OpT.bool ?_))))))
      exact Ev.loc rfl ⟨rfl, rfl⟩
    | cvg gs =>
      refine Ev.ite (Te.plain (Ev.call (Ev.blt L.bl rfl ⟨_, rfl, Keep.blt, ?_⟩)))
      refine EvL.cons (Ev.loc rfl (EvL.cons (Ev.fn L.glob (EvL.nil (OpC.isYes L.isCov (OpT.bool ?_))))))
      refine Ev.methI (Ev.loc rfl ⟨59, _, 56, rfl, L.meth.2.2.1, rfl, EvL.nil (OpC.pure (FA.le (by omega)) (cov_told L ⟨rfl, rfl⟩))⟩)
  · refine EvL.nil (OpC.tupL ?_ ?_)
    · exact Nat.le_trans (List.length_filterMap_le _ _) (by omega)
    · have e : ps.filterMap (fun p => some p.t) = ps.map Part.t := filterMap_some _ _
      rw [e]; exact q
theorem rule_told (L : Lay K) {r : RuleP} (hl : r.back.length ≤ 1000 ∧ r.inside.length ≤ 1000 ∧ r.ahead.length ≤ 1000) (q : Q r.t μ) : Fn prog w K 4 (.ref 148) μ [r.d] Q := by
  refine Fn.intro L.f148.at (names := ["self"]) (fun s vs _ _ _ _ _ _ _ _ hl => bind1 hl fun _ => rfl) (by decide) (by rfl) fun A' L' cd FA => ?_
  obtain ⟨_, _, a1, a2, a3, a4, _⟩ := L.attr
  refine Ex.cons (ExS.ret (Ev.tuple ?_))
  refine EvL.cons (Ev.call (Ev.fn L.glob ⟨_, rfl, L.f208.keep, EvL.cons (Ev.attr (Ev.loc rfl (OpA.inst a1 rfl rfl (EvL.nil (OpC.pure FA (told_row L hl.1 ?_))))))⟩))
  refine EvL.cons (Ev.call (Ev.fn L.glob ⟨_, rfl, L.f208.keep, EvL.cons (Ev.attr (Ev.loc rfl (OpA.inst a2 rfl rfl (EvL.nil (OpC.pure FA (told_row L hl.2.1 ?_))))))⟩))
  refine EvL.cons (Ev.call (Ev.fn L.glob ⟨_, rfl, L.f208.keep, EvL.cons (Ev.attr (Ev.loc rfl (OpA.inst a3 rfl rfl (EvL.nil (OpC.pure FA (told_row L hl.2.2 ?_))))))⟩))
  refine EvL.cons (Ev.call (Ev.blt L.bl rfl ⟨_, rfl, Keep.typ, EvL.cons (Ev.attr (Ev.loc rfl (OpA.inst a4 rfl rfl (EvL.nil (OpC.tupT ?_)))))⟩))
  exact EvL.nil ⟨by simp, q⟩
end
end Pb
end
section
open PySem PySem.W PySem.Calls PyProof.Rows PySem.Spec
set_option Elab.async false
set_option linter.unusedVariables false
set_option maxRecDepth 100000
namespace Pb

/-- the rules of a table, in the order of the keys -/
def atK {α : Type} (s : List (Int × List α)) (k : Int) : List α := (s.lookup k).getD []
def rulesOf {α : Type} (s : List (Int × List α)) : List α := (srt (s.map (·.1))).flatMap (atK s)
def mapS {α β : Type} (f : α → β) (s : List (Int × List α)) : List (Int × List β) := s.map fun p => (p.1, p.2.map f)
def cnt {α : Type} (s : List (Int × List α)) : Nat := (s.map (·.2.length)).sum
structure WF {α : Type} (s : List (Int × List α)) : Prop where
  nd : (s.map (·.1)).Nodup
  len : s.length ≤ 8
  cnt : cnt s ≤ 8
theorem lookup_mapS {α β : Type} (f : α → β) {s : List (Int × List α)} {k : Int} : (mapS f s).lookup k = (s.lookup k).map (List.map f) := by
  induction s with
  | nil => rfl
  | cons p l ih =>
    obtain ⟨a, b⟩ := p
    simp only [mapS, List.map_cons, List.lookup_cons]
    cases k == a with
    | true => rfl
    | false => exact ih
theorem atK_mapS {α β : Type} (f : α → β) {s : List (Int × List α)} {k : Int} : atK (mapS f s) k = (atK s k).map f := by
  unfold atK
  rw [lookup_mapS]
  cases s.lookup k <;> rfl
theorem keys_mapS {α β : Type} (f : α → β) {s : List (Int × List α)} : (mapS f s).map (·.1) = s.map (·.1) := by simp [mapS]
theorem rulesOf_mapS {α β : Type} (f : α → β) {s : List (Int × List α)} : rulesOf (mapS f s) = (rulesOf s).map f := by
  unfold rulesOf
  rw [keys_mapS, List.map_flatMap]
  congr 1
  exact funext fun k => atK_mapS f
theorem WF.mapS {α β : Type} (f : α → β) {s : List (Int × List α)} (h : WF s) : WF (mapS f s) := ⟨by rw [keys_mapS]; exact h.nd, by rw [Pb.mapS, List.length_map]; exact h.len, by
  have : Pb.cnt (Pb.mapS f s) = Pb.cnt s := by unfold Pb.cnt Pb.mapS; rw [List.map_map]; congr 1; refine List.map_congr_left fun p _ => ?_; simp
  rw [this]; exact h.cnt⟩
theorem le_sum : ∀ {l : List Nat} {n : Nat}, n ∈ l → n ≤ l.sum
  | x :: l, n, h => by
    rw [List.sum_cons]
    rcases List.mem_cons.mp h with rfl | h
    · omega
    · have := le_sum h; omega
theorem mem_lookup' {α : Type} {l : List (Int × α)} {k : Int} {v : α} (h : l.lookup k = some v) : (k, v) ∈ l := by
  induction l with
  | nil => simp at h
  | cons p l ih =>
    obtain ⟨a, b⟩ := p
    simp only [List.lookup_cons] at h
    by_cases q : k = a
    · subst q; simp at h; subst h; exact .head _
    · rw [show (k == a) = false by simpa using q] at h; exact .tail _ (ih h)
theorem WF.atK_le {α : Type} {s : List (Int × List α)} (h : WF s) (k : Int) : (atK s k).length ≤ 8 := by
  unfold atK
  cases e : s.lookup k with
  | none => exact Nat.zero_le _
  | some v =>
    have := le_sum (List.mem_map_of_mem (f := (·.2.length)) (mem_lookup' e))
    exact Nat.le_trans this h.cnt
theorem srt_key {α : Type} {s : List (Int × List α)} {k : Int} (h : k ∈ srt (s.map (·.1))) : s.lookup k = some (atK s k) := by
  obtain ⟨v, hv⟩ := lookup_of_key (mem_srt.mp h)
  unfold atK; rw [hv]; rfl

def toldSets (s : SetsP) : List D := (srt (s.map (·.1))).filterMap fun k => if (atK s k).length > 0 then some (.tup [.int k, .tup ((atK s k).map RuleP.t)]) else none
def used (ch : Bool) (cs : List (List (Int × Int))) : List (List (Int × Int)) := if ch then cs else [(cs[1]?).getD []]
def TableP.t (t : TableP) : D := match t.ext with
  | none => .tup [.int t.form, .bool t.ch, .tup (toldSets t.sets)]
  | some (gs, cs) => .tup [.int t.form, .bool t.ch, .tup (toldSets t.sets), .tup (iL gs), .tup ((used t.ch cs).map clsT)]

def RuleP.ok (r : RuleP) : Prop := r.back.length ≤ 1000 ∧ r.inside.length ≤ 1000 ∧ r.ahead.length ≤ 1000

section
variable {K : Frag} {prog : Program} {w : World} {μ : Mu} {Q : D → Mu → Prop}

theorem ctx_new3 (L : Lay K) {f c s : D} (q : Q (.inst 199 [("form", f), ("is_chained", c), ("sets", s), ("coverage", .none), ("classes", .none)]) μ) : Fn prog w K 2 (.ref 199) μ [f, c, s] Q := by
  refine Fn.make L.m199 fun x dx => ?_
  have h5 := ctx_new5 (prog := prog) (w := w) (μ := μ) L (f := f) (c := c) (s := s) (v := .none) (t := .none) q
  refine Fn.introD L.f177.at (names := ["self", "form", "is_chained", "sets", "coverage", "classes"]) (extra := [.none, .none]) (es := [.none, .none]) (fun _ => DenL.cons .noneD (DenL.one .noneD)) (fun s vs _ _ _ _ _ _ _ X hl => ?_) (by decide) (by rfl) fun A' L' cd FA => ?_
  · match vs, hl with
    | [a, b, c, d], _ => exact BindsTo.of_defaults rfl (X _ _ L.o170) rfl rfl rfl
  obtain ⟨_, _, _, _, _, _, s1, s2, s3, s4, s5⟩ := L.set
  refine Ex.cons (ExS.setAttr (Ev.loc rfl (Ev.loc rfl ⟨199, x, dx, _, μ, rfl, rfl, s1, rfl, by simp, ?_⟩)))
  refine Ex.cons (ExS.setAttr (Ev.loc rfl (Ev.loc rfl ⟨199, x, dx, _, μ, rfl, rfl, s2, rfl, by simp, ?_⟩)))
  refine Ex.cons (ExS.setAttr (Ev.loc rfl (Ev.loc rfl ⟨199, x, dx, _, μ, rfl, rfl, s3, rfl, by simp, ?_⟩)))
  refine Ex.cons (ExS.setAttr (Ev.loc rfl (Ev.loc rfl ⟨199, x, dx, _, μ, rfl, rfl, s4, rfl, by simp, ?_⟩)))
  refine Ex.cons (ExS.setAttr (Ev.loc rfl (Ev.loc rfl ⟨199, x, dx, _, μ, rfl, rfl, s5, rfl, by simp, ?_⟩)))
  exact Ex.nil ⟨rfl, _, μ, rfl, q⟩
end
end Pb
namespace Pb
section
variable {K : Frag} {prog : Program} {w : World} {μ : Mu} {Q : D → Mu → Prop}

theorem used_classes (L : Lay K) {f : Int} {ch : Bool} {sets : List (Int × D)} {cv : D} {c0 c1 c2 : List (Int × Int)} (q : Q (.lst ((used ch [c0, c1, c2]).map cdef)) μ) :
    Fn prog w K 1 (.ref 189) μ [ctxD f ch sets cv (.tup ([c0, c1, c2].map cdef))] Q := by
  refine Fn.intro L.f189.at (names := ["self"]) (fun s vs _ _ _ _ _ _ _ _ hl => bind1 hl fun _ => rfl) (by decide) (by rfl) fun A' L' cd FA => ?_
  obtain ⟨_, _, _, _, _, _, a1, a2, a3, a4, a5⟩ := L.attr
  refine Ex.cons (ExS.ret (Ev.ite (Te.plain (Ev.attr (Ev.loc rfl (OpA.inst a2 rfl rfl (OpT.bool ?_)))))))
  cases ch with
  | true =>
    refine Ev.call (Ev.blt L.bl rfl ⟨_, rfl, Keep.typ, ?_⟩)
    exact EvL.cons (Ev.attr (Ev.loc rfl (OpA.inst a5 rfl rfl (EvL.nil (OpC.lstT (by simp) q)))))
  | false =>
    refine Ev.list (EvL.cons (Ev.sub (Ev.attr (Ev.loc rfl (OpA.inst a5 rfl rfl (Ev.cint (OpS.tup (d := cdef c1) (by decide) (by decide) rfl ?_)))))))
    exact EvL.nil ⟨by simp, q⟩

/-- a dict whose values are lists -/
abbrev lstS {α : Type} (φ : α → D) (s : List (Int × List α)) : List (Int × D) := s.map fun p => (p.1, D.lst (p.2.map φ))
theorem lookup_lstS {α : Type} {φ : α → D} {s : List (Int × List α)} {k : Int} : (lstS φ s).lookup k = (s.lookup k).map fun rs => .lst (rs.map φ) := by
  induction s with
  | nil => rfl
  | cons p l ih =>
    obtain ⟨a, b⟩ := p
    simp only [lstS, List.map_cons, List.lookup_cons]
    cases k == a with
    | true => rfl
    | false => exact ih
theorem keys_lstS {α : Type} {φ : α → D} {s : List (Int × List α)} : (lstS φ s).map (·.1) = s.map (·.1) := by simp [lstS]

theorem ctx_rules (L : Lay K) {α : Type} {φ : α → D} {f : Int} {ch : Bool} {s : List (Int × List α)} {cv cl : D} (hs : WF s) (q : Q (.lst ((rulesOf s).map φ)) μ) :
    Fn prog w K 1 (.ref 196) μ [ctxD f ch (lstS φ s) cv cl] Q := by
  refine Fn.intro L.f196.at (names := ["self"]) (fun s vs _ _ _ _ _ _ _ _ hl => bind1 hl fun _ => rfl) (by decide) (by rfl) fun A' L' cd FA => ?_
  obtain ⟨_, _, _, _, _, _, a1, a2, a3, a4, a5⟩ := L.attr
  refine Ex.cons (ExS.asg (Ev.newL fun a => ?_))
  refine Ex.cons (ExS.for (EvI.of (Ev.call (Ev.blt L.bl rfl ⟨_, rfl, Keep.blt, ?_⟩))))
  refine EvL.cons (Ev.attr (Ev.loc rfl (OpA.inst a3 rfl rfl ?_)))
  have hlen := hs.len
  refine EvL.nil (OpC.sortD FA.h (by simp; omega) fun ns hns => ?_)
  rw [keys_lstS] at hns
  rw [hns.eq]
  refine OpI.lst FA.h ⟨fun i ρ' μ' => Sub ([("found", .raw (.ref a)), ("self", ctxD f ch (lstS φ s) cv cl)] : Rho) ρ' ∧ μ' = (a, .lst ((((srt (s.map (·.1))).take i).flatMap (atK s)).map φ)) :: μ ∧ (((srt (s.map (·.1))).take i).flatMap (atK s)).length ≤ 8 * i,
    ⟨Sub.refl, by simp, by simp⟩, ?_, ?_⟩
  · rintro i d ρ' μ' hd ⟨sub, rfl, hle⟩
    obtain ⟨k, hk, rfl, hm⟩ := take_map_at hd
    have hi : i < (srt (s.map (·.1))).length := by
      rcases Nat.lt_or_ge i (srt (s.map (·.1))).length with h | h
      · exact h
      · rw [List.getElem?_eq_none h] at hk; cases hk
    rw [srt_length, List.length_map] at hi
    have e1 : ((srt (s.map (·.1))).take (i + 1)).flatMap (atK s) = ((srt (s.map (·.1))).take i).flatMap (atK s) ++ atK s k := by rw [List.take_add_one, hk, List.flatMap_append]; simp
    have h8 := hs.atK_le k
    refine Ex.sub (ρ' := ([("key", .int k), ("found", .raw (.ref a)), ("self", ctxD f ch (lstS φ s) cv cl)] : Rho)) sub.both ?_
    refine Ex.cons (ExS.for (EvI.of (Ev.sub (Ev.attr (Ev.loc rfl (OpA.inst a3 rfl rfl (Ev.loc rfl (OpS.dct (by rw [lookup_lstS, srt_key hm]; rfl) ?_))))))))
    refine OpI.lst FA.h ⟨fun j ρ'' μ'' => Sub ([("key", .int k), ("found", .raw (.ref a)), ("self", ctxD f ch (lstS φ s) cv cl)] : Rho) ρ'' ∧
      μ'' = (a, .lst ((((srt (s.map (·.1))).take i).flatMap (atK s) ++ (atK s k).take j).map φ)) :: μ, ⟨Sub.refl, by simp⟩, ?_, ?_⟩
    · rintro j d ρ'' μ'' hd ⟨sub, rfl⟩
      obtain ⟨r, hr, rfl, hm'⟩ := take_map_at hd
      refine Ex.sub (ρ' := ([("rule", φ r), ("key", .int k), ("found", .raw (.ref a)), ("self", ctxD f ch (lstS φ s) cv cl)] : Rho)) sub.both ?_
      refine Ex.cons (ExS.expr (Ev.meth (Ev.loc rfl ⟨_, _, Meth.append (.head _) rfl, Keep.blt, EvL.cons (Ev.loc rfl (EvL.nil (OpC.append ?_ ?_)))⟩)))
      · rw [List.length_map, List.length_append, List.length_take]; omega
      · refine ⟨rfl, Ex.nil ⟨Sub.refl.cons, ?_⟩⟩
        rw [List.take_add_one, hr]; simp
    · rintro ρ'' μ'' ⟨sub, rfl⟩
      refine Ex.nil (Ex.nil ⟨(Sub.cons Sub.refl).trans sub, ?_, ?_⟩)
      · rw [e1, List.length_map, List.take_length]
      · rw [e1, List.length_append]; omega
  · rintro ρ' μ' ⟨sub, rfl, hle⟩
    refine Ex.nil ?_
    refine Ex.freezeHd (x := "found") sub ?_
    refine Ex.cons (ExS.ret (Ev.loc rfl ?_))
    rw [List.length_map, List.take_length]
    exact q

theorem lstS_rule {s : SetsP} : lstS RuleP.d s = setsD s := rfl
theorem ctx_told (L : Lay K) {t : TableP} (hs : WF t.sets) (hf : (t.form = 2 ↔ t.ext.isSome = true)) (hr : ∀ r ∈ rulesOf t.sets, r.ok)
    (he : ∀ gs cs, t.ext = some (gs, cs) → ∃ c0 c1 c2, cs = [c0, c1, c2] ∧ c0.length < 64 ∧ c1.length < 64 ∧ c2.length < 64) (q : Q t.t μ) : Fn prog w K 5 (.ref 182) μ [t.d] Q := by
  obtain ⟨a1, a2, a3, a4, a5⟩ := L.attr.2.2.2.2.2.2
  have hlen := hs.len
  obtain ⟨form, ch, sets, ext⟩ := t
  dsimp only at hs hf hr he hlen
  have key : ∀ (c : Cx) (ρ : Rho) (cv cl : D) (pos : Pos) (QQ : D → Mu → Prop), True := fun _ _ _ _ _ _ => trivial
  have body : ∀ (cv cl : D), (TableP.d ⟨form, ch, sets, ext⟩ = ctxD form ch (setsD sets) cv cl) → Fn prog w K 5 (.ref 182) μ [ctxD form ch (setsD sets) cv cl] Q := fun cv cl ed => by
    refine Fn.intro L.f182.at (names := ["self"]) (fun s vs _ _ _ _ _ _ _ _ hl => bind1 hl fun _ => rfl) (by decide) (by rfl) fun A' L' cd FA => ?_
    refine Ex.cons (ExS.asg (Ev.call (Ev.blt L.bl rfl ⟨_, rfl, Keep.typ, ?_⟩)))
    refine EvL.cons (Ev.map (srt (sets.map (·.1))) D.int (fun k => if (atK sets k).length > 0 then some (.tup [.int k, .tup ((atK sets k).map RuleP.t)]) else none) μ
      (EvI.of (Ev.call (Ev.blt L.bl rfl ⟨_, rfl, Keep.blt, ?_⟩))) (by rw [srt_length, List.length_map]; omega) (fun C k hk => ?_) ?_)
    · refine EvL.cons (Ev.attr (Ev.cell rfl (OpA.inst a3 rfl rfl ?_)))
      refine EvL.nil (OpC.sortD FA.h (by simp [setsD]; omega) fun ns hns => ?_)
      rw [keys_setsD] at hns
      rw [hns.eq]
      exact OpI.lst FA.h ⟨rfl, rfl⟩
    · have hk8 := hs.atK_le k
      have hlk : (setsD sets).lookup k = some (.lst ((atK sets k).map RuleP.d)) := by rw [lookup_setsD, srt_key hk]; rfl
      refine Te.cmp (Ev.call (Ev.blt L.bl rfl ⟨_, rfl, Keep.blt, ?_⟩))
      refine EvL.cons (Ev.sub (Ev.attr (Ev.cell rfl (OpA.inst a3 rfl rfl (Ev.loc rfl (OpS.dct hlk ?_))))))
      refine EvL.nil (OpC.lenL (by rw [List.length_map]; omega) ?_)
      refine Ev.cint (Op2.gtI ⟨_, rfl, ?_⟩)
      rw [List.length_map]
      by_cases h0 : (atK sets k).length > 0
      · rw [decide_eq_true (show (0 : Int) < ((atK sets k).length : Int) by omega)]
        rw [if_pos rfl]
        simp only [if_pos h0]
        refine Ev.tuple (EvL.cons (Ev.loc rfl (EvL.cons (Ev.call (Ev.blt L.bl rfl ⟨_, rfl, Keep.typ, ?_⟩)))))
        refine EvL.cons (Ev.map (atK sets k) RuleP.d (fun r => some r.t) μ (EvI.of (Ev.sub (Ev.attr (Ev.cell rfl (OpA.inst a3 rfl rfl (Ev.loc rfl (OpS.dct hlk (OpI.lst FA.h ⟨rfl, rfl⟩)))))))) (by omega) (fun C' r hr' => ?_) ?_)
        · refine Ev.methI (Ev.loc rfl ⟨158, _, 148, rfl, L.meth.2.2.2.2.2.1, rfl, EvL.nil (OpC.pure FA (rule_told L ?_ ⟨rfl, rfl⟩))⟩)
          exact hr r (List.mem_flatMap.mpr ⟨k, hk, hr'⟩)
        · rw [filterMap_some]
          exact EvL.nil (OpC.tupL (by rw [List.length_map]; omega) (EvL.nil ⟨by simp, rfl, rfl⟩))
      · rw [decide_eq_false (show ¬ (0 : Int) < ((atK sets k).length : Int) by omega)]
        rw [if_neg (by decide)]
        exact ⟨by rw [if_neg h0], rfl⟩
    · refine EvL.nil (OpC.tupL ?_ ?_)
      · exact Nat.le_trans (List.length_filterMap_le _ _) (by rw [srt_length, List.length_map]; omega)
      obtain ⟨t1, t2, t3, g1, g2, g3⟩ := L.nums
      refine Ex.cons (ExS.ite (Te.cmp (Ev.attr (Ev.cell rfl (OpA.inst a1 rfl rfl (Ev.gint g2 (Op2.neI ⟨_, rfl, ?_⟩)))))))
      cases ext with
      | none =>
        have hne : (form != 2) = true := by
          have : form ≠ 2 := fun e => by have := hf.mp e; cases this
          simpa using this
        rw [hne, if_pos rfl]
        refine Ex.cons (ExS.ret (Ev.tuple (EvL.cons (Ev.attr (Ev.cell rfl (OpA.inst a1 rfl rfl (EvL.cons (Ev.attr (Ev.cell rfl (OpA.inst a2 rfl rfl (EvL.cons (Ev.loc rfl ?_))))))))))))
        exact EvL.nil ⟨by simp, q⟩
      | some e =>
        obtain ⟨gs, cs⟩ := e
        have hee : form = 2 := hf.mpr rfl
        rw [show (form != 2) = false by simp [hee], if_neg (by decide)]
        obtain ⟨c0, c1, c2, rfl, h0, h1, h2⟩ := he gs cs rfl
        have ed' : ctxD form ch (setsD sets) (cov gs) (.tup ([c0, c1, c2].map cdef)) = ctxD form ch (setsD sets) cv cl := ed
        simp only [ctxD, D.inst.injEq, List.cons.injEq, Prod.mk.injEq, true_and, and_true] at ed'
        obtain ⟨rfl, rfl⟩ := ed'
        refine Ex.nil (Ex.cons (ExS.ret (Ev.tuple (EvL.cons (Ev.attr (Ev.cell rfl (OpA.inst a1 rfl rfl (EvL.cons (Ev.attr (Ev.cell rfl (OpA.inst a2 rfl rfl (EvL.cons (Ev.loc rfl ?_)))))))))))))
        refine EvL.cons (Ev.methI (Ev.attr (Ev.cell rfl (OpA.inst a4 rfl rfl ⟨59, _, 56, rfl, L.meth.2.2.1, rfl, EvL.nil (OpC.pure (FA.le (by omega)) (cov_told L ?_))⟩))))
        refine EvL.cons (Ev.call (Ev.blt L.bl rfl ⟨_, rfl, Keep.typ, ?_⟩))
        have hul : (used ch [c0, c1, c2]).length ≤ 3 := by unfold used; split <;> simp
        refine EvL.cons (Ev.map (used ch [c0, c1, c2]) cdef (fun l => some (clsT l)) μ (EvI.of (Ev.methI (Ev.cell rfl ⟨199, _, 189, rfl, L.meth.2.2.2.2.2.2.2.1, rfl, EvL.nil (OpC.pure (FA.le (by omega)) (used_classes L (OpI.lst FA.h ⟨rfl, rfl⟩)))⟩))) (by omega) (fun C l hl => ?_) ?_)
        · refine Ev.methI (Ev.loc rfl ⟨118, _, 115, rfl, L.meth.2.2.2.2.1, rfl, EvL.nil (OpC.pure (FA.le (by omega)) (cdef_told L ?_ ⟨rfl, rfl⟩))⟩)
          unfold used at hl
          split at hl
          · simp only [List.mem_cons, List.not_mem_nil, or_false] at hl
            rcases hl with rfl | rfl | rfl <;> assumption
          · simp at hl; subst hl; exact h1
        · rw [filterMap_some]
          refine EvL.nil (OpC.tupL (by rw [List.length_map]; omega) (EvL.nil ⟨by simp, q⟩))
  cases ext with
  | none => exact body _ _ rfl
  | some e => exact body _ _ rfl

theorem all_in (L : Lay K) {ns : List Int} {l : List (Int × D)} (hl : ns.length ≤ 1000) (q : Q (.bool (ns.all fun n => (l.lookup n).isSome)) μ) : Fn prog w K 1 (.ref 232) μ [.tup (iL ns), .dct l] Q := by
  refine Fn.intro L.f232.at (names := ["row", "known"]) (fun s vs _ _ _ _ _ _ _ _ hl => bind2 hl fun _ _ => rfl) (by decide) (by rfl) fun A' L' cd FA => ?_
  refine Ex.cons (ExS.for (EvI.of (Ev.loc rfl (OpI.tup FA.h ?_))))
  refine ⟨fun i ρ' μ' => Sub ([("row", .tup (iL ns)), ("known", .dct l)] : Rho) ρ' ∧ μ' = μ ∧ ((ns.take i).all fun n => (l.lookup n).isSome) = true, ⟨Sub.refl, rfl, by simp⟩, ?_, ?_⟩
  · rintro i d ρ' μ' hd ⟨sub, rfl, ha⟩
    obtain ⟨n, hn, rfl, hm⟩ := take_map_at hd
    refine Ex.sub (ρ' := ([("number", .int n), ("row", .tup (iL ns)), ("known", .dct l)] : Rho)) sub.both ?_
    refine Ex.cons (ExS.ite (Te.cmp (Ev.loc rfl (Ev.loc rfl (Op2.notInD ⟨_, rfl, ?_⟩)))))
    cases h : (l.lookup n).isSome with
    | true =>
      refine Ex.nil (Ex.nil ⟨Sub.refl.cons, rfl, ?_⟩)
      rw [List.take_add_one, hn, List.all_append, ha]
      simp [h]
    | false =>
      refine Ex.cons (ExS.ret (Ev.cbool ?_))
      have : (ns.all fun n => (l.lookup n).isSome) = false := by
        rw [List.all_eq_false]; exact ⟨n, hm, by rw [h]; decide⟩
      rw [this] at q
      exact q
  · rintro ρ' μ' ⟨sub, rfl, ha⟩
    rw [List.length_map, List.take_length] at ha
    rw [ha] at q
    exact Ex.nil (Ex.cons (ExS.ret (Ev.cbool q)))
end
end Pb
end
section
open PySem PySem.W PySem.Calls PyProof.Rows PySem.Spec
set_option Elab.async false
set_option linter.unusedVariables false
set_option maxRecDepth 100000
namespace Pb

structure RuleN where
  back : List Int
  inside : List Int
  ahead : List Int
  acts : List (Int × Int)
def RuleN.p (r : RuleN) : RuleP := ⟨r.back.map .num, r.inside.map .num, r.ahead.map .num, r.acts⟩
structure RuleC where
  back : List (List Int)
  inside : List (List Int)
  ahead : List (List Int)
  acts : List (Int × Int)
def RuleC.p (r : RuleC) : RuleP := ⟨r.back.map .cvg, r.inside.map .cvg, r.ahead.map .cvg, r.acts⟩
def RuleN.d (r : RuleN) : D := .inst 158 [("back", .tup (iL r.back)), ("inside", .tup (iL r.inside)), ("ahead", .tup (iL r.ahead)), ("actions", .tup (r.acts.map actD))]
def RuleC.d (r : RuleC) : D := .inst 158 [("back", .tup (r.back.map cov)), ("inside", .tup (r.inside.map cov)), ("ahead", .tup (r.ahead.map cov)), ("actions", .tup (r.acts.map actD))]
theorem RuleN.pd (r : RuleN) : r.p.d = r.d := by
  have h : ∀ ns : List Int, (ns.map Part.num).map Part.d = iL ns := fun ns => by rw [List.map_map]; rfl
  simp only [RuleP.d, ruleD, RuleN.p, RuleN.d, h]
theorem RuleC.pd (r : RuleC) : r.p.d = r.d := by
  have h : ∀ ns : List (List Int), (ns.map Part.cvg).map Part.d = ns.map cov := fun ns => by rw [List.map_map]; rfl
  simp only [RuleP.d, ruleD, RuleC.p, RuleC.d, h]
theorem setsN (s : List (Int × List RuleN)) : setsD (mapS RuleN.p s) = lstS RuleN.d s := by
  unfold setsD mapS lstS
  rw [List.map_map]
  refine List.map_congr_left fun p _ => ?_
  simp only [Function.comp, List.map_map]
  congr 3
  exact funext RuleN.pd
theorem setsC (s : List (Int × List RuleC)) : setsD (mapS RuleC.p s) = lstS RuleC.d s := by
  unfold setsD mapS lstS
  rw [List.map_map]
  refine List.map_congr_left fun p _ => ?_
  simp only [Function.comp, List.map_map]
  congr 3
  exact funext RuleC.pd
def tab1 (ch : Bool) (s : List (Int × List RuleN)) : TableP := ⟨1, ch, mapS RuleN.p s, none⟩
def tab2 (ch : Bool) (s : List (Int × List RuleN)) (gs : List Int) (cs : List (List (Int × Int))) : TableP := ⟨2, ch, mapS RuleN.p s, some (gs, cs)⟩
def tab3 (ch : Bool) (s : List (Int × List RuleC)) : TableP := ⟨3, ch, mapS RuleC.p s, none⟩
theorem tab1_d {ch : Bool} {s : List (Int × List RuleN)} : (tab1 ch s).d = ctxD 1 ch (lstS RuleN.d s) .none .none := by simp only [tab1, TableP.d, setsN]
theorem tab2_d {ch : Bool} {s : List (Int × List RuleN)} {gs : List Int} {cs : List (List (Int × Int))} : (tab2 ch s gs cs).d = ctxD 2 ch (lstS RuleN.d s) (cov gs) (.tup (cs.map cdef)) := by simp only [tab2, TableP.d, setsN]
theorem tab3_d {ch : Bool} {s : List (Int × List RuleC)} : (tab3 ch s).d = ctxD 3 ch (lstS RuleC.d s) .none .none := by simp only [tab3, TableP.d, setsC]

theorem lstS_sto {α : Type} (φ : α → D) (s : List (Int × List α)) (k : Int) (rs : List α) : sto (lstS φ s) k (.lst (rs.map φ)) = lstS φ (sto s k rs) := sto_map (fun rs : List α => D.lst (rs.map φ)) s k rs
theorem getD_lstS {α : Type} (φ : α → D) (s : List (Int × List α)) (k : Int) : ((lstS φ s).lookup k).getD (.lst []) = .lst ((atK s k).map φ) := by
  rw [lookup_lstS]; unfold atK
  cases s.lookup k <;> rfl

/- by glyphs -/
def gl (T : List (Int × Int)) (n : Int) : Int := (T.lookup n).getD 0
def RuleN.cut (T : List (Int × Int)) (r : RuleN) : RuleN := ⟨r.back.map (gl T), r.inside.map (gl T), r.ahead.map (gl T), r.acts⟩
def RuleN.inT (T : List (Int × Int)) (r : RuleN) : Bool := (r.back ++ r.inside ++ r.ahead).all fun n => (T.lookup n).isSome
def stepG (T : List (Int × Int)) (acc : List (Int × List RuleN)) (r : RuleN) : List (Int × List RuleN) :=
  if r.inT T then sto acc ((r.cut T).inside.headD 0) (atK acc ((r.cut T).inside.headD 0) ++ [r.cut T]) else acc
def cutG (s : List (Int × List RuleN)) (T : List (Int × Int)) : List (Int × List RuleN) := (rulesOf s).foldl (stepG T) []
/-- what is asked of a rule of ints -/
structure RuleN.ok (r : RuleN) : Prop where
  b : r.back.length ≤ 100
  i : r.inside.length ≤ 100
  a : r.ahead.length ≤ 100
  ne : r.inside ≠ []
theorem rulesOf_len {α : Type} {s : List (Int × List α)} (h : WF s) : (rulesOf s).length ≤ 64 := by
  have : ∀ l : List Int, (l.flatMap (atK s)).length ≤ 8 * l.length := fun l => by
    induction l with
    | nil => simp
    | cons k l ih => have := h.atK_le k; simp only [List.flatMap_cons, List.length_append, List.length_cons]; omega
  have h1 := this (srt (s.map (·.1)))
  rw [srt_length, List.length_map] at h1
  have := h.len
  unfold rulesOf; omega
theorem stepG_length (T : List (Int × Int)) (acc : List (Int × List RuleN)) (r : RuleN) : (stepG T acc r).length ≤ acc.length + 1 := by
  unfold stepG; split
  · exact sto_length _ _ _
  · omega
theorem foldG_length (T : List (Int × Int)) : ∀ (rs : List RuleN) (acc : List (Int × List RuleN)), (rs.foldl (stepG T) acc).length ≤ acc.length + rs.length
  | [], acc => by simp
  | r :: rs, acc => by
    have h1 := stepG_length T acc r
    have h2 := foldG_length T rs (stepG T acc r)
    simp only [List.foldl_cons, List.length_cons]; omega
theorem stepG_atK (T : List (Int × Int)) (acc : List (Int × List RuleN)) (r : RuleN) (k : Int) (m : Nat) (h : ∀ k, (atK acc k).length ≤ m) : (atK (stepG T acc r) k).length ≤ m + 1 := by
  unfold stepG; split
  · rename_i q
    unfold atK at h ⊢
    rw [lookup_sto]
    by_cases e : k = (r.cut T).inside.headD 0
    · subst e
      rw [if_pos rfl]
      have := h ((r.cut T).inside.headD 0)
      simp only [Option.getD_some, List.length_append, List.length_singleton]
      exact Nat.add_le_add_right this 1
    · rw [if_neg e]; exact Nat.le_succ_of_le (h k)
  · exact Nat.le_succ_of_le (h k)
theorem foldG_atK (T : List (Int × Int)) : ∀ (rs : List RuleN) (acc : List (Int × List RuleN)) (m : Nat), (∀ k, (atK acc k).length ≤ m) → ∀ k, (atK (rs.foldl (stepG T) acc) k).length ≤ m + rs.length
  | [], acc, m, h, k => h k
  | r :: rs, acc, m, h, k => by
    have := foldG_atK T rs (stepG T acc r) (m + 1) (fun k => stepG_atK T acc r k m h) k
    simp only [List.foldl_cons, List.length_cons]; omega
section
variable {K : Frag} {prog : Program} {w : World} {μ : Mu} {Q : D → Mu → Prop}

theorem cut_by_glyphs (L : Lay K) {ch : Bool} {s : List (Int × List RuleN)} {T : List (Int × Int)} (hs : WF s) (hr : ∀ r ∈ rulesOf s, r.ok) (q : Q (tab1 ch (cutG s T)).d μ) : Fn prog w K 3 (.ref 237) μ [(tab1 ch s).d, .dct (dI T)] Q := by
  rw [tab1_d] at q ⊢
  refine Fn.intro L.f237.at (names := ["table", "glyphs"]) (fun s vs _ _ _ _ _ _ _ _ hl => bind2 hl fun _ _ => rfl) (by decide) (by rfl) fun A' L' cd FA => ?_
  obtain ⟨_, _, r1, r2, r3, r4, a1, a2, a3, a4, a5⟩ := L.attr
  obtain ⟨t1, t2, t3, g1, g2, g3⟩ := L.nums
  have hlen := rulesOf_len hs
  refine Ex.cons (ExS.asg (Ev.newD fun a => ?_))
  refine Ex.cons (ExS.for (EvI.of (Ev.methI (Ev.loc rfl ⟨199, _, 196, rfl, L.meth.2.2.2.2.2.2.2.2, rfl, EvL.nil (OpC.pure (FA.le (by omega)) (ctx_rules L hs (OpI.lst FA.h ?_)))⟩))))
  refine ⟨fun i ρ' μ' => Sub ([("sets", .raw (.ref a)), ("table", ctxD 1 ch (lstS RuleN.d s) .none .none), ("glyphs", .dct (dI T))] : Rho) ρ' ∧ μ' = (a, .dct (lstS RuleN.d (((rulesOf s).take i).foldl (stepG T) []))) :: μ, ⟨Sub.refl, rfl⟩, ?_, ?_⟩
  · rintro i d ρ' μ' hd ⟨sub, rfl⟩
    obtain ⟨r, hk, rfl, hm⟩ := take_map_at hd
    have ok := hr r hm
    have hi : i ≤ (rulesOf s).length := by
      rcases Nat.lt_or_ge i (rulesOf s).length with h | h
      · exact Nat.le_of_lt h
      · rw [List.getElem?_eq_none h] at hk; cases hk
    have e1 : ((rulesOf s).take (i + 1)).foldl (stepG T) [] = stepG T (((rulesOf s).take i).foldl (stepG T) []) r := by rw [List.take_add_one, hk, List.foldl_append]; rfl
    have bl := foldG_length T ((rulesOf s).take i) []
    have ba := foldG_atK T ((rulesOf s).take i) [] 0 (fun k => by simp [atK])
    rw [List.length_take] at bl ba
    generalize ((rulesOf s).take i).foldl (stepG T) [] = acc at e1 bl ba ⊢
    refine Ex.sub (ρ' := ([("rule", r.d), ("sets", .raw (.ref a)), ("table", ctxD 1 ch (lstS RuleN.d s) .none .none), ("glyphs", .dct (dI T))] : Rho)) sub.both ?_
    refine Ex.cons (ExS.ite (Te.plain (Ev.call (Ev.fn L.glob ⟨_, rfl, L.f232.keep, ?_⟩))))
    have ob := ok.b; have oi := ok.i; have oa := ok.a
    refine EvL.cons (Ev.bin (Ev.bin (Ev.attr (Ev.loc rfl (OpA.inst r1 rfl rfl (Ev.attr (Ev.loc rfl (OpA.inst r2 rfl rfl (Op2.addT (by simp; omega) ?_)))))))))
    refine Ev.attr (Ev.loc rfl (OpA.inst r3 rfl rfl (Op2.addT (by simp; omega) ?_)))
    rw [← List.map_append, ← List.map_append]
    refine EvL.cons (Ev.cell rfl (EvL.nil (OpC.pure (FA.le (by omega)) (all_in L (by simp; omega) (OpT.bool ?_)))))
    have hin : ((r.back ++ r.inside ++ r.ahead).all fun n => ((dI T).lookup n).isSome) = r.inT T := by
      unfold RuleN.inT
      congr 1
      exact funext fun n => by rw [lookup_dI]; cases T.lookup n <;> rfl
    rw [hin]
    cases hT : r.inT T with
    | false =>
      refine Ex.nil (Ex.nil ⟨Sub.refl.cons, ?_⟩)
      rw [e1, stepG, hT]; rfl
    | true =>
      have hin' : ∀ n, n ∈ r.back ∨ n ∈ r.inside ∨ n ∈ r.ahead → T.lookup n = some (gl T n) := fun n hn => by
        have h1 := List.all_eq_true.mp hT n (by simp only [List.mem_append]; rcases hn with h | h | h <;> simp [h])
        obtain ⟨v, hv⟩ := Option.isSome_iff_exists.mp h1
        unfold gl; rw [hv]; rfl
      obtain ⟨n0, rest, hne⟩ := List.exists_cons_of_ne_nil ok.ne
      refine Ex.cons (ExS.unpack3 FA.h ?_)
      refine Ev.map [r.back, r.inside, r.ahead] (fun ns => D.tup (iL ns)) (fun ns => some (D.tup (iL (ns.map (gl T))))) ((a, .dct (lstS RuleN.d acc)) :: μ)
        (EvI.of (Ev.tuple (EvL.cons (Ev.attr (Ev.loc rfl (OpA.inst r1 rfl rfl (EvL.cons (Ev.attr (Ev.loc rfl (OpA.inst r2 rfl rfl (EvL.cons (Ev.attr (Ev.loc rfl (OpA.inst r3 rfl rfl (EvL.nil ⟨by simp, OpI.tup FA.h ⟨rfl, rfl⟩⟩))))))))))))))) (by simp) (fun C ns hns => ?_) ?_
      · refine Ev.call (Ev.blt L.bl rfl ⟨_, rfl, Keep.typ, ?_⟩)
        have hl100 : ns.length ≤ 100 := by
          simp only [List.mem_cons, List.not_mem_nil, or_false] at hns
          rcases hns with rfl | rfl | rfl <;> assumption
        refine EvL.cons (Ev.map ns D.int (fun n => some (D.int (gl T n))) _ (EvI.of (Ev.loc rfl (OpI.tup FA.h ⟨rfl, rfl⟩))) (by omega) (fun C' n hn => ?_) ?_)
        · refine Ev.sub (Ev.cell rfl (Ev.loc rfl (OpS.dct (d := .int (gl T n)) ?_ ⟨rfl, rfl⟩)))
          rw [lookup_dI, hin' n]
          · rfl
          · simp only [List.mem_cons, List.not_mem_nil, or_false] at hns
            rcases hns with rfl | rfl | rfl <;> simp [hn]
        · rw [filterMap_some]
          refine EvL.nil (OpC.tupL (by rw [List.length_map]; omega) ⟨?_, rfl⟩)
          show some (D.tup ((ns.map (gl T)).map D.int)) = _
          rw [List.map_map]; rfl
      · rw [filterMap_some]
        refine ⟨_, _, _, rfl, ?_⟩
        have hhd : (r.cut T).inside.headD 0 = gl T n0 := by simp [RuleN.cut, hne]
        have hin0 : (iL (r.inside.map (gl T)))[0]? = some (.int (gl T n0)) := by simp [hne]
        have bk := ba (gl T n0)
        refine Ex.cons (ExS.setSub (Ev.bin (Ev.meth (Ev.loc rfl ⟨_, _, Meth.getMu (.head _) rfl, Keep.blt, ?_⟩))))
        refine EvL.cons (Ev.sub (Ev.loc rfl (Ev.cint (OpS.tup (d := .int (gl T n0)) (by decide) (by decide) hin0 ?_))))
        refine EvL.cons (Ev.list0 (EvL.nil (OpC.getMu (.head _) ?_)))
        rw [getD_lstS]
        refine Ev.list (EvL.cons (Ev.call (Ev.fn L.glob ⟨_, rfl, keep_of_make L.m158, ?_⟩)))
        refine EvL.cons (Ev.loc rfl (EvL.cons (Ev.loc rfl (EvL.cons (Ev.loc rfl (EvL.cons (Ev.attr (Ev.loc rfl (OpA.inst r4 rfl rfl ?_)))))))))
        refine EvL.nil (OpC.pure (FA.le (by omega)) (rule_new L (EvL.nil ⟨by simp, ?_⟩)))
        refine Op2.addL (by rw [List.length_map, List.length_singleton]; omega) ?_
        refine Ev.loc rfl (Ev.sub (Ev.loc rfl (Ev.cint (OpS.tup (d := .int (gl T n0)) (by decide) (by decide) hin0 ?_))))
        have e2 : (atK acc (gl T n0)).map RuleN.d ++ [D.inst 158 [("back", .tup (iL (r.back.map (gl T)))), ("inside", .tup (iL (r.inside.map (gl T)))), ("ahead", .tup (iL (r.ahead.map (gl T)))), ("actions", .tup (r.acts.map actD))]]
            = (atK acc (gl T n0) ++ [r.cut T]).map RuleN.d := by rw [List.map_append]; rfl
        refine OpSet.dict (by rw [List.length_map]; simp at bl; omega) ?_
        refine Ex.nil (Ex.nil ⟨Sub.refl.cons.cons.cons.cons, ?_⟩)
        rw [e2, lstS_sto, e1, stepG, hT, if_pos rfl, hhd]
  · rintro ρ' μ' ⟨sub, rfl⟩
    refine Ex.nil ?_
    refine Ex.freezeHd (x := "sets") sub ?_
    refine Ex.cons (ExS.ret (Ev.call (Ev.fn L.glob ⟨_, rfl, keep_of_make L.m199, ?_⟩)))
    refine EvL.cons (Ev.gint g1 (EvL.cons (Ev.attr (Ev.loc rfl (OpA.inst a2 rfl rfl (EvL.cons (Ev.loc rfl ?_)))))))
    rw [List.length_map, List.take_length]
    exact EvL.nil (OpC.pure (FA.le (by omega)) (ctx_new3 L q))
end
end Pb
end
section
open PySem PySem.W PySem.Calls PyProof.Rows PySem.Spec
set_option Elab.async false
set_option linter.unusedVariables false
set_option maxRecDepth 100000
namespace Pb

/-- dict(…) of keys to True -/
def boolD (ks : List Int) : List (Int × D) := dictOfL [] (ks.map fun k => (k, D.bool true))
theorem lookup_dictOfL {k : Int} : ∀ {l acc : List (Int × D)}, ((dictOfL acc l).lookup k).isSome = ((acc.lookup k).isSome || decide (k ∈ l.map (·.1)))
  | [], acc => by simp [dictOfL]
  | p :: l, acc => by
    show ((dictOfL (sto acc p.1 p.2) l).lookup k).isSome = _
    rw [lookup_dictOfL, lookup_sto]
    by_cases h : k = p.1
    · subst h; simp
    · rw [if_neg h]; simp only [List.map_cons, List.mem_cons, h, false_or]
theorem boolD_mem {ks : List Int} {k : Int} : ((boolD ks).lookup k).isSome = decide (k ∈ ks) := by
  unfold boolD
  rw [lookup_dictOfL]
  simp [List.map_map, Function.comp_def]
def knw (l : List (Int × Int)) : List Int := 0 :: l.map (fun p => clsAt l p.1)

/-- by classes -/
def keepC (ks : List (List Int)) (r : RuleN) : Bool := (r.back.all fun n => decide (n ∈ (ks[0]?).getD [])) && ((r.inside.all fun n => decide (n ∈ (ks[1]?).getD [])) && (r.ahead.all fun n => decide (n ∈ (ks[2]?).getD [])))
def selC (f : Int → Bool) (keep : RuleN → Bool) (s : List (Int × List RuleN)) : List (Int × List RuleN) := (s.filter fun p => f p.1).map fun p => (p.1, p.2.filter keep)
def cutC (s : List (Int × List RuleN)) (gs : List Int) (cs : List (List (Int × Int))) (T : List (Int × Int)) : List (Int × List RuleN) :=
  selC (fun k => decide (k ∈ (tcov gs T).map (clsAt (tcls ((cs[1]?).getD []) T)))) (keepC ((cs.map fun l => tcls l T).map knw)) s
def RuleN.ok' (r : RuleN) : Prop := r.back.length ≤ 100 ∧ r.inside.length ≤ 100 ∧ r.ahead.length ≤ 100
theorem tcls_length (l T : List (Int × Int)) : (tcls l T).length ≤ l.length := by
  have : ∀ (ks : List Int) (acc : List (Int × Int)), (ks.foldl (tclsStep l T) acc).length ≤ acc.length + ks.length := fun ks => by
    induction ks with
    | nil => intro acc; simp
    | cons k ks ih =>
      intro acc
      have h1 : (tclsStep l T acc k).length ≤ acc.length + 1 := by
        unfold tclsStep; split
        · exact sto_length _ _ _
        · omega
      have h2 := ih (tclsStep l T acc k)
      simp only [List.foldl_cons, List.length_cons]; omega
  have h := this (srt (l.map (·.1))) []
  rw [srt_length, List.length_map] at h
  unfold tcls
  simpa using h
theorem tcls_nodup (l T : List (Int × Int)) : ((tcls l T).map (·.1)).Nodup := by
  have : ∀ (ks : List Int) (acc : List (Int × Int)), (acc.map (·.1)).Nodup → ((ks.foldl (tclsStep l T) acc).map (·.1)).Nodup := fun ks => by
    induction ks with
    | nil => intro acc h; exact h
    | cons k ks ih =>
      intro acc h
      refine ih _ ?_
      unfold tclsStep; split
      · exact sto_nodup h
      · exact h
  exact this _ [] List.nodup_nil
theorem sto_new {α : Type} {l : List (Int × α)} {k : Int} {v : α} (h : k ∉ l.map (·.1)) : sto l k v = l ++ [(k, v)] := by
  unfold sto
  rw [if_neg]
  intro q
  obtain ⟨p, hp, e⟩ := List.any_eq_true.mp q
  exact h (List.mem_map.mpr ⟨p, hp, by simpa using e⟩)
theorem lookup_nd {α : Type} : ∀ {l : List (Int × α)} {p : Int × α}, (l.map (·.1)).Nodup → p ∈ l → l.lookup p.1 = some p.2
  | (a, b) :: l, p, hn, hm => by
    rw [lookup_cons_if]
    rw [List.map_cons, List.nodup_cons] at hn
    rcases List.mem_cons.mp hm with rfl | hm
    · simp
    · rw [if_neg fun e : p.1 = a => hn.1 (by rw [← e]; exact List.mem_map_of_mem (f := (·.1)) hm)]
      exact lookup_nd hn.2 hm

theorem filterMap_if {α β : Type} (k : α → Bool) (f : α → β) (xs : List α) : xs.filterMap (fun x => if k x = true then some (f x) else none) = (xs.filter k).map f := by
  induction xs with
  | nil => rfl
  | cons x xs ih =>
    rw [List.filterMap_cons, List.filter_cons]
    cases h : k x <;> simp [ih]
theorem selC_keys (f : Int → Bool) (keep : RuleN → Bool) (s : List (Int × List RuleN)) {k : Int} (h : k ∈ (selC f keep s).map (·.1)) : k ∈ s.map (·.1) := by
  unfold selC at h
  rw [List.map_map] at h
  obtain ⟨p, hp, e⟩ := List.mem_map.mp h
  exact List.mem_map.mpr ⟨p, (List.mem_filter.mp hp).1, e⟩
section
variable {K : Frag} {prog : Program} {w : World} {μ : Mu} {Q : D → Mu → Prop}

theorem cut_by_classes (L : Lay K) {ch : Bool} {s : List (Int × List RuleN)} {gs : List Int} {c0 c1 c2 : List (Int × Int)} {T : List (Int × Int)} (hs : WF s) (hr : ∀ p ∈ s, ∀ r ∈ p.2, RuleN.ok' r) (hg : gs.length < 64)
    (h0 : c0.length < 64) (h1 : c1.length < 64) (h2 : c2.length < 64)
    (q : Q (tab2 ch (cutC s gs [c0, c1, c2] T) (tcov gs T) ([c0, c1, c2].map fun l => tcls l T)).d μ) : Fn prog w K 5 (.ref 242) μ [(tab2 ch s gs [c0, c1, c2]).d, .dct (dI T)] Q := by
  rw [tab2_d] at q ⊢
  refine Fn.intro L.f242.at (names := ["table", "glyphs"]) (fun s vs _ _ _ _ _ _ _ _ hl => bind2 hl fun _ _ => rfl) (by decide) (by rfl) fun A' L' cd FA => ?_
  obtain ⟨c59, c118, r1, r2, r3, r4, a1, a2, a3, a4, a5⟩ := L.attr
  obtain ⟨t1, t2, t3, g1, g2, g3⟩ := L.nums
  have hlen := hs.len
  have tl0 := tcls_length c0 T
  have tl1 := tcls_length c1 T
  have tl2 := tcls_length c2 T
  have ctl : (tcov gs T).length ≤ gs.length := Nat.le_trans (ssrt_length _) (List.length_filterMap_le _ _)
  refine Ex.cons (ExS.asg (Ev.call (Ev.fn L.glob ⟨_, rfl, L.f75.keep, ?_⟩)))
  refine EvL.cons (Ev.attr (Ev.loc rfl (OpA.inst a4 rfl rfl (EvL.cons (Ev.cell rfl (EvL.nil (OpC.pure FA (turned_coverage L hg ?_))))))))
  refine Ex.cons (ExS.asg (Ev.map [c0, c1, c2] cdef (fun l => some (cdef (tcls l T))) μ (EvI.of (Ev.attr (Ev.loc rfl (OpA.inst a5 rfl rfl (OpI.tup FA.h ⟨rfl, rfl⟩))))) (by simp) (fun C l hl => ?_) ?_))
  · refine Ev.call (Ev.fn L.glob ⟨_, rfl, L.f127.keep, ?_⟩)
    refine EvL.cons (Ev.loc rfl (EvL.cons (Ev.cell rfl (EvL.nil (OpC.pure (FA.le (by omega)) (turned_classes L ?_ ⟨rfl, rfl⟩))))))
    simp only [List.mem_cons, List.not_mem_nil, or_false] at hl
    rcases hl with rfl | rfl | rfl <;> assumption
  rw [filterMap_some]
  refine Ex.cons (ExS.asg (Ev.cellcomp (EvI.of (Ev.cell rfl (OpI.lst FA.h ⟨by simp, fun i out m => out = (([c0, c1, c2].map fun l => tcls l T).take i).map (fun l => D.dct (boolD (knw l))) ∧ m = μ, ⟨rfl, rfl⟩, ?_, ?_⟩)))))
  · rintro C i d out m hd ⟨rfl, rfl⟩
    have hd' : (([c0, c1, c2].map fun l => tcls l T).map cdef)[i]? = some d := by rw [List.map_map]; exact hd
    obtain ⟨l, hk, rfl, hm⟩ := take_map_at hd'
    have hnd : (l.map (·.1)).Nodup := by
      obtain ⟨l', _, rfl⟩ := List.mem_map.mp hm
      exact tcls_nodup _ _
    have hl64 : l.length < 64 := by
      simp only [List.map_cons, List.map_nil, List.mem_cons, List.not_mem_nil, or_false] at hm
      rcases hm with rfl | rfl | rfl <;> omega
    refine Ev.call (Ev.blt L.bl rfl ⟨_, rfl, Keep.typ, ?_⟩)
    refine EvL.cons (Ev.bin (Ev.list (EvL.cons (Ev.tuple (EvL.cons (Ev.cint (EvL.cons (Ev.cbool (EvL.nil ⟨by simp, EvL.nil ⟨by simp, ?_⟩⟩)))))))))
    refine Ev.map l (fun p => D.int p.1) (fun p => some (D.tup [.int (clsAt l p.1), .bool true])) m (EvI.of (Ev.attr (Ev.cell rfl (OpA.inst c118 rfl rfl (OpI.dct FA.h ⟨by rw [List.map_map]; rfl, rfl⟩))))) (by omega) (fun C' p hp => ?_) ?_
    · refine Ev.tuple (EvL.cons (Ev.sub (Ev.attr (Ev.cell rfl (OpA.inst c118 rfl rfl (Ev.loc rfl (OpS.dct (d := .int (clsAt l p.1)) ?_ ?_)))))))
      · rw [lookup_dI, lookup_nd hnd hp]; unfold clsAt; rw [lookup_nd hnd hp]; rfl
      · exact EvL.cons (Ev.cbool (EvL.nil ⟨by simp, rfl, rfl⟩))
    · rw [filterMap_some]
      refine Op2.addL (by simp; omega) ?_
      have e : [D.tup [.int 0, .bool true]] ++ l.map (fun p => D.tup [.int (clsAt l p.1), .bool true]) = ((knw l).map fun k => (k, D.bool true)).map pairD := by
        unfold knw
        simp only [List.map_cons, List.map_map, List.singleton_append]
        rfl
      rw [e]
      refine EvL.nil (OpC.dict FA.h (by simp [knw]; omega) ⟨?_, rfl⟩)
      rw [List.take_add_one, hk]; simp [boolD]
  · rintro out m ⟨rfl, rfl⟩
    refine Ex.cons (ExS.asg (Ev.call (Ev.blt L.bl rfl ⟨_, rfl, Keep.typ, ?_⟩)))
    refine EvL.cons (Ev.map (tcov gs T) D.int (fun g => some (pairD (clsAt (tcls c1 T) g, .bool true))) m (EvI.of (Ev.attr (Ev.loc rfl (OpA.inst c59 rfl rfl (OpI.tup FA.h ⟨rfl, rfl⟩))))) (by omega) (fun C g hg' => ?_) ?_)
    · refine Ev.tuple (EvL.cons (Ev.methI (Ev.sub (Ev.cell rfl (Ev.cint (OpS.lst (d := cdef (tcls c1 T)) (by decide) (by decide) rfl ⟨118, _, 96, rfl, L.meth.2.2.2.1, rfl, ?_⟩))))))
      refine EvL.cons (Ev.loc rfl (EvL.nil (OpC.pure (FA.le (by omega)) (class_of L ?_))))
      exact EvL.cons (Ev.cbool (EvL.nil ⟨by simp, rfl, rfl⟩))
    rw [filterMap_some]
    have e : (tcov gs T).map (fun g => pairD (clsAt (tcls c1 T) g, D.bool true)) = (((tcov gs T).map (clsAt (tcls c1 T))).map fun k => (k, D.bool true)).map pairD := by
      simp only [List.map_map]; rfl
    rw [e]
    refine EvL.nil (OpC.dict FA.h (by simp; omega) ?_)
    generalize hfs : (tcov gs T).map (clsAt (tcls c1 T)) = fs
    have hf2 : (fun k => decide (k ∈ (tcov gs T).map (clsAt (tcls ((([c0, c1, c2] : List (List (Int × Int)))[1]?).getD []) T)))) = fun k => decide (k ∈ fs) := by rw [← hfs]; rfl
    have hks : (([c0, c1, c2].map fun l => tcls l T).map knw) = [knw (tcls c0 T), knw (tcls c1 T), knw (tcls c2 T)] := rfl
    unfold cutC at q
    rw [hf2, hks] at q
    have hbase : ∀ (ks : List Int) (ns : List Int), (ns.all fun n => ((boolD ks).lookup n).isSome) = ns.all fun n => decide (n ∈ ks) := fun ks ns => by
      congr 1; exact funext fun n => boolD_mem
    refine Ex.cons (ExS.asg (Ev.newD fun a => ?_))
    refine Ex.cons (ExS.for (EvI.of (Ev.attr (Ev.loc rfl (OpA.inst a3 rfl rfl (OpI.dct FA.h ?_))))))
    have ek : (lstS RuleN.d s).map (fun p => D.int p.1) = s.map fun p => D.int p.1 := by rw [List.map_map]; rfl
    rw [ek]
    refine ⟨fun i ρ' μ' => Sub ([("sets", .raw (.ref a)), ("firsts", .dct (boolD fs)), ("known", .lst (([c0, c1, c2].map fun l => tcls l T).map fun l => D.dct (boolD (knw l)))), ("classes", .lst ([c0, c1, c2].map fun l => cdef (tcls l T))), ("coverage", cov (tcov gs T)),
        ("table", ctxD 2 ch (lstS RuleN.d s) (cov gs) (.tup ([c0, c1, c2].map cdef))), ("glyphs", .dct (dI T))] : Rho) ρ' ∧ μ' = (a, .dct (lstS RuleN.d (selC (fun k => decide (k ∈ fs)) (keepC [knw (tcls c0 T), knw (tcls c1 T), knw (tcls c2 T)]) (s.take i)))) :: m,
      ⟨Sub.refl, rfl⟩, ?_, ?_⟩
    · rintro i d ρ' μ' hd ⟨sub, rfl⟩
      obtain ⟨p, hk, rfl, hm⟩ := take_map_at hd
      obtain ⟨k, rs⟩ := p
      have hlk : s.lookup k = some rs := lookup_nd hs.nd hm
      have h8 : rs.length ≤ 8 := by have := hs.atK_le k; unfold atK at this; rw [hlk] at this; exact this
      have hkn : k ∉ (s.take i).map (·.1) := fun hmem => by
        have hnd := hs.nd
        have e : s.take (i + 1) = s.take i ++ [(k, rs)] := by rw [List.take_add_one, hk]; rfl
        have h3 : ((s.take (i + 1)).map (·.1)).Nodup := List.Nodup.sublist ((List.take_sublist _ _).map _) hnd
        rw [e, List.map_append, List.nodup_append] at h3
        exact h3.2.2 k hmem k (by simp) rfl
      have hsel : ∀ f keep, selC f keep (s.take (i + 1)) = selC f keep (s.take i) ++ (if f k then [(k, rs.filter keep)] else []) := fun f keep => by
        unfold selC
        rw [List.take_add_one, hk, List.filter_append, List.map_append]
        congr 1
        cases hfk : f k <;> simp [hfk]
      have hli : (selC (fun k => decide (k ∈ fs)) (keepC [knw (tcls c0 T), knw (tcls c1 T), knw (tcls c2 T)]) (s.take i)).length ≤ 8 := by
        unfold selC
        rw [List.length_map]
        refine Nat.le_trans (List.length_filter_le _ _) ?_
        rw [List.length_take]; omega
      have hkn' : k ∉ (selC (fun k => decide (k ∈ fs)) (keepC [knw (tcls c0 T), knw (tcls c1 T), knw (tcls c2 T)]) (s.take i)).map (·.1) := fun h => hkn (selC_keys _ _ _ h)
      generalize hacc : selC (fun k => decide (k ∈ fs)) (keepC [knw (tcls c0 T), knw (tcls c1 T), knw (tcls c2 T)]) (s.take i) = acc at hli hkn' ⊢
      have hsel' := hsel (fun k => decide (k ∈ fs)) (keepC [knw (tcls c0 T), knw (tcls c1 T), knw (tcls c2 T)])
      rw [hacc] at hsel'
      refine Ex.sub (ρ' := ([("key", .int k), ("sets", .raw (.ref a)), ("firsts", .dct (boolD fs)), ("known", .lst (([c0, c1, c2].map fun l => tcls l T).map fun l => D.dct (boolD (knw l)))), ("classes", .lst ([c0, c1, c2].map fun l => cdef (tcls l T))), ("coverage", cov (tcov gs T)),
        ("table", ctxD 2 ch (lstS RuleN.d s) (cov gs) (.tup ([c0, c1, c2].map cdef))), ("glyphs", .dct (dI T))] : Rho)) sub.both ?_
      refine Ex.cons (ExS.ite (Te.cmp (Ev.loc rfl (Ev.loc rfl (Op2.inD ⟨_, rfl, ?_⟩)))))
      rw [boolD_mem]
      cases hkf : decide (k ∈ fs) with
      | false =>
        refine Ex.nil (Ex.nil ⟨Sub.refl.cons, ?_⟩)
        rw [hsel']; simp only [hkf]; simp
      | true =>
        have hrk := hr (k, rs) hm
        refine Ex.cons (ExS.setSub (Ev.map rs RuleN.d (fun r => if keepC [knw (tcls c0 T), knw (tcls c1 T), knw (tcls c2 T)] r = true then some r.d else none) _
          (EvI.of (Ev.sub (Ev.attr (Ev.loc rfl (OpA.inst a3 rfl rfl (Ev.loc rfl (OpS.dct (by rw [lookup_lstS, hlk]; rfl) (OpI.lst FA.h ⟨rfl, rfl⟩)))))))) (by omega) (fun C r hrr => ?_) ?_))
        · obtain ⟨ob, oi, oa⟩ := hrk r hrr
          have hk0 : keepC [knw (tcls c0 T), knw (tcls c1 T), knw (tcls c2 T)] r = ((r.back.all fun n => decide (n ∈ knw (tcls c0 T))) && ((r.inside.all fun n => decide (n ∈ knw (tcls c1 T))) && (r.ahead.all fun n => decide (n ∈ knw (tcls c2 T))))) := rfl
          rw [hk0]
          refine Te.and (TeAnd.cons (Te.plain (Ev.call (Ev.fn L.glob ⟨_, rfl, L.f232.keep, ?_⟩))))
          refine EvL.cons (Ev.attr (Ev.loc rfl (OpA.inst r1 rfl rfl (EvL.cons (Ev.sub (Ev.cell rfl (Ev.cint (OpS.lst (d := .dct (boolD (knw (tcls c0 T)))) (by decide) (by decide) rfl ?_))))))))
          refine EvL.nil (OpC.pure (FA.le (by omega)) (all_in L (by omega) (OpT.bool ?_)))
          rw [hbase]
          cases (r.back.all fun n => decide (n ∈ knw (tcls c0 T))) with
          | false => exact ⟨by simp, rfl⟩
          | true =>
            refine TeAnd.cons (Te.plain (Ev.call (Ev.fn L.glob ⟨_, rfl, L.f232.keep, ?_⟩)))
            refine EvL.cons (Ev.attr (Ev.loc rfl (OpA.inst r2 rfl rfl (EvL.cons (Ev.sub (Ev.cell rfl (Ev.cint (OpS.lst (d := .dct (boolD (knw (tcls c1 T)))) (by decide) (by decide) rfl ?_))))))))
            refine EvL.nil (OpC.pure (FA.le (by omega)) (all_in L (by omega) (OpT.bool ?_)))
            rw [hbase]
            cases (r.inside.all fun n => decide (n ∈ knw (tcls c1 T))) with
            | false => exact ⟨by simp, rfl⟩
            | true =>
              refine TeAnd.cons (Te.plain (Ev.call (Ev.fn L.glob ⟨_, rfl, L.f232.keep, ?_⟩)))
              refine EvL.cons (Ev.attr (Ev.loc rfl (OpA.inst r3 rfl rfl (EvL.cons (Ev.sub (Ev.cell rfl (Ev.cint (OpS.lst (d := .dct (boolD (knw (tcls c2 T)))) (by decide) (by decide) rfl ?_))))))))
              refine EvL.nil (OpC.pure (FA.le (by omega)) (all_in L (by omega) (OpT.bool ?_)))
              rw [hbase]
              cases (r.ahead.all fun n => decide (n ∈ knw (tcls c2 T))) with
              | false => exact ⟨by simp, rfl⟩
              | true => exact TeAnd.nil (Ev.loc rfl ⟨by simp, rfl⟩)
        · rw [filterMap_if]
          refine Ev.loc rfl (Ev.loc rfl (OpSet.dict (by rw [List.length_map]; omega) ?_))
          refine Ex.nil (Ex.nil ⟨Sub.refl.cons, ?_⟩)
          rw [lstS_sto, sto_new hkn', hsel']
          simp only [hkf, if_true]
    · rintro ρ' μ' ⟨sub, rfl⟩
      rw [List.length_map, List.take_length] at *
      refine Ex.nil ?_
      refine Ex.freezeHd (x := "sets") sub ?_
      refine Ex.cons (ExS.ret (Ev.call (Ev.fn L.glob ⟨_, rfl, keep_of_make L.m199, ?_⟩)))
      refine EvL.cons (Ev.gint g2 (EvL.cons (Ev.attr (Ev.loc rfl (OpA.inst a2 rfl rfl (EvL.cons (Ev.loc rfl (EvL.cons (Ev.loc rfl ?_)))))))))
      refine EvL.cons (Ev.call (Ev.blt L.bl rfl ⟨_, rfl, Keep.typ, EvL.cons (Ev.cell rfl (EvL.nil (OpC.tupL (by simp) ?_)))⟩))
      have e5 : ([c0, c1, c2].map fun l => cdef (tcls l T)) = (([c0, c1, c2].map fun l => tcls l T).map cdef) := by rw [List.map_map]; rfl
      rw [e5]
      exact EvL.nil (OpC.pure (FA.le (by omega)) (ctx_new5 L q))
end
end Pb
end
section
open PySem PySem.W PySem.Calls PyProof.Rows PySem.Spec
set_option Elab.async false
set_option linter.unusedVariables false
set_option maxRecDepth 100000
namespace Pb
def RuleC.cut (T : List (Int × Int)) (r : RuleC) : RuleC := ⟨r.back.map (tcov · T), r.inside.map (tcov · T), r.ahead.map (tcov · T), r.acts⟩
def RuleC.full (r : RuleC) : Bool := ((r.back ++ r.inside ++ r.ahead).filter fun gs => decide (gs.length = 0)).isEmpty
def cutVs (s : List (Int × List RuleC)) (T : List (Int × Int)) : List RuleC := ((rulesOf s).filter fun r => (r.cut T).full).map (RuleC.cut T)
def cutV (s : List (Int × List RuleC)) (T : List (Int × Int)) : List (Int × List RuleC) := [(0, cutVs s T)]
structure RuleC.ok (r : RuleC) : Prop where
  b : r.back.length ≤ 100
  i : r.inside.length ≤ 100
  a : r.ahead.length ≤ 100
  g : ∀ gs ∈ r.back ++ r.inside ++ r.ahead, gs.length < 64
section
variable {K : Frag} {prog : Program} {w : World} {μ : Mu} {Q : D → Mu → Prop}
theorem cut_by_coverages (L : Lay K) {ch : Bool} {s : List (Int × List RuleC)} {T : List (Int × Int)} (hs : WF s) (hr : ∀ r ∈ rulesOf s, r.ok) (q : Q (tab3 ch (cutV s T)).d μ) : Fn prog w K 5 (.ref 247) μ [(tab3 ch s).d, .dct (dI T)] Q := by
  rw [tab3_d] at q ⊢
  refine Fn.intro L.f247.at (names := ["table", "glyphs"]) (fun s vs _ _ _ _ _ _ _ _ hl => bind2 hl fun _ _ => rfl) (by decide) (by rfl) fun A' L' cd FA => ?_
  obtain ⟨c59, _, r1, r2, r3, r4, a1, a2, a3, a4, a5⟩ := L.attr
  obtain ⟨t1, t2, t3, g1, g2, g3⟩ := L.nums
  have hlen := rulesOf_len hs
  refine Ex.cons (ExS.asg (Ev.newL fun a => ?_))
  refine Ex.cons (ExS.for (EvI.of (Ev.methI (Ev.loc rfl ⟨199, _, 196, rfl, L.meth.2.2.2.2.2.2.2.2, rfl, EvL.nil (OpC.pure (FA.le (by omega)) (ctx_rules L hs (OpI.lst FA.h ?_)))⟩))))
  refine ⟨fun i ρ' μ' => Sub ([("rules", .raw (.ref a)), ("table", ctxD 3 ch (lstS RuleC.d s) .none .none), ("glyphs", .dct (dI T))] : Rho) ρ' ∧
    μ' = (a, .lst (((((rulesOf s).take i).filter fun r => (r.cut T).full).map (RuleC.cut T)).map RuleC.d)) :: μ, ⟨Sub.refl, rfl⟩, ?_, ?_⟩
  · rintro i d ρ' μ' hd ⟨sub, rfl⟩
    obtain ⟨r, hk, rfl, hm⟩ := take_map_at hd
    have ok := hr r hm
    have e1 : (((rulesOf s).take (i + 1)).filter fun r => (r.cut T).full).map (RuleC.cut T) = (((rulesOf s).take i).filter fun r => (r.cut T).full).map (RuleC.cut T) ++ (if (r.cut T).full then [r.cut T] else []) := by
      rw [List.take_add_one, hk, List.filter_append, List.map_append]
      congr 1
      cases hf : (r.cut T).full <;> simp [hf]
    have bl : ((((rulesOf s).take i).filter fun r => (r.cut T).full).map (RuleC.cut T)).length ≤ 64 := by
      rw [List.length_map]
      refine Nat.le_trans (List.length_filter_le _ _) ?_
      rw [List.length_take]; omega
    generalize (((rulesOf s).take i).filter fun r => (r.cut T).full).map (RuleC.cut T) = acc at e1 bl ⊢
    refine Ex.sub (ρ' := ([("rule", r.d), ("rules", .raw (.ref a)), ("table", ctxD 3 ch (lstS RuleC.d s) .none .none), ("glyphs", .dct (dI T))] : Rho)) sub.both ?_
    have ob := ok.b; have oi := ok.i; have oa := ok.a
    refine Ex.cons (ExS.unpack3 FA.h ?_)
    refine Ev.map [r.back, r.inside, r.ahead] (fun css => D.tup (css.map cov)) (fun css => some (D.tup ((css.map (tcov · T)).map cov))) ((a, .lst (acc.map RuleC.d)) :: μ)
      (EvI.of (Ev.tuple (EvL.cons (Ev.attr (Ev.loc rfl (OpA.inst r1 rfl rfl (EvL.cons (Ev.attr (Ev.loc rfl (OpA.inst r2 rfl rfl (EvL.cons (Ev.attr (Ev.loc rfl (OpA.inst r3 rfl rfl (EvL.nil ⟨by simp, OpI.tup FA.h ⟨rfl, rfl⟩⟩))))))))))))))) (by simp) (fun C css hcss => ?_) ?_
    · refine Ev.call (Ev.blt L.bl rfl ⟨_, rfl, Keep.typ, ?_⟩)
      have hl100 : css.length ≤ 100 := by
        simp only [List.mem_cons, List.not_mem_nil, or_false] at hcss
        rcases hcss with rfl | rfl | rfl <;> assumption
      refine EvL.cons (Ev.map css cov (fun gs => some (cov (tcov gs T))) _ (EvI.of (Ev.loc rfl (OpI.tup FA.h ⟨rfl, rfl⟩))) (by omega) (fun C' gs hgs => ?_) ?_)
      · refine Ev.call (Ev.fn L.glob ⟨_, rfl, L.f75.keep, ?_⟩)
        refine EvL.cons (Ev.loc rfl (EvL.cons (Ev.cell rfl (EvL.nil (OpC.pure (FA.le (by omega)) (turned_coverage L (ok.g gs ?_) ⟨rfl, rfl⟩))))))
        simp only [List.mem_cons, List.not_mem_nil, or_false] at hcss
        rcases hcss with rfl | rfl | rfl <;> simp [hgs]
      · rw [filterMap_some]
        refine EvL.nil (OpC.tupL (by rw [List.length_map]; omega) ⟨?_, rfl⟩)
        rw [List.map_map]; rfl
    · rw [filterMap_some]
      refine ⟨_, _, _, rfl, ?_⟩
      refine Ex.cons (ExS.ite (Te.cmp ?_))
      refine Ev.map ((r.cut T).back ++ (r.cut T).inside ++ (r.cut T).ahead) cov (fun gs => if decide (gs.length = 0) = true then some (cov gs) else none) ((a, .lst (acc.map RuleC.d)) :: μ) (EvI.of (Ev.bin (Ev.bin (Ev.loc rfl (Ev.loc rfl (Op2.addT (by simp; omega) ?_)))))) (by simp [RuleC.cut]; omega) (fun C gs hgs => ?_) ?_
      · refine Ev.loc rfl (Op2.addT (by simp; omega) (OpI.tup FA.h ⟨?_, rfl⟩))
        simp only [RuleC.cut, List.map_append]
      · refine Te.cmp (Ev.call (Ev.blt L.bl rfl ⟨_, rfl, Keep.blt, ?_⟩))
        have hgl : gs.length < 64 := by
          have hh : ∃ gs' ∈ r.back ++ r.inside ++ r.ahead, gs = tcov gs' T := by
            simp only [RuleC.cut, ← List.map_append] at hgs
            obtain ⟨gs', h1, h2⟩ := List.mem_map.mp hgs
            exact ⟨gs', h1, h2.symm⟩
          obtain ⟨gs', h1, rfl⟩ := hh
          have h2 := ok.g gs' h1
          have h3 : (tcov gs' T).length ≤ gs'.length := Nat.le_trans (ssrt_length _) (List.length_filterMap_le _ _)
          omega
        refine EvL.cons (Ev.attr (Ev.loc rfl (OpA.inst c59 rfl rfl (EvL.nil (OpC.lenT (by simp; omega) ?_)))))
        refine Ev.cint (Op2.eqI ⟨_, rfl, ?_⟩)
        rw [List.length_map]
        by_cases h0 : gs.length = 0
        · rw [h0]
          exact Ev.loc rfl ⟨by simp [h0], rfl⟩
        · have e0 : (((gs.length : Nat) : Int) == 0) = false := by simpa using h0
          rw [e0]
          exact ⟨by simp [h0], rfl⟩
      · rw [filterMap_if]
        refine Ev.list0 (Op2.eqNil FA.line FA.line64 ⟨_, rfl, ?_⟩)
        have hfu : (((r.cut T).back ++ (r.cut T).inside ++ (r.cut T).ahead).filter fun gs => decide (gs.length = 0)).isEmpty = (r.cut T).full := rfl
        rw [List.isEmpty_map, hfu]
        cases hf : (r.cut T).full with
        | false =>
          refine Ex.nil (Ex.nil ⟨Sub.refl.cons.cons.cons.cons, ?_⟩)
          rw [e1, hf]; simp
        | true =>
          refine Ex.cons (ExS.expr (Ev.meth (Ev.loc rfl ⟨_, _, Meth.append (.head _) rfl, Keep.blt, ?_⟩)))
          refine EvL.cons (Ev.call (Ev.fn L.glob ⟨_, rfl, keep_of_make L.m158, ?_⟩))
          refine EvL.cons (Ev.loc rfl (EvL.cons (Ev.loc rfl (EvL.cons (Ev.loc rfl (EvL.cons (Ev.attr (Ev.loc rfl (OpA.inst r4 rfl rfl ?_)))))))))
          refine EvL.nil (OpC.pure (FA.le (by omega)) (rule_new L (EvL.nil (OpC.append (by rw [List.length_map]; omega) ⟨rfl, ?_⟩))))
          refine Ex.nil (Ex.nil ⟨Sub.refl.cons.cons.cons.cons, ?_⟩)
          rw [e1, hf, if_pos rfl, List.map_append]; rfl
  · rintro ρ' μ' ⟨sub, rfl⟩
    refine Ex.nil ?_
    refine Ex.freezeHd (x := "rules") sub ?_
    refine Ex.cons (ExS.ret (Ev.call (Ev.fn L.glob ⟨_, rfl, keep_of_make L.m199, ?_⟩)))
    refine EvL.cons (Ev.gint g3 (EvL.cons (Ev.attr (Ev.loc rfl (OpA.inst a2 rfl rfl (EvL.cons (Ev.dict1 (Ev.cint ⟨0, rfl, Ev.loc rfl ?_⟩))))))))
    rw [List.length_map, List.take_length]
    exact EvL.nil (OpC.pure (FA.le (by omega)) (ctx_new3 L q))

theorem cut_context1 (L : Lay K) {ch : Bool} {s : List (Int × List RuleN)} {T : List (Int × Int)} (hs : WF s) (hr : ∀ r ∈ rulesOf s, r.ok) (q : Q (tab1 ch (cutG s T)).d μ) : Fn prog w K 6 (.ref 254) μ [(tab1 ch s).d, .dct (dI T)] Q := by
  rw [tab1_d]
  refine Fn.intro L.f254.at (names := ["table", "glyphs"]) (fun s vs _ _ _ _ _ _ _ _ hl => bind2 hl fun _ _ => rfl) (by decide) (by rfl) fun A' L' cd FA => ?_
  obtain ⟨_, _, _, _, _, _, a1, a2, a3, a4, a5⟩ := L.attr
  obtain ⟨t1, t2, t3, g1, g2, g3⟩ := L.nums
  refine Ex.cons (ExS.ite (Te.cmp (Ev.attr (Ev.loc rfl (OpA.inst a1 rfl rfl (Ev.gint g1 (Op2.eqI ⟨_, rfl, ?_⟩)))))))
  refine Ex.cons (ExS.ret (Ev.call (Ev.fn L.glob ⟨_, rfl, L.f237.keep, ?_⟩)))
  have h := cut_by_glyphs (prog := prog) (w := w) (Q := fun d _ => Q d μ) (μ := []) (T := T) L hs hr q
  rw [tab1_d] at h
  exact EvL.cons (Ev.loc rfl (EvL.cons (Ev.loc rfl (EvL.nil (OpC.pure (FA.le (by omega)) h)))))
theorem cut_context2 (L : Lay K) {ch : Bool} {s : List (Int × List RuleN)} {gs : List Int} {c0 c1 c2 : List (Int × Int)} {T : List (Int × Int)} (hs : WF s) (hr : ∀ p ∈ s, ∀ r ∈ p.2, RuleN.ok' r) (hg : gs.length < 64)
    (h0 : c0.length < 64) (h1 : c1.length < 64) (h2 : c2.length < 64)
    (q : Q (tab2 ch (cutC s gs [c0, c1, c2] T) (tcov gs T) ([c0, c1, c2].map fun l => tcls l T)).d μ) : Fn prog w K 6 (.ref 254) μ [(tab2 ch s gs [c0, c1, c2]).d, .dct (dI T)] Q := by
  rw [tab2_d]
  refine Fn.intro L.f254.at (names := ["table", "glyphs"]) (fun s vs _ _ _ _ _ _ _ _ hl => bind2 hl fun _ _ => rfl) (by decide) (by rfl) fun A' L' cd FA => ?_
  obtain ⟨_, _, _, _, _, _, a1, a2, a3, a4, a5⟩ := L.attr
  obtain ⟨t1, t2, t3, g1, g2, g3⟩ := L.nums
  refine Ex.cons (ExS.ite (Te.cmp (Ev.attr (Ev.loc rfl (OpA.inst a1 rfl rfl (Ev.gint g1 (Op2.eqI ⟨_, rfl, ?_⟩)))))))
  refine Ex.nil (Ex.cons (ExS.ite (Te.cmp (Ev.attr (Ev.loc rfl (OpA.inst a1 rfl rfl (Ev.gint g2 (Op2.eqI ⟨_, rfl, ?_⟩))))))))
  refine Ex.cons (ExS.ret (Ev.call (Ev.fn L.glob ⟨_, rfl, L.f242.keep, ?_⟩)))
  have h := cut_by_classes (prog := prog) (w := w) (Q := fun d _ => Q d μ) (μ := []) (T := T) L hs hr hg h0 h1 h2 q
  rw [tab2_d] at h
  exact EvL.cons (Ev.loc rfl (EvL.cons (Ev.loc rfl (EvL.nil (OpC.pure (FA.le (by omega)) h)))))
theorem cut_context3 (L : Lay K) {ch : Bool} {s : List (Int × List RuleC)} {T : List (Int × Int)} (hs : WF s) (hr : ∀ r ∈ rulesOf s, r.ok) (q : Q (tab3 ch (cutV s T)).d μ) : Fn prog w K 6 (.ref 254) μ [(tab3 ch s).d, .dct (dI T)] Q := by
  rw [tab3_d]
  refine Fn.intro L.f254.at (names := ["table", "glyphs"]) (fun s vs _ _ _ _ _ _ _ _ hl => bind2 hl fun _ _ => rfl) (by decide) (by rfl) fun A' L' cd FA => ?_
  obtain ⟨_, _, _, _, _, _, a1, a2, a3, a4, a5⟩ := L.attr
  obtain ⟨t1, t2, t3, g1, g2, g3⟩ := L.nums
  refine Ex.cons (ExS.ite (Te.cmp (Ev.attr (Ev.loc rfl (OpA.inst a1 rfl rfl (Ev.gint g1 (Op2.eqI ⟨_, rfl, ?_⟩)))))))
  refine Ex.nil (Ex.cons (ExS.ite (Te.cmp (Ev.attr (Ev.loc rfl (OpA.inst a1 rfl rfl (Ev.gint g2 (Op2.eqI ⟨_, rfl, ?_⟩))))))))
  refine Ex.nil (Ex.cons (ExS.ret (Ev.call (Ev.fn L.glob ⟨_, rfl, L.f247.keep, ?_⟩))))
  have h := cut_by_coverages (prog := prog) (w := w) (Q := fun d _ => Q d μ) (μ := []) (T := T) L hs hr q
  rw [tab3_d] at h
  exact EvL.cons (Ev.loc rfl (EvL.cons (Ev.loc rfl (EvL.nil (OpC.pure (FA.le (by omega)) h)))))

/- the rules that may begin at a glyph, of a table without any -/
theorem rules_at1 (L : Lay K) {ch : Bool} {g : Int} (q : Q (.lst []) μ) : Fn prog w K 3 (.ref 225) μ [(tab1 ch []).d, .int g] Q := by
  rw [tab1_d]
  refine Fn.intro L.f225.at (names := ["table", "glyph"]) (fun s vs _ _ _ _ _ _ _ _ hl => bind2 hl fun _ _ => rfl) (by decide) (by rfl) fun A' L' cd FA => ?_
  obtain ⟨_, _, _, _, _, _, a1, a2, a3, a4, a5⟩ := L.attr
  obtain ⟨t1, t2, t3, g1, g2, g3⟩ := L.nums
  refine Ex.cons (ExS.ite (Te.cmp (Ev.attr (Ev.cell rfl (OpA.inst a1 rfl rfl (Ev.gint g1 (Op2.eqI ⟨_, rfl, ?_⟩)))))))
  refine Ex.cons (ExS.asg (Ev.meth (Ev.attr (Ev.cell rfl (OpA.inst a3 rfl rfl ⟨_, _, Meth.get, Keep.blt, ?_⟩)))))
  refine EvL.cons (Ev.cell rfl (EvL.cons (Ev.list0 (EvL.nil (OpC.get ?_)))))
  refine Ex.nil (Ex.cons (ExS.ret (Ev.map ([] : List Int) D.int (fun _ => none) μ (EvI.of (Ev.loc rfl (OpI.lst FA.h ⟨rfl, rfl⟩))) (by simp) (fun C x hx => by simp at hx) ?_)))
  exact q
theorem rules_at2 (L : Lay K) {ch : Bool} {s : List (Int × List RuleN)} {cs : List (List (Int × Int))} {g : Int} (q : Q (.lst []) μ) : Fn prog w K 3 (.ref 225) μ [(tab2 ch s [] cs).d, .int g] Q := by
  rw [tab2_d]
  refine Fn.intro L.f225.at (names := ["table", "glyph"]) (fun s vs _ _ _ _ _ _ _ _ hl => bind2 hl fun _ _ => rfl) (by decide) (by rfl) fun A' L' cd FA => ?_
  obtain ⟨_, _, _, _, _, _, a1, a2, a3, a4, a5⟩ := L.attr
  obtain ⟨t1, t2, t3, g1, g2, g3⟩ := L.nums
  refine Ex.cons (ExS.ite (Te.cmp (Ev.attr (Ev.cell rfl (OpA.inst a1 rfl rfl (Ev.gint g1 (Op2.eqI ⟨_, rfl, ?_⟩)))))))
  refine Ex.cons (ExS.ite (Te.cmp (Ev.attr (Ev.cell rfl (OpA.inst a1 rfl rfl (Ev.gint g2 (Op2.eqI ⟨_, rfl, ?_⟩)))))))
  refine Ex.cons (ExS.asg (Ev.ite (Te.plain (Ev.methI (Ev.attr (Ev.cell rfl (OpA.inst a4 rfl rfl ⟨59, _, 49, rfl, L.meth.2.1, rfl, EvL.cons (Ev.cell rfl (EvL.nil (OpC.pure FA (has_nil L (OpT.bool ?_)))))⟩)))))))
  refine Ev.list0 ?_
  refine Ex.nil (Ex.nil (Ex.cons (ExS.ret (Ev.map ([] : List Int) D.int (fun _ => none) μ (EvI.of (Ev.loc rfl (OpI.lst FA.h ⟨rfl, rfl⟩))) (by simp) (fun C x hx => by simp at hx) ?_))))
  exact q
theorem rules_at3 (L : Lay K) {ch : Bool} {s : List (Int × List RuleC)} {g : Int} (hs : WF s) (he : rulesOf s = []) (q : Q (.lst []) μ) : Fn prog w K 3 (.ref 225) μ [(tab3 ch s).d, .int g] Q := by
  rw [tab3_d]
  refine Fn.intro L.f225.at (names := ["table", "glyph"]) (fun s vs _ _ _ _ _ _ _ _ hl => bind2 hl fun _ _ => rfl) (by decide) (by rfl) fun A' L' cd FA => ?_
  obtain ⟨_, _, _, _, _, _, a1, a2, a3, a4, a5⟩ := L.attr
  obtain ⟨t1, t2, t3, g1, g2, g3⟩ := L.nums
  refine Ex.cons (ExS.ite (Te.cmp (Ev.attr (Ev.cell rfl (OpA.inst a1 rfl rfl (Ev.gint g1 (Op2.eqI ⟨_, rfl, ?_⟩)))))))
  refine Ex.cons (ExS.ite (Te.cmp (Ev.attr (Ev.cell rfl (OpA.inst a1 rfl rfl (Ev.gint g2 (Op2.eqI ⟨_, rfl, ?_⟩)))))))
  refine Ex.cons (ExS.asgComp (EvI.of (Ev.methI (Ev.cell rfl ⟨199, _, 196, rfl, L.meth.2.2.2.2.2.2.2.2, rfl, EvL.nil (OpC.pure (FA.le (by omega)) (ctx_rules L hs (OpI.lst FA.h ?_)))⟩))))
  rw [he]
  refine ⟨by simp, fun _ out m => out = [] ∧ m = μ, ⟨rfl, rfl⟩, fun C i d out m hd => by simp at hd, ?_⟩
  rintro out m ⟨rfl, rfl⟩
  refine Ex.nil (Ex.nil (Ex.cons (ExS.ret (Ev.map ([] : List Int) D.int (fun _ => none) m (EvI.of (Ev.loc rfl (OpI.lst FA.h ⟨rfl, rfl⟩))) (by simp) (fun C x hx => by simp at hx) ?_))))
  exact q
end
end Pb
end
section
open PySem PySem.W PySem.Calls PyProof.Rows PySem.Spec
set_option Elab.async false
set_option linter.unusedVariables false
set_option maxRecDepth 100000
namespace Pb

theorem intBits_le {x : Int} (h1 : -(2 ^ 64) < x) (h2 : x < 2 ^ 64) : Builtin.Int.intBits x ≤ 64 := by
  unfold Builtin.Int.intBits
  split
  · omega
  · rename_i h
    have h0 : x.natAbs ≠ 0 := by simp at h; omega
    have : x.natAbs.log2 < 64 := (Nat.log2_lt h0).mpr (by omega)
    omega
theorem fmod_pos {a b : Int} (hb : 0 < b) : 0 ≤ a.fmod b ∧ a.fmod b < b := by
  rw [Int.fmod_eq_emod_of_nonneg _ (Int.le_of_lt hb)]
  exact ⟨Int.emod_nonneg _ (by omega), Int.emod_lt_of_pos _ hb⟩
theorem fdiv_pos {a b : Int} (ha : 0 ≤ a) (hb : 0 < b) : 0 ≤ a.fdiv b := by
  rw [Int.fdiv_eq_ediv_of_nonneg _ (Int.le_of_lt hb)]
  exact Int.ediv_nonneg ha (Int.le_of_lt hb)

/-- the pen after at most N draws -/
def PenD (N : Nat) (d : D) : Prop := ∃ (cells : List Int) (spot : Nat) (great : Int), d = .vec [.lst (iL cells), .int (spot : Int), .int great] ∧ spot ≤ N ∧ 0 ≤ great ∧ cells.length ≤ 63
theorem PenD.le {N M : Nat} {d : D} (h : PenD N d) (hm : N ≤ M) : PenD M d := let ⟨a, b, c, e, h1, h2, h3⟩ := h; ⟨a, b, c, e, Nat.le_trans h1 hm, h2, h3⟩

section
variable {K : Frag} {prog : Program} {w : World} {μ : Mu} {Q : D → Mu → Prop}

theorem law_draw (L : Lay K) {N : Nat} {many : Int} {p : Addr} {d : D} (hN : N ≤ 1000000) (hm : 0 < many) (hm' : many ≤ 1000) (hp : PenD N d)
    (q : ∀ digit d', 0 ≤ digit → digit < many → PenD (N + 1) d' → Q (.int digit) [(p, d')]) : Fn prog w K 1 (.ref 266) [(p, d)] [.raw (.ref p), .int many] Q := by
  obtain ⟨cells, spot, great, rfl, hs, hg, hc⟩ := hp
  refine Fn.intro L.f266.at (names := ["pen", "many"]) (fun s vs _ _ _ _ _ _ _ _ hl => bind2 hl fun _ _ => rfl) (by decide) (by rfl) fun A' L' cd FA => ?_
  refine Ex.cons (ExS.ite (Te.cmp (Ev.sub (Ev.loc rfl (Ev.cint (OpS.mu (.head _) (by decide) (by decide) rfl (Ev.cint (Op2.gtI ⟨_, rfl, ?_⟩))))))))
  by_cases hgr : 0 < great
  · rw [decide_eq_true hgr, if_pos rfl]
    refine Ex.cons (ExS.asg (Ev.bin (Ev.call (Ev.blt L.bl rfl ⟨_, rfl, Keep.typ, EvL.cons (Ev.sub (Ev.loc rfl (Ev.cint (OpS.mu (.head _) (by decide) (by decide) rfl (EvL.nil (OpC.int ?_))))))⟩))))
    refine Ev.loc rfl (Op2.modI (by omega) ?_)
    refine Ex.cons (ExS.setSub (Ev.bin (Ev.call (Ev.blt L.bl rfl ⟨_, rfl, Keep.typ, EvL.cons (Ev.sub (Ev.loc rfl (Ev.cint (OpS.mu (.head _) (by decide) (by decide) rfl (EvL.nil (OpC.int ?_))))))⟩))))
    refine Ev.loc rfl (Op2.fdivI (by omega) (by omega) ?_)
    refine Ev.loc rfl (Ev.cint (OpSet.vec (by decide) (by simp) (by decide) ?_))
    refine Ex.cons (ExS.ret (Ev.loc rfl ?_))
    exact q _ _ (fmod_pos hm).1 (fmod_pos hm).2 ⟨cells, spot, great.fdiv many, rfl, by omega, fdiv_pos hg hm, hc⟩
  · rw [decide_eq_false hgr, if_neg (by decide)]
    refine Ex.nil ?_
    refine Ex.cons (ExS.asg (Ev.sub (Ev.loc rfl (Ev.cint (OpS.mu (.head _) (by decide) (by decide) rfl ?_)))))
    refine Ex.cons (ExS.setSub (Ev.bin (Ev.loc rfl (Ev.cint (Op2.addI ?_)))))
    refine Ev.loc rfl (Ev.cint (OpSet.vec (by decide) (by simp) (by decide) ?_))
    refine Ex.cons (ExS.asg (Ev.cint ?_))
    refine Ex.cons (ExS.ite (Te.cmp (Ev.sub (Ev.loc rfl (Ev.cint (OpS.mu (.head _) (by decide) (by decide) rfl (Ev.list0 (Op2.neNil FA.line FA.line64 ⟨_, rfl, ?_⟩))))))))
    have hpen : ∀ gr : Int, 0 ≤ gr → PenD (N + 1) (.vec [.lst (iL cells), .int ((spot : Int) + 1), .int gr]) := fun gr h => ⟨cells, spot + 1, gr, rfl, by omega, h, hc⟩
    have rest : ∀ (cell : Int) (ρ : Rho), Sub ([("cell", .int cell), ("spot", .int (spot : Int)), ("pen", .raw (.ref p)), ("many", .int many)] : Rho) ρ →
        Ex ⟨prog, w, K, A', fenv "_law_draw" (fScope (topAt 25)) L' 266 cd⟩ ρ [(p, .vec [.lst (iL cells), .int ((spot : Int) + 1), .int great])] ((fBody (topAt 25)).drop 5) (RetQ Q) := fun cell ρ sub => by
      refine Ex.sub sub ?_
      refine Ex.cons (ExS.ite (Te.and (TeAnd.cons (Te.cmp (Ev.loc rfl (Ev.call (Ev.blt L.bl rfl ⟨_, rfl, Keep.blt, EvL.cons (Ev.sub (Ev.loc rfl (Ev.cint (OpS.mu (.head _) (by decide) (by decide) rfl (EvL.nil (OpC.lenL (by simp; omega) ?_))))))⟩)))))))
      refine Op2.ltI ⟨_, rfl, ?_⟩
      have tail : ∀ (ρ : Rho), Sub ([("cell", .int cell), ("spot", .int (spot : Int)), ("pen", .raw (.ref p)), ("many", .int many)] : Rho) ρ →
          Ex ⟨prog, w, K, A', fenv "_law_draw" (fScope (topAt 25)) L' 266 cd⟩ ρ [(p, .vec [.lst (iL cells), .int ((spot : Int) + 1), .int great])] ((fBody (topAt 25)).drop 6) (RetQ Q) := fun ρ sub => by
        refine Ex.sub sub ?_
        have f1 := fmod_pos (a := cell) (b := 2147483587) (by decide)
        have hs2 : (spot : Int) ≤ 1000000 := by omega
        refine Ex.cons (ExS.asg (Ev.bin (Ev.call (Ev.blt L.bl rfl ⟨_, rfl, Keep.typ, EvL.cons (Ev.bin (Ev.bin (Ev.bin (Ev.bin (Ev.call (Ev.blt L.bl rfl ⟨_, rfl, Keep.typ, EvL.cons (Ev.loc rfl (EvL.nil (OpC.int ?_)))⟩))))))⟩))))
        refine Ev.cint (Op2.modI (by decide) ?_)
        refine Ev.bin (Ev.cint (Ev.loc rfl (Op2.mulI (IntMulOk.of_left (intBits_le (by omega) (by omega))) ?_)))
        refine Op2.addI (Ev.cint (Op2.addI (Ev.cint (Op2.powI (by decide) ?_ (EvL.nil (OpC.int ?_))))))
        · have := intBits_le (x := cell.fmod 2147483587 + 60077 * (spot : Int) + 6007) (by omega) (by omega)
          omega
        refine Ev.cint (Op2.modI (by decide) ?_)
        generalize hz1 : ((cell.fmod 2147483587 + 60077 * (spot : Int) + 6007) ^ Int.toNat 5).fmod 2147483629 = z1
        have f2 : 0 ≤ z1 ∧ z1 < 2147483629 := by rw [← hz1]; exact fmod_pos (by decide)
        refine Ex.cons (ExS.asg (Ev.bin (Ev.call (Ev.blt L.bl rfl ⟨_, rfl, Keep.typ, EvL.cons (Ev.bin (Ev.bin (Ev.bin (Ev.bin (Ev.loc rfl (Ev.bin (Ev.bin (Ev.cint (Ev.loc rfl (Op2.mulI (IntMulOk.of_left (intBits_le (by omega) (by omega))) ?_))))))))))⟩))))
        refine Ev.cint (Op2.addI (Op2.mulI (IntMulOk.of_left (intBits_le (by omega) (by omega))) ?_))
        refine Ev.bin (Ev.bin (Ev.cint (Ev.loc rfl (Op2.mulI (IntMulOk.of_left (intBits_le (by omega) (by omega))) ?_))))
        refine Ev.loc rfl (Op2.mulI (IntMulOk.of_left (intBits_le (by omega) (by omega))) ?_)
        refine Op2.addI (Ev.cint (Op2.addI (Ev.cint (Op2.powI (by decide) ?_ (EvL.nil (OpC.int ?_))))))
        · have b1 : z1 * (2 * (spot : Int) + 3011) ≤ 2147483629 * 2003011 := Int.mul_le_mul (by omega) (by omega) (by omega) (by decide)
          have b0 : 0 ≤ z1 * (2 * (spot : Int) + 3011) := Int.mul_nonneg f2.1 (by omega)
          have b2 : 701 * (spot : Int) * (spot : Int) ≤ 701000000 * 1000000 := Int.mul_le_mul (by omega) (by omega) (by omega) (by decide)
          have b3 : 0 ≤ 701 * (spot : Int) * (spot : Int) := Int.mul_nonneg (by omega) (by omega)
          have := intBits_le (x := z1 * (2 * (spot : Int) + 3011) + 701 * (spot : Int) * (spot : Int) + 37) (by omega) (by omega)
          omega
        refine Ev.cint (Op2.modI (by decide) ?_)
        refine Ex.cons (ExS.ret (Ev.bin (Ev.call (Ev.blt L.bl rfl ⟨_, rfl, Keep.typ, EvL.cons (Ev.bin (Ev.loc rfl (Ev.cint (Op2.fdivI (by decide) (by decide) (EvL.nil (OpC.int ?_))))))⟩))))
        refine Ev.loc rfl (Op2.modI (by omega) ?_)
        exact q _ _ (fmod_pos hm).1 (fmod_pos hm).2 (hpen _ hg)
      cases hlt : decide ((spot : Int) < ((iL cells).length : Int)) with
      | false => exact Ex.nil (tail _ Sub.refl)
      | true =>
        refine TeAnd.cons (Te.cmp (Ev.call (Ev.blt L.bl rfl ⟨_, rfl, Keep.blt, EvL.cons (Ev.loc rfl (EvL.nil (OpC.abs ?_)))⟩)))
        refine Ev.bin (Ev.cint (Ev.cint (Op2.powI (by decide) (by decide) (Op2.geI ⟨_, rfl, ?_⟩))))
        generalize hab : (if cell < 0 then -cell else cell) = ab
        cases hge : decide ((10 : Int) ^ Int.toNat 18 ≤ ab) with
        | false => exact Ex.nil (tail _ Sub.refl)
        | true =>
          have hge' : (10 : Int) ^ Int.toNat 18 ≤ ab := of_decide_eq_true hge
          refine TeAnd.nil ?_
          refine Ex.cons (ExS.asg (Ev.bin (Ev.call (Ev.blt L.bl rfl ⟨_, rfl, Keep.blt, EvL.cons (Ev.loc rfl (EvL.nil (OpC.abs ?_)))⟩))))
          refine Ev.bin (Ev.cint (Ev.cint (Op2.powI (by decide) (by decide) (Op2.subI ?_))))
          rw [hab]
          refine Ex.cons (ExS.setSub (Ev.bin (Ev.call (Ev.blt L.bl rfl ⟨_, rfl, Keep.typ, EvL.cons (Ev.loc rfl (EvL.nil (OpC.int ?_)))⟩))))
          refine Ev.loc rfl (Op2.fdivI (by omega) (by omega) ?_)
          refine Ev.loc rfl (Ev.cint (OpSet.vec (by decide) (by simp) (by decide) ?_))
          refine Ex.cons (ExS.ret (Ev.bin (Ev.call (Ev.blt L.bl rfl ⟨_, rfl, Keep.typ, EvL.cons (Ev.loc rfl (EvL.nil (OpC.int ?_)))⟩))))
          refine Ev.loc rfl (Op2.modI (by omega) ?_)
          exact q _ _ (fmod_pos hm).1 (fmod_pos hm).2 (hpen _ (fdiv_pos (by omega) hm))
    cases cells with
    | nil => exact Ex.nil (rest 0 _ Sub.refl)
    | cons x xs =>
      refine Ex.cons (ExS.asg (Ev.sub (Ev.sub (Ev.loc rfl (Ev.cint (OpS.mu (.head _) (by decide) (by decide) rfl ?_))))))
      refine Ev.bin (Ev.call (Ev.blt L.bl rfl ⟨_, rfl, Keep.typ, EvL.cons (Ev.loc rfl (EvL.nil (OpC.int ?_)))⟩))
      refine Ev.call (Ev.blt L.bl rfl ⟨_, rfl, Keep.blt, EvL.cons (Ev.sub (Ev.loc rfl (Ev.cint (OpS.mu (.head _) (by decide) (by decide) rfl (EvL.nil (OpC.lenL (by simp; simp at hc; omega) ?_))))))⟩)
      have hpos : 0 < ((iL (x :: xs)).length : Int) := by simp <;> omega
      have hlen : ((iL (x :: xs)).length : Int) ≤ 63 := by simp at hc ⊢; omega
      have fm := fmod_pos (a := (spot : Int)) hpos
      refine Op2.modI (by omega) ?_
      generalize (spot : Int).fmod ((iL (x :: xs)).length : Int) = k at fm ⊢
      have hk : k.toNat < (x :: xs).length := by simp at fm ⊢; omega
      refine OpS.lst (d := .int (x :: xs)[k.toNat]) fm.1 (by omega) (by rw [List.getElem?_map, List.getElem?_eq_getElem hk]; rfl) ?_
      exact Ex.nil (rest _ _ (Sub.both (Sub.cons Sub.refl)))
end
end Pb
end
section
open PySem PySem.W PySem.Calls PyProof.Rows PySem.Spec
set_option Elab.async false
set_option linter.unusedVariables false
set_option maxRecDepth 100000
namespace Pb

/-- what a function that draws hands back -/
def PQ (p : Addr) (M : Nat) (R : D → Prop) (e : D) (μ' : Mu) : Prop := ∃ d', μ' = [(p, d')] ∧ PenD M d' ∧ R e
section
variable {K : Frag} {prog : Program} {w : World} {μ : Mu} {Q : D → Mu → Prop}

theorem OpC.pen {c : Cx} {n : Nat} {f : Value} {ds : List D} {p : Addr} {d : D} {M : Nat} {R : D → Prop} (F : Fit c.A n) (h : Fn c.prog c.w c.K n f [(p, d)] ds (PQ p M R)) (k : ∀ e d', PenD M d' → R e → Q e [(p, d')]) : OpC c [(p, d)] f ds Q :=
  OpC.fn (μ₁ := []) (μf := [(p, d)]) F (h.mono fun e μ' ⟨d', e1, h1, h2⟩ => by subst e1; exact k e d' h1 h2)
theorem OpC.pen2 {c : Cx} {n : Nat} {f : Value} {ds : List D} {p a : Addr} {d x : D} {M : Nat} {R : D → Prop} (F : Fit c.A n) (h : Fn c.prog c.w c.K n f [(p, d)] ds (PQ p M R)) (k : ∀ e d', PenD M d' → R e → Q e [(a, x), (p, d')]) : OpC c [(a, x), (p, d)] f ds Q :=
  OpC.fn (μ₁ := [(a, x)]) (μf := [(p, d)]) F (h.mono fun e μ' ⟨d', e1, h1, h2⟩ => by subst e1; exact k e d' h1 h2)

theorem draw (L : Lay K) {N : Nat} {many : Int} {p : Addr} {d : D} (hN : N ≤ 1000000) (hm : 0 < many) (hm' : many ≤ 1000) (hp : PenD N d) : Fn prog w K 1 (.ref 266) [(p, d)] [.raw (.ref p), .int many] (PQ p (N + 1) fun e => ∃ k, e = .int k ∧ 0 ≤ k ∧ k < many) :=
  law_draw L hN hm hm' hp fun k d' h1 h2 h3 => ⟨d', rfl, h3, k, rfl, h1, h2⟩

theorem law_pen (L : Lay K) {ns : List Int} (hn : ns.length ≤ 10000) : Fn prog w K 1 (.ref 259) [] [.vec (iL ns)] fun e μ' => ∃ p d', e = .raw (.ref p) ∧ μ' = [(p, d')] ∧ PenD 0 d' := by
  refine Fn.intro L.f259.at (names := ["script"]) (fun s vs _ _ _ _ _ _ _ _ hl => bind1 hl fun _ => rfl) (by decide) (by rfl) fun A' L' cd FA => ?_
  refine Ex.cons (ExS.ret (Ev.vec (EvL.cons (Ev.map (ns.take 63) D.int (fun k => some (D.int k)) [] (EvI.of (Ev.upto (Ev.loc rfl (Ev.cint ⟨iL ns, 63, rfl, rfl, by simpa using hn, ?_⟩)))) (by rw [List.length_take]; omega) (fun C k hk => ?_) ?_))))
  · exact OpI.lst FA.h ⟨by rw [List.map_take], rfl⟩
  · exact Ev.call (Ev.blt L.bl rfl ⟨_, rfl, Keep.typ, EvL.cons (Ev.loc rfl (EvL.nil (OpC.int ⟨rfl, rfl⟩)))⟩)
  · rw [filterMap_some]
    refine EvL.cons (Ev.cint (EvL.cons (Ev.cint (EvL.nil ⟨by simp, fun a => ⟨a, _, rfl, rfl, ns.take 63, 0, 0, rfl, Nat.le_refl _, by decide, by rw [List.length_take]; omega⟩⟩))))

theorem law_glyphs (L : Lay K) {N : Nat} {most : Int} {p : Addr} {d : D} (hN : N ≤ 900000) (hm : 0 < most) (hm' : most ≤ 6) (hp : PenD N d) : Fn prog w K 2 (.ref 271) [(p, d)] [.raw (.ref p), .int most] (PQ p (N + 20) fun e => ∃ gs : List Int, e = .lst (iL gs) ∧ gs.length ≤ 6) := by
  refine Fn.intro L.f271.at (names := ["pen", "most"]) (fun s vs _ _ _ _ _ _ _ _ hl => bind2 hl fun _ _ => rfl) (by decide) (by rfl) fun A' L' cd FA => ?_
  refine Ex.cons (ExS.asg (Ev.call (Ev.blt L.bl rfl ⟨_, rfl, Keep.blt, EvL.cons (Ev.call (Ev.blt L.bl rfl ⟨_, rfl, Keep.typ, EvL.cons (Ev.listcomp (EvI.of (Ev.call (Ev.blt L.bl rfl ⟨_, rfl, Keep.typ, EvL.cons (Ev.bin (Ev.cint (Ev.call (Ev.fn L.glob ⟨_, rfl, L.f266.keep, ?_⟩))))⟩))))⟩))⟩)))
  refine EvL.cons (Ev.cell rfl (EvL.cons (Ev.loc rfl (EvL.nil (OpC.pen FA (draw L (by omega) hm (by omega) hp) ?_)))))
  rintro e d1 hp1 ⟨k, rfl, k0, k1⟩
  refine Op2.addI (EvL.nil (OpC.rng1 (OpI.rng FA.h (by omega) ?_)))
  have hrl : (rngL 0 (1 + k)).length = (1 + k).toNat := by simp [rngL]
  refine ⟨by omega, fun i out μ' => ∃ (xs : List Int) (d' : D), out = iL xs ∧ xs.length = i ∧ μ' = [(p, d')] ∧ PenD (N + 1 + i) d', ⟨[], d1, rfl, rfl, rfl, hp1⟩, ?_, ?_⟩
  · rintro C i x out μ' hx ⟨xs, d', rfl, hl, rfl, hp'⟩
    have hi : i < (rngL 0 (1 + k)).length := by
      rcases Nat.lt_or_ge i (rngL 0 (1 + k)).length with h | h
      · exact h
      · rw [List.getElem?_eq_none h] at hx; cases hx
    refine Ev.call (Ev.fn L.glob ⟨_, rfl, L.f266.keep, EvL.cons (Ev.cell rfl (EvL.cons (Ev.cint (EvL.nil (OpC.pen FA (draw L (by omega) (by decide) (by decide) hp') ?_)))))⟩)
    rintro e d2 hp2 ⟨j, rfl, _, _⟩
    exact ⟨xs ++ [j], d2, by simp, by simp [hl], rfl, hp2.le (by omega)⟩
  · rintro out μ' ⟨xs, d', rfl, hl, rfl, hp'⟩
    rw [hrl] at hl hp'
    refine EvL.nil (OpC.setL FA.h (by omega) (EvL.nil (OpC.sortS FA.h (by omega) fun ns hnd hmem hst => ?_)))
    have hnl : ns.length ≤ 6 := by
      have h1 : ns = ssrt xs := ssrt_eq hnd hst hmem
      have h2 := ssrt_length xs
      rw [h1]; omega
    have hne : ns ≠ [] := fun e => by
      subst e
      cases xs with
      | nil => simp at hl; omega
      | cons x xs => exact absurd ((hmem x).mpr (.head _)) (by simp)
    obtain ⟨n0, rest, rfl⟩ := List.exists_cons_of_ne_nil hne
    refine Ex.cons (ExS.ret (Ev.bin (Ev.list (EvL.cons (Ev.sub (Ev.cell rfl (Ev.cint (OpS.lst (d := .int n0) (by decide) (by decide) rfl (EvL.nil ⟨by simp, ?_⟩)))))))))
    refine Ev.listcomp (EvI.of (Ev.from (Ev.cell rfl (Ev.cint ⟨iL (n0 :: rest), 1, rfl, rfl, by simp at hnl ⊢; omega, OpI.lst FA.h ?_⟩))))
    have hdr : (iL (n0 :: rest)).drop 1 = iL rest := rfl
    rw [hdr]
    have hrl' : (iL rest).length = rest.length := List.length_map ..
    have hr5 : rest.length ≤ 5 := by simp at hnl; omega
    refine ⟨by omega, fun i out μ' => ∃ (ys : List Int) (d'' : D), out = iL ys ∧ ys.length = i ∧ μ' = [(p, d'')] ∧ PenD (N + 10 + i) d'', ⟨[], d', rfl, rfl, rfl, hp'.le (by omega)⟩, ?_, ?_⟩
    · rintro C i x out μ' hx ⟨ys, d'', rfl, hl', rfl, hp''⟩
      obtain ⟨g, hg, rfl, hgm⟩ := take_map_at hx
      have hi : i < rest.length := by
        rcases Nat.lt_or_ge i rest.length with h | h
        · exact h
        · rw [List.getElem?_eq_none h] at hg; cases hg
      refine Ev.bin (Ev.loc rfl (Ev.bin (Ev.bin (Ev.cint (Ev.call (Ev.fn L.glob ⟨_, rfl, L.f266.keep, EvL.cons (Ev.cell rfl (EvL.cons (Ev.cint (EvL.nil (OpC.pen FA (draw L (by omega) (by decide) (by decide) hp'') ?_)))))⟩))))))
      rintro e d3 hp3 ⟨j, rfl, j0, j1⟩
      refine Op2.mulI (IntMulOk.of_left (intBits_le (by omega) (by omega))) ?_
      obtain ⟨lst, hlst⟩ : ∃ z, (n0 :: rest).getLast? = some z := by
        cases h : (n0 :: rest).getLast? with
        | none => exact absurd (List.getLast?_eq_none_iff.mp h) (by simp)
        | some z => exact ⟨z, rfl⟩
      refine Ev.cmp (Ev.loc rfl (Ev.sub (Ev.cell rfl (Ev.una (Ev.cint (Op1.negI (OpS.lstLast (d := .int lst) (by rw [List.getLast?_map, hlst]; rfl) (by simp; omega) (Op2.eqI (Op2.mulIB (Op2.addI ?_))))))))))
      exact ⟨ys ++ [g + 300 * j * if g = lst then 1 else 0], d3, by simp, by simp [hl'], rfl, hp3.le (by omega)⟩
    · rintro out μ' ⟨ys, d'', rfl, hl', rfl, hp''⟩
      refine Op2.addL (by simp; omega) ⟨d'', rfl, hp''.le (by omega), n0 :: ys, by simp, by simp; omega⟩
end
end Pb
end
section
open PySem PySem.W PySem.Calls PyProof.Rows PySem.Spec
set_option Elab.async false
set_option linter.unusedVariables false
set_option maxRecDepth 100000
namespace Pb

/-- dict(…) of pairs of ints -/
def dictZ (acc l : List (Int × Int)) : List (Int × Int) := l.foldl (fun acc p => sto acc p.1 p.2) acc
theorem dictOfL_dI : ∀ (l acc : List (Int × Int)), dictOfL (dI acc) (dI l) = dI (dictZ acc l)
  | [], acc => rfl
  | p :: l, acc => by
    show dictOfL (sto (dI acc) p.1 (.int p.2)) (dI l) = _
    rw [dI_sto, dictOfL_dI l]; rfl
theorem dictZ_nodup : ∀ (l acc : List (Int × Int)), (acc.map (·.1)).Nodup → ((dictZ acc l).map (·.1)).Nodup
  | [], acc, h => h
  | p :: l, acc, h => dictZ_nodup l _ (sto_nodup h)
theorem dictZ_length : ∀ (l acc : List (Int × Int)), (dictZ acc l).length ≤ acc.length + l.length
  | [], acc => Nat.le_refl _
  | p :: l, acc => by
    have h1 := dictZ_length l (sto acc p.1 p.2)
    have h2 := sto_length acc p.1 p.2
    show (dictZ (sto acc p.1 p.2) l).length ≤ _
    simp only [List.length_cons]; omega
theorem idx_lt {α : Type} {l : List α} {i : Nat} {x : α} (h : l[i]? = some x) : i < l.length := by
  rcases Nat.lt_or_ge i l.length with q | q
  · exact q
  · rw [List.getElem?_eq_none q] at h; cases h
theorem rngL_at {a b : Int} {i : Nat} {d : D} (h : (rngL a b)[i]? = some d) : d = .int (a + (i : Int)) ∧ i < (b - a).toNat := by
  have hi := idx_lt h
  simp only [rngL, List.length_map, List.length_range] at hi
  simp only [rngL, List.getElem?_map, List.getElem?_range hi, Option.map_some, Option.some.injEq] at h
  exact ⟨h.symm, hi⟩
theorem rngL_len {a b : Int} : (rngL a b).length = (b - a).toNat := by simp [rngL]
/-- what a part is, by the form -/
def PartOk (form : Int) (e : D) : Prop := if form = 3 then ∃ gs : List Int, e = cov gs ∧ gs.length ≤ 6 else ∃ k : Int, e = .int k ∧ 0 ≤ k ∧ k < if form = 1 then 9 else 4
/-- what a drawn rule is -/
def RuleOk (form : Int) (first : D) (e : D) : Prop := ∃ (b i a : List D) (acts : List (Int × Int)), e = ruleD b (first :: i) a (acts.map actD) ∧ b.length ≤ 2 ∧ i.length ≤ 2 ∧ a.length ≤ 2 ∧ (∀ x ∈ b, PartOk form x) ∧ (∀ x ∈ i, PartOk form x) ∧ (∀ x ∈ a, PartOk form x)
section
variable {K : Frag} {prog : Program} {w : World} {μ : Mu} {Q : D → Mu → Prop}

theorem law_classes (L : Lay K) {N : Nat} {p : Addr} {d : D} (hN : N ≤ 800000) (hp : PenD N d) : Fn prog w K 3 (.ref 276) [(p, d)] [.raw (.ref p)] (PQ p (N + 30) fun e => ∃ l : List (Int × Int), e = cdef l ∧ l.length ≤ 6 ∧ (l.map (·.1)).Nodup) := by
  refine Fn.intro L.f276.at (names := ["pen"]) (fun s vs _ _ _ _ _ _ _ _ hl => bind1 hl fun _ => rfl) (by decide) (by rfl) fun A' L' cd FA => ?_
  refine Ex.cons (ExS.ret (Ev.call (Ev.fn L.glob ⟨_, rfl, keep_of_make L.m118, ?_⟩)))
  refine EvL.cons (Ev.call (Ev.blt L.bl rfl ⟨_, rfl, Keep.typ, ?_⟩))
  refine EvL.cons (Ev.listcomp (EvI.of (Ev.call (Ev.fn L.glob ⟨_, rfl, L.f271.keep, ?_⟩))))
  refine EvL.cons (Ev.cell rfl (EvL.cons (Ev.cint (EvL.nil (OpC.pen FA (law_glyphs L (by omega) (by decide) (by decide) hp) ?_)))))
  rintro e d1 hp1 ⟨gs, rfl, hgl⟩
  refine OpI.lst FA.h ⟨by simp; omega, fun i out μ' => ∃ (l : List (Int × Int)) (d' : D), out = (dI l).map pairD ∧ l.length = i ∧ μ' = [(p, d')] ∧ PenD (N + 20 + i) d', ⟨[], d1, rfl, rfl, rfl, hp1⟩, ?_, ?_⟩
  · rintro C i x out μ' hx ⟨l, d', rfl, hl, rfl, hp'⟩
    obtain ⟨g, hg, rfl, hgm⟩ := take_map_at hx
    have hi := idx_lt hg
    refine Ev.tuple (EvL.cons (Ev.loc rfl (EvL.cons (Ev.bin (Ev.cint (Ev.call (Ev.fn L.glob ⟨_, rfl, L.f266.keep, ?_⟩)))))))
    refine EvL.cons (Ev.cell rfl (EvL.cons (Ev.cint (EvL.nil (OpC.pen (FA.le (by omega)) (draw L (by omega) (by decide) (by decide) hp') ?_)))))
    rintro e d2 hp2 ⟨j, rfl, _, _⟩
    refine Op2.addI (EvL.nil ⟨by simp, l ++ [(g, 1 + j)], d2, ?_, by simp [hl], rfl, hp2.le (by omega)⟩)
    simp [pairD]
  · rintro out μ' ⟨l, d', rfl, hl, rfl, hp'⟩
    have hl6 : l.length ≤ 6 := by rw [hl]; simp; exact hgl
    refine EvL.nil (OpC.dict FA.h (by simp; omega) (EvL.nil ?_))
    rw [show dictOfL [] (dI l) = dI (dictZ [] l) from dictOfL_dI l []]
    have hzl := dictZ_length l []
    refine OpC.pure FA (cdef_new L ⟨d', rfl, hp'.le (by omega), _, rfl, by simp at hzl; omega, dictZ_nodup _ _ List.nodup_nil⟩)

theorem law_part (L : Lay K) {N : Nat} {form : Int} {p : Addr} {d : D} (hN : N ≤ 800000) (hp : PenD N d) : Fn prog w K 3 (.ref 283) [(p, d)] [.raw (.ref p), .int form] (PQ p (N + 25) (PartOk form)) := by
  refine Fn.intro L.f283.at (names := ["pen", "form"]) (fun s vs _ _ _ _ _ _ _ _ hl => bind2 hl fun _ _ => rfl) (by decide) (by rfl) fun A' L' cd FA => ?_
  refine Ex.cons (ExS.ite (Te.cmp (Ev.loc rfl (Ev.cint (Op2.eqI ⟨_, rfl, ?_⟩)))))
  by_cases h3 : form = 3
  · rw [show (form == 3) = true by simpa using h3, if_pos rfl]
    refine Ex.cons (ExS.ret (Ev.call (Ev.fn L.glob ⟨_, rfl, keep_of_make L.m59, ?_⟩)))
    refine EvL.cons (Ev.call (Ev.blt L.bl rfl ⟨_, rfl, Keep.typ, ?_⟩))
    refine EvL.cons (Ev.call (Ev.fn L.glob ⟨_, rfl, L.f271.keep, ?_⟩))
    refine EvL.cons (Ev.loc rfl (EvL.cons (Ev.cint (EvL.nil (OpC.pen FA (law_glyphs L (by omega) (by decide) (by decide) hp) ?_)))))
    rintro e d1 hp1 ⟨gs, rfl, hgl⟩
    refine EvL.nil (OpC.tupL (by simp; omega) (EvL.nil (OpC.pure FA (cov_new L ⟨d1, rfl, hp1.le (by omega), ?_⟩))))
    rw [PartOk, if_pos h3]
    exact ⟨gs, rfl, hgl⟩
  · rw [show (form == 3) = false by simpa using h3, if_neg (by decide)]
    refine Ex.nil (Ex.cons (ExS.ret (Ev.call (Ev.fn L.glob ⟨_, rfl, L.f266.keep, ?_⟩))))
    refine EvL.cons (Ev.loc rfl (EvL.cons (Ev.ite (Te.cmp (Ev.loc rfl (Ev.cint (Op2.eqI ⟨_, rfl, ?_⟩)))))))
    by_cases h1 : form = 1
    · rw [show (form == 1) = true by simpa using h1, if_pos rfl]
      refine Ev.cint (EvL.nil (OpC.pen (FA.le (by omega)) (draw L (by omega) (by decide) (by decide) hp) ?_))
      rintro e d1 hp1 hk
      refine ⟨d1, rfl, hp1.le (by omega), ?_⟩
      rw [PartOk, if_neg h3, if_pos h1]
      exact hk
    · rw [show (form == 1) = false by simpa using h1, if_neg (by decide)]
      refine Ev.cint (EvL.nil (OpC.pen (FA.le (by omega)) (draw L (by omega) (by decide) (by decide) hp) ?_))
      rintro e d1 hp1 hk
      refine ⟨d1, rfl, hp1.le (by omega), ?_⟩
      rw [PartOk, if_neg h3, if_neg h1]
      exact hk

theorem law_rule (L : Lay K) {N : Nat} {form number : Int} {ch : Bool} {first : D} {p : Addr} {d : D} (hN : N ≤ 700000) (hp : PenD N d) : Fn prog w K 4 (.ref 288) [(p, d)] [.raw (.ref p), .int form, .bool ch, first, .int number] (PQ p (N + 200) (RuleOk form first)) := by
  refine Fn.intro L.f288.at (names := ["pen", "form", "is_chained", "first", "number"]) (fun s vs _ _ _ _ _ _ _ _ hl => bind5 hl fun _ _ _ _ _ => rfl) (by decide) (by rfl) fun A' L' cd FA => ?_
  have last : ∀ (b i a : List D) (d₁ : D), b.length ≤ 2 → i.length ≤ 2 → a.length ≤ 2 → (∀ x ∈ b, PartOk form x) → (∀ x ∈ i, PartOk form x) → (∀ x ∈ a, PartOk form x) → PenD (N + 180) d₁ →
      Ex ⟨prog, w, K, A', fenv "_law_rule" (fScope (topAt 29)) L' 288 cd⟩ ([("ahead", .tup a), ("inside", .tup (first :: i)), ("back", .tup b), ("pen", .raw (.ref p)), ("form", .int form), ("is_chained", .bool ch), ("first", first), ("number", .int number)] : Rho) [(p, d₁)] ((fBody (topAt 29)).drop 3) (RetQ (PQ p (N + 200) (RuleOk form first))) := fun b i a d₁ lb li la Pb Pi Pa hp₁ => by
    refine Ex.cons (ExS.asg (Ev.call (Ev.blt L.bl rfl ⟨_, rfl, Keep.typ, ?_⟩)))
    refine EvL.cons (Ev.listcomp (EvI.of (Ev.call (Ev.blt L.bl rfl ⟨_, rfl, Keep.typ, EvL.cons (Ev.call (Ev.fn L.glob ⟨_, rfl, L.f266.keep, ?_⟩))⟩))))
    refine EvL.cons (Ev.cell rfl (EvL.cons (Ev.cint (EvL.nil (OpC.pen (FA.le (by omega)) (draw L (by omega) (by decide) (by decide) hp₁) ?_)))))
    rintro e dq hpq ⟨k, rfl, k0, k1⟩
    refine EvL.nil (OpC.rng1 (OpI.rng FA.h (by omega) ?_))
    refine ⟨by rw [rngL_len]; omega, fun j out μ' => ∃ (acts : List (Int × Int)) (d' : D), out = acts.map actD ∧ acts.length = j ∧ μ' = [(p, d')] ∧ PenD (N + 181 + j) d', ⟨[], dq, rfl, rfl, rfl, hpq.le (by omega)⟩, ?_, ?_⟩
    · rintro C j x out μ' hx ⟨acts, d', rfl, hl, rfl, hp'⟩
      obtain ⟨rfl, hj⟩ := rngL_at hx
      refine Ev.tuple (EvL.cons (Ev.call (Ev.fn L.glob ⟨_, rfl, L.f266.keep, EvL.cons (Ev.cell rfl (EvL.cons (Ev.call (Ev.blt L.bl rfl ⟨_, rfl, Keep.blt, EvL.cons (Ev.cell rfl (EvL.nil (OpC.lenT (by simp; omega) ?_)))⟩))))⟩)))
      refine EvL.nil (OpC.pen (FA.le (by omega)) (draw L (by omega) (by simp only [List.length_cons]; omega) (by simp only [List.length_cons]; omega) hp') ?_)
      rintro e d2 hp2 ⟨z, rfl, _, _⟩
      refine EvL.cons (Ev.bin (Ev.bin (Ev.cint (Ev.cell rfl (Op2.mulI (IntMulOk.of_left (intBits_le (by decide) (by decide))) ?_)))))
      refine Ev.loc rfl (Op2.addI (EvL.nil ⟨by simp, acts ++ [(z, 10 * number + (0 + (j : Int)))], d2, by simp [actD], by simp [hl], rfl, hp2.le (by omega)⟩))
    · rintro out μ' ⟨acts, d', rfl, hl, rfl, hp'⟩
      rw [rngL_len] at hl hp'
      refine EvL.nil (OpC.tupL (by simp; omega) ?_)
      refine Ex.cons (ExS.ret (Ev.call (Ev.fn L.glob ⟨_, rfl, keep_of_make L.m158, ?_⟩)))
      refine EvL.cons (Ev.loc rfl (EvL.cons (Ev.cell rfl (EvL.cons (Ev.loc rfl (EvL.cons (Ev.loc rfl ?_)))))))
      refine EvL.nil (OpC.pure (FA.le (by omega)) (rule_new L ⟨d', rfl, hp'.le (by omega), b, i, a, acts, rfl, lb, li, la, Pb, Pi, Pa⟩))
  have mid : ∀ (b : List D) (d₁ : D), b.length ≤ 2 → (∀ x ∈ b, PartOk form x) → PenD (N + 60) d₁ →
      Ex ⟨prog, w, K, A', fenv "_law_rule" (fScope (topAt 29)) L' 288 cd⟩ ([("back", .tup b), ("pen", .raw (.ref p)), ("form", .int form), ("is_chained", .bool ch), ("first", first), ("number", .int number)] : Rho) [(p, d₁)] ((fBody (topAt 29)).drop 1) (RetQ (PQ p (N + 200) (RuleOk form first))) := fun b d₁ lb Pb hp₁ => by
    refine Ex.cons (ExS.asg (Ev.bin (Ev.tuple (EvL.cons (Ev.loc rfl (EvL.nil ⟨by simp, Ev.call (Ev.blt L.bl rfl ⟨_, rfl, Keep.typ, ?_⟩)⟩))))))
    refine EvL.cons (Ev.listcomp (EvI.of (Ev.call (Ev.blt L.bl rfl ⟨_, rfl, Keep.typ, EvL.cons (Ev.call (Ev.fn L.glob ⟨_, rfl, L.f266.keep, ?_⟩))⟩))))
    refine EvL.cons (Ev.cell rfl (EvL.cons (Ev.cint (EvL.nil (OpC.pen (FA.le (by omega)) (draw L (by omega) (by decide) (by decide) hp₁) ?_)))))
    rintro e dq hpq ⟨k, rfl, k0, k1⟩
    refine EvL.nil (OpC.rng1 (OpI.rng FA.h (by omega) ?_))
    refine ⟨by rw [rngL_len]; omega, fun i out μ' => ∃ d' : D, out.length = i ∧ (∀ x ∈ out, PartOk form x) ∧ μ' = [(p, d')] ∧ PenD (N + 60 + 1 + 25 * i) d', ⟨dq, rfl, by simp, rfl, hpq⟩, ?_, ?_⟩
    · rintro C i x out μ' hx ⟨d', hl, hP, rfl, hp'⟩
      have hi := (rngL_at hx).2
      refine Ev.call (Ev.fn L.glob ⟨_, rfl, L.f283.keep, EvL.cons (Ev.cell rfl (EvL.cons (Ev.cell rfl (EvL.nil (OpC.pen FA (law_part L (by omega) hp') ?_)))))⟩)
      intro e d2 hp2 hP2
      refine ⟨d2, by simp [hl], ?_, rfl, hp2.le (by omega)⟩
      intro y hy
      rcases List.mem_append.mp hy with h | h
      · exact hP y h
      · rw [List.mem_singleton.mp h]; exact hP2
    · rintro li μ' ⟨di, hli, hPi, rfl, hpi'⟩
      rw [rngL_len] at hli hpi'
      have hli2 : li.length ≤ 2 := by omega
      have hpi : PenD (N + 60 + 60) di := hpi'.le (by omega)
      refine EvL.nil (OpC.tupL (by omega) (Op2.addT (by simp; omega) ?_))
      rw [show [first] ++ li = first :: li from rfl]
      refine Ex.cons (ExS.asg (Ev.ite (Te.plain (Ev.loc rfl (OpT.bool ?_)))))
      cases ch with
      | false => exact Ev.tuple (EvL.nil ⟨by simp, last b li [] di lb hli2 (by simp) Pb hPi (by simp) (hpi.le (by omega))⟩)
      | true =>
        rw [if_pos rfl]
        refine Ev.call (Ev.blt L.bl rfl ⟨_, rfl, Keep.typ, ?_⟩)
        refine EvL.cons (Ev.listcomp (EvI.of (Ev.call (Ev.blt L.bl rfl ⟨_, rfl, Keep.typ, EvL.cons (Ev.call (Ev.fn L.glob ⟨_, rfl, L.f266.keep, ?_⟩))⟩))))
        refine EvL.cons (Ev.cell rfl (EvL.cons (Ev.cint (EvL.nil (OpC.pen (FA.le (by omega)) (draw L (by omega) (by decide) (by decide) hpi) ?_)))))
        rintro e dq hpq ⟨k, rfl, k0, k1⟩
        refine EvL.nil (OpC.rng1 (OpI.rng FA.h (by omega) ?_))
        refine ⟨by rw [rngL_len]; omega, fun i out μ' => ∃ d' : D, out.length = i ∧ (∀ x ∈ out, PartOk form x) ∧ μ' = [(p, d')] ∧ PenD (N + 60 + 60 + 1 + 25 * i) d', ⟨dq, rfl, by simp, rfl, hpq⟩, ?_, ?_⟩
        · rintro C i x out μ' hx ⟨d', hl, hP, rfl, hp'⟩
          have hi := (rngL_at hx).2
          refine Ev.call (Ev.fn L.glob ⟨_, rfl, L.f283.keep, EvL.cons (Ev.cell rfl (EvL.cons (Ev.cell rfl (EvL.nil (OpC.pen FA (law_part L (by omega) hp') ?_)))))⟩)
          intro e d2 hp2 hP2
          refine ⟨d2, by simp [hl], ?_, rfl, hp2.le (by omega)⟩
          intro y hy
          rcases List.mem_append.mp hy with h | h
          · exact hP y h
          · rw [List.mem_singleton.mp h]; exact hP2
        · rintro la μ' ⟨da, hla, hPa, rfl, hpa'⟩
          rw [rngL_len] at hla hpa'
          have hla2 : la.length ≤ 2 := by omega
          have hpa : PenD (N + 60 + 60 + 60) da := hpa'.le (by omega)
          exact EvL.nil (OpC.tupL (by omega) (last b li la da lb hli2 hla2 Pb hPi hPa (hpa.le (by omega))))
  refine Ex.cons (ExS.asg (Ev.ite (Te.plain (Ev.loc rfl (OpT.bool ?_)))))
  cases ch with
  | false => exact Ev.tuple (EvL.nil ⟨by simp, mid [] d (by simp) (by simp) (hp.le (by omega))⟩)
  | true =>
    rw [if_pos rfl]
    refine Ev.call (Ev.blt L.bl rfl ⟨_, rfl, Keep.typ, ?_⟩)
    refine EvL.cons (Ev.listcomp (EvI.of (Ev.call (Ev.blt L.bl rfl ⟨_, rfl, Keep.typ, EvL.cons (Ev.call (Ev.fn L.glob ⟨_, rfl, L.f266.keep, ?_⟩))⟩))))
    refine EvL.cons (Ev.cell rfl (EvL.cons (Ev.cint (EvL.nil (OpC.pen (FA.le (by omega)) (draw L (by omega) (by decide) (by decide) hp) ?_)))))
    rintro e dq hpq ⟨k, rfl, k0, k1⟩
    refine EvL.nil (OpC.rng1 (OpI.rng FA.h (by omega) ?_))
    refine ⟨by rw [rngL_len]; omega, fun i out μ' => ∃ d' : D, out.length = i ∧ (∀ x ∈ out, PartOk form x) ∧ μ' = [(p, d')] ∧ PenD (N + 1 + 25 * i) d', ⟨dq, rfl, by simp, rfl, hpq⟩, ?_, ?_⟩
    · rintro C i x out μ' hx ⟨d', hl, hP, rfl, hp'⟩
      have hi := (rngL_at hx).2
      refine Ev.call (Ev.fn L.glob ⟨_, rfl, L.f283.keep, EvL.cons (Ev.cell rfl (EvL.cons (Ev.cell rfl (EvL.nil (OpC.pen FA (law_part L (by omega) hp') ?_)))))⟩)
      intro e d2 hp2 hP2
      refine ⟨d2, by simp [hl], ?_, rfl, hp2.le (by omega)⟩
      intro y hy
      rcases List.mem_append.mp hy with h | h
      · exact hP y h
      · rw [List.mem_singleton.mp h]; exact hP2
    · rintro lb μ' ⟨db, hlb, hPb, rfl, hpb'⟩
      rw [rngL_len] at hlb hpb'
      have hlb2 : lb.length ≤ 2 := by omega
      have hpb : PenD (N + 60) db := hpb'.le (by omega)
      exact EvL.nil (OpC.tupL (by omega) (mid lb db hlb2 hPb hpb))
end
end Pb
end
section
open PySem PySem.W PySem.Calls PyProof.Rows PySem.Spec
set_option Elab.async false
set_option linter.unusedVariables false
set_option maxRecDepth 100000
set_option maxHeartbeats 2000000
namespace Pb

theorem cnt_map {α : Type} {k : Int} {v : List α} : ∀ {l : List (Int × List α)}, (l.map (·.1)).Nodup → cnt (l.map fun kv => if kv.1 = k then (kv.1, v) else kv) + (atK l k).length = cnt l + (if k ∈ l.map (·.1) then v.length else 0)
  | [], _ => by simp [cnt, atK]
  | (a, b) :: l, h => by
    rw [List.map_cons, List.nodup_cons] at h
    have ih := cnt_map (k := k) (v := v) h.2
    unfold cnt atK at ih ⊢
    simp only [List.map_cons, List.sum_cons, lookup_cons_if]
    by_cases e : a = k
    · subst e
      have hn : l.lookup a = none := by
        cases q : l.lookup a with
        | none => rfl
        | some x => exact absurd (List.mem_map_of_mem (f := (·.1)) (mem_lookup' q)) h.1
      rw [hn] at ih
      rw [if_neg h.1] at ih
      simp at ih ⊢
      omega
    · have e' : ¬ k = a := fun q => e q.symm
      simp only [if_neg e, if_neg e'] at ih ⊢
      simp only [List.mem_cons, e', false_or] at ih ⊢
      omega
/-- one more rule under a key -/
theorem cnt_put {α : Type} {l : List (Int × List α)} {k : Int} {r : α} (h : (l.map (·.1)).Nodup) : cnt (sto l k (atK l k ++ [r])) = cnt l + 1 := by
  unfold sto
  split
  · rename_i q
    have hm : k ∈ l.map (·.1) := by
      obtain ⟨p, hp, e⟩ := List.any_eq_true.mp q
      exact List.mem_map.mpr ⟨p, hp, by simpa using e⟩
    have := cnt_map (k := k) (v := atK l k ++ [r]) h
    rw [if_pos hm] at this
    simp at this
    omega
  · rename_i q
    have hk : l.lookup k = none := by
      have := lookup_isSome_iff (l := l) (k := k)
      rw [Bool.not_eq_true] at q
      rw [q] at this
      cases e : l.lookup k with
      | none => rfl
      | some x => rw [e] at this; cases this
    unfold cnt atK
    rw [hk]
    simp
theorem mem_sto {α : Type} {l : List (Int × α)} {k : Int} {v : α} {p : Int × α} (h : p ∈ sto l k v) : p = (k, v) ∨ p ∈ l := by
  unfold sto at h
  split at h
  · obtain ⟨q, hq, rfl⟩ := List.mem_map.mp h
    by_cases e : q.1 = k
    · rw [if_pos e, e]; exact .inl rfl
    · rw [if_neg e]; exact .inr hq
  · rcases List.mem_append.mp h with h | h
    · exact .inr h
    · exact .inl (List.mem_singleton.mp h)
theorem atK_mem {α : Type} {l : List (Int × List α)} {k : Int} {r : α} (h : r ∈ atK l k) : ∃ p ∈ l, p.1 = k ∧ r ∈ p.2 := by
  unfold atK at h
  cases e : l.lookup k with
  | none => rw [e] at h; simp at h
  | some x => rw [e] at h; exact ⟨(k, x), mem_lookup' e, rfl, h⟩

structure RuleN.small (m : Int) (r : RuleN) : Prop where
  b : r.back.length ≤ 2
  i : r.inside.length ≤ 3
  a : r.ahead.length ≤ 2
  v : ∀ x ∈ r.back ++ r.inside ++ r.ahead, 0 ≤ x ∧ x < m
structure RuleC.small (r : RuleC) : Prop where
  b : r.back.length ≤ 2
  i : r.inside.length ≤ 3
  a : r.ahead.length ≤ 2
  ne : r.inside ≠ []
  v : ∀ x ∈ r.back ++ r.inside ++ r.ahead, x.length ≤ 6
structure SetsOk (m : Int) (n : Nat) (s : List (Int × List RuleN)) : Prop where
  nd : (s.map (·.1)).Nodup
  len : s.length ≤ n
  cnt : Pb.cnt s ≤ n
  r : ∀ p ∈ s, ∀ r ∈ p.2, r.small m ∧ r.inside.head? = some p.1
theorem ints_of {form : Int} (h3 : form ≠ 3) : ∀ {ds : List D}, (∀ x ∈ ds, PartOk form x) → ∃ ks : List Int, ds = iL ks ∧ ∀ k ∈ ks, 0 ≤ k ∧ k < if form = 1 then 9 else 4
  | [], _ => ⟨[], rfl, by simp⟩
  | d :: ds, h => by
    obtain ⟨ks, rfl, hk⟩ := ints_of h3 (fun x hx => h x (.tail _ hx))
    have := h d (.head _)
    rw [PartOk, if_neg h3] at this
    obtain ⟨k, rfl, k0, k1⟩ := this
    refine ⟨k :: ks, rfl, fun x hx => ?_⟩
    rcases List.mem_cons.mp hx with rfl | hx
    · exact ⟨k0, k1⟩
    · exact hk x hx
theorem covs_of : ∀ {ds : List D}, (∀ x ∈ ds, PartOk 3 x) → ∃ ks : List (List Int), ds = ks.map cov ∧ ∀ k ∈ ks, k.length ≤ 6
  | [], _ => ⟨[], rfl, by simp⟩
  | d :: ds, h => by
    obtain ⟨ks, rfl, hk⟩ := covs_of (fun x hx => h x (.tail _ hx))
    have := h d (.head _)
    rw [PartOk, if_pos rfl] at this
    obtain ⟨gs, rfl, hg⟩ := this
    refine ⟨gs :: ks, rfl, fun x hx => ?_⟩
    rcases List.mem_cons.mp hx with rfl | hx
    · exact hg
    · exact hk x hx
theorem RuleOk.ints {form k : Int} {e : D} (h3 : form ≠ 3) (h : RuleOk form (.int k) e) (hk : 0 ≤ k ∧ k < if form = 1 then 9 else 4) : ∃ r : RuleN, e = r.d ∧ r.small (if form = 1 then 9 else 4) ∧ r.inside.head? = some k := by
  obtain ⟨b, i, a, acts, rfl, lb, li, la, Pb, Pi, Pa⟩ := h
  obtain ⟨bs, rfl, hb⟩ := ints_of h3 Pb
  obtain ⟨is, rfl, hi⟩ := ints_of h3 Pi
  obtain ⟨as, rfl, ha⟩ := ints_of h3 Pa
  simp only [List.length_map] at lb li la
  refine ⟨⟨bs, k :: is, as, acts⟩, rfl, ⟨lb, by simpa using li, la, fun x hx => ?_⟩, rfl⟩
  rcases List.mem_append.mp hx with hx | hx
  · rcases List.mem_append.mp hx with hx | hx
    · exact hb x hx
    · rcases List.mem_cons.mp hx with rfl | hx
      · exact hk
      · exact hi x hx
  · exact ha x hx
theorem RuleOk.covs {e first : D} (h : RuleOk 3 first e) (hk : PartOk 3 first) : ∃ r : RuleC, e = r.d ∧ r.small := by
  obtain ⟨b, i, a, acts, rfl, lb, li, la, Pb, Pi, Pa⟩ := h
  obtain ⟨bs, rfl, hb⟩ := covs_of Pb
  obtain ⟨is, rfl, hi⟩ := covs_of Pi
  obtain ⟨as, rfl, ha⟩ := covs_of Pa
  rw [PartOk, if_pos rfl] at hk
  obtain ⟨gs, rfl, hg⟩ := hk
  simp only [List.length_map] at lb li la
  refine ⟨⟨bs, gs :: is, as, acts⟩, rfl, ⟨lb, by simpa using li, la, by simp, fun x hx => ?_⟩⟩
  rcases List.mem_append.mp hx with hx | hx
  · rcases List.mem_append.mp hx with hx | hx
    · exact hb x hx
    · rcases List.mem_cons.mp hx with rfl | hx
      · exact hg
      · exact hi x hx
  · exact ha x hx
theorem SetsOk.put {m : Int} {n : Nat} {s : List (Int × List RuleN)} {k : Int} {r : RuleN} (h : SetsOk m n s) (h1 : r.small m) (h2 : r.inside.head? = some k) : SetsOk m (n + 1) (sto s k (atK s k ++ [r])) := by
  refine ⟨sto_nodup h.nd, Nat.le_trans (sto_length _ _ _) (by have := h.len; omega), by rw [cnt_put h.nd]; have := h.cnt; omega, fun p hp x hx => ?_⟩
  rcases mem_sto hp with rfl | hp
  · rcases List.mem_append.mp hx with hx | hx
    · obtain ⟨q, hq, rfl, hr⟩ := atK_mem hx
      exact h.r q hq x hr
    · rw [List.mem_singleton.mp hx]; exact ⟨h1, h2⟩
  · exact h.r p hp x hx
theorem SetsOk.le {m : Int} {n n' : Nat} {s : List (Int × List RuleN)} (h : SetsOk m n s) (hn : n ≤ n') : SetsOk m n' s := ⟨h.nd, Nat.le_trans h.len hn, Nat.le_trans h.cnt hn, h.r⟩
def CdOk (l : List (Int × Int)) : Prop := l.length ≤ 6 ∧ (l.map (·.1)).Nodup
inductive TabOk (e : D) : Prop where
  | one (ch : Bool) (s : List (Int × List RuleN)) (h : e = (tab1 ch s).d) (ok : SetsOk 9 4 s)
  | two (ch : Bool) (s : List (Int × List RuleN)) (gs : List Int) (c0 c1 c2 : List (Int × Int)) (h : e = (tab2 ch s gs [c0, c1, c2]).d) (ok : SetsOk 4 4 s) (g : gs.length ≤ 6) (h0 : CdOk c0) (h1 : CdOk c1) (h2 : CdOk c2)
  | three (ch : Bool) (r : RuleC) (h : e = (tab3 ch [(0, [r])]).d) (ok : r.small)
section
variable {K : Frag} {prog : Program} {w : World} {μ : Mu} {Q : D → Mu → Prop}

theorem ite_cint {c : Cx} {ρ : Rho} {b : Bool} {i j : Int} {k1 k2 : Nat} {p1 p2 : Pos} (h : Q (.int (if b = true then i else j)) μ) : if b = true then Ev c ρ μ (.Constant (.int i) k1 p1) Q else Ev c ρ μ (.Constant (.int j) k2 p2) Q := by
  cases b with
  | true => exact Ev.cint h
  | false => exact Ev.cint h
theorem law_table (L : Lay K) {p : Addr} {d : D} (hp : PenD 0 d) : Fn prog w K 5 (.ref 295) [(p, d)] [.raw (.ref p)] (PQ p 2000 TabOk) := by
  refine Fn.intro L.f295.at (names := ["pen"]) (fun s vs _ _ _ _ _ _ _ _ hl => bind1 hl fun _ => rfl) (by decide) (by rfl) fun A' L' cd FA => ?_
  refine Ex.cons (ExS.asg (Ev.sub (Ev.list (EvL.cons (Ev.cint (EvL.cons (Ev.cint (EvL.cons (Ev.cint (EvL.nil ⟨by simp, ?_⟩))))))))))
  refine Ev.call (Ev.fn L.glob ⟨_, rfl, L.f266.keep, EvL.cons (Ev.loc rfl (EvL.cons (Ev.cint (EvL.nil (OpC.pen (FA.le (by omega)) (draw L (by omega) (by decide) (by decide) hp) ?_)))))⟩)
  rintro e d1 hp1 ⟨k, rfl, k0, k1⟩
  have rest : ∀ form : Int, form = 1 ∨ form = 2 ∨ form = 3 → Ex ⟨prog, w, K, A', fenv "_law_table" (fScope (topAt 30)) L' 295 cd⟩ ([("form", .int form), ("pen", .raw (.ref p))] : Rho) [(p, d1)] ((fBody (topAt 30)).drop 1) (RetQ (PQ p 2000 TabOk)) := fun form hform => by
    refine Ex.cons (ExS.asg (Ev.cmp (Ev.call (Ev.fn L.glob ⟨_, rfl, L.f266.keep, EvL.cons (Ev.loc rfl (EvL.cons (Ev.cint (EvL.nil (OpC.pen (FA.le (by omega)) (draw L (by omega) (by decide) (by decide) hp1) ?_)))))⟩))))
    rintro e d2 hp2 ⟨c, rfl, _, _⟩
    refine Ev.cint (Op2.eqI ?_)
    generalize (c == 1) = ch
    refine Ex.cons (ExS.ite (Te.cmp (Ev.loc rfl (Ev.cint (Op2.eqI ⟨_, rfl, ?_⟩)))))
    by_cases h3 : form = 3
    · subst h3
      rw [show ((3 : Int) == 3) = true by rfl, if_pos rfl]
      refine Ex.cons (ExS.asg (Ev.call (Ev.fn L.glob ⟨_, rfl, L.f288.keep, ?_⟩)))
      refine EvL.cons (Ev.loc rfl (EvL.cons (Ev.cint (EvL.cons (Ev.loc rfl (EvL.cons (Ev.call (Ev.fn L.glob ⟨_, rfl, L.f283.keep, ?_⟩))))))))
      refine EvL.cons (Ev.loc rfl (EvL.cons (Ev.cint (EvL.nil (OpC.pen (FA.le (by omega)) (law_part L (by omega) hp2) ?_)))))
      intro first d3 hp3 hf
      refine EvL.cons (Ev.cint (EvL.nil (OpC.pen FA (law_rule L (by omega) hp3) ?_)))
      intro e d4 hp4 hr
      obtain ⟨r, rfl, hs⟩ := hr.covs hf
      refine Ex.cons (ExS.ret (Ev.call (Ev.fn L.glob ⟨_, rfl, keep_of_make L.m199, ?_⟩)))
      refine EvL.cons (Ev.cint (EvL.cons (Ev.loc rfl (EvL.cons (Ev.dict1 (Ev.cint ⟨0, rfl, Ev.list (EvL.cons (Ev.loc rfl (EvL.nil ⟨by simp, ?_⟩)))⟩))))))
      refine EvL.nil (OpC.pure (FA.le (by omega)) (ctx_new3 L ⟨d4, rfl, hp4.le (by omega), ?_⟩))
      exact .three ch r (by rw [tab3_d]; rfl) hs
    · rw [show (form == 3) = false by simpa using h3, if_neg (by decide)]
      refine Ex.nil (Ex.cons (ExS.asg (Ev.newD fun a => ?_)))
      refine Ex.cons (ExS.for (EvI.of (Ev.call (Ev.blt L.bl rfl ⟨_, rfl, Keep.typ, EvL.cons (Ev.bin (Ev.cint (Ev.call (Ev.fn L.glob ⟨_, rfl, L.f266.keep, ?_⟩))))⟩))))
      refine EvL.cons (Ev.loc rfl (EvL.cons (Ev.cint (EvL.nil (OpC.pen2 (FA.le (by omega)) (draw L (by omega) (by decide) (by decide) hp2) ?_)))))
      rintro e d3 hp3 ⟨k, rfl, k0, k1⟩
      refine Op2.addI (EvL.nil (OpC.rng1 (OpI.rng FA.h (by omega) ?_)))
      refine ⟨fun i ρ' μ' => Sub ([("sets", .raw (.ref a)), ("is_chained", .bool ch), ("form", .int form), ("pen", .raw (.ref p))] : Rho) ρ' ∧ ∃ s d', μ' = [(a, .dct (lstS RuleN.d s)), (p, d')] ∧ SetsOk (if form = 1 then 9 else 4) i s ∧ PenD (10 + 210 * i) d',
        ⟨Sub.refl, [], d3, rfl, ⟨List.nodup_nil, Nat.le_refl _, Nat.le_refl _, by simp⟩, hp3.le (by omega)⟩, ?_, ?_⟩
      · rintro i x ρ' μ' hx ⟨sub, s, d', rfl, ok, hp'⟩
        obtain ⟨rfl, hi⟩ := rngL_at hx
        refine Ex.sub (ρ' := ([("number", .int (0 + (i : Int))), ("sets", .raw (.ref a)), ("is_chained", .bool ch), ("form", .int form), ("pen", .raw (.ref p))] : Rho)) sub.both ?_
        refine Ex.cons (ExS.asg (Ev.call (Ev.fn L.glob ⟨_, rfl, L.f266.keep, ?_⟩)))
        refine EvL.cons (Ev.loc rfl (EvL.cons (Ev.ite (Te.cmp (Ev.loc rfl (Ev.cint (Op2.eqI ⟨_, rfl, ite_cint ?_⟩)))))))
        rw [show (if (form == 1) = true then (9 : Int) else 4) = if form = 1 then 9 else 4 by simp only [beq_iff_eq]]
        refine EvL.nil (OpC.pen2 (FA.le (by omega)) (draw L (by omega) (by split <;> decide) (by split <;> decide) hp') ?_)
        rintro e d4 hp4 ⟨z, rfl, hz⟩
        have bl : s.length ≤ 4 := by have := ok.len; omega
        have ba : (atK s z).length ≤ 4 := by
          unfold atK
          cases e : s.lookup z with
          | none => exact Nat.zero_le _
          | some v =>
            have h1 := le_sum (List.mem_map_of_mem (f := (·.2.length)) (mem_lookup' e))
            have h2 := ok.cnt
            unfold cnt at h2
            exact Nat.le_trans h1 (by omega)
        refine Ex.cons (ExS.setSub (Ev.bin (Ev.meth (Ev.loc rfl ⟨_, _, Meth.getMu (.head _) rfl, Keep.blt, ?_⟩))))
        refine EvL.cons (Ev.loc rfl (EvL.cons (Ev.list0 (EvL.nil (OpC.getMu (.head _) ?_)))))
        rw [getD_lstS]
        refine Ev.list (EvL.cons (Ev.call (Ev.fn L.glob ⟨_, rfl, L.f288.keep, ?_⟩)))
        refine EvL.cons (Ev.loc rfl (EvL.cons (Ev.loc rfl (EvL.cons (Ev.loc rfl (EvL.cons (Ev.loc rfl (EvL.cons (Ev.loc rfl ?_)))))))))
        refine EvL.nil (OpC.pen2 FA (law_rule L (by omega) hp4) ?_)
        intro e d5 hp5 hr
        obtain ⟨r, rfl, hs, hh⟩ := hr.ints h3 hz
        refine EvL.nil ⟨by simp, Op2.addL (by rw [List.length_map, List.length_singleton]; omega) ?_⟩
        rw [show (atK s z).map RuleN.d ++ [r.d] = (atK s z ++ [r]).map RuleN.d by rw [List.map_append]; rfl]
        refine Ev.loc rfl (Ev.loc rfl (OpSet.dict (by rw [List.length_map]; omega) ?_))
        refine Ex.nil ⟨Sub.refl.cons.cons, sto s z (atK s z ++ [r]), d5, ?_, ok.put hs hh, hp5.le (by omega)⟩
        rw [lstS_sto]
      · rintro ρ' μ' ⟨sub, s, d', rfl, ok, hp'⟩
        rw [rngL_len] at ok hp'
        have ok := ok.le (n' := 4) (by omega)
        have hp' := hp'.le (M := 1000) (by omega)
        refine Ex.nil ?_
        refine Ex.freezeHd (x := "sets") sub ?_
        refine Ex.cons (ExS.ite (Te.cmp (Ev.loc rfl (Ev.cint (Op2.eqI ⟨_, rfl, ?_⟩)))))
        by_cases h1 : form = 1
        · rw [show (form == 1) = true by simpa using h1, if_pos rfl]
          rw [if_pos h1] at ok
          refine Ex.cons (ExS.ret (Ev.call (Ev.fn L.glob ⟨_, rfl, keep_of_make L.m199, ?_⟩)))
          refine EvL.cons (Ev.cint (EvL.cons (Ev.loc rfl (EvL.cons (Ev.loc rfl ?_)))))
          refine EvL.nil (OpC.pure (FA.le (by omega)) (ctx_new3 L ⟨d', rfl, hp'.le (by omega), .one ch s (by rw [tab1_d]; rfl) ok⟩))
        · rw [show (form == 1) = false by simpa using h1, if_neg (by decide)]
          rw [if_neg h1] at ok
          refine Ex.nil (Ex.cons (ExS.asg (Ev.tuple (EvL.cons (Ev.call (Ev.fn L.glob ⟨_, rfl, L.f276.keep, EvL.cons (Ev.loc rfl (EvL.nil (OpC.pen (FA.le (by omega)) (law_classes L (by omega) hp') ?_)))⟩))))))
          rintro e q0 hq0 ⟨c0, rfl, h0⟩
          refine EvL.cons (Ev.call (Ev.fn L.glob ⟨_, rfl, L.f276.keep, EvL.cons (Ev.loc rfl (EvL.nil (OpC.pen (FA.le (by omega)) (law_classes L (by omega) hq0) ?_)))⟩))
          rintro e q1 hq1 ⟨c1, rfl, h1⟩
          refine EvL.cons (Ev.call (Ev.fn L.glob ⟨_, rfl, L.f276.keep, EvL.cons (Ev.loc rfl (EvL.nil (OpC.pen (FA.le (by omega)) (law_classes L (by omega) hq1) ?_)))⟩))
          rintro e q2 hq2 ⟨c2, rfl, h2⟩
          refine EvL.nil ⟨by simp, ?_⟩
          refine Ex.cons (ExS.ret (Ev.call (Ev.fn L.glob ⟨_, rfl, keep_of_make L.m199, ?_⟩)))
          refine EvL.cons (Ev.cint (EvL.cons (Ev.loc rfl (EvL.cons (Ev.loc rfl (EvL.cons (Ev.call (Ev.fn L.glob ⟨_, rfl, keep_of_make L.m59, ?_⟩))))))))
          refine EvL.cons (Ev.call (Ev.blt L.bl rfl ⟨_, rfl, Keep.typ, ?_⟩))
          refine EvL.cons (Ev.call (Ev.fn L.glob ⟨_, rfl, L.f271.keep, EvL.cons (Ev.loc rfl (EvL.cons (Ev.cint (EvL.nil (OpC.pen (FA.le (by omega)) (law_glyphs L (by omega) (by decide) (by decide) hq2) ?_)))))⟩))
          rintro e q3 hq3 ⟨gs, rfl, hg⟩
          refine EvL.nil (OpC.tupL (by simp; omega) (EvL.nil (OpC.pure (FA.le (by omega)) (cov_new L (EvL.cons (Ev.loc rfl (EvL.nil (OpC.pure (FA.le (by omega)) (ctx_new5 L ⟨q3, rfl, hq3.le (by omega), ?_⟩)))))))))
          exact .two ch s gs c0 c1 c2 (by rw [tab2_d]; rfl) ok hg h0 h1 h2
  have hk : k = 0 ∨ k = 1 ∨ k = 2 := by omega
  rcases hk with rfl | rfl | rfl
  · exact OpS.lst (d := .int 1) (by decide) (by decide) rfl (rest 1 (by simp))
  · exact OpS.lst (d := .int 2) (by decide) (by decide) rfl (rest 2 (by simp))
  · exact OpS.lst (d := .int 3) (by decide) (by decide) rfl (rest 3 (by simp))
end
end Pb
end
section
open PySem PySem.W PySem.Calls PyProof.Rows PySem.Spec
set_option Elab.async false
set_option linter.unusedVariables false
set_option maxRecDepth 100000
set_option maxHeartbeats 2000000
namespace Pb
def poolL : List Int := [0, 1, 2, 3, 4, 5, 6, 7, 8, 300, 301, 302, 303, 304, 305, 306, 307, 308, 20, 21, 22, 23, 24, 25]
/-- a drawn dict from a list of glyphs: one to one -/
def DictOk (pool : List Int) (T : List (Int × Int)) : Prop := (T.map (·.1)).Sublist pool ∧ (T.map (·.2)).Nodup
/-- the j-th number that is given out -/
def numAt (least : Int) (f : Bool) (j : Nat) : Int := if f then least + 200 - 2 * (j : Int) else least + 2 * (j : Int)
theorem numAt_inj {least : Int} {f : Bool} {i j : Nat} (h : numAt least f i = numAt least f j) : i = j := by
  unfold numAt at h
  cases f <;> simp at h <;> omega
theorem numAt_nodup (least : Int) (f : Bool) (n : Nat) : ((List.range n).map (numAt least f)).Nodup := by
  rw [List.nodup_iff_pairwise_ne, List.pairwise_map]
  exact List.Pairwise.imp (fun h e => h (numAt_inj e)) (List.nodup_iff_pairwise_ne.mp List.nodup_range)
section
variable {K : Frag} {prog : Program} {w : World} {μ : Mu} {Q : D → Mu → Prop}

theorem law_pool (L : Lay K) {d : D} (q : Q (.lst (iL poolL)) μ) : Fn prog w K 1 (.ref 300) μ [d] Q := by
  refine Fn.intro L.f300.at (names := ["table"]) (fun s vs _ _ _ _ _ _ _ _ hl => bind1 hl fun _ => rfl) (by decide) (by rfl) fun A' L' cd FA => ?_
  refine Ex.cons (ExS.asg (Ev.bin (Ev.call (Ev.blt L.bl rfl ⟨_, rfl, Keep.typ, ?_⟩))))
  refine EvL.cons (Ev.call (Ev.blt L.bl rfl ⟨_, rfl, Keep.typ, EvL.cons (Ev.cint (EvL.nil (OpC.rng1 (EvL.nil (OpC.lstR FA.h (by decide) ?_)))))⟩))
  refine Ev.map [0, 1, 2, 3, 4, 5, 6, 7, 8] D.int (fun g => some (D.int (g + 300))) μ (EvI.of (Ev.call (Ev.blt L.bl rfl ⟨_, rfl, Keep.typ, EvL.cons (Ev.cint (EvL.nil (OpC.rng1 (OpI.rng FA.h (by decide) ⟨rfl, rfl⟩))))⟩))) (by decide) (fun C g hg => ?_) ?_
  · exact Ev.bin (Ev.loc rfl (Ev.cint (Op2.addI ⟨rfl, rfl⟩)))
  refine Op2.addL (by decide) ?_
  refine Ex.cons (ExS.ret (Ev.bin (Ev.loc rfl ?_)))
  refine Ev.map [20, 21, 22, 23, 24, 25] D.int (fun g => some (D.int g)) μ (EvI.of (Ev.call (Ev.blt L.bl rfl ⟨_, rfl, Keep.typ, EvL.cons (Ev.cint (EvL.cons (Ev.cint (EvL.nil (OpC.rng2 (OpI.rng FA.h (by decide) ⟨rfl, rfl⟩))))))⟩))) (by decide) (fun C g hg => ?_) ?_
  · exact Ev.loc rfl ⟨rfl, rfl⟩
  exact Op2.addL (by decide) q

theorem law_dict (L : Lay K) {N : Nat} {pool : List Int} {least share : Int} {p : Addr} {d : D} (hN : N ≤ 700000) (hs : 0 < share) (hs' : share ≤ 1000) (hl : pool.length ≤ 30) (hn : pool.Nodup) (hp : PenD N d) :
    Fn prog w K 2 (.ref 307) [(p, d)] [.raw (.ref p), .lst (iL pool), .int least, .int share] (PQ p (N + 50) fun e => ∃ T, e = .dct (dI T) ∧ DictOk pool T) := by
  refine Fn.intro L.f307.at (names := ["pen", "pool", "least_number", "share"]) (fun s vs _ _ _ _ _ _ _ _ hl => bind4 hl fun _ _ _ _ => rfl) (by decide) (by rfl) fun A' L' cd FA => ?_
  refine Ex.cons (ExS.asg (Ev.newD fun a => ?_))
  refine Ex.cons (ExS.asg (Ev.call (Ev.fn L.glob ⟨_, rfl, L.f266.keep, EvL.cons (Ev.loc rfl (EvL.cons (Ev.cint (EvL.nil (OpC.pen2 FA (draw L (by omega) (by decide) (by decide) hp) ?_)))))⟩)))
  rintro e d1 hp1 ⟨f, rfl, f0, f1⟩
  have hf : ∃ b : Bool, f = if b then 1 else 0 := ⟨f == 1, by simp only [beq_iff_eq]; split <;> omega⟩
  obtain ⟨b, rfl⟩ := hf
  refine Ex.cons (ExS.for (EvI.of (Ev.loc rfl (OpI.lst FA.h ?_))))
  refine ⟨fun i ρ' μ' => Sub ([("is_falling", .int (if b then 1 else 0)), ("found", .raw (.ref a)), ("pen", .raw (.ref p)), ("pool", .lst (iL pool)), ("least_number", .int least), ("share", .int share)] : Rho) ρ' ∧
    ∃ T d', μ' = [(a, .dct (dI T)), (p, d')] ∧ (T.map (·.1)).Sublist (pool.take i) ∧ T.map (·.2) = (List.range T.length).map (numAt least b) ∧ PenD (N + 1 + i) d', ⟨Sub.refl, [], d1, rfl, by simp, rfl, hp1⟩, ?_, ?_⟩
  · rintro i x ρ' μ' hx ⟨sub, T, d', rfl, hsub, hv, hp'⟩
    obtain ⟨g, hg, rfl, hgm⟩ := take_map_at hx
    have hi := idx_lt hg
    have hTl : T.length ≤ 30 := by
      have h1 := hsub.length_le
      rw [List.length_map, List.length_take] at h1
      omega
    have et : pool.take (i + 1) = pool.take i ++ [g] := by rw [List.take_add_one, hg]; rfl
    have hnew : g ∉ T.map (·.1) := fun h => by
      have h1 : g ∈ pool.take i := hsub.mem h
      have h2 : (pool.take (i + 1)).Nodup := hn.sublist (List.take_sublist _ _)
      rw [et, List.nodup_append] at h2
      exact h2.2.2 g h1 g (by simp) rfl
    refine Ex.sub (ρ' := ([("glyph", .int g), ("is_falling", .int (if b then 1 else 0)), ("found", .raw (.ref a)), ("pen", .raw (.ref p)), ("pool", .lst (iL pool)), ("least_number", .int least), ("share", .int share)] : Rho)) sub.both ?_
    refine Ex.cons (ExS.ite (Te.cmp (Ev.call (Ev.fn L.glob ⟨_, rfl, L.f266.keep, EvL.cons (Ev.loc rfl (EvL.cons (Ev.loc rfl (EvL.nil (OpC.pen2 FA (draw L (by omega) hs hs' hp') ?_)))))⟩))))
    rintro e d2 hp2 ⟨z, rfl, z0, z1⟩
    refine Ev.cint (Op2.gtI ⟨_, rfl, ?_⟩)
    by_cases hz : 0 < z
    · rw [decide_eq_true hz, if_pos rfl]
      refine Ex.cons (ExS.setSub (Ev.sub (Ev.list (EvL.cons (Ev.bin (Ev.loc rfl (Ev.bin (Ev.cint (Ev.call (Ev.blt L.bl rfl ⟨_, rfl, Keep.blt, EvL.cons (Ev.loc rfl (EvL.nil (OpC.lenDMu (.head _) (by simp; omega) ?_)))⟩))))))))))
      rw [List.length_map]
      refine Op2.mulI (IntMulOk.of_left (intBits_le (by decide) (by decide))) (Op2.addI ?_)
      refine EvL.cons (Ev.bin (Ev.bin (Ev.loc rfl (Ev.cint (Op2.addI ?_)))))
      refine Ev.bin (Ev.cint (Ev.call (Ev.blt L.bl rfl ⟨_, rfl, Keep.blt, EvL.cons (Ev.loc rfl (EvL.nil (OpC.lenDMu (.head _) (by simp; omega) ?_)))⟩)))
      rw [List.length_map]
      refine Op2.mulI (IntMulOk.of_left (intBits_le (by decide) (by decide))) (Op2.subI (EvL.nil ⟨by simp, Ev.loc rfl ?_⟩))
      refine OpS.lst (d := .int (numAt least b T.length)) (by split <;> decide) (by split <;> decide) (by cases b <;> rfl) ?_
      refine Ev.loc rfl (Ev.loc rfl (OpSet.dict (by rw [List.length_map]; omega) ?_))
      rw [dI_sto, sto_new hnew]
      refine Ex.nil (Ex.nil ⟨Sub.refl.cons, T ++ [(g, numAt least b T.length)], d2, rfl, ?_, ?_, hp2.le (by omega)⟩)
      · rw [et, List.map_append]
        exact List.Sublist.append hsub (List.Sublist.refl _)
      · rw [List.map_append, hv, List.length_append, List.length_singleton, List.range_succ, List.map_append]; rfl
    · rw [decide_eq_false hz, if_neg (by decide)]
      refine Ex.nil (Ex.nil ⟨Sub.refl.cons, T, d2, rfl, ?_, hv, hp2.le (by omega)⟩)
      rw [et]
      exact hsub.trans (List.sublist_append_left _ _)
  · rintro ρ' μ' ⟨sub, T, d', rfl, hsub, hv, hp'⟩
    rw [List.length_map] at hsub hp'
    rw [List.take_length] at hsub
    refine Ex.nil ?_
    refine Ex.freezeHd (x := "found") ((Sub.cons (Sub.both Sub.nil)).trans sub) ?_
    refine Ex.cons (ExS.ret (Ev.loc rfl ⟨d', rfl, hp'.le (by omega), T, rfl, hsub, ?_⟩))
    rw [hv]; exact numAt_nodup _ _ _
end
end Pb
end
section
open PySem PySem.W PySem.Calls PyProof.Rows PySem.Spec
set_option Elab.async false
set_option linter.unusedVariables false
set_option maxRecDepth 100000
set_option maxHeartbeats 2000000
namespace Pb

def Inj (T : List (Int × Int)) : Prop := ∀ a b v, T.lookup a = some v → T.lookup b = some v → a = b
def Comp (T1 T2 T3 : List (Int × Int)) : Prop := ∀ k, T3.lookup k = (T1.lookup k).bind fun m => T2.lookup m
theorem Comp.inj {T1 T2 T3 : List (Int × Int)} (h : Comp T1 T2 T3) (i1 : Inj T1) (i2 : Inj T2) : Inj T3 := fun a b v ha hb => by
  rw [h] at ha hb
  obtain ⟨m, h1, h2⟩ := Option.bind_eq_some_iff.mp ha
  obtain ⟨n, h3, h4⟩ := Option.bind_eq_some_iff.mp hb
  rw [i2 _ _ _ h4 h2] at h3
  exact i1 _ _ _ h1 h3
def Hd (s : List (Int × List RuleN)) : Prop := ∀ k, ∀ r ∈ atK s k, r.inside.head? = some k
def headed (T : List (Int × Int)) (k : Int) (r : RuleN) : Bool := r.inT T && decide ((r.cut T).inside.headD 0 = k)

theorem atK_sto {α : Type} {s : List (Int × List α)} {k k' : Int} {v : List α} : atK (sto s k v) k' = if k' = k then v else atK s k' := by
  unfold atK
  rw [lookup_sto]
  split <;> rfl
theorem atK_foldG (T : List (Int × Int)) (k : Int) : ∀ (rs : List RuleN) (acc : List (Int × List RuleN)), atK (rs.foldl (stepG T) acc) k = atK acc k ++ (rs.filter (headed T k)).map (RuleN.cut T)
  | [], acc => by simp
  | r :: rs, acc => by
    rw [List.foldl_cons, atK_foldG T k rs]
    unfold stepG headed
    rw [List.filter_cons]
    cases hT : r.inT T with
    | false => simp [hT]
    | true =>
      rw [if_pos rfl, atK_sto]
      by_cases e : k = (r.cut T).inside.headD 0
      · subst e; simp [hT]
      · rw [if_neg e]
        have e' : ¬ (r.cut T).inside.headD 0 = k := fun q => e q.symm
        simp only [Bool.true_and, e', decide_false]
        rfl
theorem atK_cutG (s : List (Int × List RuleN)) (T : List (Int × Int)) (k : Int) : atK (cutG s T) k = ((rulesOf s).filter (headed T k)).map (RuleN.cut T) := by
  unfold cutG
  rw [atK_foldG]
  simp [atK]
theorem flatMap_none {α β : Type} {xs : List α} {f : α → List β} (h : ∀ x ∈ xs, f x = []) : xs.flatMap f = [] := by
  induction xs with
  | nil => rfl
  | cons x xs ih => rw [List.flatMap_cons, h x (.head _), ih fun y hy => h y (.tail _ hy)]; rfl
theorem flatMap_one {β : Type} {k : Int} {f : Int → List β} : ∀ {xs : List Int}, xs.Nodup → (∀ x ∈ xs, x ≠ k → f x = []) → (k ∉ xs → f k = []) → xs.flatMap f = f k
  | [], _, _, h => (h (by simp)).symm
  | x :: xs, hn, h1, h2 => by
    rw [List.nodup_cons] at hn
    rw [List.flatMap_cons]
    by_cases e : x = k
    · subst e
      rw [flatMap_none fun y hy => h1 y (.tail _ hy) fun q => hn.1 (by rw [← q]; exact hy), List.append_nil]
    · rw [h1 x (.head _) e, List.nil_append]
      exact flatMap_one hn.2 (fun y hy => h1 y (.tail _ hy)) fun q => h2 fun q' => by
        rcases List.mem_cons.mp q' with q' | q'
        · exact e q'.symm
        · exact q q'
theorem headed_head {T : List (Int × Int)} {k k' : Int} {r : RuleN} (hr : r.inside.head? = some k') (h : headed T k r = true) : T.lookup k' = some k := by
  unfold headed at h
  rw [Bool.and_eq_true] at h
  obtain ⟨n0, rest, e⟩ : ∃ n0 rest, r.inside = n0 :: rest := by
    cases q : r.inside with
    | nil => rw [q] at hr; cases hr
    | cons a b => exact ⟨a, b, rfl⟩
  rw [e] at hr
  injection hr with hr
  subst hr
  have h2 := of_decide_eq_true h.2
  simp only [RuleN.cut, e, List.map_cons, List.headD_cons] at h2
  have h3 := List.all_eq_true.mp h.1 n0 (by simp [e])
  obtain ⟨v, hv⟩ := Option.isSome_iff_exists.mp h3
  rw [hv]
  unfold gl at h2
  rw [hv] at h2
  exact congrArg some h2
theorem headed_eq {T : List (Int × Int)} {k k' : Int} {r : RuleN} (hr : r.inside.head? = some k') (h : T.lookup k' = some k) : headed T k r = r.inT T := by
  unfold headed
  obtain ⟨n0, rest, e⟩ : ∃ n0 rest, r.inside = n0 :: rest := by
    cases q : r.inside with
    | nil => rw [q] at hr; cases hr
    | cons a b => exact ⟨a, b, rfl⟩
  rw [e] at hr
  injection hr with hr
  subst hr
  have : (r.cut T).inside.headD 0 = k := by
    simp only [RuleN.cut, e, List.map_cons, List.headD_cons]
    unfold gl; rw [h]; rfl
  rw [this]; simp
theorem atK_nokey {α : Type} {s : List (Int × List α)} {k : Int} (h : k ∉ s.map (·.1)) : atK s k = [] := by
  unfold atK
  cases e : s.lookup k with
  | none => rfl
  | some v => exact absurd (List.mem_map_of_mem (f := (·.1)) (mem_lookup' e)) h
theorem srt_nodup {gs : List Int} (h : gs.Nodup) : (srt gs).Nodup := (srt_perm _).nodup_iff.mpr h
theorem cutG_some {s : List (Int × List RuleN)} {T : List (Int × Int)} {k k' : Int} (nd : (s.map (·.1)).Nodup) (hd : Hd s) (i : Inj T) (h : T.lookup k' = some k) : atK (cutG s T) k = ((atK s k').filter (RuleN.inT T)).map (RuleN.cut T) := by
  rw [atK_cutG, rulesOf, List.filter_flatMap]
  rw [flatMap_one (k := k') (srt_nodup nd)]
  · congr 1
    refine List.filter_congr fun r hr => headed_eq (hd _ r hr) h
  · intro x _ hne
    refine List.filter_eq_nil_iff.mpr fun r hr q => hne (i _ _ _ (headed_head (hd _ r hr) q) h)
  · intro q
    rw [atK_nokey (fun q' => q (mem_srt.mpr q'))]; rfl
theorem cutG_none {s : List (Int × List RuleN)} {T : List (Int × Int)} {k : Int} (hd : Hd s) (h : ∀ k', T.lookup k' ≠ some k) : atK (cutG s T) k = [] := by
  rw [atK_cutG, rulesOf, List.filter_flatMap, flatMap_none]
  · rfl
  · intro x _
    exact List.filter_eq_nil_iff.mpr fun r hr q => h _ (headed_head (hd _ r hr) q)
theorem foldG_nodup (T : List (Int × Int)) : ∀ (rs : List RuleN) (acc : List (Int × List RuleN)), (acc.map (·.1)).Nodup → ((rs.foldl (stepG T) acc).map (·.1)).Nodup
  | [], acc, h => h
  | r :: rs, acc, h => by
    refine foldG_nodup T rs _ ?_
    unfold stepG; split
    · exact sto_nodup h
    · exact h
theorem cutG_nodup (s : List (Int × List RuleN)) (T : List (Int × Int)) : ((cutG s T).map (·.1)).Nodup := foldG_nodup T _ [] List.nodup_nil
theorem cutG_hd {s : List (Int × List RuleN)} {T : List (Int × Int)} (ne : ∀ r ∈ rulesOf s, r.inside ≠ []) : Hd (cutG s T) := fun k r hr => by
  rw [atK_cutG] at hr
  obtain ⟨r0, h0, rfl⟩ := List.mem_map.mp hr
  obtain ⟨h1, h2⟩ := List.mem_filter.mp h0
  unfold headed at h2
  rw [Bool.and_eq_true] at h2
  have h3 := of_decide_eq_true h2.2
  obtain ⟨n0, rest, e⟩ := List.exists_cons_of_ne_nil (ne r0 h1)
  simp only [RuleN.cut, e, List.map_cons, List.headD_cons, List.head?_cons] at h3 ⊢
  rw [h3]
theorem gl_comp {T1 T2 T3 : List (Int × Int)} (h : Comp T1 T2 T3) {n : Int} (h1 : (T1.lookup n).isSome = true) : (T3.lookup n).isSome = (T2.lookup (gl T1 n)).isSome ∧ gl T3 n = gl T2 (gl T1 n) := by
  obtain ⟨m, hm⟩ := Option.isSome_iff_exists.mp h1
  have h3 := h n
  rw [hm] at h3
  have e : gl T1 n = m := by unfold gl; rw [hm]; rfl
  rw [e]
  refine ⟨by rw [h3]; rfl, ?_⟩
  unfold gl; rw [h3]; rfl
theorem inT_comp {T1 T2 T3 : List (Int × Int)} (h : Comp T1 T2 T3) (r : RuleN) : r.inT T3 = (r.inT T1 && (r.cut T1).inT T2) := by
  have key : ∀ ns : List Int, (ns.all fun n => (T3.lookup n).isSome) = ((ns.all fun n => (T1.lookup n).isSome) && ((ns.map (gl T1)).all fun n => (T2.lookup n).isSome)) := fun ns => by
    induction ns with
    | nil => rfl
    | cons n ns ih =>
      rw [List.map_cons, List.all_cons, List.all_cons, List.all_cons, ih]
      cases h1 : (T1.lookup n).isSome with
      | true => rw [(gl_comp h h1).1]; simp only [Bool.true_and]; cases (T2.lookup (gl T1 n)).isSome <;> simp
      | false =>
        have h3 := h n
        rw [Option.isSome_eq_false_iff, Option.isNone_iff_eq_none] at h1
        rw [h1] at h3
        rw [h3]; simp
  unfold RuleN.inT RuleN.cut
  dsimp only
  rw [key, List.map_append, List.map_append]
theorem cut_comp {T1 T2 T3 : List (Int × Int)} (h : Comp T1 T2 T3) {r : RuleN} (h1 : r.inT T1 = true) : r.cut T3 = (r.cut T1).cut T2 := by
  have h2 := List.all_eq_true.mp h1
  have key : ∀ ns : List Int, (∀ n ∈ ns, n ∈ r.back ++ r.inside ++ r.ahead) → ns.map (gl T3) = (ns.map (gl T1)).map (gl T2) := fun ns hn => by
    rw [List.map_map]
    exact List.map_congr_left fun n hm => (gl_comp h (h2 n (hn n hm))).2
  unfold RuleN.cut
  rw [key r.back (by simp_all), key r.inside (by simp_all), key r.ahead (by simp_all)]
theorem cutG_comp {s : List (Int × List RuleN)} {T1 T2 T3 : List (Int × Int)} (nd : (s.map (·.1)).Nodup) (hd : Hd s) (ne : ∀ r ∈ rulesOf s, r.inside ≠ []) (i1 : Inj T1) (i2 : Inj T2) (h : Comp T1 T2 T3) (k : Int) :
    atK (cutG (cutG s T1) T2) k = atK (cutG s T3) k := by
  have hd1 := cutG_hd (T := T1) ne
  by_cases e2 : ∃ m, T2.lookup m = some k
  · obtain ⟨m, hm⟩ := e2
    rw [cutG_some (cutG_nodup _ _) hd1 i2 hm]
    by_cases e1 : ∃ k', T1.lookup k' = some m
    · obtain ⟨k', hk⟩ := e1
      have h3 : T3.lookup k' = some k := by rw [h, hk]; exact hm
      rw [cutG_some nd hd i1 hk, cutG_some nd hd (h.inj i1 i2) h3]
      rw [List.filter_map, List.map_map, List.filter_filter]
      have e : (atK s k').filter (RuleN.inT T3) = (atK s k').filter (fun a => (RuleN.inT T2 ∘ RuleN.cut T1) a && RuleN.inT T1 a) := by
        refine List.filter_congr fun r _ => ?_
        rw [inT_comp h, Bool.and_comm]; rfl
      rw [e]
      refine List.map_congr_left fun r hr => ?_
      have := (List.mem_filter.mp hr).2
      rw [Bool.and_eq_true] at this
      exact (cut_comp h this.2).symm
    · rw [cutG_none hd (fun k' q => e1 ⟨k', q⟩), cutG_none hd (fun k' q => ?_)]
      · rfl
      · rw [h] at q
        obtain ⟨m', h1, h2⟩ := Option.bind_eq_some_iff.mp q
        rw [i2 _ _ _ h2 hm] at h1
        exact e1 ⟨k', h1⟩
  · rw [cutG_none hd1 (fun m q => e2 ⟨m, q⟩), cutG_none hd (fun k' q => ?_)]
    rw [h] at q
    obtain ⟨m', h1, h2⟩ := Option.bind_eq_some_iff.mp q
    exact e2 ⟨m', h2⟩
end Pb
end
section
open PySem PySem.W PySem.Calls PyProof.Rows PySem.Spec
set_option Elab.async false
set_option linter.unusedVariables false
set_option maxRecDepth 100000
set_option maxHeartbeats 2000000
namespace Pb

/- what sets tell -/
theorem toldSets_eq {s : SetsP} : toldSets s = ((srt (s.map (·.1))).filter fun k => decide ((atK s k).length > 0)).map fun k => D.tup [.int k, .tup ((atK s k).map RuleP.t)] := by
  unfold toldSets
  rw [← filterMap_if]
  congr 1
  funext k
  simp only [decide_eq_true_eq]
theorem toldSets_congr {s t : SetsP} (n1 : (s.map (·.1)).Nodup) (n2 : (t.map (·.1)).Nodup) (h : ∀ k, (atK s k).map RuleP.t = (atK t k).map RuleP.t) : toldSets s = toldSets t := by
  have hl : ∀ k, (atK s k).length = (atK t k).length := fun k => by have := congrArg List.length (h k); simpa using this
  have hk : ∀ (s : SetsP) (k : Int), (k ∈ (srt (s.map (·.1))).filter fun k => decide ((atK s k).length > 0)) ↔ (atK s k).length > 0 := fun s k => by
    rw [List.mem_filter, mem_srt]
    refine ⟨fun q => of_decide_eq_true q.2, fun q => ⟨?_, decide_eq_true q⟩⟩
    refine Classical.byContradiction fun q' => ?_
    rw [atK_nokey q'] at q
    simp at q
  have hf : ∀ s : SetsP, (s.map (·.1)).Nodup → ((srt (s.map (·.1))).filter fun k => decide ((atK s k).length > 0)).Nodup ∧ ((srt (s.map (·.1))).filter fun k => decide ((atK s k).length > 0)).Pairwise (· ≤ ·) := fun s n =>
    ⟨(srt_nodup n).filter _, (srt_sorted _).filter _⟩
  rw [toldSets_eq, toldSets_eq]
  have e : ((srt (s.map (·.1))).filter fun k => decide ((atK s k).length > 0)) = ((srt (t.map (·.1))).filter fun k => decide ((atK t k).length > 0)) := by
    refine sorted_unique (perm_of_nodup (hf s n1).1 (hf t n2).1 fun k => ?_) (hf s n1).2 (hf t n2).2
    rw [hk, hk, hl]
  rw [e]
  exact List.map_congr_left fun k _ => by rw [h]

/- coverages -/
theorem mem_tcov {gs : List Int} {T : List (Int × Int)} {x : Int} : x ∈ tcov gs T ↔ ∃ g ∈ gs, T.lookup g = some x := by
  unfold tcov
  rw [mem_ssrt, List.mem_filterMap]
theorem tcov_comp {T1 T2 T3 : List (Int × Int)} (h : Comp T1 T2 T3) (gs : List Int) : tcov (tcov gs T1) T2 = tcov gs T3 := by
  refine ssrt_congr fun k => ?_
  rw [List.mem_filterMap, List.mem_filterMap]
  constructor
  · rintro ⟨m, hm, h2⟩
    obtain ⟨g, hg, h1⟩ := mem_tcov.mp hm
    exact ⟨g, hg, by rw [h, h1]; exact h2⟩
  · rintro ⟨g, hg, h3⟩
    rw [h] at h3
    obtain ⟨m, h1, h2⟩ := Option.bind_eq_some_iff.mp h3
    exact ⟨m, mem_tcov.mpr ⟨g, hg, h1⟩, h2⟩
theorem ssrt_nil : ssrt [] = [] := List.eq_nil_of_length_eq_zero (Nat.le_zero.mp (ssrt_length []))
theorem srt_one (a : Int) : srt [a] = [a] := List.perm_singleton.mp (srt_perm [a])
theorem tcov_nil (T : List (Int × Int)) : tcov [] T = [] := ssrt_nil
theorem tcov_none (gs : List Int) : tcov gs [] = [] := by
  unfold tcov
  rw [show gs.filterMap (fun g => ([] : List (Int × Int)).lookup g) = [] from List.filterMap_eq_nil_iff.mpr fun _ _ => rfl]
  exact ssrt_nil

/- class definitions -/
theorem tcls_fold {l T : List (Int × Int)} (i : Inj T) {k k' : Int} (h : T.lookup k' = some k) : ∀ (ks : List Int) (acc : List (Int × Int)), (ks.foldl (tclsStep l T) acc).lookup k = if k' ∈ ks then some (clsAt l k') else acc.lookup k
  | [], acc => by simp
  | x :: ks, acc => by
    rw [List.foldl_cons, tcls_fold i h ks]
    unfold tclsStep
    by_cases hm : k' ∈ ks
    · rw [if_pos hm, if_pos (.tail _ hm)]
    · rw [if_neg hm]
      by_cases e : k' = x
      · subst e
        rw [if_pos (.head _), h]
        dsimp only
        rw [lookup_sto, if_pos rfl]
      · rw [if_neg (by simp [e, hm])]
        cases hx : T.lookup x with
        | none => rfl
        | some t =>
          dsimp only
          rw [lookup_sto, if_neg]
          rintro rfl
          exact e (i _ _ _ h hx)
theorem tcls_fold_none {l T : List (Int × Int)} {k : Int} (h : ∀ k', T.lookup k' ≠ some k) : ∀ (ks : List Int) (acc : List (Int × Int)), (ks.foldl (tclsStep l T) acc).lookup k = acc.lookup k
  | [], acc => rfl
  | x :: ks, acc => by
    rw [List.foldl_cons, tcls_fold_none h ks]
    unfold tclsStep
    cases hx : T.lookup x with
    | none => rfl
    | some t =>
      dsimp only
      rw [lookup_sto, if_neg]
      rintro rfl
      exact h _ hx
theorem lookup_nokey {α : Type} {s : List (Int × α)} {k : Int} (h : k ∉ s.map (·.1)) : s.lookup k = none := by
  cases e : s.lookup k with
  | none => rfl
  | some v => exact absurd (List.mem_map_of_mem (f := (·.1)) (mem_lookup' e)) h
theorem lookup_key {α : Type} {s : List (Int × α)} {k : Int} {v : α} (h : s.lookup k = some v) : k ∈ s.map (·.1) := List.mem_map_of_mem (f := (·.1)) (mem_lookup' h)
theorem tcls_some {l T : List (Int × Int)} (i : Inj T) {k k' : Int} (h : T.lookup k' = some k) : (tcls l T).lookup k = l.lookup k' := by
  unfold tcls
  rw [tcls_fold i h]
  by_cases hm : k' ∈ l.map (·.1)
  · obtain ⟨v, hv⟩ := lookup_of_key hm
    rw [if_pos (mem_srt.mpr hm), hv, clsAt, hv]; rfl
  · rw [if_neg (fun q => hm (mem_srt.mp q)), lookup_nokey hm]; rfl
theorem tcls_none {l T : List (Int × Int)} {k : Int} (h : ∀ k', T.lookup k' ≠ some k) : (tcls l T).lookup k = none := by
  unfold tcls
  rw [tcls_fold_none h]; rfl
theorem tcls_comp {T1 T2 T3 : List (Int × Int)} (i1 : Inj T1) (i2 : Inj T2) (h : Comp T1 T2 T3) (l : List (Int × Int)) (k : Int) : (tcls (tcls l T1) T2).lookup k = (tcls l T3).lookup k := by
  by_cases e2 : ∃ m, T2.lookup m = some k
  · obtain ⟨m, hm⟩ := e2
    rw [tcls_some i2 hm]
    by_cases e1 : ∃ k', T1.lookup k' = some m
    · obtain ⟨k', hk⟩ := e1
      rw [tcls_some i1 hk, tcls_some (h.inj i1 i2) (k' := k') (by rw [h, hk]; exact hm)]
    · rw [tcls_none fun k' q => e1 ⟨k', q⟩, tcls_none fun k' q => ?_]
      rw [h] at q
      obtain ⟨m', h1, h2⟩ := Option.bind_eq_some_iff.mp q
      rw [i2 _ _ _ h2 hm] at h1
      exact e1 ⟨k', h1⟩
  · rw [tcls_none fun m q => e2 ⟨m, q⟩, tcls_none fun k' q => ?_]
    rw [h] at q
    obtain ⟨m', h1, h2⟩ := Option.bind_eq_some_iff.mp q
    exact e2 ⟨m', h2⟩
theorem mem_keys_iff {α : Type} {s : List (Int × α)} {k : Int} : k ∈ s.map (·.1) ↔ (s.lookup k).isSome = true := by
  constructor
  · intro h; obtain ⟨v, hv⟩ := lookup_of_key h; rw [hv]; rfl
  · intro h; obtain ⟨v, hv⟩ := Option.isSome_iff_exists.mp h; exact lookup_key hv
theorem clsT_congr {l m : List (Int × Int)} (n1 : (l.map (·.1)).Nodup) (n2 : (m.map (·.1)).Nodup) (h : ∀ k, l.lookup k = m.lookup k) : clsT l = clsT m := by
  have e : srt (l.map (·.1)) = srt (m.map (·.1)) := by
    rw [srt_eq_ssrt n1, srt_eq_ssrt n2]
    exact ssrt_congr fun k => by rw [mem_keys_iff, mem_keys_iff, h]
  have e2 : clsAt l = clsAt m := by funext k; unfold clsAt; rw [h]
  unfold clsT
  rw [e, e2]
theorem mem_knw {l : List (Int × Int)} (n : (l.map (·.1)).Nodup) {v : Int} : v ∈ knw l ↔ v = 0 ∨ ∃ k, l.lookup k = some v := by
  unfold knw
  rw [List.mem_cons, List.mem_map]
  refine or_congr Iff.rfl ⟨?_, ?_⟩
  · rintro ⟨p, hp, rfl⟩
    have := lookup_nd n hp
    refine ⟨p.1, ?_⟩
    unfold clsAt; rw [this]; rfl
  · rintro ⟨k, hk⟩
    exact ⟨(k, v), mem_lookup' hk, by unfold clsAt; rw [hk]; rfl⟩

/- sets by classes -/
theorem lookup_filterK {α : Type} {f : Int → Bool} {s : List (Int × α)} {k : Int} : (s.filter fun p => f p.1).lookup k = if f k then s.lookup k else none := by
  induction s with
  | nil => simp
  | cons p s ih =>
    obtain ⟨a, b⟩ := p
    rw [List.filter_cons]
    by_cases e : k = a
    · subst e
      cases hf : f k with
      | true => simp [lookup_cons_if]
      | false => simp [hf] at ih ⊢; exact ih
    · cases hf : f a with
      | true => simp only [if_true, lookup_cons_if, if_neg e, ih]
      | false => simp only [lookup_cons_if, if_neg e]; exact ih
theorem atK_selC {f : Int → Bool} {keep : RuleN → Bool} {s : List (Int × List RuleN)} {k : Int} : atK (selC f keep s) k = if f k then (atK s k).filter keep else [] := by
  have e : (selC f keep s).lookup k = ((s.filter fun p => f p.1).lookup k).map fun rs => rs.filter keep := by
    unfold selC
    generalize (s.filter fun p => f p.1) = t
    induction t with
    | nil => rfl
    | cons p t ih =>
      obtain ⟨a, b⟩ := p
      rw [List.map_cons, lookup_cons_if, lookup_cons_if, ih]
      split <;> rfl
  unfold atK
  rw [e, lookup_filterK]
  cases hf : f k with
  | false => simp
  | true => simp only [if_true]; cases s.lookup k <;> rfl
theorem selC_nodup {f : Int → Bool} {keep : RuleN → Bool} {s : List (Int × List RuleN)} (h : (s.map (·.1)).Nodup) : ((selC f keep s).map (·.1)).Nodup := by
  unfold selC
  rw [List.map_map]
  exact h.sublist ((List.filter_sublist (p := fun p : Int × List RuleN => f p.1) (l := s)).map (·.1))
theorem cutC_comp {s : List (Int × List RuleN)} {gs : List Int} {c0 c1 c2 : List (Int × Int)} {T1 T2 T3 : List (Int × Int)} (i1 : Inj T1) (i2 : Inj T2) (h : Comp T1 T2 T3) (k : Int) :
    atK (cutC (cutC s gs [c0, c1, c2] T1) (tcov gs T1) [tcls c0 T1, tcls c1 T1, tcls c2 T1] T2) k = atK (cutC s gs [c0, c1, c2] T3) k := by
  have hk : ∀ c v, v ∈ knw (tcls (tcls c T1) T2) ↔ v ∈ knw (tcls c T3) := fun c v => by
    rw [mem_knw (tcls_nodup _ _), mem_knw (tcls_nodup _ _)]
    simp only [tcls_comp i1 i2 h]
  have hk2 : ∀ c v, v ∈ knw (tcls (tcls c T1) T2) → v ∈ knw (tcls c T1) := fun c v => by
    rw [mem_knw (tcls_nodup _ _), mem_knw (tcls_nodup _ _)]
    rintro (e | ⟨k, hk⟩)
    · exact .inl e
    · refine .inr ?_
      by_cases e2 : ∃ m, T2.lookup m = some k
      · obtain ⟨m, hm⟩ := e2
        rw [tcls_some i2 hm] at hk
        exact ⟨m, hk⟩
      · rw [tcls_none fun m q => e2 ⟨m, q⟩] at hk
        cases hk
  have hc : clsAt (tcls (tcls c1 T1) T2) = clsAt (tcls c1 T3) := by funext x; unfold clsAt; rw [tcls_comp i1 i2 h]
  unfold cutC
  rw [atK_selC, atK_selC, atK_selC]
  rw [tcov_comp h]
  simp only [List.getElem?_cons_succ, List.getElem?_cons_zero, Option.getD_some, List.map_cons, List.map_nil]
  simp only [hc]
  by_cases hf : k ∈ (tcov gs T3).map (clsAt (tcls c1 T3))
  · have hf1 : k ∈ (tcov gs T1).map (clsAt (tcls c1 T1)) := by
      obtain ⟨g, hg, e⟩ := List.mem_map.mp hf
      obtain ⟨g0, hg0, h3⟩ := mem_tcov.mp hg
      rw [h] at h3
      obtain ⟨m, h1, h2⟩ := Option.bind_eq_some_iff.mp h3
      refine List.mem_map.mpr ⟨m, mem_tcov.mpr ⟨g0, hg0, h1⟩, ?_⟩
      rw [← hc] at e
      rw [← e]
      unfold clsAt
      rw [tcls_some i2 h2]
    rw [decide_eq_true hf, decide_eq_true hf1]
    simp only [if_true]
    rw [List.filter_filter]
    refine List.filter_congr fun r _ => ?_
    unfold keepC
    simp only [List.getElem?_cons_succ, List.getElem?_cons_zero, Option.getD_some]
    have key : ∀ (c : List (Int × Int)) (ns : List Int), (ns.all fun n => decide (n ∈ knw (tcls c T3))) = ((ns.all fun n => decide (n ∈ knw (tcls (tcls c T1) T2))) && (ns.all fun n => decide (n ∈ knw (tcls c T1)))) := fun c ns => by
      induction ns with
      | nil => rfl
      | cons n ns ih =>
        rw [List.all_cons, List.all_cons, List.all_cons, ih]
        have h1 := hk c n
        have h2 := hk2 c n
        by_cases q : n ∈ knw (tcls (tcls c T1) T2)
        · rw [decide_eq_true q, decide_eq_true (h1.mp q), decide_eq_true (h2 q)]; simp
        · rw [decide_eq_false q, decide_eq_false (fun q' => q (h1.mpr q'))]; simp
    rw [key c0, key c1, key c2]
    generalize (r.back.all fun n => decide (n ∈ knw (tcls (tcls c0 T1) T2))) = a1
    generalize (r.back.all fun n => decide (n ∈ knw (tcls c0 T1))) = a2
    generalize (r.inside.all fun n => decide (n ∈ knw (tcls (tcls c1 T1) T2))) = b1
    generalize (r.inside.all fun n => decide (n ∈ knw (tcls c1 T1))) = b2
    generalize (r.ahead.all fun n => decide (n ∈ knw (tcls (tcls c2 T1) T2))) = d1
    generalize (r.ahead.all fun n => decide (n ∈ knw (tcls c2 T1))) = d2
    cases a1 <;> cases a2 <;> cases b1 <;> cases b2 <;> cases d1 <;> cases d2 <;> rfl
  · rw [decide_eq_false hf]
    simp

/- sets by coverages -/
theorem cutR_comp {T1 T2 T3 : List (Int × Int)} (h : Comp T1 T2 T3) (r : RuleC) : (r.cut T1).cut T2 = r.cut T3 := by
  unfold RuleC.cut
  simp only [List.map_map, Function.comp_def, tcov_comp h]
theorem full_comp {T2 : List (Int × Int)} {r : RuleC} (h : (r.cut T2).full = true) : r.full = true := by
  unfold RuleC.full RuleC.cut at *
  simp only [List.isEmpty_iff, List.filter_eq_nil_iff, ← List.map_append] at *
  intro gs hg q
  refine h (tcov gs T2) (List.mem_map_of_mem hg) ?_
  simp only [decide_eq_true_eq] at q ⊢
  rw [List.length_eq_zero_iff.mp q, tcov_nil]; rfl
theorem cutVs_comp {s : List (Int × List RuleC)} {T1 T2 T3 : List (Int × Int)} (h : Comp T1 T2 T3) : cutVs (cutV s T1) T2 = cutVs s T3 := by
  have e : ∀ rs : List RuleC, rulesOf [((0 : Int), rs)] = rs := fun rs => by
    unfold rulesOf
    rw [show srt (([((0 : Int), rs)] : List (Int × List RuleC)).map (·.1)) = [0] from srt_one 0]
    simp [atK]
  unfold cutV
  unfold cutVs
  rw [e, List.filter_map, List.map_map, List.filter_filter]
  have e1 : (rulesOf s).filter (fun r => (r.cut T3).full) = (rulesOf s).filter (fun a => ((fun r => (RuleC.cut T2 r).full) ∘ RuleC.cut T1) a && (a.cut T1).full) := by
    refine List.filter_congr fun r _ => ?_
    simp only [Function.comp, cutR_comp h]
    cases q : (r.cut T3).full with
    | false => rfl
    | true =>
      rw [← cutR_comp h] at q
      rw [full_comp q]; rfl
  rw [e1]
  refine List.map_congr_left fun r _ => ?_
  exact cutR_comp h r
end Pb
end
section
open PySem PySem.W PySem.Calls PyProof.Rows PySem.Spec
set_option Elab.async false
set_option linter.unusedVariables false
set_option maxRecDepth 100000
set_option maxHeartbeats 2000000
namespace Pb

inductive Tb where
  | t1 (ch : Bool) (s : List (Int × List RuleN))
  | t2 (ch : Bool) (s : List (Int × List RuleN)) (gs : List Int) (c0 c1 c2 : List (Int × Int))
  | t3 (ch : Bool) (s : List (Int × List RuleC))
def Tb.p : Tb → TableP
  | .t1 ch s => tab1 ch s
  | .t2 ch s gs c0 c1 c2 => tab2 ch s gs [c0, c1, c2]
  | .t3 ch s => tab3 ch s
def Tb.cut (T : List (Int × Int)) : Tb → Tb
  | .t1 ch s => .t1 ch (cutG s T)
  | .t2 ch s gs c0 c1 c2 => .t2 ch (cutC s gs [c0, c1, c2] T) (tcov gs T) (tcls c0 T) (tcls c1 T) (tcls c2 T)
  | .t3 ch s => .t3 ch (cutV s T)
def Tb.ok : Tb → Prop
  | .t1 ch s => WF s ∧ ∀ r ∈ rulesOf s, r.ok
  | .t2 ch s gs c0 c1 c2 => WF s ∧ (∀ p ∈ s, ∀ r ∈ p.2, RuleN.ok' r) ∧ gs.length < 64 ∧ c0.length < 64 ∧ c1.length < 64 ∧ c2.length < 64
  | .t3 ch s => WF s ∧ ∀ r ∈ rulesOf s, r.ok
/-- the extra facts of the law's own table -/
def Tb.fine : Tb → Prop
  | .t1 ch s => Hd s ∧ ∀ r ∈ rulesOf s, ∀ x ∈ r.back ++ r.inside ++ r.ahead, 0 ≤ x ∧ x < 9
  | .t2 ch s gs c0 c1 c2 => True
  | .t3 ch s => ∀ r ∈ rulesOf s, r.inside ≠ []

theorem atK_of_mem {α : Type} {s : List (Int × List α)} (n : (s.map (·.1)).Nodup) {p : Int × List α} (h : p ∈ s) : atK s p.1 = p.2 := by
  unfold atK; rw [lookup_nd n h]; rfl
theorem mem_rulesOf {α : Type} {s : List (Int × List α)} {r : α} : r ∈ rulesOf s ↔ ∃ k, r ∈ atK s k := by
  unfold rulesOf
  rw [List.mem_flatMap]
  constructor
  · rintro ⟨k, _, h⟩; exact ⟨k, h⟩
  · rintro ⟨k, h⟩
    refine ⟨k, mem_srt.mpr (Classical.byContradiction fun q => ?_), h⟩
    rw [atK_nokey q] at h; simp at h
theorem rulesOf_cnt {α : Type} {s : List (Int × List α)} (n : (s.map (·.1)).Nodup) : (rulesOf s).length = cnt s := by
  unfold rulesOf
  rw [List.length_flatMap]
  have h1 : ((srt (s.map (·.1))).map fun k => (atK s k).length).Perm ((s.map (·.1)).map fun k => (atK s k).length) := (srt_perm _).map _
  rw [h1.sum_nat, List.map_map]
  unfold cnt
  congr 1
  exact List.map_congr_left fun p hp => by simp only [Function.comp, atK_of_mem n hp]
theorem WF.rules_le {α : Type} {s : List (Int × List α)} (h : WF s) : (rulesOf s).length ≤ 8 := by rw [rulesOf_cnt h.nd]; exact h.cnt
theorem foldG_cnt (T : List (Int × Int)) : ∀ (rs : List RuleN) (acc : List (Int × List RuleN)), (acc.map (·.1)).Nodup → cnt (rs.foldl (stepG T) acc) ≤ cnt acc + rs.length
  | [], acc, _ => by simp
  | r :: rs, acc, n => by
    have h1 : cnt (stepG T acc r) ≤ cnt acc + 1 := by
      unfold stepG; split
      · rw [cnt_put n]; exact Nat.le_refl _
      · omega
    have h2 : ((stepG T acc r).map (·.1)).Nodup := by
      unfold stepG; split
      · exact sto_nodup n
      · exact n
    have h3 := foldG_cnt T rs (stepG T acc r) h2
    simp only [List.foldl_cons, List.length_cons]; omega
theorem cutG_wf {s : List (Int × List RuleN)} (T : List (Int × Int)) (h : WF s) : WF (cutG s T) := by
  have h1 := foldG_length T (rulesOf s) []
  have h2 := foldG_cnt T (rulesOf s) [] List.nodup_nil
  have h3 := h.rules_le
  exact ⟨cutG_nodup s T, by unfold cutG; simp at h1; omega, by unfold cutG; simp [cnt] at h2; unfold cnt; omega⟩
theorem selC_wf {f : Int → Bool} {keep : RuleN → Bool} {s : List (Int × List RuleN)} (h : WF s) : WF (selC f keep s) := by
  refine ⟨selC_nodup h.nd, ?_, Nat.le_trans ?_ h.cnt⟩
  · unfold selC; rw [List.length_map]; exact Nat.le_trans (List.length_filter_le _ _) h.len
  · unfold selC cnt
    clear h
    induction s with
    | nil => exact Nat.le_refl _
    | cons p s ih =>
      rw [List.filter_cons]
      have := List.length_filter_le keep p.2
      split
      · simp only [List.map_cons, List.sum_cons] at ih ⊢; omega
      · simp only [List.map_cons, List.sum_cons] at ih ⊢; omega
theorem rulesOf_one {α : Type} (k : Int) (rs : List α) : rulesOf [(k, rs)] = rs := by
  unfold rulesOf
  rw [show srt (([(k, rs)] : List (Int × List α)).map (·.1)) = [k] from srt_one k]
  simp [atK]
theorem cutV_wf {s : List (Int × List RuleC)} (T : List (Int × Int)) (h : WF s) : WF (cutV s T) := by
  have h1 : (cutVs s T).length ≤ 8 := by
    unfold cutVs
    rw [List.length_map]
    exact Nat.le_trans (List.length_filter_le _ _) h.rules_le
  exact ⟨by simp [cutV], by simp [cutV], by simp [cutV, cnt]; exact h1⟩
theorem tcov_length (gs : List Int) (T : List (Int × Int)) : (tcov gs T).length ≤ gs.length := Nat.le_trans (ssrt_length _) (List.length_filterMap_le _ _)
theorem cutC_rules {s : List (Int × List RuleN)} {gs : List Int} {cs : List (List (Int × Int))} {T : List (Int × Int)} {p : Int × List RuleN} {r : RuleN} (hp : p ∈ cutC s gs cs T) (hr : r ∈ p.2) : ∃ q ∈ s, r ∈ q.2 := by
  unfold cutC selC at hp
  obtain ⟨q, hq, rfl⟩ := List.mem_map.mp hp
  exact ⟨q, (List.mem_filter.mp hq).1, (List.mem_filter.mp hr).1⟩
theorem Tb.ok_cut (T : List (Int × Int)) : ∀ {t : Tb}, t.ok → (t.cut T).ok
  | .t1 ch s, ⟨h, hr⟩ => by
    refine ⟨cutG_wf T h, fun r hm => ?_⟩
    obtain ⟨k, hk⟩ := mem_rulesOf.mp hm
    rw [atK_cutG] at hk
    obtain ⟨r0, h0, rfl⟩ := List.mem_map.mp hk
    have ok := hr r0 (List.mem_filter.mp h0).1
    exact ⟨by simp [RuleN.cut]; exact ok.b, by simp [RuleN.cut]; exact ok.i, by simp [RuleN.cut]; exact ok.a, by simp [RuleN.cut]; exact ok.ne⟩
  | .t2 ch s gs c0 c1 c2, ⟨h, hr, hg, h0, h1, h2⟩ => by
    refine ⟨selC_wf h, fun p hp r hm => ?_, Nat.lt_of_le_of_lt (tcov_length _ _) hg, Nat.lt_of_le_of_lt (tcls_length _ _) h0, Nat.lt_of_le_of_lt (tcls_length _ _) h1, Nat.lt_of_le_of_lt (tcls_length _ _) h2⟩
    obtain ⟨q, hq, hm'⟩ := cutC_rules hp hm
    exact hr q hq r hm'
  | .t3 ch s, ⟨h, hr⟩ => by
    refine ⟨cutV_wf T h, fun r hm => ?_⟩
    unfold cutV at hm
    rw [rulesOf_one] at hm
    unfold cutVs at hm
    obtain ⟨r0, h0, rfl⟩ := List.mem_map.mp hm
    have ok := hr r0 (List.mem_filter.mp h0).1
    refine ⟨by simp [RuleC.cut]; exact ok.b, by simp [RuleC.cut]; exact ok.i, by simp [RuleC.cut]; exact ok.a, fun gs hg => ?_⟩
    unfold RuleC.cut at hg
    simp only [← List.map_append] at hg
    obtain ⟨g0, hg0, rfl⟩ := List.mem_map.mp hg
    exact Nat.lt_of_le_of_lt (tcov_length _ _) (ok.g g0 hg0)

/- the three laws -/
theorem toldN {s t : List (Int × List RuleN)} (n1 : (s.map (·.1)).Nodup) (n2 : (t.map (·.1)).Nodup) (h : ∀ k, atK s k = atK t k) : toldSets (mapS RuleN.p s) = toldSets (mapS RuleN.p t) :=
  toldSets_congr (by rw [keys_mapS]; exact n1) (by rw [keys_mapS]; exact n2) fun k => by rw [atK_mapS, atK_mapS, h]
theorem Tb.comp {t : Tb} {T1 T2 T3 : List (Int × Int)} (ok : t.ok) (fine : t.fine) (i1 : Inj T1) (i2 : Inj T2) (h : Comp T1 T2 T3) : ((t.cut T1).cut T2).p.t = (t.cut T3).p.t := by
  match t, ok, fine with
  | .t1 ch s, ok, fine =>
    show D.tup [_, _, .tup (toldSets (mapS RuleN.p (cutG (cutG s T1) T2)))] = D.tup [_, _, .tup (toldSets (mapS RuleN.p (cutG s T3)))]
    rw [toldN (cutG_nodup _ _) (cutG_nodup _ _) fun k => cutG_comp ok.1.nd fine.1 (fun r hr => (ok.2 r hr).ne) i1 i2 h k]
    rfl
  | .t2 ch s gs c0 c1 c2, ok, fine =>
    show D.tup [_, _, .tup (toldSets (mapS RuleN.p (cutC (cutC s gs [c0, c1, c2] T1) (tcov gs T1) [tcls c0 T1, tcls c1 T1, tcls c2 T1] T2))), .tup (iL (tcov (tcov gs T1) T2)), .tup ((used ch [tcls (tcls c0 T1) T2, tcls (tcls c1 T1) T2, tcls (tcls c2 T1) T2]).map clsT)]
      = D.tup [_, _, .tup (toldSets (mapS RuleN.p (cutC s gs [c0, c1, c2] T3))), .tup (iL (tcov gs T3)), .tup ((used ch [tcls c0 T3, tcls c1 T3, tcls c2 T3]).map clsT)]
    have hc : ∀ c, clsT (tcls (tcls c T1) T2) = clsT (tcls c T3) := fun c => clsT_congr (tcls_nodup _ _) (tcls_nodup _ _) (tcls_comp i1 i2 h c)
    have hs : toldSets (mapS RuleN.p (cutC (cutC s gs [c0, c1, c2] T1) (tcov gs T1) [tcls c0 T1, tcls c1 T1, tcls c2 T1] T2)) = toldSets (mapS RuleN.p (cutC s gs [c0, c1, c2] T3)) :=
      toldN (selC_nodup (selC_nodup ok.1.nd)) (selC_nodup ok.1.nd) fun k => cutC_comp i1 i2 h k
    rw [hs, tcov_comp h]
    have hu : (used ch [tcls (tcls c0 T1) T2, tcls (tcls c1 T1) T2, tcls (tcls c2 T1) T2]).map clsT = (used ch [tcls c0 T3, tcls c1 T3, tcls c2 T3]).map clsT := by
      unfold used
      cases ch with
      | true => simp only [if_true, List.map_cons, hc]
      | false =>
        rw [if_neg (by decide), if_neg (by decide)]
        simp only [List.getElem?_cons_succ, List.getElem?_cons_zero, Option.getD_some, List.map_cons, hc]
    rw [hu]
    rfl
  | .t3 ch s, ok, fine =>
    show D.tup [_, _, .tup (toldSets (mapS RuleC.p [(0, cutVs (cutV s T1) T2)]))] = D.tup [_, _, .tup (toldSets (mapS RuleC.p [(0, cutVs s T3)]))]
    rw [cutVs_comp h]
    rfl
/-- a cut to no glyph leaves no rule -/
def Tb.bare : Tb → Prop
  | .t1 ch s => s = []
  | .t2 ch s gs c0 c1 c2 => s = [] ∧ gs = []
  | .t3 ch s => WF s ∧ rulesOf s = []
theorem Tb.cut_nil {t : Tb} (ok : t.ok) (fine : t.fine) : (t.cut []).bare := by
  match t, ok, fine with
  | .t1 ch s, ok, fine =>
    show cutG s [] = []
    unfold cutG
    have : ∀ rs : List RuleN, (∀ r ∈ rs, r.inside ≠ []) → rs.foldl (stepG []) [] = [] := fun rs => by
      induction rs with
      | nil => intro _; rfl
      | cons r rs ih =>
        intro h
        obtain ⟨n0, rest, e⟩ := List.exists_cons_of_ne_nil (h r (.head _))
        have h1 : r.inT [] = false := by
          unfold RuleN.inT
          refine List.all_eq_false.mpr ⟨n0, by simp [e], by simp⟩
        rw [List.foldl_cons, stepG, h1, if_neg (by decide)]
        exact ih fun x hx => h x (.tail _ hx)
    exact this _ fun r hr => (ok.2 r hr).ne
  | .t2 ch s gs c0 c1 c2, ok, fine =>
    refine ⟨?_, tcov_none gs⟩
    show cutC s gs [c0, c1, c2] [] = []
    unfold cutC selC
    rw [tcov_none]
    simp
  | .t3 ch s, ok, fine =>
    refine ⟨cutV_wf _ ok.1, ?_⟩
    unfold cutV cutVs
    rw [rulesOf_one, List.map_eq_nil_iff, List.filter_eq_nil_iff]
    intro r hr q
    obtain ⟨g0, rest, e⟩ := List.exists_cons_of_ne_nil (fine r hr)
    unfold RuleC.full RuleC.cut at q
    rw [List.isEmpty_iff, List.filter_eq_nil_iff] at q
    exact q [] (by simp [e, tcov_none]) (by simp)
/-- a cut that lets each glyph stay -/
theorem Tb.stay {ch : Bool} {s : List (Int × List RuleN)} {T : List (Int × Int)} (ok : (Tb.t1 ch s).ok) (fine : (Tb.t1 ch s).fine) (h : ∀ k m, T.lookup k = some m → m = k) (h9 : ∀ k, 0 ≤ k ∧ k < 9 → T.lookup k = some k) :
    ((Tb.t1 ch s).cut T).p.t = (Tb.t1 ch s).p.t := by
  show D.tup [_, _, .tup (toldSets (mapS RuleN.p (cutG s T)))] = D.tup [_, _, .tup (toldSets (mapS RuleN.p s))]
  have i : Inj T := fun a b v ha hb => by rw [← h _ _ ha, ← h _ _ hb]
  rw [toldN (cutG_nodup _ _) ok.1.nd fun k => ?_]
  · rfl
  by_cases e : T.lookup k = some k
  · rw [cutG_some ok.1.nd fine.1 i e]
    have hin : ∀ r ∈ atK s k, ∀ x ∈ r.back ++ r.inside ++ r.ahead, T.lookup x = some x := fun r hr x hx => h9 x (fine.2 r (mem_rulesOf.mpr ⟨k, hr⟩) x hx)
    have hfl : (atK s k).filter (RuleN.inT T) = atK s k := List.filter_eq_self.mpr fun r hr => by
      unfold RuleN.inT
      exact List.all_eq_true.mpr fun x hx => by rw [hin r hr x hx]; rfl
    rw [hfl]
    refine (List.map_congr_left fun r hr => ?_).trans (List.map_id _)
    have hg : ∀ ns : List Int, (∀ x ∈ ns, x ∈ r.back ++ r.inside ++ r.ahead) → ns.map (gl T) = ns := fun ns hn => by
      refine (List.map_congr_left fun x hx => ?_).trans (List.map_id _)
      unfold gl; rw [hin r hr x (hn x hx)]; rfl
    unfold RuleN.cut
    rw [hg _ (by simp_all), hg _ (by simp_all), hg _ (by simp_all)]; rfl
  · rw [cutG_none fine.1 fun k' q => e (by have := h _ _ q; subst this; exact q)]
    refine (List.eq_nil_iff_forall_not_mem.mpr fun r hr => ?_).symm
    have h1 := fine.1 k r hr
    have h2 := fine.2 r (mem_rulesOf.mpr ⟨k, hr⟩) k (by
      rw [List.mem_append, List.mem_append]
      refine .inl (.inr ?_)
      cases q : r.inside with
      | nil => rw [q] at h1; cases h1
      | cons a b => rw [q] at h1; injection h1 with h1; subst h1; exact .head _)
    exact e (h9 k h2)
end Pb
end
section
open PySem PySem.W PySem.Calls PyProof.Rows PySem.Spec
set_option Elab.async false
set_option linter.unusedVariables false
set_option maxRecDepth 100000
set_option maxHeartbeats 2000000
namespace Pb

theorem Tb.shape : ∀ t : Tb, ∃ sets cv cl, t.p.d = ctxD t.p.form t.p.ch sets cv cl
  | .t1 ch s => ⟨_, _, _, tab1_d⟩
  | .t2 ch s gs c0 c1 c2 => ⟨_, _, _, tab2_d⟩
  | .t3 ch s => ⟨_, _, _, tab3_d⟩
theorem TabOk.tb {e : D} (h : TabOk e) : ∃ t : Tb, e = t.p.d ∧ t.ok ∧ t.fine := by
  cases h with
  | one ch s h ok =>
    have wf : WF s := ⟨ok.nd, by have := ok.len; omega, by have := ok.cnt; omega⟩
    have hr : ∀ k, ∀ r ∈ atK s k, r.small 9 ∧ r.inside.head? = some k := fun k r hr => by
      obtain ⟨p, hp, rfl, hm⟩ := atK_mem hr
      exact ok.r p hp r hm
    refine ⟨.t1 ch s, h, ⟨wf, fun r hm => ?_⟩, fun k r hm => (hr k r hm).2, fun r hm => ?_⟩
    · obtain ⟨k, hk⟩ := mem_rulesOf.mp hm
      obtain ⟨h1, h2⟩ := hr k r hk
      exact ⟨by have := h1.b; omega, by have := h1.i; omega, by have := h1.a; omega, fun e => by rw [e] at h2; cases h2⟩
    · obtain ⟨k, hk⟩ := mem_rulesOf.mp hm
      exact (hr k r hk).1.v
  | two ch s gs c0 c1 c2 h ok g h0 h1 h2 =>
    refine ⟨.t2 ch s gs c0 c1 c2, h, ⟨⟨ok.nd, by have := ok.len; omega, by have := ok.cnt; omega⟩, fun p hp r hr => ?_, by omega, by have := h0.1; omega, by have := h1.1; omega, by have := h2.1; omega⟩, trivial⟩
    have := (ok.r p hp r hr).1
    exact ⟨by have := this.b; omega, by have := this.i; omega, by have := this.a; omega⟩
  | three ch r h ok =>
    refine ⟨.t3 ch [(0, [r])], h, ⟨⟨by simp, by simp, by simp [cnt]⟩, fun x hx => ?_⟩, fun x hx => ?_⟩
    · rw [rulesOf_one] at hx
      rw [List.mem_singleton.mp hx]
      exact ⟨by have := ok.b; omega, by have := ok.i; omega, by have := ok.a; omega, fun gs hg => by have := ok.v gs hg; omega⟩
    · rw [rulesOf_one] at hx
      rw [List.mem_singleton.mp hx]
      exact ok.ne
theorem Pl.up {n m : Nat} {d : D} (h : n ≤ m) : Pl n d → Pl m d := by
  induction n generalizing m d with
  | zero =>
    intro p
    cases d <;> first | exact False.elim p | (cases m <;> trivial)
  | succ n ih =>
    cases m with
    | zero => omega
    | succ m =>
      intro p
      cases d <;> first | exact False.elim p | trivial | exact fun x hx => ih (by omega) (p x hx)
theorem Pl.ints (n : Nat) (l : List Int) : ∀ x ∈ iL l, Pl n x := fun x hx => by
  obtain ⟨i, _, rfl⟩ := List.mem_map.mp hx
  cases n <;> trivial
theorem Pl.mapT {α : Type} {n : Nat} {f : α → D} {l : List α} (h : ∀ x, Pl n (f x)) : Pl (n + 1) (.tup (l.map f)) := fun x hx => by
  obtain ⟨i, _, rfl⟩ := List.mem_map.mp hx
  exact h i
theorem Pl.pairT {n : Nat} {a b : D} (h1 : Pl n a) (h2 : Pl n b) : Pl (n + 1) (.tup [a, b]) := fun x hx => by
  simp only [List.mem_cons, List.not_mem_nil, or_false] at hx
  rcases hx with rfl | rfl <;> assumption
theorem Part.plain (p : Part) : Pl 1 p.t := by
  cases p with
  | num i => trivial
  | cvg gs => exact Pl.ints 0 gs
theorem RuleP.plain (r : RuleP) : Pl 4 r.t := by
  have hp : ∀ ps : List Part, Pl 3 (.tup (ps.map Part.t)) := fun ps => (Pl.mapT fun p => Part.plain p).up (by decide)
  have ha : Pl 3 (.tup (r.acts.map actD)) := (Pl.mapT (n := 1) (f := actD) (l := r.acts) fun a => Pl.pairT (n := 0) (a := .int a.1) (b := .int a.2) trivial trivial).up (by decide : 2 ≤ 3)
  intro x hx
  simp only [List.mem_cons, List.not_mem_nil, or_false] at hx
  rcases hx with rfl | rfl | rfl | rfl
  · exact hp _
  · exact hp _
  · exact hp _
  · exact ha
theorem toldSets_plain (s : SetsP) : Pl 7 (.tup (toldSets s)) := by
  rw [toldSets_eq]
  exact Pl.mapT fun k => Pl.pairT trivial (Pl.mapT fun r => RuleP.plain r)
theorem clsT_plain (l : List (Int × Int)) : Pl 2 (clsT l) := Pl.mapT fun k => Pl.pairT (n := 0) trivial trivial
theorem TableP.plain (t : TableP) : Pl 10 t.t := by
  unfold TableP.t
  split
  · intro x hx
    simp only [List.mem_cons, List.not_mem_nil, or_false] at hx
    rcases hx with rfl | rfl | rfl
    · trivial
    · trivial
    · exact (toldSets_plain _).up (by decide)
  · intro x hx
    simp only [List.mem_cons, List.not_mem_nil, or_false] at hx
    rcases hx with rfl | rfl | rfl | rfl | rfl
    · trivial
    · trivial
    · exact (toldSets_plain _).up (by decide)
    · exact Pl.ints 8 _
    · exact (Pl.mapT fun c => clsT_plain c).up (by decide)
section
variable {K : Frag} {prog : Program} {w : World} {μ : Mu} {Q : D → Mu → Prop}
theorem Tb.walk_cut (L : Lay K) {T : List (Int × Int)} : ∀ {t : Tb}, t.ok → Q (t.cut T).p.d μ → Fn prog w K 6 (.ref 254) μ [t.p.d, .dct (dI T)] Q
  | .t1 ch s, ok, q => cut_context1 L ok.1 ok.2 q
  | .t2 ch s gs c0 c1 c2, ok, q => cut_context2 L ok.1 ok.2.1 ok.2.2.1 ok.2.2.2.1 ok.2.2.2.2.1 ok.2.2.2.2.2 q
  | .t3 ch s, ok, q => cut_context3 L ok.1 ok.2 q
theorem Tb.walk_told (L : Lay K) {t : Tb} (ok : t.ok) (q : Q t.p.t μ) : Fn prog w K 5 (.ref 182) μ [t.p.d] Q := by
  match t, ok, q with
  | .t1 ch s, ok, q =>
    refine ctx_told L (ok.1.mapS _) (iff_of_false (fun h => absurd (show (1 : Int) = 2 from h) (by decide)) (fun h => Bool.noConfusion (show false = true from h))) (fun r hr => ?_) (fun gs cs h => by cases h) q
    change r ∈ rulesOf (mapS RuleN.p s) at hr
    rw [rulesOf_mapS] at hr
    obtain ⟨x, hx, rfl⟩ := List.mem_map.mp hr
    have := ok.2 x hx
    exact ⟨by have := this.b; simp [RuleN.p]; omega, by have := this.i; simp [RuleN.p]; omega, by have := this.a; simp [RuleN.p]; omega⟩
  | .t2 ch s gs c0 c1 c2, ok, q =>
    refine ctx_told L (ok.1.mapS _) ⟨fun h => rfl, fun h => rfl⟩ (fun r hr => ?_) (fun gs' cs h => ?_) q
    · change r ∈ rulesOf (mapS RuleN.p s) at hr
      rw [rulesOf_mapS] at hr
      obtain ⟨x, hx, rfl⟩ := List.mem_map.mp hr
      obtain ⟨k, hk⟩ := mem_rulesOf.mp hx
      obtain ⟨p, hp, _, hm⟩ := atK_mem hk
      have := ok.2.1 p hp x hm
      exact ⟨by have := this.1; simp [RuleN.p]; omega, by have := this.2.1; simp [RuleN.p]; omega, by have := this.2.2; simp [RuleN.p]; omega⟩
    · cases h
      exact ⟨c0, c1, c2, rfl, ok.2.2.2.1, ok.2.2.2.2.1, ok.2.2.2.2.2⟩
  | .t3 ch s, ok, q =>
    refine ctx_told L (ok.1.mapS _) (iff_of_false (fun h => absurd (show (3 : Int) = 2 from h) (by decide)) (fun h => Bool.noConfusion (show false = true from h))) (fun r hr => ?_) (fun gs cs h => by cases h) q
    change r ∈ rulesOf (mapS RuleC.p s) at hr
    rw [rulesOf_mapS] at hr
    obtain ⟨x, hx, rfl⟩ := List.mem_map.mp hr
    have := ok.2 x hx
    exact ⟨by have := this.b; simp [RuleC.p]; omega, by have := this.i; simp [RuleC.p]; omega, by have := this.a; simp [RuleC.p]; omega⟩
theorem Tb.walk_at (L : Lay K) {g : Int} : ∀ {t : Tb}, t.bare → Q (.lst []) μ → Fn prog w K 3 (.ref 225) μ [t.p.d, .int g] Q
  | .t1 ch s, b, q => by cases b; exact rules_at1 L q
  | .t2 ch s gs c0 c1 c2, ⟨_, b⟩, q => by cases b; exact rules_at2 L q
  | .t3 ch s, b, q => rules_at3 L b.1 b.2 q
theorem Tb.walk_rules (L : Lay K) {t : Tb} (b : t.bare) (q : Q (.lst []) μ) : Fn prog w K 1 (.ref 196) μ [t.p.d] Q := by
  have e0 : ∀ α : Type, rulesOf ([] : List (Int × List α)) = [] := fun α => by
    unfold rulesOf
    rw [show srt (([] : List (Int × List α)).map (·.1)) = [] from List.eq_nil_of_length_eq_zero (srt_length [])]; rfl
  match t, b with
  | .t1 ch s, b =>
    cases b
    show Fn prog w K 1 (.ref 196) μ [(tab1 ch []).d] Q
    rw [tab1_d]
    exact ctx_rules L ⟨List.nodup_nil, Nat.zero_le _, Nat.zero_le _⟩ (by rw [e0]; exact q)
  | .t2 ch s gs c0 c1 c2, ⟨b, _⟩ =>
    cases b
    show Fn prog w K 1 (.ref 196) μ [(tab2 ch [] gs [c0, c1, c2]).d] Q
    rw [tab2_d]
    exact ctx_rules L ⟨List.nodup_nil, Nat.zero_le _, Nat.zero_le _⟩ (by rw [e0]; exact q)
  | .t3 ch s, b =>
    show Fn prog w K 1 (.ref 196) μ [(tab3 ch s).d] Q
    rw [tab3_d]
    exact ctx_rules L b.1 (by rw [b.2]; exact q)
end
end Pb
end
section
open PySem PySem.W PySem.Calls PyProof.Rows PySem.Spec
set_option Elab.async false
set_option linter.unusedVariables false
set_option maxRecDepth 100000
set_option maxHeartbeats 4000000
namespace Pb

def thr (T1 T2 : List (Int × Int)) : List (Int × Int) := T1.filterMap fun p => (T2.lookup p.2).map fun v => (p.1, v)
theorem thr_keys (T1 T2 : List (Int × Int)) : ((thr T1 T2).map (·.1)).Sublist (T1.map (·.1)) := by
  induction T1 with
  | nil => exact List.Sublist.refl _
  | cons p T1 ih =>
    unfold thr at ih ⊢
    rw [List.filterMap_cons]
    cases T2.lookup p.2 with
    | none => exact ih.cons _
    | some v => exact ih.cons₂ _
theorem thr_comp {T1 T2 : List (Int × Int)} (n : (T1.map (·.1)).Nodup) : Comp T1 T2 (thr T1 T2) := fun k => by
  induction T1 with
  | nil => rfl
  | cons p T1 ih =>
    obtain ⟨a, b⟩ := p
    rw [List.map_cons, List.nodup_cons] at n
    have ih := ih n.2
    have e : thr ((a, b) :: T1) T2 = (match T2.lookup b with | some v => [(a, v)] | none => []) ++ thr T1 T2 := by
      unfold thr
      rw [List.filterMap_cons]
      cases T2.lookup b <;> rfl
    rw [e, lookup_cons_if]
    by_cases h : k = a
    · subst h
      rw [if_pos rfl]
      have hn : T1.lookup k = none := lookup_nokey n.1
      rw [hn] at ih
      cases hb : T2.lookup b with
      | none => exact ih.trans hb.symm
      | some v =>
        show ((k, v) :: thr T1 T2).lookup k = _
        rw [lookup_cons_if, if_pos rfl]
        exact hb.symm
    · rw [if_neg h, ← ih]
      cases hb : T2.lookup b with
      | none => rfl
      | some v =>
        show ((a, v) :: thr T1 T2).lookup k = _
        rw [lookup_cons_if, if_neg h]
theorem dictZ_self : ∀ (l acc : List (Int × Int)), ((acc ++ l).map (·.1)).Nodup → dictZ acc l = acc ++ l
  | [], acc, _ => by simp [dictZ]
  | p :: l, acc, h => by
    show dictZ (sto acc p.1 p.2) l = _
    have h1 : p.1 ∉ acc.map (·.1) := fun q => by
      rw [List.map_append, List.nodup_append] at h
      exact h.2.2 p.1 q p.1 (by simp) rfl
    rw [sto_new h1, dictZ_self l _ (by simpa using h)]
    simp
theorem dict_dI {l : List (Int × Int)} (h : (l.map (·.1)).Nodup) : dictOfL [] (dI l) = dI l := by
  rw [show dictOfL [] (dI l) = dI (dictZ [] l) from dictOfL_dI l [], dictZ_self l [] h]; rfl
theorem inj_of_nodup : ∀ {T : List (Int × Int)}, (T.map (·.2)).Nodup → Inj T
  | [], _, a, b, v, h, _ => by simp at h
  | (x, y) :: T, n, a, b, v, h1, h2 => by
    rw [List.map_cons, List.nodup_cons] at n
    rw [lookup_cons_if] at h1 h2
    by_cases ha : a = x
    · by_cases hb : b = x
      · rw [ha, hb]
      · rw [if_pos ha] at h1
        rw [if_neg hb] at h2
        injection h1 with h1
        subst h1
        exact absurd (List.mem_map_of_mem (f := (·.2)) (mem_lookup' h2)) n.1
    · by_cases hb : b = x
      · rw [if_neg ha] at h1
        rw [if_pos hb] at h2
        injection h2 with h2
        subst h2
        exact absurd (List.mem_map_of_mem (f := (·.2)) (mem_lookup' h1)) n.1
      · rw [if_neg ha] at h1
        rw [if_neg hb] at h2
        exact inj_of_nodup n.2 a b v h1 h2
def spots : List Int := [0, 1, 2, 3, 4, 5, 6, 7, 8, 9, 10, 11, 12, 13, 14, 15, 16, 17, 18, 19, 20, 21, 22, 23]
def aboutL : List (Int × Int) := spots.map fun k => (poolL.getD k.toNat 0, 5000 - k)
def backL : List (Int × Int) := aboutL.map fun p => (p.2, p.1)
def stayL : List (Int × Int) := poolL.map fun g => (g, g)
theorem about_nd : (aboutL.map (·.1)).Nodup := by decide
theorem about_nd2 : (aboutL.map (·.2)).Nodup := by decide
theorem back_nd : (backL.map (·.1)).Nodup := by decide
theorem back_nd2 : (backL.map (·.2)).Nodup := by decide
theorem stay_nd : (stayL.map (·.1)).Nodup := by decide
theorem thr_stay : thr aboutL backL = stayL := by decide
theorem stay_comp : Comp aboutL backL stayL := thr_stay ▸ thr_comp about_nd
theorem stay_id (k m : Int) (h : stayL.lookup k = some m) : m = k := by
  obtain ⟨g, _, e⟩ := List.mem_map.mp (mem_lookup' h)
  injection e with e1 e2
  rw [← e1, ← e2]
theorem stay_nine (k : Int) (h : 0 ≤ k ∧ k < 9) : stayL.lookup k = some k := by
  have : k = 0 ∨ k = 1 ∨ k = 2 ∨ k = 3 ∨ k = 4 ∨ k = 5 ∨ k = 6 ∨ k = 7 ∨ k = 8 := by omega
  rcases this with rfl | rfl | rfl | rfl | rfl | rfl | rfl | rfl | rfl <;> rfl
theorem pool_nd : poolL.Nodup := by decide
theorem spots_ok : ∀ k ∈ spots, 0 ≤ k ∧ k < 2 ^ 63 ∧ poolL[k.toNat]? = some (poolL.getD k.toNat 0) := by decide
section
variable {c : Cx} {ρ : Rho} {μ : Mu} {QD : D → Mu → Prop}
theorem Ev.ctx {t : Tb} {o : Expr} {name : Str} {f : Addr} {apos pos : Pos} {args : List Expr} (h : Ev c ρ μ o fun d₁ μ₁ => d₁ = t.p.d ∧ methOk c.K 199 name f = true ∧ EvL c ρ μ₁ args fun ds μ₂ => OpC c μ₂ (.ref f) (t.p.d :: ds) QD)
    (hl : ∀ a b d e f : D, ([("form", a), ("is_chained", b), ("sets", d), ("coverage", e), ("classes", f)] : List (Str × D)).lookup name = none := by intros; rfl)
    (hp : (args.all fun e => match e with | .Starred .. => false | _ => true) = true := by rfl)
    (he : ∃ pl, eval (.Call (.Attribute o name apos) args [] pos) c.env = (do
      let ov ← eval o c.env
      standAt apos.atName
      let (f, first) ← holding [ov] (getMethod ov name pl)
      callWith pos f first (backTo pos (starEach args c.env)) (backToKw pos (keywordEach [] c.env))) := by exact ⟨_, rfl⟩) : Ev c ρ μ (.Call (.Attribute o name apos) args [] pos) QD := by
  obtain ⟨sets, cv, cl, sh⟩ := t.shape
  refine Ev.methI (Ev.mono h fun d μ' ⟨e, m, x⟩ => ⟨199, _, f, e.trans sh, m, hl _ _ _ _ _, ?_⟩) hp he
  rw [sh] at x
  exact x
theorem OpA.form {t : Tb} (L : Lay c.K) (q : QD (.int t.p.form) μ) : OpA c μ t.p.d "form" QD := by
  obtain ⟨sets, cv, cl, sh⟩ := t.shape
  rw [sh]
  exact OpA.inst L.attr.2.2.2.2.2.2.1 rfl rfl q
end
end Pb
end
section
open PySem PySem.W PySem.Calls PyProof.Rows PySem.Spec
set_option Elab.async false
set_option linter.unusedVariables false
set_option maxRecDepth 100000
set_option maxHeartbeats 4000000
namespace Pb

theorem thr_list (T1 T2 : List (Int × Int)) : T1.filterMap (fun q => (T2.lookup q.2).map fun v => pairD (q.1, .int v)) = (dI (thr T1 T2)).map pairD := by
  unfold thr
  induction T1 with
  | nil => rfl
  | cons q T1 ih =>
    rw [List.filterMap_cons, List.filterMap_cons]
    cases T2.lookup q.2 with
    | none => exact ih
    | some v => show pairD _ :: _ = _; rw [ih]; rfl
theorem thr_nd {T1 T2 : List (Int × Int)} (n : (T1.map (·.1)).Nodup) : ((thr T1 T2).map (·.1)).Nodup := n.sublist (thr_keys T1 T2)
theorem thr_length (T1 T2 : List (Int × Int)) : (thr T1 T2).length ≤ T1.length := List.length_filterMap_le _ _

section
variable {K : Frag} {prog : Program} {w : World} {μ : Mu} {Q : D → Mu → Prop}

theorem law_rest (L : Lay K) {f L' : Addr} {cd : Value} {A' : Around} (FA : Fit A' 6) {t : Tb} (ok : t.ok) (fine : t.fine) {T1 T2 : List (Int × Int)} (k1 : (T1.map (·.1)).Nodup) (z1 : T1.length ≤ 30) (i1 : Inj T1) (i2 : Inj T2) :
    Ex ⟨prog, w, K, A', fenv "law" (fScope (topAt 33)) L' f cd⟩ ([("other", .dct (dI T2)), ("one", .dct (dI T1)), ("pool", .lst (iL poolL)), ("before", t.p.t), ("table", t.p.d)] : Rho) μ ((fBody (topAt 33)).drop 6) (RetQ fun e _ => e = .bool true) := by
  have hm := L.meth.2.2.2.2.2.2.1
  have hr := L.meth.2.2.2.2.2.2.2.2
  have ok1 := Tb.ok_cut T1 ok
  have ok2 := Tb.ok_cut T2 ok1
  have ok3 := Tb.ok_cut (thr T1 T2) ok
  refine Ex.cons (ExS.asg (Ev.call (Ev.blt L.bl rfl ⟨_, rfl, Keep.typ, ?_⟩)))
  refine EvL.cons (Ev.map T1 (fun q => D.int q.1) (fun q => (T2.lookup q.2).map fun v => pairD (q.1, .int v)) μ (EvI.of (Ev.cell rfl (OpI.dct FA.h ⟨by rw [List.map_map]; rfl, rfl⟩))) (by omega) (fun C q hq => ?_) ?_)
  · have hl : (dI T1).lookup q.1 = some (.int q.2) := by rw [lookup_dI, lookup_nd k1 hq]; rfl
    refine Te.cmp (Ev.sub (Ev.cell rfl (Ev.loc rfl (OpS.dct hl (Ev.cell rfl (Op2.inD ⟨_, rfl, ?_⟩))))))
    rw [lookup_dI]
    cases h : T2.lookup q.2 with
    | none => exact ⟨rfl, rfl⟩
    | some v =>
      refine Ev.tuple (EvL.cons (Ev.loc rfl (EvL.cons (Ev.sub (Ev.cell rfl (Ev.sub (Ev.cell rfl (Ev.loc rfl (OpS.dct hl (OpS.dct (d := .int v) (by rw [lookup_dI, h]; rfl) ?_))))))))))
      exact EvL.nil ⟨by simp, rfl, rfl⟩
  rw [thr_list]
  have tl := thr_length T1 T2
  refine EvL.nil (OpC.dict FA.h (by rw [List.length_map]; omega) ?_)
  rw [dict_dI (thr_nd k1)]
  -- cut twice
  refine Ex.cons (ExS.ite (Te.cmp (Ev.ctx (t := (t.cut T1).cut T2) (f := 182) (Ev.call (Ev.fn L.glob ⟨_, rfl, L.f254.keep, ?_⟩)))))
  refine EvL.cons (Ev.call (Ev.fn L.glob ⟨_, rfl, L.f254.keep, EvL.cons (Ev.loc rfl (EvL.cons (Ev.cell rfl (EvL.nil (OpC.pure FA (Tb.walk_cut L ok ?_))))))⟩))
  refine EvL.cons (Ev.cell rfl (EvL.nil (OpC.pure FA (Tb.walk_cut L ok1 ⟨rfl, hm, EvL.nil (OpC.pure (FA.le (by omega)) (Tb.walk_told L ok2 ?_))⟩))))
  refine Ev.ctx (t := t.cut (thr T1 T2)) (f := 182) (Ev.call (Ev.fn L.glob ⟨_, rfl, L.f254.keep, EvL.cons (Ev.loc rfl (EvL.cons (Ev.loc rfl (EvL.nil (OpC.pure FA (Tb.walk_cut L ok ⟨rfl, hm, EvL.nil (OpC.pure (FA.le (by omega)) (Tb.walk_told L ok3 ?_))⟩))))))⟩))
  rw [Tb.comp ok fine i1 i2 (thr_comp k1)]
  refine Op2.neSame FA.line64 (n := 10) (by decide) (TableP.plain _) ⟨_, rfl, ?_⟩
  refine Ex.nil ?_
  -- turned about and back
  refine Ex.cons (ExS.asg (Ev.call (Ev.blt L.bl rfl ⟨_, rfl, Keep.typ, ?_⟩)))
  refine EvL.cons (Ev.map spots D.int (fun k => some (pairD (poolL.getD k.toNat 0, .int (5000 - k)))) μ (EvI.of (Ev.call (Ev.blt L.bl rfl ⟨_, rfl, Keep.typ, EvL.cons (Ev.call (Ev.blt L.bl rfl ⟨_, rfl, Keep.blt, EvL.cons (Ev.cell rfl (EvL.nil (OpC.lenL (by decide) ?_)))⟩))⟩))) (by decide) (fun C k hk => ?_) ?_)
  · exact EvL.nil (OpC.rng1 (OpI.rng FA.h (by decide) ⟨rfl, rfl⟩))
  · obtain ⟨h0, h1, h2⟩ := spots_ok k hk
    refine Ev.tuple (EvL.cons (Ev.sub (Ev.cell rfl (Ev.loc rfl (OpS.lst (d := .int (poolL.getD k.toNat 0)) h0 h1 (by rw [List.getElem?_map, h2]; rfl) ?_)))))
    exact EvL.cons (Ev.bin (Ev.cint (Ev.loc rfl (Op2.subI (EvL.nil ⟨by simp, rfl, rfl⟩)))))
  rw [filterMap_some, show spots.map (fun k => pairD (poolL.getD k.toNat 0, D.int (5000 - k))) = (dI aboutL).map pairD from rfl]
  refine EvL.nil (OpC.dict FA.h (by decide) ?_)
  rw [dict_dI about_nd]
  refine Ex.cons (ExS.asg (Ev.call (Ev.blt L.bl rfl ⟨_, rfl, Keep.typ, ?_⟩)))
  refine EvL.cons (Ev.map aboutL (fun q => D.int q.1) (fun q => some (pairD (q.2, .int q.1))) μ (EvI.of (Ev.cell rfl (OpI.dct FA.h ⟨by rw [List.map_map]; rfl, rfl⟩))) (by decide) (fun C q hq => ?_) ?_)
  · refine Ev.tuple (EvL.cons (Ev.sub (Ev.cell rfl (Ev.loc rfl (OpS.dct (d := .int q.2) (by rw [lookup_dI, lookup_nd about_nd hq]; rfl) ?_)))))
    exact EvL.cons (Ev.loc rfl (EvL.nil ⟨by simp, rfl, rfl⟩))
  rw [filterMap_some, show aboutL.map (fun q => pairD (q.2, D.int q.1)) = (dI backL).map pairD by simp only [backL, dI, List.map_map]; rfl]
  refine EvL.nil (OpC.dict FA.h (by decide) ?_)
  rw [dict_dI back_nd]
  refine Ex.cons (ExS.asg (Ev.call (Ev.blt L.bl rfl ⟨_, rfl, Keep.typ, ?_⟩)))
  refine EvL.cons (Ev.map poolL D.int (fun g => some (pairD (g, .int g))) μ (EvI.of (Ev.cell rfl (OpI.lst FA.h ⟨rfl, rfl⟩))) (by decide) (fun C g hg => ?_) ?_)
  · exact Ev.tuple (EvL.cons (Ev.loc rfl (EvL.cons (Ev.loc rfl (EvL.nil ⟨by simp, rfl, rfl⟩)))))
  rw [filterMap_some, show poolL.map (fun g => pairD (g, D.int g)) = (dI stayL).map pairD by simp only [stayL, dI, List.map_map]; rfl]
  refine EvL.nil (OpC.dict FA.h (by decide) ?_)
  rw [dict_dI stay_nd]
  have ok4 := Tb.ok_cut aboutL ok
  have ok5 := Tb.ok_cut backL ok4
  have ok6 := Tb.ok_cut stayL ok
  refine Ex.cons (ExS.ite (Te.cmp (Ev.ctx (t := (t.cut aboutL).cut backL) (f := 182) (Ev.call (Ev.fn L.glob ⟨_, rfl, L.f254.keep, ?_⟩)))))
  refine EvL.cons (Ev.call (Ev.fn L.glob ⟨_, rfl, L.f254.keep, EvL.cons (Ev.loc rfl (EvL.cons (Ev.cell rfl (EvL.nil (OpC.pure FA (Tb.walk_cut L ok ?_))))))⟩))
  refine EvL.cons (Ev.loc rfl (EvL.nil (OpC.pure FA (Tb.walk_cut L ok4 ⟨rfl, hm, EvL.nil (OpC.pure (FA.le (by omega)) (Tb.walk_told L ok5 ?_))⟩))))
  refine Ev.ctx (t := t.cut stayL) (f := 182) (Ev.call (Ev.fn L.glob ⟨_, rfl, L.f254.keep, EvL.cons (Ev.loc rfl (EvL.cons (Ev.loc rfl (EvL.nil (OpC.pure FA (Tb.walk_cut L ok ⟨rfl, hm, EvL.nil (OpC.pure (FA.le (by omega)) (Tb.walk_told L ok6 ?_))⟩))))))⟩))
  rw [Tb.comp ok fine (inj_of_nodup about_nd2) (inj_of_nodup back_nd2) stay_comp]
  refine Op2.neSame FA.line64 (n := 10) (by decide) (TableP.plain _) ⟨_, rfl, ?_⟩
  refine Ex.nil ?_
  -- cut to nothing
  have bare := Tb.cut_nil ok fine
  refine Ex.cons (ExS.asg (Ev.call (Ev.fn L.glob ⟨_, rfl, L.f254.keep, EvL.cons (Ev.loc rfl (EvL.cons (Ev.dict0 (EvL.nil (OpC.pure FA (Tb.walk_cut (T := []) L ok ?_))))))⟩)))
  refine Ex.cons (ExS.for (EvI.of (Ev.ctx (t := t.cut []) (f := 196) (Ev.cell rfl ⟨rfl, hr, EvL.nil (OpC.pure (FA.le (by omega)) (Tb.walk_rules L bare (OpI.lst FA.h ?_)))⟩))))
  refine ⟨fun _ ρ' μ' => Sub ([("nothing", (t.cut []).p.d), ("stay", .dct (dI stayL)), ("pool", .lst (iL poolL)), ("before", t.p.t), ("table", t.p.d)] : Rho) ρ' ∧ μ' = μ, ⟨Sub.both (Sub.both (Sub.cons (Sub.cons (Sub.cons (Sub.cons (Sub.cons (Sub.both (Sub.both (Sub.both Sub.nil))))))))), rfl⟩, fun i d ρ' μ' hd => by simp at hd, ?_⟩
  rintro ρ' μ' ⟨sub, rfl⟩
  refine Ex.nil (Ex.sub sub ?_)
  refine Ex.cons (ExS.ite (Te.cmp ?_))
  refine Ev.map poolL D.int (fun _ => none) μ' (EvI.of (Ev.cell rfl (OpI.lst FA.h ⟨rfl, rfl⟩))) (by decide) (fun C g hg => ?_) ?_
  · refine Te.cmp (Ev.call (Ev.fn L.glob ⟨_, rfl, L.f225.keep, EvL.cons (Ev.cell rfl (EvL.cons (Ev.loc rfl (EvL.nil (OpC.pure (FA.le (by omega)) (Tb.walk_at L bare ?_))))))⟩))
    exact Ev.list0 (Op2.neNil FA.line FA.line64 ⟨_, rfl, rfl, rfl⟩)
  rw [show poolL.filterMap (fun _ => (none : Option D)) = [] from rfl]
  refine Ev.list0 (Op2.neNil FA.line FA.line64 ⟨_, rfl, ?_⟩)
  refine Ex.nil ?_
  -- told again
  refine Ex.cons (ExS.ret (Ev.and (Ev.cmp (Ev.ctx (t := t) (f := 182) (Ev.loc rfl ⟨rfl, hm, EvL.nil (OpC.pure (FA.le (by omega)) (Tb.walk_told L ok ?_))⟩)))))
  refine Ev.loc rfl (Op2.eqSame FA.line64 (n := 10) (by decide) (TableP.plain _) ⟨_, rfl, ?_⟩)
  rw [if_pos rfl]
  refine Ev.one (Ev.or (Ev.cmp (Ev.attr (Ev.loc rfl (OpA.form L (Ev.cint (Op2.neI ⟨_, rfl, ?_⟩)))))))
  match t, ok, fine, ok6 with
  | .t1 ch s, ok, fine, ok6 =>
    rw [show ((Tb.t1 ch s).p.form != 1) = false from rfl, if_neg (by decide)]
    refine Ev.one (Ev.cmp (Ev.ctx (t := (Tb.t1 ch s).cut stayL) (f := 182) (Ev.call (Ev.fn L.glob ⟨_, rfl, L.f254.keep, EvL.cons (Ev.loc rfl (EvL.cons (Ev.loc rfl (EvL.nil (OpC.pure FA (Tb.walk_cut L ok ⟨rfl, hm, EvL.nil (OpC.pure (FA.le (by omega)) (Tb.walk_told L ok6 ?_))⟩))))))⟩))))
    rw [Tb.stay ok fine stay_id stay_nine]
    exact Ev.loc rfl (Op2.eqSame FA.line64 (n := 10) (by decide) (TableP.plain _) rfl)
  | .t2 ch s gs c0 c1 c2, _, _, _ =>
    rw [show ((Tb.t2 ch s gs c0 c1 c2).p.form != 1) = true from rfl, if_pos rfl]
    rfl
  | .t3 ch s, _, _, _ =>
    rw [show ((Tb.t3 ch s).p.form != 1) = true from rfl, if_pos rfl]
    rfl
end
end Pb
end
section
open PySem PySem.W PySem.Calls PyProof.Rows PySem.Spec
set_option Elab.async false
set_option linter.unusedVariables false
set_option maxRecDepth 100000
namespace Pb

/- the facts of the top as one look at the heap -/
abbrev FnVt := Str × Arguments × FuncBody × Scope × Addr × List (Str × Addr) × Value × Addr × Bool
def fnV (K : Frag) (f : Addr) : Option FnVt := match K.lookup f with
  | some ⟨_, _, .func fd, _⟩ => some (fd.qualname, fd.params, fd.body, fd.scope, fd.globals, fd.closure, fd.defaults, fd.builtins, codeIn K fd.code fd.qualname)
  | _ => none
abbrev FnRow := Addr × Str × Stmt × Value
def fnG (x : FnRow) : Option FnVt := some (x.2.1, fPars x.2.2.1, .stmts (fBody x.2.2.1), fScope x.2.2.1, mainGlobals, [], x.2.2.2, builtinsNs, true)
theorem fnOk_of {K : Frag} {x : FnRow} (h : fnV K x.1 = fnG x) : FnOk K x.1 x.2.1 x.2.2.1 x.2.2.2 := by
  obtain ⟨f, qual, st, dV⟩ := x
  unfold fnV fnG at h
  dsimp only at h ⊢
  split at h
  · rename_i c d fd s hk
    obtain ⟨n, q, pa, bo, sc, gl, cl, df, kd, dc, pm, an, cd, ct, bu⟩ := fd
    simp only [Option.some.injEq, Prod.mk.injEq] at h
    obtain ⟨rfl, rfl, rfl, rfl, rfl, rfl, rfl, rfl, hc⟩ := h
    have e1 : objOf K f = ⟨c, d, .func ⟨n, q, fPars st, .stmts (fBody st), fScope st, mainGlobals, [], df, kd, dc, pm, an, cd, ct, builtinsNs⟩, s⟩ := by unfold objOf; rw [hk]; rfl
    refine ⟨?_, ?_⟩
    · unfold fdOf; rw [e1]; exact hk
    · unfold fdOf; rw [e1]; exact hc
  · cases h
abbrev fr (a : Addr) (q : Str) (s : Stmt) (d : Value) : FnRow := (a, q, s, d)
def fnRows : List FnRow := [fr 35 "Coverage.__init__" (inCls 2 0) (.none), fr 42 "Coverage.index" (inCls 2 1) (.none), fr 49 "Coverage.has" (inCls 2 2) (.none), fr 56 "Coverage.told" (inCls 2 3) (.none), fr 70 "coverage_of" (topAt 3) (.none),
  fr 75 "turned_coverage" (topAt 4) (.none), fr 89 "ClassDef.__init__" (inCls 6 0) (.none), fr 96 "ClassDef.class_of" (inCls 6 1) (.none), fr 115 "ClassDef.told" (inCls 6 4) (.none), fr 127 "turned_classes" (topAt 7) (.none),
  fr 141 "Rule.__init__" (inCls 12 0) (.none), fr 148 "Rule.told" (inCls 12 1) (.none), fr 177 "Contexts.__init__" (inCls 13 0) (.ref 170), fr 182 "Contexts.told" (inCls 13 1) (.none), fr 189 "Contexts.used_classes" (inCls 13 2) (.none),
  fr 196 "Contexts.rules" (inCls 13 3) (.none), fr 208 "told_row" (topAt 14) (.none), fr 225 "rules_at" (topAt 17) (.none), fr 232 "all_in" (topAt 18) (.none), fr 237 "cut_by_glyphs" (topAt 19) (.none), fr 242 "cut_by_classes" (topAt 20) (.none),
  fr 247 "cut_by_coverages" (topAt 21) (.none), fr 254 "cut_context" (topAt 22) (.none), fr 259 "_law_pen" (topAt 24) (.none), fr 266 "_law_draw" (topAt 25) (.none), fr 271 "_law_glyphs" (topAt 26) (.none), fr 276 "_law_classes" (topAt 27) (.none),
  fr 283 "_law_part" (topAt 28) (.none), fr 288 "_law_rule" (topAt 29) (.none), fr 295 "_law_table" (topAt 30) (.none), fr 300 "_law_pool" (topAt 31) (.none), fr 307 "_law_dict" (topAt 32) (.none), fr 312 "law" (topAt 33) (.none)]
def numV (K : Frag) (x : Str) : Option Int := match nsIn K mainGlobals x with
  | some (some (.int i _)) => some i
  | _ => none
theorem numV_of {K : Frag} {x : Str} {i : Int} (h : numV K x = some i) : ∃ t, nsIn K mainGlobals x = some (some (.int i t)) := by
  unfold numV at h
  split at h
  · rename_i j t hj
    injection h with h
    subst h
    exact ⟨t, hj⟩
  · cases h
def layB (K : Frag) : List Bool := [makeOk K 59 35, makeOk K 118 89, makeOk K 158 141, makeOk K 199 177,
  (setOk K 59 "glyphs" && setOk K 118 "classes" && setOk K 158 "back" && setOk K 158 "inside" && setOk K 158 "ahead" && setOk K 158 "actions" && setOk K 199 "form" && setOk K 199 "is_chained" && setOk K 199 "sets" &&
    setOk K 199 "coverage" && setOk K 199 "classes"),
  (attrOk K 59 "glyphs" && attrOk K 118 "classes" && attrOk K 158 "back" && attrOk K 158 "inside" && attrOk K 158 "ahead" && attrOk K 158 "actions" && attrOk K 199 "form" && attrOk K 199 "is_chained" && attrOk K 199 "sets" &&
    attrOk K 199 "coverage" && attrOk K 199 "classes"),
  (methOk K 59 "index" 42 && methOk K 59 "has" 49 && methOk K 59 "told" 56 && methOk K 118 "class_of" 96 && methOk K 118 "told" 115 && methOk K 158 "told" 148 && methOk K 199 "told" 182 && methOk K 199 "used_classes" 189 && methOk K 199 "rules" 196),
  isIn K (.ref 59) 59, isNotIn K "int" 59,
  ([("Coverage", 59), ("coverage_of", 70), ("turned_coverage", 75), ("ClassDef", 118), ("turned_classes", 127), ("Rule", 158), ("Contexts", 199), ("told_row", 208), ("rules_at", 225), ("all_in", 232), ("cut_by_glyphs", 237),
    ("cut_by_classes", 242), ("cut_by_coverages", 247), ("cut_context", 254), ("_law_pen", 259), ("_law_draw", 266), ("_law_glyphs", 271), ("_law_classes", 276), ("_law_part", 283), ("_law_rule", 288), ("_law_table", 295), ("_law_pool", 300),
    ("_law_dict", 307)] : List (Str × Addr)).all (fun p => nsIn K mainGlobals p.1 == some (some (.ref p.2))),
  (["len", "tuple", "sorted", "dict", "int", "abs", "range", "list", "set", "isinstance"] : List Str).all (fun x => nsIn K mainGlobals x == some none),
  nsIn K mainGlobals "law" == some (some (.ref 312))]
def layV (K : Frag) := (fnRows.map fun x => fnV K x.1, K.lookup 170, layB K, numV K "BY_GLYPHS", numV K "BY_CLASSES", numV K "BY_COVERAGES")
def layG : List (Option FnVt) × Option Obj × List Bool × Option Int × Option Int × Option Int :=
  (fnRows.map fnG, some (seqObj "tuple" #[.none, .none] 0), [true, true, true, true, true, true, true, true, true, true, true, true], some 1, some 2, some 3)
theorem lay_of {K : Frag} (h : layV K = layG) : Lay K ∧ FnOk K 312 "law" (topAt 33) .none ∧ nsIn K mainGlobals "law" = some (some (.ref 312)) := by
  unfold layV layG at h
  obtain ⟨h1, h⟩ := Prod.mk.inj h
  obtain ⟨h2, h⟩ := Prod.mk.inj h
  obtain ⟨h3, h⟩ := Prod.mk.inj h
  obtain ⟨h4, h⟩ := Prod.mk.inj h
  obtain ⟨h5, h6⟩ := Prod.mk.inj h
  have hf : ∀ (i : Nat) (x : FnRow), fnRows[i]? = some x → FnOk K x.1 x.2.1 x.2.2.1 x.2.2.2 := fun i x e => by
    have h7 := congrArg (fun l => l[i]?) h1
    simp only [List.getElem?_map, e, Option.map_some] at h7
    exact fnOk_of (Option.some.inj h7)
  unfold layB at h3
  simp only [List.cons.injEq, and_true] at h3
  obtain ⟨b1, b2, b3, b4, b5, b6, b7, b8, b9, b10, b11, b12⟩ := h3
  obtain ⟨t1, n1⟩ := numV_of h4
  obtain ⟨t2, n2⟩ := numV_of h5
  obtain ⟨t3, n3⟩ := numV_of h6
  exact ⟨⟨hf 0 (fr 35 "Coverage.__init__" (inCls 2 0) (.none)) rfl, hf 1 (fr 42 "Coverage.index" (inCls 2 1) (.none)) rfl, hf 2 (fr 49 "Coverage.has" (inCls 2 2) (.none)) rfl, hf 3 (fr 56 "Coverage.told" (inCls 2 3) (.none)) rfl, hf 4 (fr 70 "coverage_of" (topAt 3) (.none)) rfl, hf 5 (fr 75 "turned_coverage" (topAt 4) (.none)) rfl, hf 6 (fr 89 "ClassDef.__init__" (inCls 6 0) (.none)) rfl, hf 7 (fr 96 "ClassDef.class_of" (inCls 6 1) (.none)) rfl, hf 8 (fr 115 "ClassDef.told" (inCls 6 4) (.none)) rfl, hf 9 (fr 127 "turned_classes" (topAt 7) (.none)) rfl, hf 10 (fr 141 "Rule.__init__" (inCls 12 0) (.none)) rfl, hf 11 (fr 148 "Rule.told" (inCls 12 1) (.none)) rfl, hf 12 (fr 177 "Contexts.__init__" (inCls 13 0) (.ref 170)) rfl, h2, hf 13 (fr 182 "Contexts.told" (inCls 13 1) (.none)) rfl, hf 14 (fr 189 "Contexts.used_classes" (inCls 13 2) (.none)) rfl, hf 15 (fr 196 "Contexts.rules" (inCls 13 3) (.none)) rfl, hf 16 (fr 208 "told_row" (topAt 14) (.none)) rfl,
    hf 17 (fr 225 "rules_at" (topAt 17) (.none)) rfl, hf 18 (fr 232 "all_in" (topAt 18) (.none)) rfl, hf 19 (fr 237 "cut_by_glyphs" (topAt 19) (.none)) rfl, hf 20 (fr 242 "cut_by_classes" (topAt 20) (.none)) rfl, hf 21 (fr 247 "cut_by_coverages" (topAt 21) (.none)) rfl, hf 22 (fr 254 "cut_context" (topAt 22) (.none)) rfl, hf 23 (fr 259 "_law_pen" (topAt 24) (.none)) rfl, hf 24 (fr 266 "_law_draw" (topAt 25) (.none)) rfl, hf 25 (fr 271 "_law_glyphs" (topAt 26) (.none)) rfl, hf 26 (fr 276 "_law_classes" (topAt 27) (.none)) rfl, hf 27 (fr 283 "_law_part" (topAt 28) (.none)) rfl, hf 28 (fr 288 "_law_rule" (topAt 29) (.none)) rfl, hf 29 (fr 295 "_law_table" (topAt 30) (.none)) rfl, hf 30 (fr 300 "_law_pool" (topAt 31) (.none)) rfl, hf 31 (fr 307 "_law_dict" (topAt 32) (.none)) rfl,
    b1, b2, b3, b4, b5, b6, b7, b8, b9, b10, ⟨t1, t2, t3, n1, n2, n3⟩, b11⟩, hf 32 (fr 312 "law" (topAt 33) (.none)) rfl, by simpa using b12⟩
def LaySays (h : Heap) : Prop := ∃ K : Frag, K.In h ∧ Lay K ∧ FnOk K 312 "law" (topAt 33) .none ∧ nsIn K mainGlobals "law" = some (some (.ref 312))
theorem LaySays.keeps {h h' : Heap} (x : LaySays h) (k : ∀ b o, h.get? b = some o → h'.get? b = some o) : LaySays h' := let ⟨K, a, b⟩ := x; ⟨K, a.keeps k, b⟩
end Pb
end
section
open PySem PySem.W PySem.Calls PyProof.Rows PySem.Spec
set_option Elab.async false
set_option linter.unusedVariables false
set_option maxRecDepth 100000
set_option maxHeartbeats 4000000
namespace Pb
section
variable {K : Frag} {prog : Program} {w : World}

theorem law_true (L : Lay K) (F : FnOk K 312 "law" (topAt 33) .none) {ns : List Int} (hn : ns.length ≤ 10000) : Fn prog w K 7 (.ref 312) [] [.vec (iL ns)] fun e _ => e = .bool true := by
  refine Fn.intro F.at (names := ["script"]) (fun s vs _ _ _ _ _ _ _ _ hl => bind1 hl fun _ => rfl) (by decide) (by rfl) fun A' L' cd FA => ?_
  have hm := L.meth.2.2.2.2.2.2.1
  refine Ex.cons (ExS.asg (Ev.call (Ev.fn L.glob ⟨_, rfl, L.f259.keep, EvL.cons (Ev.loc rfl (EvL.nil (OpC.fn (n := 1) (μ₁ := []) (μf := []) (FA.le (by omega)) ((law_pen L hn).mono (m := 1) fun e μ' h => ?_))))⟩)))
  obtain ⟨p, d, rfl, rfl, hp⟩ := h
  show Ex _ _ [(p, d)] _ _
  refine Ex.cons (ExS.asg (Ev.call (Ev.fn L.glob ⟨_, rfl, L.f295.keep, EvL.cons (Ev.loc rfl (EvL.nil (OpC.pen (FA.le (by omega)) (law_table L hp) ?_)))⟩)))
  intro e d1 hp1 htab
  obtain ⟨t, rfl, ok, fine⟩ := htab.tb
  refine Ex.cons (ExS.asg (Ev.ctx (t := t) (f := 182) (Ev.loc rfl ⟨rfl, hm, EvL.nil (OpC.pure (FA.le (by omega)) (Tb.walk_told L ok ?_))⟩)))
  refine Ex.cons (ExS.asg (Ev.call (Ev.fn L.glob ⟨_, rfl, L.f300.keep, EvL.cons (Ev.loc rfl (EvL.nil (OpC.pure (FA.le (by omega)) (law_pool L ?_))))⟩)))
  refine Ex.cons (ExS.asg (Ev.call (Ev.fn L.glob ⟨_, rfl, L.f307.keep, ?_⟩)))
  refine EvL.cons (Ev.loc rfl (EvL.cons (Ev.cell rfl (EvL.cons (Ev.cint (EvL.cons (Ev.cint (EvL.nil (OpC.pen (FA.le (by omega)) (law_dict L (by omega) (by decide) (by decide) (by decide) pool_nd hp1) ?_)))))))))
  rintro e d2 hp2 ⟨T1, rfl, s1, v1⟩
  have k1 : (T1.map (·.1)).Nodup := pool_nd.sublist s1
  have z1 : T1.length ≤ 24 := by have := s1.length_le; simpa [poolL] using this
  refine Ex.cons (ExS.asg (Ev.call (Ev.fn L.glob ⟨_, rfl, L.f307.keep, ?_⟩)))
  refine EvL.cons (Ev.loc rfl (EvL.cons (Ev.call (Ev.blt L.bl rfl ⟨_, rfl, Keep.blt, ?_⟩))))
  refine EvL.cons (Ev.map T1 (fun q => D.int q.1) (fun q => some (D.int q.2)) [(p, d2)] (EvI.of (Ev.cell rfl (OpI.dct FA.h ⟨by rw [List.map_map]; rfl, rfl⟩))) (by omega) (fun C q hq => ?_) ?_)
  · exact Ev.sub (Ev.cell rfl (Ev.loc rfl (OpS.dct (d := .int q.2) (by rw [lookup_dI, lookup_nd k1 hq]; rfl) ⟨rfl, rfl⟩)))
  rw [filterMap_some, show T1.map (fun q => D.int q.2) = (T1.map (·.2)).map D.int by rw [List.map_map]; rfl]
  refine EvL.nil (OpC.sortL (by rw [List.length_map]; omega) fun ms hms => ?_)
  have hml : ms.length ≤ 30 := by rw [hms.1.length_eq, List.length_map]; omega
  have hmn : ms.Nodup := hms.1.nodup_iff.mpr v1
  refine EvL.cons (Ev.cint (EvL.cons (Ev.cint (EvL.nil (OpC.pen (FA.le (by omega)) (law_dict L (by omega) (by decide) (by decide) hml hmn hp2) ?_)))))
  rintro e d3 hp3 ⟨T2, rfl, s2, v2⟩
  refine Ex.sub (ρ' := ([("other", .dct (dI T2)), ("one", .dct (dI T1)), ("pool", .lst (iL poolL)), ("before", t.p.t), ("table", t.p.d)] : Rho)) (Sub.both (Sub.both (Sub.both (Sub.both (Sub.both Sub.nil))))) (law_rest L FA ok fine k1 (by omega) (inj_of_nodup v1) (inj_of_nodup v2))
end
end Pb
end
section
open PySem PySem.W PySem.Calls PyProof.Rows PySem.Spec
set_option Elab.async false
set_option linter.unusedVariables false
set_option maxRecDepth 100000
set_option maxHeartbeats 0
namespace Pb

/- the head by hand: one run of the top over a tree of objects, and one look at what it leaves -/
abbrev pw : Program := PySem.Challenge.pw_pb0179_01
def q0 : Program := { pw with main := { pw.main with body := pw.main.body.drop 33 } }
def loose0 : List Str := ["_wall", "Coverage", "coverage_of", "turned_coverage", "ClassDef", "turned_classes", "BY_GLYPHS", "BY_CLASSES", "BY_COVERAGES", "Rule", "Contexts", "told_row", "tests_of", "rule_tests", "rules_at", "all_in", "cut_by_glyphs", "cut_by_classes", "cut_by_coverages", "cut_context", "_law_pen", "_law_draw", "_law_glyphs", "_law_classes", "_law_part", "_law_rule", "_law_table", "_law_pool", "_law_dict"]
def seenAt : List Addr := [2, 3, 15, 17, 18, 20, 21, 29, 31, 32, 34, 35, 36, 38, 39, 41, 42, 43, 45, 46, 48, 49, 50, 52, 53, 55, 56, 57, 58, 59, 60, 61, 64, 66, 67, 69, 70, 71, 74, 75, 83, 85, 86, 88, 89, 90, 92, 93, 95, 96, 97, 99, 100, 102, 103, 104, 106, 107, 109, 110, 111, 114, 115, 116, 117, 118, 119, 120, 123, 126, 127, 135, 137, 138, 140, 141, 142, 144, 145, 147, 148, 149, 151, 152, 154, 155, 156, 157, 158, 159, 160, 170, 171, 173, 174, 176, 177, 178, 181, 182, 183, 185, 186, 188, 189, 190, 192, 193, 195, 196, 197, 198, 199, 200, 201, 204, 207, 208, 209, 212, 213, 214, 216, 217, 219, 220, 221, 224, 225, 226, 228, 229, 231, 232, 233, 236, 237, 238, 241, 242, 243, 246, 247, 248, 250, 251, 253, 254, 255, 258, 259, 260, 262, 263, 265, 266, 267, 270, 271, 272, 275, 276, 277, 279, 280, 282, 283, 284, 287, 288, 289, 291, 292, 294, 295, 296, 299, 300, 301, 303, 304, 306, 307, 308, 311, 312]
def topRunT (stp : SharedT → Thread → Option (SharedT × Thread)) (okk : Thread → Bool) : Nat → SharedT → Thread → Option SharedT
  | 0, _, _ => none
  | n + 1, s, t => match through t with
    | true => some s
    | false => match okk t with
      | false => none
      | true => match stp s t with
        | some (s', t') => topRunT stp okk n s' t'
        | none => none
theorem topRunT_of {tb : String → Option Builtin} {p : Program} {w : World} {n₀ : Nat} {ann : Option Value} : ∀ {n : Nat} {s s' : SharedT} {t : Thread}, topRunT (stepT (denote tb) p w) (stepOk n₀ ann) n s t = some s' → topRun tb p w n₀ ann n s.abs t = some s'.abs
  | 0, _, _, _, h => by cases h
  | n + 1, s, s', t, h => by
    unfold topRunT at h
    unfold topRun
    cases h1 : through t with
    | true => rw [h1] at h; cases h; rfl
    | false =>
      rw [h1] at h
      cases h2 : stepOk n₀ ann t with
      | false => rw [h2] at h; cases h
      | true =>
        rw [h2] at h
        cases h3 : stepT (denote tb) p w s t with
        | none => rw [h3] at h; cases h
        | some x =>
          obtain ⟨s₂, t₂⟩ := x
          rw [h3] at h
          dsimp only at h ⊢
          rw [stepT_spec h3]
          exact topRunT_of h
def treeOf : List Obj → BT → Nat → BT
  | [], t, _ => t
  | o :: os, t, n => treeOf os (t.ins n o) (n + 1)
/-- the state behind the opening, over a tree -/
noncomputable def bootT (P : Params) (os : OsState) : SharedT := ⟨treeOf (boot_heap P).objs.toList .nil 0, (boot_heap P).objs.size, (boot_heap P).life, #[], boot_drawn, boot_toks, os⟩
theorem bootT_abs (P : Params) (os : OsState) : (bootT P os).abs = ⟨boot_heap P, Array.mk [], boot_drawn, boot_toks, os⟩ := by kernel_rfl
def fragT (as : List Addr) (s : SharedT) : Frag := as.filterMap fun a => (match Nat.blt a s.n with | true => (s.tree.get a).bind alive | false => none).map fun o => (a, o)
theorem fragT_in (as : List Addr) (s : SharedT) : (fragT as s).In s.abs.heap := fun a o e => by
  unfold fragT at e
  induction as with
  | nil => cases e
  | cons b as ih =>
    rw [List.filterMap_cons] at e
    split at e
    · exact ih e
    · rename_i p hp
      obtain ⟨o', ho', rfl⟩ := Option.map_eq_some_iff.mp hp
      rw [List.lookup_cons] at e
      by_cases q : a = b
      · subst q
        simp only [beq_self_eq_true, Option.some.injEq] at e
        subst e
        split at ho'
        · rename_i hlt
          obtain ⟨o₂, h1, h2⟩ := Option.bind_eq_some_iff.mp ho'
          show (absHeap s.tree s.n s.life).get? a = _
          rw [abs_get (Nat.le_of_ble_eq_true hlt) h1]; exact h2
        · cases ho'
      · rw [show (a == b) = false by simpa using q] at e; exact ih e
theorem leftBy {p q : Program} {loose : List Str} {Xt : Shared → Bool} {N : Nat} {m₀ : Nat} {ann : Option Value} (e : opening p = plainProg p.main.scope.names) (hN : Nat.ble 600 N = true) (f : ∀ s, fenceModules? p s = some s)
    (h0 : ∀ P : Params, ((boot_heap P).isNs mainGlobals, (boot_heap P).objs.size, (boot_heap P).nsMap mainGlobals "__annotations__") = (true, m₀, ann))
    (run1 : ∀ (w : World) (os : OsState), (topRunT (stepT (denote treeTable) p w) (stepOk m₀ ann) N (bootT w.params os) (topStub p)).map (fun s => (staticsOk (importedModules p.main.body) (boot_heap w.params) s.abs.heap && namesBound p s.abs.heap && gensDone s.abs && laidKept (boot_heap w.params) s.abs.heap,
      openSeen q loose (importedModules p.main.body) Xt true s.abs)) = some (true, openGood q loose))
    (run2 : ∀ (w : World) (os : OsState), (topRunT (stepT (denote treeTable) p w) (stepOk m₀ ann) N (bootT w.params os) (topStub p)).map (fun s => layV (fragT seenAt s)) = some layG) : LeftO p q loose Xt (fun s => LaySays s.heap) (fun _ => True) N := fun w => by
  obtain ⟨s, hs, hv⟩ := Option.map_eq_some_iff.mp (boot_open e hN f w)
  obtain ⟨h, gs, d, k, os⟩ := s
  obtain ⟨rfl, rfl, rfl, rfl⟩ : h = boot_heap w.params ∧ gs = #[] ∧ d = boot_drawn ∧ k = boot_toks := by simpa using hv
  obtain ⟨z1, z2, z3⟩ : _ ∧ _ ∧ _ := by simpa only [Prod.mk.injEq] using h0 w.params
  obtain ⟨s', hr, hl⟩ := Option.map_eq_some_iff.mp (run1 w os)
  have h2 := run2 w os
  rw [hr] at h2
  have h2 : LaySays s'.abs.heap := ⟨_, fragT_in seenAt s', lay_of (Option.some.inj h2)⟩
  have r := topRunT_of hr
  rw [bootT_abs] at r
  obtain ⟨l1, l2⟩ := Prod.mk.inj hl
  unfold openEnds
  rw [hs]
  show (topFrom treeTable p w N _).map _ = _
  have t : topFrom treeTable p w N ⟨boot_heap w.params, #[], boot_drawn, boot_toks, os⟩ = some s'.abs := by
    unfold topFrom
    dsimp only
    rw [z1, z2, z3, r]
    show (match staticsOk (importedModules p.main.body) (boot_heap w.params) s'.abs.heap && namesBound p s'.abs.heap && gensDone s'.abs && laidKept (boot_heap w.params) s'.abs.heap with | true => _ | false => _) = _
    rw [l1]
  rw [t]
  exact congrArg some (Prod.ext l2 (eq_true h2))
theorem run1 : ∀ (w : World) (os : OsState), (topRunT (stepT (denote treeTable) pw w) (stepOk 11 (some (.ref 6))) 4200 (bootT w.params os) (topStub pw)).map (fun s => (staticsOk (importedModules pw.main.body) (boot_heap w.params) s.abs.heap && namesBound pw s.abs.heap && gensDone s.abs && laidKept (boot_heap w.params) s.abs.heap,
      openSeen q0 loose0 (importedModules pw.main.body) (fun _ => true) true s.abs)) = some (true, openGood q0 loose0) := by
  intro w os
  rw [Fast.te10156331382660048174, Fast.te11892475500146522536, Fast.te14364793385576792824, Fast.te6613529449190102663, Fast.te4187177175401517315]
  kernel_rfl
theorem run2 : ∀ (w : World) (os : OsState), (topRunT (stepT (denote treeTable) pw w) (stepOk 11 (some (.ref 6))) 4200 (bootT w.params os) (topStub pw)).map (fun s => layV (fragT seenAt s)) = some layG := by
  intro w os
  rw [Fast.te10156331382660048174, Fast.te11892475500146522536, Fast.te14364793385576792824, Fast.te6613529449190102663]
  kernel_rfl
theorem open0 : opening pw = plainProg pw.main.scope.names := by kernel_rfl
theorem fence0 (s : Shared) : fenceModules? pw s = some s := by kernel_rfl
theorem boot0 (P : Params) : ((boot_heap P).isNs mainGlobals, (boot_heap P).objs.size, (boot_heap P).nsMap mainGlobals "__annotations__") = (true, 11, some (.ref 6)) := by kernel_rfl
theorem left0 : LeftO pw q0 loose0 (fun _ => true) (fun s => LaySays s.heap) (fun _ => True) 4200 := leftBy open0 (by decide) fence0 boot0 run1 run2
end Pb
end
section
open PySem PySem.W PySem.Calls PyProof.Rows PySem.Spec
set_option Elab.async false
set_option linter.unusedVariables false
set_option maxRecDepth 100000
set_option maxHeartbeats 0
namespace Pb
theorem said1 : looksOpen PySem.Challenge.rw_pb0179_01.row.prog = true := by
  rw [Fast.te12908688711261696721]
  kernel_rfl
theorem said : PySem.Challenge.rw_pb0179_01.wellSaid = true := by
  unfold OpenLaw.wellSaid OpenRow.wellSaid OpenRow.partSaid
  rw [said1, Fast.te8326940854005059898, Fast.te17119622794617984870, Fast.te8179353310426384613, Fast.te9558739934217749035, Fast.te16286561074155671207, Fast.te10501279942588096481, Fast.te6984425678791042302]
  kernel_rfl
abbrev row : OpenRow := PySem.Challenge.rw_pb0179_01.row
def dLaw : DefRec := { name := "law", params := fPars (topAt 33), body := fBody (topAt 33), scope := fScope (topAt 33), pos := match topAt 33 with | .FunctionDef _ _ _ _ _ _ _ _ _ p => p | _ => ⟨0, 0, 0, 0⟩ }
theorem hdef0 : defOf q0 row.name = some (dLaw, []) := by kernel_rfl
theorem hp0 : row.prog.theDef row.name = some (dLaw.params, dLaw.body, dLaw.scope) := by kernel_rfl
theorem hk0 : kwWritten? dLaw.params.kwonlyargs dLaw.params.kw_defaults = some [] := by kernel_rfl
theorem ok0 : (chainsOk q0 && opensWell row.prog && (frees row.toRowW && row.within.isEmpty)) = true := by kernel_rfl
theorem bare0 : row.prog.bare := ⟨by kernel_rfl, by kernel_rfl, by kernel_rfl, by kernel_rfl, by kernel_rfl, by decide +kernel⟩
theorem wit0 : row.toRowW.promised := ⟨[.list [.int 3, .int 1]], by decide +kernel, by decide +kernel⟩
theorem law_ends (c : ClaimW) (cl : Str → Option Addr) (mean : ExcName → Option Value) (args : List WData) {K : Frag} {prog : Program} {w : World} {s₁ : Shared} {l : Addr} {vs : List Value} {ns : List Int} (B : Bas K s₁.heap) (L : Lay K) (F : FnOk K 312 "law" (topAt 33) .none)
    (hl : s₁.heap.IsList l vs.toArray) (hi : IntsAre vs ns) (hn : ns.length ≤ 63) (hg : s₁.gens = #[]) (h1 : ∀ cls, c.raises args cls = false) (h2 : c.post args (.bool true) args = true) :
    wpAny (model prog w) callerA (PySem.call (.ref 312) [.ref l]) (fun v s' => GoodWG c cl mean args s₁ (.ok (.ret v)) s') (fun e s' => GoodWG c cl mean args s₁ (.error e) s') s₁ := by
  have I : GInv K [] (fun a => s₁.heap.get? a) s₁.heap := ⟨⟨s₁.heap, B, fun _ _ e => e⟩, fun _ _ e => e, fun p hp => (nomatch hp), List.nodup_nil⟩
  obtain ⟨o, ho, hc, z, hd⟩ := hl
  have D1 : Den (fun a => s₁.heap.get? a) (.ref l) (.vec (iL ns)) := by
    rw [Den]; exact ⟨l, o, vs.toArray, z, rfl, ho, hc, hd, by simpa using DenL.of_ints hi⟩
  have FA : Fit callerA 7 := ⟨rfl, by decide, by decide⟩
  refine wpAny_call (codeAny_mono (law_true L F (by omega) callerA _ s₁ [.ref l] FA I (DenL.one D1)) fun r s' p => ?_)
  obtain ⟨v, rfl, g', d, μ', I', st, hv, rfl⟩ := p
  rw [Den] at hv
  subst hv
  refine GoodW.toG ⟨.inl ⟨_, _, _, rfl, h1, .bool true, h2, unshared_nil⟩, fun b o e => st.keep b o (fun ⟨_, h⟩ => (nomatch h)) (fun h => h) e, st.eq.2, st.eq.1.trans hg⟩
theorem reach {w : World} {s₀ s₁ : Shared} {mg mb : Str → Option Value} {p : Program} {lo : List Str} {R : WRecords} {XP : (Str → Option Value) → Heap → Prop} {a : Addr} (G : Ground p lo R XP w s₀ mg mb s₁.heap) (Y : LaySays s₁.heap) (hmg : mg "law" = some (.ref a)) : a = 312 ∧ ∃ K, Bas K s₁.heap ∧ Lay K ∧ FnOk K 312 "law" (topAt 33) .none := by
  obtain ⟨K, KX, L, F, hlaw⟩ := Y
  refine ⟨?_, K, ⟨KX, G.T.nolimit, mg, mb, G.T.g, G.T.b, G.T.builtins⟩, L, F⟩
  have h1 := mg_of KX G.T.g hlaw
  rw [hmg] at h1
  injection h1 with h1
  injection h1
theorem law_walk : WalkO q0 loose0 (fun _ _ => True) (fun _ h => LaySays h) row.toRowW dLaw [] (fun f vs => PySem.call f vs) := by
  intro w s₀ s₁ mg mb G Y a o pm cd doc dV kV ho hd hcd hD hmg hgens args vals as hpre hlay hrd hwl hlo
  obtain ⟨ea, K, B, L, F⟩ := reach G Y hmg
  subst ea
  clear ho hd hcd hD hmg G Y
  wrow_args hpre hlay hrd hwl hlo
  exact law_ends _ _ _ _ B L F (by assumption) (by assumption) (by omega) hgens (raisesW_false allW_false_nil) (by wrow_post)
theorem holds : PySem.Challenge.rw_pb0179_01.Holds := by
  refine holds_law said fun hs => ?_
  exact holds_open (r := row) (q := q0) (loose := loose0) (Xt := fun _ => true) (XP := fun _ _ => True) (YP := fun _ h => LaySays h) (d := dLaw) (kwd := []) left0 (fun w s e => of_eq_true e) (fun w h h' x k => x.keeps k)
    (fun _ _ => trivial) (fun _ _ _ _ _ => trivial) hdef0 hp0 hk0 (fun _ _ => recFacts_nil rfl) rfl hs ok0 bare0 wit0 law_walk
end Pb
end
theorem PySem.Challenge.cw_pb0179_01_holds : PySem.Challenge.rw_pb0179_01.Holds :=
  Pb.holds
