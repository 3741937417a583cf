import PyProof.Rows.All
import Wide.All
import OpenK.AllK
import Wide.FinOn
import PySem.Challenge.RW_sj0112_01

set_option Elab.async false

-- part La
section
open PySem PySem.W PyProof.Rows PySem.Calls
set_option maxRecDepth 100000
set_option linter.unusedVariables false
namespace Mine

/-- everything outside `W` is kept, and what is in `W` goes on being there -/
structure Kp (W : List Addr) (h h' : Heap) : Prop where
  keep : ∀ b o, b ∉ W → h.get? b = some o → h'.get? b = some o
  al : ∀ b ∈ W, ∀ o, h.get? b = some o → ∃ o', h'.get? b = some o'
/-- all of these are there -/
def Al (mu : List Addr) (h : Heap) : Prop := ∀ b ∈ mu, ∃ o, h.get? b = some o
theorem Kp.rfl' {W : List Addr} {h : Heap} : Kp W h h := ⟨fun _ _ _ e => e, fun _ _ o e => ⟨o, e⟩⟩
theorem Kp.there {W : List Addr} {h h' : Heap} (x : Kp W h h') {b : Addr} (e : ∃ o, h.get? b = some o) : ∃ o, h'.get? b = some o := by
  obtain ⟨o, e⟩ := e
  by_cases q : b ∈ W
  · exact x.al b q o e
  · exact ⟨o, x.keep b o q e⟩
theorem Al.kp {mu W : List Addr} {h h' : Heap} (x : Al mu h) (k : Kp W h h') : Al mu h' := fun b hb => k.there (x b hb)
theorem Al.nil {h : Heap} : Al [] h := fun _ q => nomatch q
theorem Al.cons {a : Addr} {mu : List Addr} {h : Heap} (e : ∃ o, h.get? a = some o) (x : Al mu h) : Al (a :: mu) h := fun b hb => (List.mem_cons.mp hb).elim (fun q => q ▸ e) (x b)
theorem Al.append {mu nu : List Addr} {h : Heap} (x : Al mu h) (y : Al nu h) : Al (mu ++ nu) h := fun b hb => (List.mem_append.mp hb).elim (x b) (y b)
theorem Al.less {mu nu : List Addr} {h : Heap} (x : Al mu h) (s : ∀ b ∈ nu, b ∈ mu) : Al nu h := fun b hb => x b (s b hb)
theorem Al.new {mu : List Addr} {h : Heap} (x : Al mu h) : h.objs.size ∉ mu := fun q => let ⟨_, e⟩ := x _ q; absurd (Heap.lt_size e) (Nat.lt_irrefl _)
theorem Al.notin {mu : List Addr} {h : Heap} (x : Al mu h) {a : Addr} (f : h.get? a = none) : a ∉ mu := fun q => by obtain ⟨o, e⟩ := x _ q; rw [f] at e; cases e
theorem Kp.trans {W : List Addr} {h h' h'' : Heap} (x : Kp W h h') (y : Kp W h' h'') : Kp W h h'' := ⟨fun b o n e => y.keep b o n (x.keep b o n e), fun b q o e => y.there (x.al b q o e)⟩
theorem Kp.mono {W W' : List Addr} {h h' : Heap} (x : Kp W h h') (s : ∀ b ∈ W, b ∈ W') : Kp W' h h' := ⟨fun b o n e => x.keep b o (fun q => n (s b q)) e, fun b _ o e => x.there ⟨o, e⟩⟩
theorem Kp.nil {h h' : Heap} (x : ∀ b o, h.get? b = some o → h'.get? b = some o) : Kp [] h h' := ⟨fun b o _ e => x b o e, fun _ q => nomatch q⟩
theorem Kp.all {h h' : Heap} (x : Kp [] h h') : ∀ b o, h.get? b = some o → h'.get? b = some o := fun b o e => x.keep b o (List.not_mem_nil) e
theorem Kp.any {W : List Addr} {h h' : Heap} (x : Kp [] h h') : Kp W h h' := x.mono fun _ q => nomatch q
theorem Kp.of_ext {a : Addr} {h h' : Heap} (x : Heap.ExtBut a h h') (e : ∃ o, h'.get? a = some o) : Kp [a] h h' := ⟨fun b o n e => x b o (fun q => n (by rw [q]; exact List.mem_singleton.mpr rfl)) e, fun b q _ _ => by rw [List.mem_singleton.mp q]; exact e⟩
theorem Kp.of_same {a : Addr} {h h' : Heap} (x : Heap.SameBut a h h') (e : ∃ o, h'.get? a = some o) : Kp [a] h h' := .of_ext x.extBut e
theorem Kp.push {W : List Addr} {h : Heap} (o : Obj) : Kp W h (h.push o) := (Kp.nil fun _ _ e => Heap.get?_push_of_some o e).any
/-- a freshly made address may be dropped from what is turned -/
theorem Kp.fresh {W V : List Addr} {h h' : Heap} (x : Kp (W ++ V) h h') (f : ∀ b ∈ W, h.get? b = none) : Kp V h h' := ⟨fun b o n e => x.keep b o (fun q => (List.mem_append.mp q).elim (fun q => by rw [f b q] at e; cases e) n) e, fun b q o e => x.there ⟨o, e⟩⟩
theorem Kp.fresh1 {a : Addr} {V : List Addr} {h h' : Heap} (x : Kp (a :: V) h h') (f : h.get? a = none) : Kp V h h' := Kp.fresh (W := [a]) x fun b q => by rw [List.mem_singleton.mp q]; exact f
theorem Kp.freshE {a : Addr} {h h' : Heap} (x : Heap.ExtBut a h h') (f : h.get? a = none) : Kp [] h h' := .nil fun b o e => x b o (fun q => by rw [q, f] at e; cases e) e
theorem size_none (h : Heap) : h.get? h.objs.size = none := by
  cases e : h.get? h.objs.size with
  | none => rfl
  | some o => exact absurd (Heap.lt_size e) (Nat.lt_irrefl _)
theorem ge_none {h : Heap} {a : Addr} (l : h.objs.size ≤ a) : h.get? a = none := by
  cases e : h.get? a with
  | none => rfl
  | some o => exact absurd (Heap.lt_size e) (Nat.not_lt.mpr l)

/-- the state goes on: heap and tokens alone are others, all outside `W` is kept -/
structure Go (W : List Addr) (s s' : Shared) : Prop where
  same : ∃ h tk, s' = { s with heap := h, toks := tk }
  kp : Kp W s.heap s'.heap
theorem Go.rfl' {W : List Addr} {s : Shared} : Go W s s := ⟨⟨_, _, rfl⟩, Kp.rfl'⟩
theorem Go.trans {W : List Addr} {s s' s'' : Shared} (x : Go W s s') (y : Go W s' s'') : Go W s s'' := by
  obtain ⟨⟨h, tk, rfl⟩, k⟩ := x
  obtain ⟨⟨h', tk', rfl⟩, k'⟩ := y
  exact ⟨⟨h', tk', rfl⟩, k.trans k'⟩
theorem Go.mono {W W' : List Addr} {s s' : Shared} (x : Go W s s') (m : ∀ b ∈ W, b ∈ W') : Go W' s s' := ⟨x.same, x.kp.mono m⟩
theorem Go.of {W : List Addr} {s : Shared} {h : Heap} {tk : Nat} (k : Kp W s.heap h) : Go W s { s with heap := h, toks := tk } := ⟨⟨_, _, rfl⟩, k⟩
theorem Go.ofH {W : List Addr} {s : Shared} {h : Heap} (k : Kp W s.heap h) : Go W s { s with heap := h } := ⟨⟨_, _, rfl⟩, k⟩
theorem Go.ofT {W : List Addr} {s : Shared} {tk : Nat} : Go W s { s with toks := tk } := ⟨⟨_, _, rfl⟩, Kp.rfl'⟩
theorem Go.keeps {s s' : Shared} (x : Go [] s s') : Keeps s s' := by
  obtain ⟨⟨h, tk, rfl⟩, k⟩ := x
  exact ⟨h, tk, rfl, k.all⟩
theorem Go.of_keeps {W : List Addr} {s s' : Shared} (x : Keeps s s') : Go W s s' := by
  obtain ⟨h, tk, rfl, k⟩ := x
  exact ⟨⟨h, tk, rfl⟩, (Kp.nil k).any⟩

/-- what is said of the machine around -/
def Ar (n : Nat) (A : Around) : Prop := A.handled = none ∧ A.depth + n < recursionLimit ∧ A.units + 16 * n < cLine
theorem Ar.hd {n : Nat} {A : Around} (x : Ar n A) : A.handled = none := x.1
theorem Ar.room {n : Nat} {A : Around} (x : Ar n A) : A.depth < recursionLimit := by have := x.2.1; omega
theorem Ar.units {n : Nat} {A : Around} (x : Ar (n + 1) A) : A.units + 16 < cLine := by have := x.2.2; omega
theorem Ar.le {n m : Nat} {A : Around} (x : Ar n A) (l : m ≤ n) : Ar m A := ⟨x.1, by have := x.2.1; omega, by have := x.2.2; omega⟩
theorem Ar.deeper {n : Nat} {A : Around} (x : Ar (n + 1) A) (env : Env) : Ar n (A.deeper env) := ⟨x.1, by have := x.2.1; show A.depth + 1 + n < _; omega, by have := x.2.2; show A.units + 3 + 16 * n < _; omega⟩
theorem Ar.in1 {n : Nat} {A : Around} (x : Ar (n + 1) A) : Ar n A.in1 := ⟨x.1, by have := x.2.1; show A.depth + n < _; omega, by have := x.2.2; show A.units + 1 + 16 * n < _; omega⟩

/-- data -/
inductive D where
  | none
  | bool (b : Bool)
  | int (i : Int)
  | str (x : Str)
  | raw (v : Value)
  | pkt (n : Int)
  | tup (l : List D)
  | lst (l : List D)

def PktAt (mu : List Addr) (h : Heap) (n : Int) (v : Value) : Prop :=
  ∃ a dx od t, v = .ref a ∧ a ∉ mu ∧ dx ∉ mu ∧ h.get? a = some (instObj 100 dx) ∧ h.get? dx = some od ∧ lookIn "number" od = some (some (.int n t))
theorem PktAt.kp {mu W : List Addr} {h h' : Heap} {n : Int} {v : Value} (x : PktAt mu h n v) (k : Kp W h h') (s : ∀ b ∈ W, b ∈ mu) : PktAt mu h' n v := by
  obtain ⟨a, dx, od, t, rfl, m1, m2, e1, e2, l⟩ := x
  exact ⟨a, dx, od, t, rfl, m1, m2, k.keep _ _ (fun q => m1 (s _ q)) e1, k.keep _ _ (fun q => m2 (s _ q)) e2, l⟩

mutual
def Imm (mu : List Addr) (h : Heap) : D → Value → Prop
  | .none, v => v = .none
  | .bool b, v => v = .bool b
  | .int i, v => ∃ t, v = .int i t
  | .str x, v => ∃ t, v = .str x t
  | .raw u, v => v = u
  | .pkt n, v => PktAt mu h n v
  | .tup ds, v => ∃ a n vs, v = .ref a ∧ a ∉ mu ∧ h.get? a = some { cls := .type "tuple", data := .seq (List.toArray vs) n } ∧ ImmL mu h ds vs
  | .lst ds, v => ∃ a n vs, v = .ref a ∧ a ∉ mu ∧ h.get? a = some { cls := .type "list", data := .seq (List.toArray vs) n } ∧ ImmL mu h ds vs
def ImmL (mu : List Addr) (h : Heap) : List D → List Value → Prop
  | [], vs => vs = []
  | d :: ds, vs => ∃ v r, vs = v :: r ∧ Imm mu h d v ∧ ImmL mu h ds r
end

mutual
theorem Imm.gen {mu mu' : List Addr} {h h' : Heap} (k : ∀ b o, b ∉ mu → h.get? b = some o → h'.get? b = some o ∧ b ∉ mu') : ∀ (d : D) (v : Value), Imm mu h d v → Imm mu' h' d v
  | .none, _, x => x
  | .bool _, _, x => x
  | .int _, _, x => x
  | .str _, _, x => x
  | .raw _, _, x => x
  | .pkt n, v, x => by
    unfold Imm at x ⊢
    obtain ⟨a, dx, od, t, rfl, m1, m2, e1, e2, l⟩ := x
    exact ⟨a, dx, od, t, rfl, (k _ _ m1 e1).2, (k _ _ m2 e2).2, (k _ _ m1 e1).1, (k _ _ m2 e2).1, l⟩
  | .tup ds, v, x => by
    unfold Imm at x ⊢
    obtain ⟨a, n, vs, rfl, m1, e1, l⟩ := x
    exact ⟨a, n, vs, rfl, (k _ _ m1 e1).2, (k _ _ m1 e1).1, ImmL.gen k ds vs l⟩
  | .lst ds, v, x => by
    unfold Imm at x ⊢
    obtain ⟨a, n, vs, rfl, m1, e1, l⟩ := x
    exact ⟨a, n, vs, rfl, (k _ _ m1 e1).2, (k _ _ m1 e1).1, ImmL.gen k ds vs l⟩
theorem ImmL.gen {mu mu' : List Addr} {h h' : Heap} (k : ∀ b o, b ∉ mu → h.get? b = some o → h'.get? b = some o ∧ b ∉ mu') : ∀ (ds : List D) (vs : List Value), ImmL mu h ds vs → ImmL mu' h' ds vs
  | [], _, x => x
  | d :: ds, vs, x => by
    unfold ImmL at x ⊢
    obtain ⟨v, r, rfl, a, b⟩ := x
    exact ⟨v, r, rfl, Imm.gen k d v a, ImmL.gen k ds r b⟩
end

section
variable {mu mu' W : List Addr} {h h' : Heap} {d : D} {v : Value} {ds : List D} {vs : List Value}
theorem Imm.kp (x : Imm mu h d v) (k : Kp W h h') (s : ∀ b ∈ W, b ∈ mu) : Imm mu h' d v := Imm.gen (fun b o n e => ⟨k.keep b o (fun q => n (s b q)) e, n⟩) d v x
theorem ImmL.kp (x : ImmL mu h ds vs) (k : Kp W h h') (s : ∀ b ∈ W, b ∈ mu) : ImmL mu h' ds vs := ImmL.gen (fun b o n e => ⟨k.keep b o (fun q => n (s b q)) e, n⟩) ds vs x
/-- fewer things may turn -/
theorem Imm.less (x : Imm mu h d v) (s : ∀ b ∈ mu', b ∈ mu) : Imm mu' h d v := Imm.gen (fun b o n e => ⟨e, fun q => n (s b q)⟩) d v x
theorem ImmL.less (x : ImmL mu h ds vs) (s : ∀ b ∈ mu', b ∈ mu) : ImmL mu' h ds vs := ImmL.gen (fun b o n e => ⟨e, fun q => n (s b q)⟩) ds vs x
/-- new things may turn besides -/
theorem Imm.more (x : Imm mu h d v) (f : ∀ b ∈ W, h.get? b = none) : Imm (W ++ mu) h d v := Imm.gen (fun b o n e => ⟨e, fun q => (List.mem_append.mp q).elim (fun q => by rw [f b q] at e; cases e) n⟩) d v x
theorem ImmL.more (x : ImmL mu h ds vs) (f : ∀ b ∈ W, h.get? b = none) : ImmL (W ++ mu) h ds vs := ImmL.gen (fun b o n e => ⟨e, fun q => (List.mem_append.mp q).elim (fun q => by rw [f b q] at e; cases e) n⟩) ds vs x
theorem Imm.enter (x : Imm mu h d v) (k : Kp W h h') (f : ∀ b ∈ W, h.get? b = none) : Imm (W ++ mu) h' d v := Imm.gen (fun b o n e => ⟨k.keep b o (fun q => by rw [f b q] at e; cases e) e, fun q => (List.mem_append.mp q).elim (fun q => by rw [f b q] at e; cases e) n⟩) d v x
theorem Imm.leave (x : Imm (W ++ mu) h d v) : Imm mu h d v := x.less fun _ q => List.mem_append.mpr (.inr q)
theorem Imm.int {i : Int} {t : Tok} : Imm mu h (.int i) (.int i t) := by unfold Imm; exact ⟨t, rfl⟩
theorem Imm.bool {b : Bool} : Imm mu h (.bool b) (.bool b) := by unfold Imm; rfl
theorem Imm.str {x : Str} {t : Tok} : Imm mu h (.str x) (.str x t) := by unfold Imm; exact ⟨t, rfl⟩
theorem Imm.none : Imm mu h .none .none := by unfold Imm; rfl
theorem Imm.raw : Imm mu h (.raw v) v := by unfold Imm; rfl
theorem Imm.int_iff {i : Int} : Imm mu h (.int i) v ↔ ∃ t, v = .int i t := by unfold Imm; rfl
theorem Imm.bool_iff {i : Bool} : Imm mu h (.bool i) v ↔ v = .bool i := by unfold Imm; rfl
theorem Imm.none_iff : Imm mu h .none v ↔ v = .none := by unfold Imm; rfl
theorem Imm.str_iff {x : Str} : Imm mu h (.str x) v ↔ ∃ t, v = .str x t := by unfold Imm; rfl
theorem Imm.raw_iff {u : Value} : Imm mu h (.raw u) v ↔ v = u := by unfold Imm; rfl
theorem Imm.pkt_iff {n : Int} : Imm mu h (.pkt n) v ↔ PktAt mu h n v := by unfold Imm; rfl
theorem Imm.tup_iff : Imm mu h (.tup ds) v ↔ ∃ a n vs, v = .ref a ∧ a ∉ mu ∧ h.get? a = some { cls := .type "tuple", data := .seq (List.toArray vs) n } ∧ ImmL mu h ds vs := by conv => lhs; unfold Imm
theorem Imm.lst_iff : Imm mu h (.lst ds) v ↔ ∃ a n vs, v = .ref a ∧ a ∉ mu ∧ h.get? a = some { cls := .type "list", data := .seq (List.toArray vs) n } ∧ ImmL mu h ds vs := by conv => lhs; unfold Imm
theorem ImmL.nil : ImmL mu h [] [] := by unfold ImmL; rfl
theorem ImmL.cons (a : Imm mu h d v) (b : ImmL mu h ds vs) : ImmL mu h (d :: ds) (v :: vs) := by unfold ImmL; exact ⟨v, vs, rfl, a, b⟩
theorem ImmL.nil_iff : ImmL mu h [] vs ↔ vs = [] := by unfold ImmL; rfl
theorem ImmL.cons_iff : ImmL mu h (d :: ds) vs ↔ ∃ v r, vs = v :: r ∧ Imm mu h d v ∧ ImmL mu h ds r := by conv => lhs; unfold ImmL
theorem ImmL.length : ∀ {ds : List D} {vs : List Value}, ImmL mu h ds vs → vs.length = ds.length
  | [], _, x => by rw [ImmL.nil_iff.mp x]; rfl
  | _ :: _, _, x => by obtain ⟨v, r, rfl, _, b⟩ := ImmL.cons_iff.mp x; simp [ImmL.length b]
theorem ImmL.get : ∀ {ds : List D} {vs : List Value}, ImmL mu h ds vs → ∀ {i : Nat} {d : D}, ds[i]? = some d → ∃ v, vs[i]? = some v ∧ Imm mu h d v
  | [], _, _, i, _, e => by simp at e
  | _ :: _, _, x, i, e', e => by
    obtain ⟨v, r, rfl, a, b⟩ := ImmL.cons_iff.mp x
    cases i with
    | zero => simp at e; subst e; exact ⟨v, rfl, a⟩
    | succ i => simp at e; obtain ⟨u, hu, hi⟩ := ImmL.get b e; exact ⟨u, by simpa using hu, hi⟩
theorem ImmL.getV : ∀ {ds : List D} {vs : List Value}, ImmL mu h ds vs → ∀ {i : Nat} {v : Value}, vs[i]? = some v → ∃ d, ds[i]? = some d ∧ Imm mu h d v
  | [], _, x, i, _, e => by rw [ImmL.nil_iff.mp x] at e; simp at e
  | _ :: _, _, x, i, u, e => by
    obtain ⟨v, r, rfl, a, b⟩ := ImmL.cons_iff.mp x
    cases i with
    | zero => simp at e; subst e; exact ⟨_, rfl, a⟩
    | succ i => simp at e; obtain ⟨u, hu, hi⟩ := ImmL.getV b e; exact ⟨u, by simpa using hu, hi⟩
theorem ImmL.append : ∀ {ds es : List D} {vs us : List Value}, ImmL mu h ds vs → ImmL mu h es us → ImmL mu h (ds ++ es) (vs ++ us)
  | [], _, _, _, x, y => by rw [ImmL.nil_iff.mp x]; exact y
  | _ :: _, _, _, _, x, y => by obtain ⟨v, r, rfl, a, b⟩ := ImmL.cons_iff.mp x; exact ImmL.cons a (b.append y)
theorem ImmL.snoc (x : ImmL mu h ds vs) (y : Imm mu h d v) : ImmL mu h (ds ++ [d]) (vs ++ [v]) := x.append (.cons y .nil)
theorem ImmL.take : ∀ {n : Nat} {ds : List D} {vs : List Value}, ImmL mu h ds vs → ImmL mu h (ds.take n) (vs.take n)
  | 0, _, _, _ => by simpa using ImmL.nil
  | n + 1, [], _, x => by rw [ImmL.nil_iff.mp x]; simpa using ImmL.nil
  | n + 1, _ :: _, _, x => by obtain ⟨v, r, rfl, a, b⟩ := ImmL.cons_iff.mp x; simpa using ImmL.cons a (ImmL.take b)
theorem ImmL.reverse : ∀ {ds : List D} {vs : List Value}, ImmL mu h ds vs → ImmL mu h ds.reverse vs.reverse
  | [], _, x => by rw [ImmL.nil_iff.mp x]; exact ImmL.nil
  | _ :: _, _, x => by obtain ⟨v, r, rfl, a, b⟩ := ImmL.cons_iff.mp x; rw [List.reverse_cons, List.reverse_cons]; exact b.reverse.snoc a
/-- ints -/
def intD (ns : List Int) : List D := ns.map .int
theorem ImmL.ints_of : ∀ {vs : List Value} {ns : List Int}, IntsAre vs ns → ImmL mu h (intD ns) vs
  | _, _, .nil => ImmL.nil
  | _, _, .cons _ _ x => ImmL.cons Imm.int (ImmL.ints_of x)
theorem ImmL.ints_are : ∀ {ns : List Int} {vs : List Value}, ImmL mu h (intD ns) vs → IntsAre vs ns
  | [], _, x => by rw [ImmL.nil_iff.mp x]; exact .nil
  | n :: ns, _, x => by
    obtain ⟨v, r, rfl, a, b⟩ := ImmL.cons_iff.mp x
    obtain ⟨t, rfl⟩ := Imm.int_iff.mp a
    exact .cons _ _ (ImmL.ints_are b)
end
end Mine
end

-- part Lb
section
open PySem PySem.W PyProof.Rows PySem.Calls
set_option maxRecDepth 100000
set_option linter.unusedVariables false
namespace Mine

/-- the ground: what stood before the call -/
structure Gd (w : World) (K : Frag) where
  base : Heap
  mg : Str → Option Value
  mb : Str → Option Value
  X : K.In base
  g : base.Ns mainGlobals mg
  b : base.Ns builtinsNs mb
  nolimit : base.NoLimit
  builtins : ∀ x : Str, x ≠ "__name__" → mb x = bootBuiltins x

section
variable {w : World} {K : Frag}
/-- the ground stands -/
def Gd.On (G : Gd w K) (h : Heap) : Prop := ∀ b o, G.base.get? b = some o → h.get? b = some o
/-- the ground is none of what turns -/
def Gd.Off (G : Gd w K) (W : List Addr) : Prop := ∀ b ∈ W, G.base.get? b = none
theorem Gd.Off.nil {G : Gd w K} : G.Off [] := fun _ h => nomatch h
theorem Gd.On.kp {G : Gd w K} {W : List Addr} {h h' : Heap} (x : G.On h) (k : Kp W h h') (f : G.Off W) : G.On h' := fun b o e => k.keep b o (fun q => by rw [f b q] at e; cases e) (x b o e)
theorem Gd.On.go {G : Gd w K} {W : List Addr} {s s' : Shared} (x : G.On s.heap) (k : Go W s s') (f : G.Off W) : G.On s'.heap := x.kp k.kp f
theorem Gd.On.off {G : Gd w K} {h : Heap} (x : G.On h) {a : Addr} (f : h.get? a = none) : G.base.get? a = none := by
  cases e : G.base.get? a with
  | none => rfl
  | some o => rw [x a o e] at f; cases f
theorem Gd.On.X {G : Gd w K} {h : Heap} (x : G.On h) : K.In h := fun a o e => x a o (G.X a o e)
theorem Gd.On.nolimit {G : Gd w K} {h : Heap} (x : G.On h) : h.NoLimit := G.nolimit.keeps x
end

/-- the frame is of the usual kind -/
structure EnvOk (env : Env) : Prop where
  kind : env.scope.kind = .function
  gl : env.globals = mainGlobals
  bl : env.builtins = builtinsNs

/-- where a def's frame stands: its names `m`, its cells' names `cm`, what else is known `R` -/
structure Cx {w : World} {K : Frag} (G : Gd w K) (s₀ : Shared) (own wr mu : List Addr) (env : Env) (m cm : Str → Option Value) (R : Heap → Prop) (s : Shared) : Prop where
  ok : EnvOk env
  on0 : G.On s₀.heap
  ownOff : G.Off own
  wrNew : ∀ b ∈ wr, s₀.heap.get? b = none
  wrmu : ∀ b ∈ wr, b ∈ mu
  ownmu : ∀ b ∈ own, b ∈ mu
  same : ∃ h tk, s = { s₀ with heap := h, toks := tk }
  kp : Kp own s₀.heap s.heap
  ns : s.heap.Ns env.locals m
  cells : ∀ n c, env.cells.lookup n = some c → s.heap.IsCell c (cm n)
  apart : env.cells.Pairwise fun x y => x.2 ≠ y.2
  cne : ∀ n c, (n, c) ∈ env.cells → env.locals ≠ c
  cmu : ∀ n c, (n, c) ∈ env.cells → c ∈ mu
  al : Al mu s.heap
  r : R s.heap
  stb : ∀ h h', R h → Kp wr h h' → R h'

section
variable {prog : Program} {w : World} {K : Frag} {G : Gd w K} {s₀ : Shared} {own wr mu : List Addr} {env : Env} {m cm : Str → Option Value} {R R' : Heap → Prop} {s s' : Shared} {A : Around} {E : Value → Shared → Prop}

abbrev Cx.envOf (_ : Cx G s₀ own wr mu env m cm R s) : Env := env
abbrev Cx.mOf (_ : Cx G s₀ own wr mu env m cm R s) : Str → Option Value := m
abbrev Cx.cmOf (_ : Cx G s₀ own wr mu env m cm R s) : Str → Option Value := cm
theorem Cx.on (C : Cx G s₀ own wr mu env m cm R s) : G.On s.heap := C.on0.kp C.kp C.ownOff
theorem Cx.X (C : Cx G s₀ own wr mu env m cm R s) : K.In s.heap := C.on.X
theorem Cx.wrOff (C : Cx G s₀ own wr mu env m cm R s) : G.Off wr := fun b hb => C.on0.off (C.wrNew b hb)
theorem Cx.go0 (C : Cx G s₀ own wr mu env m cm R s) : Go own s₀ s := ⟨C.same, C.kp⟩

/-- the state has gone on by something that turns nothing that stood -/
theorem Cx.go (C : Cx G s₀ own wr mu env m cm R s) (g : Go [] s s') : Cx G s₀ own wr mu env m cm R s' :=
  { ok := C.ok, on0 := C.on0, ownOff := C.ownOff, wrNew := C.wrNew, wrmu := C.wrmu, ownmu := C.ownmu
    same := (C.go0.trans (g.mono fun _ q => nomatch q)).same
    kp := C.kp.trans g.kp.any
    ns := C.ns.keeps g.kp.all
    cells := fun n c e => (C.cells n c e).keeps g.kp.all
    apart := C.apart, cne := C.cne, cmu := C.cmu
    al := C.al.kp g.kp
    r := C.stb _ _ C.r g.kp.any
    stb := C.stb }
theorem Cx.tok (C : Cx G s₀ own wr mu env m cm R s) (t : Nat) : Cx G s₀ own wr mu env m cm R { s with toks := t } := C.go Go.ofT
/-- something else is known -/
theorem Cx.know (C : Cx G s₀ own wr mu env m cm R s) {P : Heap → Prop} (p : P s.heap) (stb : ∀ h h', P h → Kp wr h h' → P h') : Cx G s₀ own wr mu env m cm P s :=
  { C with r := p, stb := stb }
theorem Cx.also (C : Cx G s₀ own wr mu env m cm R s) {P : Heap → Prop} (p : P s.heap) (stb : ∀ h h', P h → Kp wr h h' → P h') : Cx G s₀ own wr mu env m cm (fun h => R h ∧ P h) s :=
  C.know ⟨C.r, p⟩ fun _ _ x k => ⟨C.stb _ _ x.1 k, stb _ _ x.2 k⟩
/-- a datum is known -/
theorem Cx.imm (C : Cx G s₀ own wr mu env m cm R s) {d : D} {v : Value} (p : Imm mu s.heap d v) : Cx G s₀ own wr mu env m cm (fun h => R h ∧ Imm mu h d v) s :=
  C.also p fun _ _ x k => x.kp k C.wrmu
/-- the state has gone on and has turned what is the def's to turn -/
theorem Cx.turn (C : Cx G s₀ own wr mu env m cm R s) {W : List Addr} {P : Heap → Prop} (g : Go W s s') (hW : ∀ b ∈ W, b ∈ own) (hL : env.locals ∉ W) (hc : ∀ n c, (n, c) ∈ env.cells → c ∉ W) (p : P s'.heap) (stb : ∀ h h', P h → Kp wr h h' → P h') :
    Cx G s₀ own wr mu env m cm P s' :=
  { ok := C.ok, on0 := C.on0, ownOff := C.ownOff, wrNew := C.wrNew, wrmu := C.wrmu, ownmu := C.ownmu
    same := (C.go0.trans (g.mono hW)).same
    kp := C.kp.trans (g.kp.mono hW)
    ns := let ⟨o, es, ep, e, r⟩ := C.ns; ⟨o, es, ep, g.kp.keep _ _ hL e, r⟩
    cells := fun n c e => let ⟨o, ho, hd⟩ := C.cells n c e; ⟨o, g.kp.keep _ _ (hc n c (mem_of_lookup e)) ho, hd⟩
    apart := C.apart, cne := C.cne, cmu := C.cmu
    al := C.al.kp g.kp
    r := p
    stb := stb }

/-- the frame itself has turned -/
theorem Cx.upd (C : Cx G s₀ own wr mu env m cm R s) {m' cm' : Str → Option Value} (g : Go wr s s') (ns : s'.heap.Ns env.locals m') (cells : ∀ n c, env.cells.lookup n = some c → s'.heap.IsCell c (cm' n)) (r : R' s'.heap) (stb : ∀ h h', R' h → Kp wr h h' → R' h') :
    Cx G s₀ own wr mu env m' cm' R' s' :=
  { ok := C.ok, on0 := C.on0, ownOff := C.ownOff, wrNew := C.wrNew, wrmu := C.wrmu, ownmu := C.ownmu
    same := (Go.trans (W := own ++ wr) (C.go0.mono fun _ q => List.mem_append.mpr (.inl q)) (g.mono fun _ q => List.mem_append.mpr (.inr q))).same
    kp := ((C.kp.mono fun _ q => List.mem_append.mpr (.inr q)).trans (g.kp.mono fun _ q => List.mem_append.mpr (.inl q)) : Kp (wr ++ own) s₀.heap s'.heap).fresh C.wrNew
    ns := ns, cells := cells, apart := C.apart, cne := C.cne, cmu := C.cmu, al := C.al.kp g.kp, r := r, stb := stb }

/-- a name of the frame -/
theorem Cx.ld (C : Cx G s₀ own wr mu env m cm R s) {x : Str} {pos : Pos} {v : Value} {Q : Value → Shared → Prop} (hv : m x = some v) (h : Q v s)
    (hl : env.kindOf x = some .local := by rfl) (hd : (x == ("__debug__" : Str)) = false := by decide) : wpAny (model prog w) A (eval (.Name x pos) env) Q E s :=
  wpAny_Name (wpAny_loadName_local C.ok.kind hl C.ns hv h) hd
/-- a name in a cell -/
theorem Cx.ldc (C : Cx G s₀ own wr mu env m cm R s) {x : Str} {pos : Pos} {c : Addr} {v : Value} {Q : Value → Shared → Prop} (hc : env.cells.lookup x = some c) (hv : cm x = some v) (h : Q v s)
    (hl : env.kindOf x = some .cell := by rfl) (hd : (x == ("__debug__" : Str)) = false := by decide) : wpAny (model prog w) A (eval (.Name x pos) env) Q E s :=
  wpAny_Name (wpAny_loadName_cell C.ok.kind hl hc (hv ▸ C.cells x c hc) h) hd
/-- a name of the text's top -/
theorem Cx.ldg (C : Cx G s₀ own wr mu env m cm R s) {x : Str} {pos : Pos} {v : Value} {Q : Value → Shared → Prop} (e : nsIn K mainGlobals x = some (some v)) (h : Q v s)
    (hl : env.kindOf x = some .globalImplicit := by rfl) (hd : (x == ("__debug__" : Str)) = false := by decide) : wpAny (model prog w) A (eval (.Name x pos) env) Q E s :=
  Name_function_global C.ok.kind hl (loadGlobal_global (mg := G.mg) (by rw [C.ok.gl]; exact G.g.keeps C.on) (mg_of G.X G.g e) h) hd
/-- a built-in name -/
theorem Cx.ldb (C : Cx G s₀ own wr mu env m cm R s) {x : Str} {pos : Pos} {v : Value} {Q : Value → Shared → Prop} (e : nsIn K mainGlobals x = some none) (hv : bootBuiltins x = some v) (h : Q v s)
    (hl : env.kindOf x = some .globalImplicit := by rfl) (hd : (x == ("__debug__" : Str)) = false := by decide) (hn : x ≠ "__name__" := by decide) : wpAny (model prog w) A (eval (.Name x pos) env) Q E s :=
  Name_function_global C.ok.kind hl (loadGlobal_builtin (mg := G.mg) (mb := G.mb) (by rw [C.ok.gl]; exact G.g.keeps C.on) (mg_none_of G.X G.g e) (by rw [C.ok.bl]; exact G.b.keeps C.on) ((G.builtins x hn).trans hv) h) hd

theorem notLocals {env : Env} (ok : EnvOk env) : (env.scope.kind == .class || (env.scope.kind == .module && env.locals != env.globals)) = false := by rw [ok.kind]; rfl

/-- a name of the frame is stored -/
theorem Cx.st (C : Cx G s₀ own wr mu env m cm R s) {x : Str} {v : Value} {Q : Unit → Shared → Prop} (h : ∀ s', Cx G s₀ own wr mu env (fun y => if y = x then some v else m y) cm R s' → Q () s')
    (hw : env.locals ∈ wr := by first | exact List.mem_cons_self | assumption | simp) (hl : env.kindOf x = some .local := by rfl) : wpAny (model prog w) A (storeName env x v) Q E s := by
  refine wpAny_storeName_local hl C.ns (fun h' hn hs => h _ ?_) (notLocals C.ok)
  have k : Kp [env.locals] s.heap h' := .of_same hs (let ⟨o, _, _, e, _⟩ := hn; ⟨o, e⟩)
  have kw : Kp wr s.heap h' := k.mono fun b q => by rw [List.mem_singleton.mp q]; exact hw
  have g : Go wr s { s with heap := h', toks := s.toks + 1 } := Go.of kw
  have hne : env.locals ∉ own → True := fun _ => trivial
  exact
    { ok := C.ok, on0 := C.on0, ownOff := C.ownOff, wrNew := C.wrNew, wrmu := C.wrmu, ownmu := C.ownmu
      same := (Go.trans (W := own ++ wr) (C.go0.mono fun _ q => List.mem_append.mpr (.inl q)) (g.mono fun _ q => List.mem_append.mpr (.inr q))).same
      kp := ((C.kp.mono fun _ q => List.mem_append.mpr (.inr q)).trans (kw.mono fun _ q => List.mem_append.mpr (.inl q)) : Kp (wr ++ own) s₀.heap h').fresh C.wrNew
      ns := hn
      cells := fun n c e => (C.cells n c e).sameBut hs (Ne.symm (C.cne n c (mem_of_lookup e)))
      apart := C.apart, cne := C.cne, cmu := C.cmu
      al := C.al.kp k
      r := C.stb _ _ C.r kw
      stb := C.stb }
/-- a name in a cell is stored -/
theorem Cx.stc (C : Cx G s₀ own wr mu env m cm R s) {x : Str} {v : Value} {c : Addr} {Q : Unit → Shared → Prop} (hc : env.cells.lookup x = some c) (h : ∀ s', Cx G s₀ own wr mu env m (fun y => if y = x then some v else cm y) R s' → Q () s')
    (hw : c ∈ wr := by first | assumption | simp) (hl : env.kindOf x = some .cell := by rfl) : wpAny (model prog w) A (storeName env x v) Q E s := by
  have hcm := mem_of_lookup hc
  refine wpAny_storeName_cell C.ok.kind hl hc (C.cells x c hc) (fun h' hv hs => h _ ?_)
  have k : Kp [c] s.heap h' := .of_same hs (let ⟨o, e, _⟩ := hv; ⟨o, e⟩)
  have kw : Kp wr s.heap h' := k.mono fun b q => by rw [List.mem_singleton.mp q]; exact hw
  have g : Go wr s { s with heap := h' } := Go.ofH kw
  exact
    { ok := C.ok, on0 := C.on0, ownOff := C.ownOff, wrNew := C.wrNew, wrmu := C.wrmu, ownmu := C.ownmu
      same := (Go.trans (W := own ++ wr) (C.go0.mono fun _ q => List.mem_append.mpr (.inl q)) (g.mono fun _ q => List.mem_append.mpr (.inr q))).same
      kp := ((C.kp.mono fun _ q => List.mem_append.mpr (.inr q)).trans (kw.mono fun _ q => List.mem_append.mpr (.inl q)) : Kp (wr ++ own) s₀.heap h').fresh C.wrNew
      ns := C.ns.sameBut hs (C.cne x c hcm)
      cells := fun n c' e => by
        by_cases hn : n = x
        · subst hn; rw [hc] at e; cases e; simpa using hv
        · have hcc : c' ≠ c := fun q => hn (name_of_addr C.apart (mem_of_lookup e) (q ▸ hcm))
          simpa [hn] using (C.cells n c' e).sameBut hs hcc
      apart := C.apart, cne := C.cne, cmu := C.cmu
      al := C.al.kp k
      r := C.stb _ _ C.r kw
      stb := C.stb }

/-- a new tuple, a new list -/
theorem imm_tup {h : Heap} {ds : List D} {vs : List Value} (al : Al mu h) (x : ImmL mu h ds vs) : Imm mu (h.push { cls := .type "tuple", data := .seq vs.toArray }) (.tup ds) (.ref h.objs.size) :=
  Imm.tup_iff.mpr ⟨_, _, vs, rfl, al.new, Heap.get?_push_size _ rfl, x.kp (W := []) (Kp.push _) fun _ q => nomatch q⟩
theorem imm_lst {h : Heap} {ds : List D} {vs : List Value} (al : Al mu h) (x : ImmL mu h ds vs) : Imm mu (h.push { cls := .type "list", data := .seq vs.toArray }) (.lst ds) (.ref h.objs.size) :=
  Imm.lst_iff.mpr ⟨_, _, vs, rfl, al.new, Heap.get?_push_size _ rfl, x.kp (W := []) (Kp.push _) fun _ q => nomatch q⟩
theorem Cx.newTuple (C : Cx G s₀ own wr mu env m cm R s) {ds : List D} {vs : List Value} {Q : Value → Shared → Prop} (x : ImmL mu s.heap ds vs) (hs : vs.length ≤ 1000)
    (h : ∀ v s', Cx G s₀ own wr mu env m cm (fun h => R h ∧ Imm mu h (.tup ds) v) s' → Q v s') : wpAny (model prog w) A (newTuple vs) Q E s :=
  wpAny_newObj_type (h _ _ ((C.go (Go.ofH (Kp.push _))).imm (imm_tup C.al x))) (by show vs.toArray.size ≤ sizeLine; rw [List.size_toArray, sizeLine_eq]; omega)
theorem Cx.newList (C : Cx G s₀ own wr mu env m cm R s) {ds : List D} {vs : List Value} {Q : Value → Shared → Prop} (x : ImmL mu s.heap ds vs) (hs : vs.length ≤ 1000)
    (h : ∀ v s', Cx G s₀ own wr mu env m cm (fun h => R h ∧ Imm mu h (.lst ds) v) s' → Q v s') : wpAny (model prog w) A (newList vs) Q E s :=
  wpAny_newObj_type (h _ _ ((C.go (Go.ofH (Kp.push _))).imm (imm_lst C.al x))) (by show vs.toArray.size ≤ sizeLine; rw [List.size_toArray, sizeLine_eq]; omega)
/-- constants -/
theorem Cx.cInt (C : Cx G s₀ own wr mu env m cm R s) {i : Int} {k : Nat} {pos : Pos} {Q : Value → Shared → Prop} (h : ∀ t s', Cx G s₀ own wr mu env m cm R s' → Q (.int i t) s') : wpAny (model prog w) A (eval (.Constant (.int i) k pos) env) Q E s :=
  wpAny_Constant_int (h _ _ (C.tok _))
theorem Cx.cStr (C : Cx G s₀ own wr mu env m cm R s) {i : Str} {k : Nat} {pos : Pos} {Q : Value → Shared → Prop} (h : ∀ t s', Cx G s₀ own wr mu env m cm R s' → Q (.str i t) s') : wpAny (model prog w) A (eval (.Constant (.str i) k pos) env) Q E s :=
  wpAny_Constant_str (h _ _ (C.tok _))
end
end Mine
end

-- part Lc
section
open PySem PySem.W PyProof.Rows PySem.Calls
set_option maxRecDepth 100000
set_option linter.unusedVariables false
namespace Mine

theorem mem_cellsFrom_ge : ∀ (names : List (Str × NameKind)) (n lo : Nat) (acc : List (Str × Addr)), lo ≤ n → (∀ x ∈ acc, lo ≤ x.2) → ∀ x ∈ cellsFrom n names acc, lo ≤ x.2
  | [], _, _, _, _, h => h
  | (name, kind) :: r, n, lo, acc, hn, h => by
    unfold cellsFrom
    split
    · exact mem_cellsFrom_ge r (n + 1) lo _ (Nat.le_succ_of_le hn) fun x hx => (List.mem_cons.mp hx).elim (fun q => by rw [q]; exact hn) (h x)
    · exact mem_cellsFrom_ge r n lo acc hn h

theorem cellsFrom_names : ∀ (names : List (Str × NameKind)) (n n' : Nat) (acc acc' : List (Str × Addr)), acc.map (·.1) = acc'.map (·.1) → (cellsFrom n names acc).map (·.1) = (cellsFrom n' names acc').map (·.1)
  | [], _, _, _, _, h => h
  | (name, kind) :: r, n, n', acc, acc', h => by
    unfold cellsFrom
    split
    · exact cellsFrom_names r _ _ _ _ (by simp [h])
    · exact cellsFrom_names r _ _ _ _ h
theorem lookup_of_nodup : ∀ {l : List (Str × Addr)}, (l.map (·.1)).Nodup → ∀ {n : Str} {c : Addr}, (n, c) ∈ l → l.lookup n = some c
  | (k, v) :: r, hn, n, c, h => by
    rw [List.map_cons, List.nodup_cons] at hn
    rw [List.lookup_cons]
    rcases List.mem_cons.mp h with e | h
    · cases e; simp
    · have hne : (n == k) = false := by
        cases hq : n == k with
        | false => rfl
        | true => exact absurd (List.mem_map.mpr ⟨(n, c), h, (beq_iff_eq.mp hq)⟩) hn.1
      rw [hne]; exact lookup_of_nodup hn.2 h

/-- what a def's frame turns: its names' dict, its cells -/
abbrev wrOf (scope : Scope) (L : Addr) : List Addr := L :: (cellsFrom (L + 1) scope.names []).map (·.2)

section
variable {prog : Program} {w : World} {K : Frag} {G : Gd w K} {s : Shared} {A : Around} {E : Value → Shared → Prop}

theorem wrOf_new (scope : Scope) (h : Heap) : ∀ b ∈ wrOf scope h.objs.size, h.get? b = none := by
  intro b hb
  rcases List.mem_cons.mp hb with rfl | hb
  · exact size_none h
  · obtain ⟨x, hx, rfl⟩ := List.mem_map.mp hb
    exact ge_none (Nat.le_of_succ_le (mem_cellsFrom_ge scope.names _ (h.objs.size + 1) [] (Nat.le_refl _) (fun _ q => nomatch q) x hx))

/-- a def of the text is called -/
theorem enterC {n : Nat} {name qual : Str} {params : Arguments} {body : List Stmt} {scope : Scope} {dV kV doc pm cdv ct oc : Value} {an od : Option Addr} {osl : Array (Option Value)} {f : Addr} {vals : List Value} {binds : List (Str × Value)}
    {Rr : Result → Shared → Prop} {m cm : Str → Option Value}
    (on : G.On s.heap) (hA : Ar (n + 1) A)
    (ho : K.lookup f = some ⟨oc, od, .func (fnOf name qual params body scope dV kV doc pm an cdv ct), osl⟩) (hcd : codeIn K cdv qual = true)
    (hbind : bindArgs (fnOf name qual params body scope dV kV doc pm an cdv ct) ⟨vals, []⟩ = pure binds)
    (hkind : (binds.all fun y => scope.names.lookup y.1 == some .local || scope.names.lookup y.1 == some .cell) = true)
    (hm : bindL (envOfC qual scope s.heap.objs.size f cdv).kindOf binds (fun _ => none) = m)
    (hcm : bindC (envOfC qual scope s.heap.objs.size f cdv).kindOf binds (fun _ => none) = cm)
    (hnd : ((cellsFrom 0 scope.names []).map (·.1)).Nodup) (hk : scope.kind = .function) (hco : scope.isCoroutine = false) (hgen : scope.isGenerator = false)
    (own mu : List Addr) (R : List Addr → Heap → Prop) (ownOff : G.Off own) (ownmu : ∀ b ∈ own, b ∈ mu) (al : Al mu s.heap)
    (r : ∀ wr h', Kp wr s.heap h' → (∀ b ∈ wr, s.heap.get? b = none) → R (wr ++ mu) h')
    (stb : ∀ wr h h', (∀ b ∈ wr, s.heap.get? b = none) → R (wr ++ mu) h → Kp wr h h' → R (wr ++ mu) h')
    (h : ∀ L wr mu' A' s', L ∈ wr → (∀ n c, (n, c) ∈ (envOfC qual scope L f cdv).cells → c ∈ wr) → (∀ b ∈ mu, b ∈ mu') → (∀ b ∈ wr, s.heap.get? b = none) → Ar n A' → Cx G s own wr mu' (envOfC qual scope L f cdv) m cm (R mu') s' →
      wpAny (model prog w) A' (execs body (envOfC qual scope L f cdv)) (fun fl s'' => Rr (.ok (.ret (match fl with | .ret v => v | _ => .none))) s'') (fun _ _ => False) s') :
    codeAny (model prog w) A (.call (.ref f) ⟨vals, []⟩) Rr s := by
  refine (codeAny_call_cells (fd := fnOf name qual params body scope dV kV doc pm an cdv ct) (body := body) (binds := binds) hA.room (on.X _ _ ho) rfl on.nolimit (codeRec_of on.X hcd) rfl hbind rfl (kindsX hkind _) (fun s₁ X => ?_) hco hgen hk)
  have N := wrOf_new scope s.heap
  have k : Kp [] s.heap s₁.heap := .nil X.toInCall.keep
  refine wpAny_mono (h s.heap.objs.size (wrOf scope s.heap.objs.size) (wrOf scope s.heap.objs.size ++ mu) _ s₁ List.mem_cons_self (fun n c q => List.mem_cons_of_mem _ (List.mem_map.mpr ⟨(n, c), q, rfl⟩)) (fun b q => List.mem_append.mpr (.inr q)) N (hA.deeper _) ?_) (fun _ _ z => z) (fun _ _ z => z.elim)
  refine
    { ok := ⟨hk, rfl, rfl⟩, on0 := on, ownOff := ownOff, wrNew := N, wrmu := fun b q => List.mem_append.mpr (.inl q), ownmu := fun b q => List.mem_append.mpr (.inr (ownmu b q))
      same := X.toInCall.same
      kp := k.any
      ns := by rw [← hm]; exact X.toInCall.ns
      cells := by rw [← hcm]; exact X.cell
      apart := X.apart
      cne := fun n c q => Nat.ne_of_lt (X.above n c q)
      cmu := fun n c q => List.mem_append.mpr (.inl (List.mem_cons_of_mem _ (List.mem_map.mpr ⟨(n, c), q, rfl⟩)))
      al := ?_
      r := r _ _ k.any N
      stb := fun h h' => stb _ h h' N }
  refine Al.append (Al.cons (let ⟨o, _, _, e, _⟩ := X.toInCall.ns; ⟨o, e⟩) fun b hb => ?_) (al.kp k)
  obtain ⟨⟨n, c⟩, hx, rfl⟩ := List.mem_map.mp hb
  obtain ⟨o, e, _⟩ := X.cell n c (lookup_of_nodup (by show ((cellsFrom (s.heap.objs.size + 1) scope.names []).map (·.1)).Nodup; rw [← cellsFrom_names scope.names 0 _ [] [] rfl]; exact hnd) hx)
  exact ⟨o, e⟩
/-- a def of the text is called -/
theorem enter {n : Nat} {name qual : Str} {params : Arguments} {body : List Stmt} {scope : Scope} {dV kV doc pm cdv ct oc : Value} {an od : Option Addr} {osl : Array (Option Value)} {f : Addr} {vals : List Value} {binds : List (Str × Value)}
    {Q : Value → Shared → Prop} {m cm : Str → Option Value}
    (on : G.On s.heap) (hA : Ar (n + 1) A)
    (ho : K.lookup f = some ⟨oc, od, .func (fnOf name qual params body scope dV kV doc pm an cdv ct), osl⟩) (hcd : codeIn K cdv qual = true)
    (hbind : bindArgs (fnOf name qual params body scope dV kV doc pm an cdv ct) ⟨vals, []⟩ = pure binds)
    (hkind : (binds.all fun y => scope.names.lookup y.1 == some .local || scope.names.lookup y.1 == some .cell) = true)
    (hm : bindL (envOfC qual scope s.heap.objs.size f cdv).kindOf binds (fun _ => none) = m)
    (hcm : bindC (envOfC qual scope s.heap.objs.size f cdv).kindOf binds (fun _ => none) = cm)
    (hnd : ((cellsFrom 0 scope.names []).map (·.1)).Nodup) (hk : scope.kind = .function) (hco : scope.isCoroutine = false) (hgen : scope.isGenerator = false)
    (own mu : List Addr) (R : List Addr → Heap → Prop) (ownOff : G.Off own) (ownmu : ∀ b ∈ own, b ∈ mu) (al : Al mu s.heap)
    (r : ∀ wr h', Kp wr s.heap h' → (∀ b ∈ wr, s.heap.get? b = none) → R (wr ++ mu) h')
    (stb : ∀ wr h h', (∀ b ∈ wr, s.heap.get? b = none) → R (wr ++ mu) h → Kp wr h h' → R (wr ++ mu) h')
    (h : ∀ L wr mu' A' s', L ∈ wr → (∀ n c, (n, c) ∈ (envOfC qual scope L f cdv).cells → c ∈ wr) → (∀ b ∈ mu, b ∈ mu') → (∀ b ∈ wr, s.heap.get? b = none) → Ar n A' → Cx G s own wr mu' (envOfC qual scope L f cdv) m cm (R mu') s' →
      wpAny (model prog w) A' (execs body (envOfC qual scope L f cdv)) (fun fl s'' => Q (match fl with | .ret v => v | _ => .none) s'') (fun _ _ => False) s') :
    wpAny (model prog w) A (call (.ref f) vals) Q E s :=
  wpAny_call (enterC on hA ho hcd hbind hkind hm hcm hnd hk hco hgen own mu R ownOff ownmu al r stb h)
end
end Mine
end

-- part Ld
section
open PySem PySem.W PyProof.Rows PySem.Calls
set_option maxRecDepth 100000
set_option linter.unusedVariables false
namespace Mine

section
variable {prog : Program} {w : World} {K : Frag} {G : Gd w K} {s₀ s₁ s₂ s : Shared} {own wr mu : List Addr} {env : Env} {m cm : Str → Option Value} {R : Heap → Prop} {A : Around} {E : Value → Shared → Prop}

def SameS (s s' : Shared) : Prop := ∃ h tk, s' = { s with heap := h, toks := tk }
theorem SameS.trans {s s' s'' : Shared} (x : SameS s s') (y : SameS s' s'') : SameS s s'' := by
  obtain ⟨h, tk, rfl⟩ := x
  obtain ⟨h', tk', rfl⟩ := y
  exact ⟨h', tk', rfl⟩
abbrev tests (ifs : List Expr) (env : Env) : Sem Bool := forIn ifs true fun c r => if r = true then do let ok ← isTrue c env (eval c env); pure (ForInStep.yield ok) else pure (ForInStep.yield r)

/-- an iterator of another kind gives no tuple of its own -/
theorem letOwned_ {target : Expr} {I : Addr} {v : Value} {o : Obj} {n : String} {Q : Unit → Shared → Prop} (ho : s.heap.get? I = some o) (hc : o.cls = .type n)
    (hn : (["enumerate", "zip", "dict_itemiterator", "dict_reverseitemiterator", "odict_iterator", "itertools.zip_longest", "itertools.pairwise"] : List String).contains n = false) (h : Q () s) :
    wpAny (model prog w) A (letOwnedTupleGo target (.ref I) v) Q E s := by
  unfold letOwnedTupleGo
  have key : wpAny (model prog w) A (do
      let (.ref r, .ref a) := ((.ref I : Value), v) | return
      let o ← load r
      match o.cls, o.data with
      | .type n, .fields vs =>
        if ["enumerate", "zip", "dict_itemiterator", "dict_reverseitemiterator", "odict_iterator", "itertools.zip_longest", "itertools.pairwise"].contains n && vs[0]? == some (rawInt a) then
          rule "for.unpacks-the-owned-tuple"
          updateField r 0 .none
      | _, _ => pure ()) Q E s := by
    cases v <;> try exact wpAny_pure h
    refine wpAny_bind (wpAny_load ho ?_)
    rw [hc]
    cases o.data <;> try exact wpAny_pure h
    dsimp only
    rw [hn, Bool.false_and, if_neg Bool.false_ne_true]
    exact wpAny_pure h
  split
  · exact key
  · exact key
  · exact wpAny_pure h

theorem compTurns {elt target iter : Expr} {ifs : List Expr} {scope : Scope} {pos : Pos} {it acc : Value} {env : Env} {R : Result → Shared → Prop} (I : Nat → Shared → Prop)
    (turn : ∀ n s, I n s → wpAny (model prog w) A (pyNext it) (fun r s₁ => match r with
      | none => R (.ok .next) s₁
      | some v => wpAny (model prog w) A (letOwnedTupleGo target it v) (fun _ s₁' => wpAny (model prog w) A (assign target env v) (fun _ s₂ =>
          wpAny (model prog w) A (tests ifs env) (fun ok s₃ =>
            if ok = true then wpAny (model prog w) A (eval elt env) (fun x s₄ =>
              wpAny (model prog w) A (call (.builtin "list.append") [acc, x]) (fun _ s₅ => ∃ m, m < n ∧ I m s₅) (fun _ _ => False) s₄) (fun _ _ => False) s₃
            else ∃ m, m < n ∧ I m s₃) (fun _ _ => False) s₂) (fun _ _ => False) s₁') (fun _ _ => False) s₁) (fun _ _ => False) s)
    (n : Nat) (h : I n s) : codeAny (model prog w) A (.compLoop (.ListComp elt [⟨target, iter, ifs, 0⟩] scope pos) 0 it acc env) R s := by
  refine codeAny_loop rfl I (fun n s hI => ?_) n h
  show wpAny _ A ((compTurn (.ListComp elt [⟨target, iter, ifs, 0⟩] scope pos) 0 it acc env).onRaise (fun x => do noteFrame x env; theTreesLotGoes x)) _ _ s
  refine wpAny_noted ?_
  rw [compTurn_list]
  refine wpAny_bind (wpAny_standAt (wpAny_bind (wpAny_mono (turn n s hI) (fun r s₁ h₁ => ?_) fun _ _ z => z.elim)))
  cases r with
  | none => exact wpAny_pure h₁
  | some v =>
    refine wpAny_bind (wpAny_mono h₁ (fun _ s₁' h₁' => ?_) fun _ _ z => z.elim)
    refine wpAny_bind (wpAny_mono h₁' (fun _ s₂ h₂ => wpAny_bind (wpAny_mono h₂ (fun ok s₃ h₃ => ?_) fun _ _ z => z.elim)) fun _ _ z => z.elim)
    cases ok with
    | false => exact wpAny_pure ⟨rfl, h₃⟩
    | true => exact wpAny_bind (wpAny_bind (wpAny_mono h₃ (fun x s₄ h₄ => wpAny_bind (wpAny_mono h₄ (fun _ s₅ h₅ => wpAny_pure (wpAny_pure ⟨rfl, h₅⟩)) fun _ _ z => z.elim)) fun _ _ z => z.elim))

/-- what a comprehension's turn is told: the frame C, what its target binds -/
structure CompPk (prog : Program) (A : Around) (G : Gd w K) (s₁ : Shared) (mu : List Addr) (env : Env) (cm : Str → Option Value) (R : Heap → Prop) (scope : Scope) (cl : List (Str × Addr)) (target elt : Expr) (ifs : List Expr) (ds : List D)
    (TB : List Addr → Heap → D → (Str → Option Value) → Prop) (p : D → Bool) (f : D → D) : Prop where
  tbstb : ∀ mu' h h' d mC, TB mu' h d mC → (∀ b o, b ∉ mu' → h.get? b = some o → h'.get? b = some o) → TB mu' h' d mC
  bind : ∀ C mu' mC s d v (Q' : Unit → Shared → Prop), d ∈ ds → C ∈ mu' → Cx G s [] [] mu' (compEnvC scope cl C env) mC cm R s → Imm mu' s.heap d v →
    (∀ s' mC', Go [C] s s' → s'.heap.Ns C mC' → TB mu' s'.heap d mC' → Q' () s') → wpAny (model prog w) A (assign target (compEnvC scope cl C env) v) Q' (fun _ _ => False) s
  test : ∀ C mu' mC s d, d ∈ ds → Cx G s [] [] mu' (compEnvC scope cl C env) mC cm R s → TB mu' s.heap d mC →
    wpAny (model prog w) A (tests ifs (compEnvC scope cl C env)) (fun ok s' => ok = p d ∧ Go [] s s') (fun _ _ => False) s
  elt : ∀ C mu' mC s d, d ∈ ds → p d = true → Cx G s [] [] mu' (compEnvC scope cl C env) mC cm R s → TB mu' s.heap d mC →
    wpAny (model prog w) A (eval elt (compEnvC scope cl C env)) (fun y s' => Go [] s s' ∧ Imm mu' s'.heap (f d) y) (fun _ _ => False) s

theorem compCore {elt target iter : Expr} {ifs : List Expr} {scope : Scope} {cl : List (Str × Addr)} {pos : Pos} {I : Addr} {fp wri : List Addr} {P : Nat → Value → Prop} {St : Nat → Heap → Prop} {ds : List D}
    {TB : List Addr → Heap → D → (Str → Option Value) → Prop} {p : D → Bool} {f : D → D} {RR : Value → Addr → Result → Shared → Prop}
    (C₁ : Cx G s₀ own wr mu env m cm R s₁) (g : Go [] s₁ s₂)
    (W : Walks prog w A I fp wri ds.length P St) (hst : St 0 s₂.heap) (hfp : ∀ b ∈ fp, b < s₂.heap.objs.size) (hwri : ∀ b ∈ wri, s₁.heap.get? b = none) (hal : ∀ i h, St i h → Al wri h)
    (hsz : ds.length ≤ 1000) (hcell : ∀ y ∈ scope.names, y.2 ≠ .cell) (hkind : scope.kind = .function)
    (hsub : ∀ n c, cl.lookup n = some c → env.cells.lookup n = some c) (hap : cl.Pairwise fun x y => x.2 ≠ y.2) (hin : ∀ n c, (n, c) ∈ cl → (n, c) ∈ env.cells)
    (hP : ∀ i v, P i v → ∃ d, ds[i]? = some d ∧ Imm mu s₁.heap d v)
    (pk : CompPk prog A G s₁ mu env cm R scope cl target elt ifs ds TB p f)
    (hR : ∀ acc C s', s₁.heap.get? C = none → (∃ mC, s'.heap.Ns C mC) → Go [] s₁ s' → (∀ h'', Kp wr s₁.heap h'' → (∀ b o, b ∉ C :: wr → s'.heap.get? b = some o → h''.get? b = some o) → R h'' ∧ Imm mu h'' (.lst ((ds.filter p).map f)) acc) → RR acc C (.ok .next) s')
    (ht : ∀ i v (s : Shared) (Q : Unit → Shared → Prop) (E : Value → Shared → Prop), St i s.heap → Q () s → wpAny (model prog w) A (letOwnedTupleGo target (.ref I) v) Q E s) :
    wpAny (model prog w) A (newList []) (fun acc s₃ => wpAny (model prog w) A (newFunctionEnv scope env.globals cl [] env.qual none .none (some env)) (fun cenv s₄ =>
      codeAny (model prog w) A (.compStart (.ListComp elt [⟨target, iter, ifs, 0⟩] scope pos) 0 (.ref I) acc { cenv with scope := relabel scope env }) (RR acc cenv.locals) s₄) E s₃) E s₂ := by
  refine wpAny_newObj_type (hd := by size_fits) (wpAny_newFunctionEnv hcell (by intro y hy; simp at hy) (fun h₁ hns₁ hsb₁ => ?_) hkind)
  dsimp only at hns₁ hsb₁ ⊢
  generalize hD : s₂.heap.objs.size = D at hns₁ hsb₁ ⊢
  generalize hH2 : s₂.heap.push { cls := .type "list", dict := none, data := .seq ([] : List Value).toArray } = H2 at hns₁ hsb₁ ⊢
  have hC : H2.objs.size = D + 1 := by rw [← hH2, Heap.size_push, hD]
  generalize hCC : H2.objs.size = C at hns₁ hsb₁ hC ⊢
  have hDC : D ≠ C := by omega
  have D2 : s₂.heap.get? D = none := hD ▸ size_none _
  have C2 : s₂.heap.get? C = none := ge_none (by omega)
  have D1 : s₁.heap.get? D = none := by
    cases e : s₁.heap.get? D with
    | none => rfl
    | some o => rw [g.kp.all _ _ e] at D2; cases D2
  have C1 : s₁.heap.get? C = none := by
    cases e : s₁.heap.get? C with
    | none => rfl
    | some o => rw [g.kp.all _ _ e] at C2; cases C2
  have ltD : ∀ b : Nat, @LT.lt Nat _ b s₂.heap.objs.size → b ≠ D ∧ b ≠ C := fun b hb => ⟨Nat.ne_of_lt (hD ▸ hb), Nat.ne_of_lt (hC ▸ Nat.lt_succ_of_lt (hD ▸ hb))⟩
  have hDf : D ∉ fp := fun q => (ltD _ (hfp _ q)).1 rfl
  have hCf : C ∉ fp := fun q => (ltD _ (hfp _ q)).2 rfl
  have old : ∀ b o, s₂.heap.get? b = some o → h₁.get? b = some o := fun b o e => hsb₁.extBut b o (ltD b (Heap.lt_size e)).2 (Heap.get?_push_of_some _ (hH2 ▸ Heap.get?_push_of_some _ e))
  have hacc : h₁.PlainList D #[] := ⟨_, hsb₁.extBut _ _ hDC (Heap.get?_push_of_some _ (by rw [← hH2, ← hD]; exact Heap.get?_push_size _ rfl))⟩
  have hst₁ : St 0 h₁ := W.frame _ _ _ hst fun b _ o e => old b o e
  obtain ⟨hh2, tk2, e2⟩ := g.same
  generalize hmu : C :: D :: (wri ++ mu) = mu'
  have mC_ : C ∈ mu' := by rw [← hmu]; exact List.mem_cons_self
  have mD_ : D ∈ mu' := by rw [← hmu]; exact List.mem_cons_of_mem _ List.mem_cons_self
  have mw_ : ∀ b ∈ wri, b ∈ mu' := fun b hb => by rw [← hmu]; exact List.mem_cons_of_mem _ (List.mem_cons_of_mem _ (List.mem_append.mpr (.inl hb)))
  have mm_ : ∀ b ∈ mu, b ∈ mu' := fun b hb => by rw [← hmu]; exact List.mem_cons_of_mem _ (List.mem_cons_of_mem _ (List.mem_append.mpr (.inr hb)))
  have news : ∀ b o, s₁.heap.get? b = some o → b ≠ C ∧ b ≠ D ∧ b ∉ wri := fun b o e => ⟨fun q => (by rw [q, C1] at e; cases e), fun q => (by rw [q, D1] at e; cases e), fun q => (by rw [hwri b q] at e; cases e)⟩
  have enterI : ∀ {h : Heap} {d : Mine.D} {v : Value}, (∀ b o, s₁.heap.get? b = some o → h.get? b = some o) → Imm mu s₁.heap d v → Imm mu' h d v := fun k x => Imm.gen (fun b o n e => ⟨k b o e, fun q => by
    rw [← hmu] at q
    obtain ⟨a1, a2, a3⟩ := news b o e
    rcases List.mem_cons.mp q with q | q
    · exact a1 q
    · rcases List.mem_cons.mp q with q | q
      · exact a2 q
      · exact (List.mem_append.mp q).elim a3 n⟩) _ _ x
  -- the turn's invariant
  have mkIn : ∀ (mC : Str → Option Value) (s : Shared), (∃ h tk, s = { s₁ with heap := h, toks := tk }) → (∀ b o, s₁.heap.get? b = some o → s.heap.get? b = some o) → s.heap.Ns C mC → Al mu' s.heap →
      Cx G s [] [] mu' (compEnvC scope cl C env) mC cm R s := fun mC s hs hk hn ha =>
    { ok := ⟨hkind, C₁.ok.gl, C₁.ok.bl⟩, on0 := fun b o e => hk b o (C₁.on b o e), ownOff := .nil, wrNew := fun _ q => (nomatch q), wrmu := fun _ q => (nomatch q), ownmu := fun _ q => (nomatch q)
      same := ⟨_, _, rfl⟩, kp := Kp.rfl', ns := hn
      cells := fun n c e => (C₁.cells n c (hsub n c e)).keeps hk
      apart := hap
      cne := fun n c q e => by
        obtain ⟨o, e1⟩ := C₁.al c (C₁.cmu n c (hin n c q))
        rw [← e] at e1
        rw [show (compEnvC scope cl C env).locals = C from rfl, C1] at e1; cases e1
      cmu := fun n c q => mm_ c (C₁.cmu n c (hin n c q))
      al := ha
      r := C₁.stb _ _ C₁.r (Kp.nil hk).any
      stb := fun h h' r k => C₁.stb _ _ r k.any }
  have hrel : ∀ b o, s₁.heap.get? b = some o → h₁.get? b = some o := fun b o e => old b o (g.kp.all b o e)
  have loop : ∀ s₃ : Shared, s₃ = { s₂ with heap := h₁, toks := s₂.toks + ([] : List (Str × Value)).length } →
      codeAny (model prog w) A (.compLoop (.ListComp elt [⟨target, iter, ifs, 0⟩] scope pos) 0 (.ref I) (.ref D) (compEnvC scope cl C env)) (RR (.ref D) C) s₃ := by
    rintro s₃ e3
    refine compTurns
      (fun k s' => ∃ (i : Nat) (vs : List Value) (mC : Str → Option Value), k = ds.length + 1 - i ∧ i ≤ ds.length ∧ (∃ h tk, s' = { s₁ with heap := h, toks := tk }) ∧ St i s'.heap ∧ s'.heap.PlainList D vs.toArray ∧
        ImmL mu' s'.heap (((ds.take i).filter p).map f) vs ∧ s'.heap.Ns C mC ∧ (∀ b o, s₁.heap.get? b = some o → s'.heap.get? b = some o)) ?_ (ds.length + 1)
      ⟨0, [], _, rfl, Nat.zero_le _, ⟨h₁, s₂.toks + 0, by rw [e3, e2]; rfl⟩, by rw [e3]; exact hst₁, by rw [e3]; exact hacc, by simpa using ImmL.nil, by rw [e3]; exact hns₁, by rw [e3]; exact hrel⟩
    rintro k s' ⟨i, vs, mC, rfl, hi, hs, hst', hpl, him, hn, hk⟩
    have alive : ∀ h : Heap, (∀ b o, s₁.heap.get? b = some o → h.get? b = some o) → St i h ∨ St (i + 1) h → (∃ o, h.get? D = some o) → (∃ o, h.get? C = some o) → Al mu' h := fun h hk hS hd hc => by
      rw [← hmu]
      exact Al.cons hc (Al.cons hd (Al.append (hS.elim (hal _ _) (hal _ _)) fun b hb => let ⟨o, e⟩ := C₁.al b hb; ⟨o, hk _ _ e⟩))
    have hCw : C ∉ wri := fun q => hCf (W.sub _ q)
    have hDw : D ∉ wri := fun q => hDf (W.sub _ q)
    by_cases hlt : i < ds.length
    · refine W.item i _ _ _ hlt hst' fun v h2 tk2 hPv hst2 hk2 => ?_
      obtain ⟨d, hd, im⟩ := hP i v hPv
      have hmem : d ∈ ds := List.mem_of_getElem? hd
      have tk1 : (ds.take (i + 1)) = ds.take i ++ [d] := by rw [List.take_add_one, hd]; rfl
      have hk2' : ∀ b o, s₁.heap.get? b = some o → h2.get? b = some o := fun b o e => hk2 b o (news b o e).2.2 (hk b o e)
      have hn2 : h2.Ns C mC := hn.at' fun o e => hk2 _ o hCw e
      have hpl2 : h2.PlainList D vs.toArray := hpl.at fun o e => hk2 _ o hDw e
      have him2 := ImmL.gen (mu' := mu') (h' := h2) (fun b o n e => ⟨hk2 b o (fun q => n (mw_ b q)) e, n⟩) _ _ him
      have al2 : Al mu' h2 := alive h2 hk2' (.inr hst2) (let ⟨_, e⟩ := hpl2; ⟨_, e⟩) (let ⟨o, _, _, e, _⟩ := hn2; ⟨o, e⟩)
      have hs2 : SameS s₁ { s' with heap := h2, toks := tk2 } := SameS.trans hs ⟨h2, tk2, rfl⟩
      refine ht (i + 1) v _ _ _ hst2 ?_
      refine wpAny_mono (pk.bind C mu' mC _ d v (fun _ s3 => ∃ mC3, Go [C] _ s3 ∧ s3.heap.Ns C mC3 ∧ TB mu' s3.heap d mC3) hmem mC_ (mkIn mC _ hs2 hk2' hn2 al2) (enterI hk2' im) (fun s3 mC3 a b c => ⟨mC3, a, b, c⟩)) (fun _ s3 z => ?_) (fun _ _ z => z.elim)
      obtain ⟨mC3, g3, hn3, tb3⟩ := z
      have nC : ∀ b : Addr, b ≠ C → b ∉ [C] := fun b n q => n (List.mem_singleton.mp q)
      have hk3 : ∀ b o, s₁.heap.get? b = some o → s3.heap.get? b = some o := fun b o e => g3.kp.keep b o (nC b (news b o e).1) (hk2' b o e)
      have hst3 : St (i + 1) s3.heap := W.frame _ _ _ hst2 fun b hb o e => g3.kp.keep b o (nC b fun q => hCf (q ▸ hb)) e
      have hpl3 : s3.heap.PlainList D vs.toArray := hpl2.at fun o e => g3.kp.keep _ o (nC _ hDC) e
      have him3 := ImmL.gen (mu' := mu') (h' := s3.heap) (fun b o n e => ⟨g3.kp.keep b o (nC b fun q => n (q ▸ mC_)) e, n⟩) _ _ him2
      have al3 : Al mu' s3.heap := al2.kp g3.kp
      have hs3 : SameS s₁ s3 := SameS.trans hs2 g3.same
      refine wpAny_mono (pk.test C mu' mC3 s3 d hmem (mkIn mC3 s3 hs3 hk3 hn3 al3) tb3) (fun ok s4 z => ?_) (fun _ _ z => z.elim)
      obtain ⟨rfl, g4⟩ := z
      have hk4 : ∀ b o, s₁.heap.get? b = some o → s4.heap.get? b = some o := fun b o e => g4.kp.all b o (hk3 b o e)
      have hst4 : St (i + 1) s4.heap := W.frame _ _ _ hst3 fun b _ o e => g4.kp.all b o e
      have hpl4 : s4.heap.PlainList D vs.toArray := hpl3.at fun o e => g4.kp.all _ o e
      have him4 := ImmL.gen (mu' := mu') (h' := s4.heap) (fun b o n e => ⟨g4.kp.all b o e, n⟩) _ _ him3
      have hs4 : SameS s₁ s4 := SameS.trans hs3 g4.same
      have hn4 := hn3.keeps g4.kp.all
      cases hp : p d with
      | false =>
        simp only [Bool.false_eq_true, if_false]
        exact ⟨ds.length + 1 - (i + 1), by omega, i + 1, vs, mC3, rfl, hlt, hs4, hst4, hpl4, by rw [tk1, List.filter_append]; simpa [hp] using him4, hn4, hk4⟩
      | true =>
        simp only [if_true]
        refine wpAny_mono (pk.elt C mu' mC3 s4 d hmem hp (mkIn mC3 s4 hs4 hk4 hn4 (al3.kp g4.kp)) (pk.tbstb _ _ _ _ _ tb3 fun b o _ e => g4.kp.all b o e)) (fun y s5 z => ?_) (fun _ _ z => z.elim)
        obtain ⟨g5, iy⟩ := z
        have hlen : vs.toArray.size ≤ sizeLine := by
          have e1 := him.length
          have e2 : ((ds.take i).filter p).length ≤ (ds.take i).length := List.length_filter_le _ _
          rw [List.length_map] at e1
          rw [List.size_toArray, sizeLine_eq, e1]
          have e3 : (ds.take i).length ≤ ds.length := by rw [List.length_take]; exact Nat.min_le_right _ _
          omega
        refine wpAny_list_append_plain (hsz := hlen) (hpl4.at fun o e => g5.kp.all _ o e) fun h6 hl6 hs6 => ?_
        have k6 : ∀ b o, b ≠ D → s5.heap.get? b = some o → h6.get? b = some o := fun b o n e => hs6.extBut b o n e
        have im6 : ImmL mu' h6 (((ds.take i).filter p).map f ++ [f d]) (vs ++ [y]) := ImmL.gen (mu' := mu') (h' := h6) (fun b o n e => ⟨k6 b o (fun q => n (q ▸ mD_)) e, n⟩) _ _
          (ImmL.snoc (ImmL.gen (mu' := mu') (h' := s5.heap) (fun b o n e => ⟨g5.kp.all b o e, n⟩) _ _ him4) iy)
        exact ⟨ds.length + 1 - (i + 1), by omega, i + 1, vs ++ [y], mC3, rfl, hlt, SameS.trans (SameS.trans hs4 g5.same) ⟨h6, s5.toks, rfl⟩,
          W.frame _ _ _ hst4 (fun b hb o e => k6 b o (fun q => hDf (q ▸ hb)) (g5.kp.all b o e)), by simpa using hl6,
          by rw [tk1, List.filter_append]; simpa [hp] using im6, (hn4.keeps g5.kp.all).sameBut hs6 (Ne.symm hDC), fun b o e => k6 b o (news b o e).2.1 (g5.kp.all b o (hk4 b o e))⟩
    · have hin : i = ds.length := by omega
      refine W.done _ _ _ (hin ▸ hst') fun hE tkE hkE => ?_
      have kE : ∀ b o, s₁.heap.get? b = some o → hE.get? b = some o := fun b o e => hkE b o (news b o e).2.2 (hk b o e)
      have gE : Go [] s₁ { s' with heap := hE, toks := tkE } := ⟨SameS.trans hs ⟨hE, tkE, rfl⟩, .nil kE⟩
      refine hR (.ref D) C _ C1 ⟨mC, hn.at' fun o e => hkE _ o hCw e⟩ gE fun h'' kw k'' => ?_
      refine ⟨C₁.stb _ _ C₁.r kw, Imm.lst_iff.mpr ?_⟩
      obtain ⟨n, en⟩ := hpl
      have nCw : ∀ b : Addr, b ∉ mu' → b ∉ C :: wr := fun b n q => (List.mem_cons.mp q).elim (fun q => n (q ▸ mC_)) fun q => n (mm_ b (C₁.wrmu b q))
      have Dw : D ∉ C :: wr := fun q => (List.mem_cons.mp q).elim hDC fun q => C₁.al.notin D1 (C₁.wrmu _ q)
      refine ⟨D, n, vs, rfl, C₁.al.notin D1, k'' _ _ Dw (hkE _ _ hDw en), ?_⟩
      have z := ImmL.gen (mu' := mu) (h' := h'') (fun b o n e => ⟨k'' b o (nCw b n) (hkE b o (fun q => n (mw_ b q)) e), fun q => n (mm_ b q)⟩) _ _ him
      rw [hin, List.take_length] at z
      exact z
  exact codeAny_compStart_list (loop _ rfl) (W.self 0 _ _ _ hst₁ (loop _ rfl))

/-- a comprehension over a list: what is left when its source is read -/
structure CompSrc (prog : Program) (A : Around) (G : Gd w K) (s₀ : Shared) (own wr mu : List Addr) (env : Env) (m cm : Str → Option Value) (scope : Scope) (cl : List (Str × Addr)) (target elt : Expr) (ifs : List Expr)
    (R : Heap → Prop) (ds : List D) (TB : List Addr → Heap → D → (Str → Option Value) → Prop) (p : D → Bool) (f : D → D) (xv : Value) (s₁ : Shared) : Prop where
  cx : Cx G s₀ own wr mu env m cm R s₁
  src : Imm mu s₁.heap (.lst ds) xv
  len : ds.length ≤ 1000
  pk : CompPk prog A G s₁ mu env cm R scope cl target elt ifs ds TB p f

theorem listSrc {xv : Value} {ds : List D} {Q : Value → Shared → Prop} (C₁ : Cx G s₀ own wr mu env m cm R s₁) (src : Imm mu s₁.heap (.lst ds) xv)
    (h : ∀ l vs s₂, xv = .ref l → ImmL mu s₁.heap ds vs → Go [] s₁ s₂ → s₂.heap.IsListIter s₁.heap.objs.size l 0 → s₂.heap.IsList l vs.toArray → l < s₁.heap.objs.size → Q (.ref s₁.heap.objs.size) s₂) :
    wpAny (model prog w) A (pyIter xv) Q E s₁ := by
  obtain ⟨l, n, vs, rfl, hl, e, il⟩ := Imm.lst_iff.mp src
  have L : s₁.heap.IsList l vs.toArray := ⟨_, e, rfl, n, rfl⟩
  exact wpAny_pyIter_list L (h l vs _ rfl il (Go.ofH (Kp.push _)) ⟨_, Heap.get?_push_size _ rfl, rfl, rfl⟩ (L.push _) (Heap.lt_size e))

theorem compList {elt target iter : Expr} {ifs : List Expr} {scope : Scope} {cl : List (Str × Addr)} {pos : Pos} {use : Option (Value → Sem Unit)} {Q : Value → Shared → Prop}
    (hA : A.handled = none)
    (hcell : ∀ y ∈ scope.names, y.2 ≠ .cell) (hkind : scope.kind = .function) (hnames : ∀ y ∈ scope.names, y.2 = .local → scope.names.lookup y.1 = some .local)
    (hclos : closureFor scope env = pure cl) (hsub : ∀ n c, cl.lookup n = some c → env.cells.lookup n = some c) (hap : cl.Pairwise fun x y => x.2 ≠ y.2) (hin : ∀ n c, (n, c) ∈ cl → (n, c) ∈ env.cells)
    (h : wpAny (model prog w) A (eval iter env) (fun xv s₁ => ∃ R ds TB p f, CompSrc prog A G s₀ own wr mu env m cm scope cl target elt ifs R ds TB p f xv s₁ ∧
      ∀ acc C s', s₁.heap.get? C = none → (∃ mC, s'.heap.Ns C mC) → Go [] s₁ s' → (∀ h'', Kp wr s₁.heap h'' → (∀ b o, b ∉ C :: wr → s'.heap.get? b = some o → h''.get? b = some o) → R h'' ∧ Imm mu h'' (.lst ((ds.filter p).map f)) acc) → compPost (model prog w) A E use Q acc C (.ok .next) s') E s)
    (hs : ∀ x, foldedSetIterable iter env x = pure x := by intro _; rfl) :
    wpAny (model prog w) A (comprehension (.ListComp elt [⟨target, iter, ifs, 0⟩] scope pos) scope env iter.pos (PySem.newList []) false (eval iter env) use) Q E s := by
  refine wpAny_comprehension_free (g := ⟨target, iter, ifs, 0⟩) (gs := []) rfl hs hclos hkind hnames (wpAny_mono h (fun xv s₁ h₁ => ?_) fun _ _ e => e)
  obtain ⟨R, ds, TB, p, f, S, hQ⟩ := h₁
  refine listSrc S.cx S.src fun l vs s₂ hx il g hit hl hlt => ?_
  have hne : l ≠ s₁.heap.objs.size := Nat.ne_of_lt hlt
  have W := Walks.list (prog := prog) (w := w) hA s₁.heap.objs.size l hne vs.toArray
  have hlen : vs.toArray.size = ds.length := by simp [il.length]
  rw [hlen] at W
  have hlt2 : ∀ b, (∃ o, s₂.heap.get? b = some o) → b < s₂.heap.objs.size := fun b ⟨o, e⟩ => Heap.lt_size e
  refine compCore (RR := fun acc C => compPost (model prog w) A E use Q acc C) S.cx g W ⟨hit, hl⟩ (fun b hb => ?_) (fun b hb => by rw [List.mem_singleton.mp hb]; exact size_none _) (fun i h hS => ?_) S.len hcell hkind hsub hap hin (fun i v hv => ?_) S.pk (fun acc C s' a b c d => hQ acc C s' a b c d) (fun i v s Q E hS q => let ⟨o, e, c, _⟩ := hS.1; letOwned_ e c (by decide) q)
  · rcases List.mem_cons.mp hb with rfl | hb
    · exact hlt2 _ (let ⟨o, e, _⟩ := hit; ⟨o, e⟩)
    · rw [List.mem_singleton.mp hb]; exact hlt2 _ (let ⟨o, e, _⟩ := hl; ⟨o, e⟩)
  · intro b hb
    rw [List.mem_singleton.mp hb]
    obtain ⟨o, e, _⟩ := hS.1
    exact ⟨o, e⟩
  · exact il.getV (by simpa using hv)

/-- the value of a comprehension over a list -/
theorem Cx.comp {elt target iter : Expr} {ifs : List Expr} {scope : Scope} {cl : List (Str × Addr)} {pos : Pos} {Q : Value → Shared → Prop} (_C : Cx G s₀ own wr mu env m cm R s)
    (hA : A.handled = none)
    (hcell : ∀ y ∈ scope.names, y.2 ≠ .cell) (hkind : scope.kind = .function) (hnames : ∀ y ∈ scope.names, y.2 = .local → scope.names.lookup y.1 = some .local)
    (hclos : closureFor scope env = pure cl) (hsub : ∀ n c, cl.lookup n = some c → env.cells.lookup n = some c) (hap : cl.Pairwise fun x y => x.2 ≠ y.2) (hin : ∀ n c, (n, c) ∈ cl → (n, c) ∈ env.cells)
    (h : wpAny (model prog w) A (eval iter env) (fun xv s₁ => ∃ R ds TB p f, CompSrc prog A G s₀ own wr mu env m cm scope cl target elt ifs R ds TB p f xv s₁ ∧
      ∀ acc s', Cx G s₀ own wr mu env m cm (fun h => R h ∧ Imm mu h (.lst ((ds.filter p).map f)) acc) s' → Q acc s') E s)
    (hs : ∀ x, foldedSetIterable iter env x = pure x := by intro _; rfl) :
    wpAny (model prog w) A (eval (.ListComp elt [⟨target, iter, ifs, 0⟩] scope pos) env) Q E s := by
  show wpAny (model prog w) A (comprehension (.ListComp elt [⟨target, iter, ifs, 0⟩] scope pos) scope env iter.pos (PySem.newList []) false (eval iter env) none) Q E s
  refine compList (G := G) (s₀ := s₀) (own := own) (wr := wr) (mu := mu) (m := m) (cm := cm) hA hcell hkind hnames hclos hsub hap hin (wpAny_mono h (fun xv s₁ z => ?_) fun _ _ e => e) hs
  obtain ⟨R, ds, TB, p, f, S, hQ⟩ := z
  refine ⟨R, ds, TB, p, f, S, fun acc C s' hC hm g F => ?_⟩
  obtain ⟨mC, hn⟩ := hm
  refine ⟨mC, hn, fun h'' hs'' => hQ _ _ ?_⟩
  have k' : Kp [] s₁.heap h'' := .nil fun b o e => (hs''.2 b (fun q => by rw [q, hC] at e; cases e)).trans (g.kp.all b o e)
  have gg : Go [] s₁ { s' with heap := h'' } := ⟨SameS.trans g.same ⟨h'', s'.toks, rfl⟩, k'⟩
  exact (S.cx.go gg).know (F h'' k'.any fun b o n e => (hs''.2 b fun q => n (q ▸ List.mem_cons_self)).trans e) (fun _ _ x k => ⟨S.cx.stb _ _ x.1 k, x.2.kp k S.cx.wrmu⟩)

/-- a comprehension's value stored under a name of its row -/
theorem Cx.compSt {elt target iter : Expr} {ifs : List Expr} {scope : Scope} {cl : List (Str × Addr)} {pos spos py : Pos} {y : Str} {Q : Flow → Shared → Prop} (_C : Cx G s₀ own wr mu env m cm R s)
    (hA : A.handled = none) (hw : env.locals ∈ wr) (hy : env.kindOf y = some .local)
    (hsw : swapsWith (.ListComp elt [⟨target, iter, ifs, 0⟩] scope pos) (some (.Name y py)) spos.line env = pure true)
    (hcell : ∀ y ∈ scope.names, y.2 ≠ .cell) (hkind : scope.kind = .function) (hnames : ∀ y ∈ scope.names, y.2 = .local → scope.names.lookup y.1 = some .local)
    (hclos : closureFor scope env = pure cl) (hsub : ∀ n c, cl.lookup n = some c → env.cells.lookup n = some c) (hap : cl.Pairwise fun x y => x.2 ≠ y.2) (hin : ∀ n c, (n, c) ∈ cl → (n, c) ∈ env.cells)
    (h : wpAny (model prog w) A (eval iter env) (fun xv s₁ => ∃ R ds TB p f, CompSrc prog A G s₀ own wr mu env m cm scope cl target elt ifs R ds TB p f xv s₁ ∧
      ∀ acc s', Cx G s₀ own wr mu env (fun z => if z = y then some acc else m z) cm (fun h => R h ∧ Imm mu h (.lst ((ds.filter p).map f)) acc) s' → Q .next s') E s)
    (hs : ∀ x, foldedSetIterable iter env x = pure x := by intro _; rfl) :
    wpAny (model prog w) A (exec (.Assign [.Name y py] (.ListComp elt [⟨target, iter, ifs, 0⟩] scope pos) spos) env) Q E s := by
  rw [exec_Assign_Name_used _ _ _ _ hsw]
  refine wpAny_bind (wpAny_standAt (wpAny_bind ?_))
  show wpAny _ A (do let _ ← comprehension (.ListComp elt [⟨target, iter, ifs, 0⟩] scope pos) scope env iter.pos (PySem.newList []) false (eval iter env) (some (assign (.Name y py) env))) _ _ s
  refine wpAny_bind (wpAny_mono (compList (G := G) (s₀ := s₀) (own := own) (wr := wr) (mu := mu) (m := m) (cm := cm) (Q := fun _ s' => Q .next s') hA hcell hkind hnames hclos hsub hap hin (wpAny_mono h (fun xv s₁ z => ?_) fun _ _ e => e) hs)
    (fun _ s' hq => wpAny_pure (wpAny_pure hq)) fun _ _ e => e)
  obtain ⟨R, ds, TB, p, f, S, hQ⟩ := z
  refine ⟨R, ds, TB, p, f, S, fun acc C s' hC hm g F => ?_⟩
  obtain ⟨mC, hn⟩ := hm
  have hLC : env.locals ≠ C := fun q => by obtain ⟨o, _, _, e, _⟩ := S.cx.ns; rw [q, hC] at e; cases e
  show wpAny _ A (assign (.Name y py) env acc) _ E s'
  refine wpAny_assign_Name (wpAny_storeName_local hy (S.cx.ns.keeps g.kp.all) (fun h₂ hn₂ hs₂ => ?_) (notLocals S.cx.ok))
  refine ⟨mC, hn.sameBut hs₂ (Ne.symm hLC), fun h₃ hs₃ => hQ acc _ ?_⟩
  have hn₃ := hn₂.sameBut hs₃ hLC
  have k₃ : Kp wr s₁.heap h₃ := (Kp.of_ext (a := env.locals) (fun b o n e => (hs₃.2 b (fun q => by rw [q, hC] at e; cases e)).trans ((hs₂.2 b n).trans (g.kp.all b o e))) (let ⟨o, _, _, e, _⟩ := hn₃; ⟨o, e⟩)).mono fun b q => by rw [List.mem_singleton.mp q]; exact hw
  refine S.cx.upd (m' := fun z => if z = y then some acc else m z) ⟨SameS.trans g.same ⟨h₃, s'.toks + 1, rfl⟩, k₃⟩ hn₃ (fun n c e => ?_) (F h₃ k₃ fun b o n e => (hs₃.2 b fun q => n (q ▸ List.mem_cons_self)).trans ((hs₂.2 b fun q => n (List.mem_cons_of_mem _ (q ▸ hw))).trans e)) (fun _ _ x k => ⟨S.cx.stb _ _ x.1 k, x.2.kp k S.cx.wrmu⟩)
  obtain ⟨o, eo, hd⟩ := S.cx.cells n c e
  have hcC : c ≠ C := fun q => by rw [q, hC] at eo; cases eo
  exact ⟨o, (hs₃.2 c hcC).trans ((hs₂.2 c (Ne.symm (S.cx.cne n c (mem_of_lookup e)))).trans (g.kp.all _ _ eo)), hd⟩

/-- the target is a name -/
theorem bindName_ {scope : Scope} {cl : List (Str × Addr)} {C : Addr} {mu' : List Addr} {mC : Str → Option Value} {x : Str} {px : Pos} {d : D} {v : Value} {Q' : Unit → Shared → Prop}
    (Cc : Cx G s [] [] mu' (compEnvC scope cl C env) mC cm R s) (hx : (compEnvC scope cl C env).kindOf x = some .local) (hC : C ∈ mu') (im : Imm mu' s.heap d v)
    (h : ∀ s' mC', Go [C] s s' → s'.heap.Ns C mC' → (∃ v, mC' x = some v ∧ Imm mu' s'.heap d v) → Q' () s') : wpAny (model prog w) A (assign (.Name x px) (compEnvC scope cl C env) v) Q' E s := by
  refine wpAny_assign_Name (wpAny_storeName_local hx Cc.ns (fun h' hn hs => ?_) (notLocals Cc.ok))
  have k : Kp [C] s.heap h' := .of_same hs (let ⟨o, _, _, e, _⟩ := hn; ⟨o, e⟩)
  exact h _ _ (Go.of k) hn ⟨v, by simp, im.kp k fun b q => by rw [List.mem_singleton.mp q]; exact hC⟩
/-- the target is a pair of names -/
theorem bindPair_ {scope : Scope} {cl : List (Str × Addr)} {C : Addr} {mu' : List Addr} {mC : Str → Option Value} {x y : Str} {px py pt : Pos} {k : Nat} {d₁ d₂ : D} {v : Value} {Q' : Unit → Shared → Prop}
    (hA : A.handled = none) (Cc : Cx G s [] [] mu' (compEnvC scope cl C env) mC cm R s) (hx : (compEnvC scope cl C env).kindOf x = some .local) (hy : (compEnvC scope cl C env).kindOf y = some .local) (hxy : x ≠ y) (hC : C ∈ mu') (im : Imm mu' s.heap (.tup [d₁, d₂]) v)
    (h : ∀ s' mC', Go [C] s s' → s'.heap.Ns C mC' → (∃ v, mC' x = some v ∧ Imm mu' s'.heap d₁ v) ∧ (∃ v, mC' y = some v ∧ Imm mu' s'.heap d₂ v) → Q' () s') :
    wpAny (model prog w) A (assign (.Tuple [.Name x px, .Name y py] k pt) (compEnvC scope cl C env) v) Q' E s := by
  obtain ⟨t, n, vs, rfl, ht, e, il⟩ := Imm.tup_iff.mp im
  obtain ⟨v₁, r₁, rfl, i₁, il⟩ := ImmL.cons_iff.mp il
  obtain ⟨v₂, r₂, rfl, i₂, il⟩ := ImmL.cons_iff.mp il
  rw [ImmL.nil_iff] at il; subst il
  refine wpAny_assign_Tuple hA (items := #[v₁, v₂]) ⟨_, e, rfl, n, rfl⟩ rfl rfl fun h₁ he₁ => ?_
  have k₁ : Kp [] s.heap h₁ := Kp.freshE he₁ (size_none _)
  have hn₁ : h₁.Ns C mC := Cc.ns.keeps k₁.all
  refine wpAny_assignInOrder_more (wpAny_assign_Name (wpAny_storeName_local hx hn₁ (fun h₂ hn₂ hs₂ => ?_) (notLocals Cc.ok)))
  refine wpAny_assignInOrder_more (wpAny_assign_Name (wpAny_storeName_local hy hn₂ (fun h₃ hn₃ hs₃ => wpAny_assignInOrder_none ?_) (notLocals Cc.ok)))
  have k₂ : Kp [C] h₁ h₂ := .of_same hs₂ (let ⟨o, _, _, e, _⟩ := hn₂; ⟨o, e⟩)
  have k₃ : Kp [C] h₂ h₃ := .of_same hs₃ (let ⟨o, _, _, e, _⟩ := hn₃; ⟨o, e⟩)
  have kk : Kp [C] s.heap h₃ := (k₁.any.trans k₂).trans k₃
  have sC : ∀ b ∈ [C], b ∈ mu' := fun b q => by rw [List.mem_singleton.mp q]; exact hC
  exact h _ _ (Go.of kk) hn₃ ⟨⟨v₁, by simp [hxy], i₁.kp kk sC⟩, ⟨v₂, by simp, i₂.kp kk sC⟩⟩

abbrev TBn (x : Str) : List Addr → Heap → D → (Str → Option Value) → Prop := fun mu' h d mC => ∃ v, mC x = some v ∧ Imm mu' h d v
abbrev TBp (x y : Str) : List Addr → Heap → D → (Str → Option Value) → Prop := fun mu' h d mC => ∃ d₁ d₂, d = .tup [d₁, d₂] ∧ (∃ v, mC x = some v ∧ Imm mu' h d₁ v) ∧ (∃ v, mC y = some v ∧ Imm mu' h d₂ v)
theorem Imm.keep {mu' : List Addr} {h h' : Heap} {d : D} {v : Value} (x : Imm mu' h d v) (k : ∀ b o, b ∉ mu' → h.get? b = some o → h'.get? b = some o) : Imm mu' h' d v := Imm.gen (fun b o n e => ⟨k b o n e, n⟩) d v x
theorem CompPk.ofName {scope : Scope} {cl : List (Str × Addr)} {x : Str} {px : Pos} {elt : Expr} {ifs : List Expr} {ds : List D} {p : D → Bool} {f : D → D} (hx : ∀ C, (compEnvC scope cl C env).kindOf x = some .local)
    (test : ∀ C mu' mC s d v, d ∈ ds → Cx G s [] [] mu' (compEnvC scope cl C env) mC cm R s → mC x = some v → Imm mu' s.heap d v → wpAny (model prog w) A (tests ifs (compEnvC scope cl C env)) (fun ok s' => ok = p d ∧ Go [] s s') (fun _ _ => False) s)
    (elt' : ∀ C mu' mC s d v, d ∈ ds → p d = true → Cx G s [] [] mu' (compEnvC scope cl C env) mC cm R s → mC x = some v → Imm mu' s.heap d v → wpAny (model prog w) A (eval elt (compEnvC scope cl C env)) (fun y s' => Go [] s s' ∧ Imm mu' s'.heap (f d) y) (fun _ _ => False) s) :
    CompPk prog A G s₁ mu env cm R scope cl (.Name x px) elt ifs ds (TBn x) p f where
  tbstb := fun mu' h h' d mC z k => let ⟨v, e, i⟩ := z; ⟨v, e, i.keep k⟩
  bind := fun C mu' mC s d v Q' hd hC Cc im h => bindName_ Cc (hx C) hC im fun s' mC' g n z => h s' mC' g n z
  test := fun C mu' mC s d hd Cc ⟨v, e, i⟩ => test C mu' mC s d v hd Cc e i
  elt := fun C mu' mC s d hd hp Cc ⟨v, e, i⟩ => elt' C mu' mC s d v hd hp Cc e i
theorem CompPk.ofPair {scope : Scope} {cl : List (Str × Addr)} {x y : Str} {px py pt : Pos} {k : Nat} {elt : Expr} {ifs : List Expr} {ds : List D} {p : D → Bool} {f : D → D} (hA : A.handled = none) (hx : ∀ C, (compEnvC scope cl C env).kindOf x = some .local) (hy : ∀ C, (compEnvC scope cl C env).kindOf y = some .local) (hxy : x ≠ y)
    (hds : ∀ d ∈ ds, ∃ d₁ d₂, d = .tup [d₁, d₂])
    (test : ∀ C mu' mC s d₁ d₂ v₁ v₂, .tup [d₁, d₂] ∈ ds → Cx G s [] [] mu' (compEnvC scope cl C env) mC cm R s → mC x = some v₁ → Imm mu' s.heap d₁ v₁ → mC y = some v₂ → Imm mu' s.heap d₂ v₂ → wpAny (model prog w) A (tests ifs (compEnvC scope cl C env)) (fun ok s' => ok = p (.tup [d₁, d₂]) ∧ Go [] s s') (fun _ _ => False) s)
    (elt' : ∀ C mu' mC s d₁ d₂ v₁ v₂, .tup [d₁, d₂] ∈ ds → p (.tup [d₁, d₂]) = true → Cx G s [] [] mu' (compEnvC scope cl C env) mC cm R s → mC x = some v₁ → Imm mu' s.heap d₁ v₁ → mC y = some v₂ → Imm mu' s.heap d₂ v₂ → wpAny (model prog w) A (eval elt (compEnvC scope cl C env)) (fun z s' => Go [] s s' ∧ Imm mu' s'.heap (f (.tup [d₁, d₂])) z) (fun _ _ => False) s) :
    CompPk prog A G s₁ mu env cm R scope cl (.Tuple [.Name x px, .Name y py] k pt) elt ifs ds (TBp x y) p f where
  tbstb := fun mu' h h' d mC z k => let ⟨d₁, d₂, e, ⟨v₁, e₁, i₁⟩, ⟨v₂, e₂, i₂⟩⟩ := z; ⟨d₁, d₂, e, ⟨v₁, e₁, i₁.keep k⟩, ⟨v₂, e₂, i₂.keep k⟩⟩
  bind := fun C mu' mC s d v Q' hd hC Cc im h => by
    obtain ⟨d₁, d₂, rfl⟩ := hds d hd
    exact bindPair_ hA Cc (hx C) (hy C) hxy hC im fun s' mC' g n z => h s' mC' g n ⟨d₁, d₂, rfl, z⟩
  test := fun C mu' mC s d hd Cc ⟨d₁, d₂, e, ⟨v₁, e₁, i₁⟩, ⟨v₂, e₂, i₂⟩⟩ => by subst e; exact test C mu' mC s d₁ d₂ v₁ v₂ hd Cc e₁ i₁ e₂ i₂
  elt := fun C mu' mC s d hd hp Cc ⟨d₁, d₂, e, ⟨v₁, e₁, i₁⟩, ⟨v₂, e₂, i₂⟩⟩ => by subst e; exact elt' C mu' mC s d₁ d₂ v₁ v₂ hd hp Cc e₁ i₁ e₂ i₂
theorem tests_nil {env : Env} {s : Shared} : wpAny (model prog w) A (tests [] env) (fun ok s' => ok = true ∧ Go [] s s') (fun _ _ => False) s := wpAny_tests_nil ⟨rfl, Go.rfl'⟩
end
end Mine
end

-- part Le
section
open PySem PySem.W PyProof.Rows PySem.Calls
set_option maxRecDepth 100000
set_option linter.unusedVariables false
namespace Mine

section
variable {prog : Program} {w : World} {K : Frag} {G : Gd w K} {s₀ s₁ s₂ s : Shared} {own wr mu : List Addr} {env : Env} {m cm : Str → Option Value} {R : Heap → Prop} {A : Around} {E : Value → Shared → Prop}

/-- one more thing that may turn -/
theorem Cx.muMore (C : Cx G s₀ own wr mu env m cm R s) {a : Addr} (e : ∃ o, s.heap.get? a = some o) : Cx G s₀ own wr (a :: mu) env m cm R s :=
  { C with cmu := fun n c q => List.mem_cons_of_mem _ (C.cmu n c q), wrmu := fun b q => List.mem_cons_of_mem _ (C.wrmu b q), ownmu := fun b q => List.mem_cons_of_mem _ (C.ownmu b q), al := C.al.cons e }
theorem Cx.muLess (C : Cx G s₀ own wr mu env m cm R s) {nu : List Addr} (h : ∀ b ∈ nu, b ∈ mu) (h1 : ∀ b ∈ wr, b ∈ nu) (h2 : ∀ b ∈ own, b ∈ nu) (h3 : ∀ n c, (n, c) ∈ env.cells → c ∈ nu) : Cx G s₀ own wr nu env m cm R s :=
  { C with cmu := h3, wrmu := h1, ownmu := h2, al := C.al.less h }

/-- what a for loop's user says: the state between the turns -/
structure ForPk (prog : Program) (A : Around) (E : Value → Shared → Prop) (G : Gd w K) (s₀ : Shared) (own wr mu : List Addr) (env : Env) (target : Expr) (body : List Stmt) (Q : Flow → Shared → Prop) (n : Nat) (Dv : Nat → Heap → Value → Prop) (I : Addr)
    (Inv : Nat → (Str → Option Value) → (Str → Option Value) → (Heap → Prop) → Prop) : Prop where
  stb : ∀ i m cm R, Inv i m cm R → ∀ h h', R h → (∀ b o, b ∉ I :: wr → h.get? b = some o → h'.get? b = some o) → R h'
  turn : ∀ i v m cm R (LP : Heap → Prop) s, i < n → Inv i m cm R → (∀ W h h', (∀ b ∈ W, b ∈ mu) → LP h → Kp W h h' → LP h') → Cx G s₀ own wr (I :: mu) env m cm (fun h => R h ∧ LP h) s → Dv i s.heap v →
    wpAny (model prog w) A (assign target env v) (fun _ s₂ => wpAny (model prog w) A (execs body env) (fun f s₃ => match f with
      | .next | .cont => ∃ m' cm' R', Inv (i + 1) m' cm' R' ∧ Cx G s₀ own wr (I :: mu) env m' cm' (fun h => R' h ∧ LP h) s₃
      | .brk => Q .next s₃
      | .ret v => Q (.ret v) s₃) (fun _ _ => False) s₂) (fun _ _ => False) s
  done : ∀ m cm R s, Inv n m cm R → Cx G s₀ own wr mu env m cm R s → Q .next s

/-- the iterator has gone on -/
theorem Cx.goI (C : Cx G s₀ own wr mu env m cm R s) {s' : Shared} {I : Addr} {P : Heap → Prop} (g : Go [I] s s') (hI : s₀.heap.get? I = none) (hL : env.locals ≠ I) (hc : ∀ n c, (n, c) ∈ env.cells → c ≠ I) (p : P s'.heap) (stb : ∀ h h', P h → Kp wr h h' → P h') :
    Cx G s₀ own wr mu env m cm P s' :=
  { ok := C.ok, on0 := C.on0, ownOff := C.ownOff, wrNew := C.wrNew, wrmu := C.wrmu, ownmu := C.ownmu
    same := (Go.trans (W := I :: own) (C.go0.mono fun _ q => List.mem_cons_of_mem _ q) (g.mono fun b q => by rw [List.mem_singleton.mp q]; exact List.mem_cons_self)).same
    kp := ((C.kp.mono fun _ q => List.mem_cons_of_mem _ q).trans (g.kp.mono fun b q => by rw [List.mem_singleton.mp q]; exact List.mem_cons_self) : Kp (I :: own) s₀.heap s'.heap).fresh1 hI
    ns := let ⟨o, es, ep, e, r⟩ := C.ns; ⟨o, es, ep, g.kp.keep _ _ (fun q => hL (List.mem_singleton.mp q)) e, r⟩
    cells := fun n c e => let ⟨o, ho, hd⟩ := C.cells n c e; ⟨o, g.kp.keep _ _ (fun q => hc n c (mem_of_lookup e) (List.mem_singleton.mp q)) ho, hd⟩
    apart := C.apart, cne := C.cne, cmu := C.cmu, al := C.al.kp g.kp, r := p, stb := stb }

theorem forCore {target : Expr} {body : List Stmt} {Q : Flow → Shared → Prop} {I : Addr} {fp : List Addr} {n : Nat} {P : Nat → Value → Prop} {St : Nat → Heap → Prop} {Dv : Nat → Heap → Value → Prop} {X : Heap → Prop}
    {Inv : Nat → (Str → Option Value) → (Str → Option Value) → (Heap → Prop) → Prop} {R' : Result → Shared → Prop}
    (W : Walks prog w A I fp [I] n P St) (hfp : ∀ b ∈ fp, b ∉ mu) (hal : ∀ i h, St i h → ∃ o, h.get? I = some o)
    (hX : ∀ W h h', (∀ b ∈ W, b ∈ I :: mu) → X h → Kp W h h' → X h') (hD : ∀ i v h, P i v → X h → Dv i h v)
    (hwr : ∀ b ∈ wr, b ∈ mu) (howm : ∀ b ∈ own, b ∈ mu) (hcm : ∀ n c, (n, c) ∈ env.cells → c ∈ mu) (hI : s₀.heap.get? I = none) (hL : env.locals ≠ I) (hc : ∀ n c, (n, c) ∈ env.cells → c ≠ I)
    (pk : ForPk prog A E G s₀ own wr mu env target body Q n Dv I Inv)
    (hst : St 0 s₂.heap) (hx : X s₂.heap) (hi : Inv 0 m cm R) (C : Cx G s₀ own wr (I :: mu) env m cm R s₂)
    (hR : ∀ f s, Q f s → R' (.ok f) s)
    (ht : ∀ i v (s : Shared) (Q : Unit → Shared → Prop) (E : Value → Shared → Prop), St i s.heap → Q () s → wpAny (model prog w) A (letOwnedTupleGo target (.ref I) v) Q E s) :
    codeAny (model prog w) A (.forLoop target (.ref I) body [] env) R' s₂ := by
  have stSt : ∀ i W h h', (∀ b ∈ W, b ∈ mu) → St i h → Kp W h h' → St i h' := fun i V h h' hV x k => W.frame i h h' x fun b hb o e => k.keep b o (fun q => hfp b hb (hV b q)) e
  have hXm : ∀ W h h', (∀ b ∈ W, b ∈ mu) → X h → Kp W h h' → X h' := fun W h h' hW => hX W h h' fun b q => List.mem_cons_of_mem _ (hW b q)
  have Imu : I ∉ mu := hfp I (W.sub I (List.mem_singleton.mpr rfl))
  refine codeAny_forLoop_any (fun k s => ∃ i m cm R, k = n + 1 - i ∧ i ≤ n ∧ Inv i m cm R ∧ Cx G s₀ own wr (I :: mu) env m cm (fun h => R h ∧ (St i h ∧ X h)) s) ?_ (n + 1)
    ⟨0, m, cm, R, rfl, Nat.zero_le _, hi, C.also ⟨hst, hx⟩ fun h h' x k => ⟨stSt 0 wr h h' hwr x.1 k, hXm wr h h' hwr x.2 k⟩⟩
  rintro k s ⟨i, m, cm, R, rfl, hin, hi, C⟩
  obtain ⟨r, st, x⟩ := C.r
  have kI : ∀ h', (∀ b o, b ∉ [I] → s.heap.get? b = some o → h'.get? b = some o) → (∃ o, h'.get? I = some o) → Kp [I] s.heap h' := fun h' k e => ⟨k, fun b q o _ => by rw [List.mem_singleton.mp q]; exact e⟩
  have toI : ∀ b ∈ [I], b ∈ I :: wr := fun b q => by rw [List.mem_singleton.mp q]; exact List.mem_cons_self
  have toM : ∀ b ∈ [I], b ∈ I :: mu := fun b q => by rw [List.mem_singleton.mp q]; exact List.mem_cons_self
  by_cases hlt : i < n
  · refine W.item i _ _ _ hlt st fun v h' tk hP hst' hk => ?_
    have k := kI h' hk (hal _ _ hst')
    have x' := hX [I] _ _ toM x k
    have C' : Cx G s₀ own wr (I :: mu) env m cm (fun h => R h ∧ (St (i + 1) h ∧ X h)) { s with heap := h', toks := tk } :=
      C.goI (Go.of k) hI hL hc ⟨pk.stb i m cm R hi _ _ r (k.mono toI).keep, hst', x'⟩ fun h h' z k => ⟨pk.stb i m cm R hi _ _ z.1 (k.mono fun b q => List.mem_cons_of_mem _ q).keep, stSt _ wr h h' hwr z.2.1 k, hXm wr h h' hwr z.2.2 k⟩
    refine ht (i + 1) v _ _ _ hst' ?_
    refine wpAny_mono (pk.turn i v m cm R (fun h => St (i + 1) h ∧ X h) _ hlt hi (fun V h h' hV z k => ⟨stSt _ V h h' hV z.1 k, hXm V h h' hV z.2 k⟩) C' (hD i v _ hP x')) (fun _ s₂ z => ?_) (fun _ _ z => z.elim)
    refine wpAny_mono z (fun f s₃ z => ?_) (fun _ _ z => z.elim)
    cases f with
    | ret v => exact hR _ _ z
    | brk => exact hR _ _ z
    | next => obtain ⟨m', cm', R', hi', C''⟩ := z; exact ⟨n + 1 - (i + 1), by omega, i + 1, m', cm', R', rfl, hlt, hi', C''⟩
    | cont => obtain ⟨m', cm', R', hi', C''⟩ := z; exact ⟨n + 1 - (i + 1), by omega, i + 1, m', cm', R', rfl, hlt, hi', C''⟩
  · have e : i = n := by omega
    subst e
    refine W.done _ _ _ st fun h' tk hk => wpAny_execs_nil (hR _ _ ?_)
    have kb : ∀ b o, b ≠ I → s.heap.get? b = some o → h'.get? b = some o := fun b o n e => hk b o (fun q => n (List.mem_singleton.mp q)) e
    refine pk.done m cm R _ hi
      { ok := C.ok, on0 := C.on0, ownOff := C.ownOff, wrNew := C.wrNew, wrmu := hwr, ownmu := howm
        same := SameS.trans C.same ⟨h', tk, rfl⟩
        kp := (Kp.mk (fun b o n e => ?_) fun b q o e => ?_)
        ns := let ⟨o, es, ep, e, r⟩ := C.ns; ⟨o, es, ep, kb _ _ hL e, r⟩
        cells := fun n c e => let ⟨o, ho, hd⟩ := C.cells n c e; ⟨o, kb _ _ (hc n c (mem_of_lookup e)) ho, hd⟩
        apart := C.apart, cne := C.cne, cmu := hcm
        al := fun b hb => let ⟨o, e⟩ := C.al b (List.mem_cons_of_mem _ hb); ⟨o, kb b o (fun q => Imu (q ▸ hb)) e⟩
        r := pk.stb i m cm R hi _ _ r fun b o n e => kb b o (fun q => n (q ▸ List.mem_cons_self)) e
        stb := fun h h' z k => pk.stb i m cm R hi _ _ z (k.mono fun b q => List.mem_cons_of_mem _ q).keep }
    · exact kb b o (fun q => by rw [q, hI] at e; cases e) (C.kp.keep b o n e)
    · obtain ⟨o', e'⟩ := C.kp.al b q o e
      exact ⟨o', kb b o' (fun z => Imu (z ▸ howm b q)) e'⟩

/-- a for over a list of known data -/
theorem Cx.forList {target iter : Expr} {body : List Stmt} {pos : Pos} {Q : Flow → Shared → Prop} (_C : Cx G s₀ own wr mu env m cm R s) (hA : A.handled = none)
    (h : wpAny (model prog w) A (eval iter env) (fun xv s₁ => ∃ m cm R ds, Cx G s₀ own wr mu env m cm R s₁ ∧ Imm mu s₁.heap (.lst ds) xv ∧
      ∀ I s₂, s₁.heap.get? I = none → Go [] s₁ s₂ → (∃ o, s₂.heap.get? I = some o) → Cx G s₀ own wr (I :: mu) env m cm R s₂ →
        ∃ m cm R Inv, Inv 0 m cm R ∧ Cx G s₀ own wr (I :: mu) env m cm R s₂ ∧ ForPk prog A E G s₀ own wr mu env target body Q ds.length (fun i h v => ∃ d, ds[i]? = some d ∧ Imm (I :: mu) h d v) I Inv) E s)
    (hs : ∀ x, foldedSetIterable iter env x = pure x := by intro _; rfl) :
    wpAny (model prog w) A (exec (.For target iter body [] pos) env) Q E s := by
  refine wpAny_For (wpAny_mono h (fun xv s₁ z => ?_) fun _ _ e => e) hs
  obtain ⟨m, cm, R, ds, C₁, src, h⟩ := z
  refine listSrc C₁ src fun l vs s₂ hx il g hit hl hlt => ?_
  have hI1 : s₁.heap.get? s₁.heap.objs.size = none := size_none _
  have hne : l ≠ s₁.heap.objs.size := Nat.ne_of_lt hlt
  have hIm : s₁.heap.objs.size ∉ mu := C₁.al.new
  have ie : ∃ o, s₂.heap.get? s₁.heap.objs.size = some o := let ⟨o, e, _⟩ := hit; ⟨o, e⟩
  obtain ⟨l', n, vs', e, hlm, _, _⟩ := Imm.lst_iff.mp src
  rw [hx] at e; cases e
  have W := Walks.list (prog := prog) (w := w) hA s₁.heap.objs.size l hne vs.toArray
  have hlen : vs.toArray.size = ds.length := by simp [il.length]
  rw [hlen] at W
  have mI : ∀ b ∈ [s₁.heap.objs.size], s₁.heap.get? b = none := fun b q => by rw [List.mem_singleton.mp q]; exact hI1
  have C₂ := (C₁.go g).muMore ie
  obtain ⟨m', cm', R', Inv, hi, C', pk⟩ := h _ s₂ hI1 g ie C₂
  have hI0 : s₀.heap.get? s₁.heap.objs.size = none := by
    cases e : s₀.heap.get? s₁.heap.objs.size with
    | none => rfl
    | some o => obtain ⟨o', e'⟩ := C₁.kp.there ⟨o, e⟩; rw [hI1] at e'; cases e'
  refine forCore (X := fun h => ImmL (s₁.heap.objs.size :: mu) h ds vs) (R' := fun r s' => match r with | .ok f => Q f s' | .error e => cameBackBy (model prog w) A env E e s') W (fun b hb => ?_) (fun i h x => let ⟨o, e, _⟩ := x.1; ⟨o, e⟩) (fun V h h' hV x k => x.kp k hV) (fun i v h hp x => x.getV (by simpa using hp)) C₁.wrmu C₁.ownmu C₁.cmu hI0 (fun q => hIm ?_) (fun n c q z => hIm (z ▸ C₁.cmu n c q)) pk ⟨hit, hl⟩ ?_ hi C' (fun _ _ q => q) (fun i v s Q E hS q => let ⟨o, e, c, _⟩ := hS.1; letOwned_ e c (by decide) q)
  · rcases List.mem_cons.mp hb with rfl | hb
    · exact hIm
    · rw [List.mem_singleton.mp hb]; exact hlm
  · exfalso
    obtain ⟨o, _, _, e, _⟩ := C₁.ns
    rw [q, hI1] at e; cases e
  · exact ImmL.gen (fun b o n e => ⟨g.kp.all b o e, fun q => (List.mem_cons.mp q).elim (fun q => by rw [q, hI1] at e; cases e) n⟩) _ _ il
end
end Mine
end

-- part Lf
section
open PySem PySem.W PyProof.Rows PySem.Calls
set_option maxRecDepth 100000
set_option linter.unusedVariables false
namespace Mine

section
variable {prog : Program} {w : World} {mu : List Addr} {s : Shared} {A : Around} {E : Value → Shared → Prop} {ds es : List D} {v u : Value}

theorem lst_at {h : Heap} (x : Imm mu h (.lst ds) v) : ∃ l vs, v = .ref l ∧ l ∉ mu ∧ h.IsList l vs.toArray ∧ ImmL mu h ds vs ∧ l < h.objs.size ∧ (∃ n, h.get? l = some { cls := .type "list", data := .seq vs.toArray n }) := by
  obtain ⟨l, n, vs, rfl, hl, e, il⟩ := Imm.lst_iff.mp x
  exact ⟨l, vs, rfl, hl, ⟨_, e, rfl, n, rfl⟩, il, Heap.lt_size e, n, e⟩
theorem tup_at {h : Heap} (x : Imm mu h (.tup ds) v) : ∃ l vs, v = .ref l ∧ l ∉ mu ∧ h.IsTuple l vs.toArray ∧ ImmL mu h ds vs ∧ l < h.objs.size ∧ (∃ n, h.get? l = some { cls := .type "tuple", data := .seq vs.toArray n }) := by
  obtain ⟨l, n, vs, rfl, hl, e, il⟩ := Imm.tup_iff.mp x
  exact ⟨l, vs, rfl, hl, ⟨_, e, rfl, n, rfl⟩, il, Heap.lt_size e, n, e⟩

theorem len_lst {Q : Value → Shared → Prop} (x : Imm mu s.heap (.lst ds) v) (hs : ds.length ≤ 1000) (h : ∀ t s', Go [] s s' → Q (.int ds.length t) s') : wpAny (model prog w) A (call (.builtin "len") [v]) Q E s := by
  obtain ⟨l, vs, rfl, _, hl, il, _⟩ := lst_at x
  have e := il.length
  refine call_len_list hl (by rw [List.size_toArray]; omega) ?_
  rw [List.size_toArray, e]
  exact h _ _ Go.ofT

def boolD (bs : List Bool) : List D := bs.map .bool
theorem bools_get {h : Heap} : ∀ {bs : List Bool} {vs : List Value}, ImmL mu h (boolD bs) vs → ∀ {i : Nat} {v : Value}, vs[i]? = some v → ∃ b, bs[i]? = some b ∧ v = .bool b := fun x i v e => by
  obtain ⟨d, hd, im⟩ := x.getV e
  simp only [boolD, List.getElem?_map, Option.map_eq_some_iff] at hd
  obtain ⟨b, hb, rfl⟩ := hd
  exact ⟨b, hb, Imm.bool_iff.mp im⟩
theorem any_lst {bs : List Bool} {Q : Value → Shared → Prop} (hA : A.handled = none) (x : Imm mu s.heap (.lst (boolD bs)) v) (h : ∀ s', Go [] s s' → Q (.bool (bs.any id)) s') : wpAny (model prog w) A (call (.builtin "any") [v]) Q E s := by
  obtain ⟨l, vs, rfl, _, hl, il, hlt, _⟩ := lst_at x
  have el : vs.length = bs.length := by rw [il.length, boolD, List.length_map]
  refine call_any_walk (wpAny_pyIter_list hl ?_)
  refine ⟨s.heap.objs.size, [s.heap.objs.size, l], [s.heap.objs.size], vs.toArray.size, _, _, fun i => (bs[i]?).getD false, rfl, Walks.list (A := A.in1) hA _ l (Nat.ne_of_lt hlt) vs.toArray,
    ⟨⟨_, Heap.get?_push_size _ rfl, rfl, rfl⟩, hl.push _⟩, fun i v s' Q' E' hP hQ => ?_, fun h' tk hk => ?_⟩
  · obtain ⟨b, e, rfl⟩ := bools_get il (by simpa using hP)
    simp only [e, Option.getD_some] at hQ
    exact wpAny_truthy_bool hQ
  · have e : ((List.range vs.toArray.size).any fun i => (bs[i]?).getD false) = bs.any id := by
      rw [List.size_toArray, el]; exact LSm.range_any bs
    rw [e]
    exact h _ (Go.of (.nil (LSm.kept_iter hk)))

theorem sorted_lst {ns : List Int} {Q : Value → Shared → Prop} (al : Al mu s.heap) (x : Imm mu s.heap (.lst (intD ns)) v) (hs : ns.length < 64)
    (h : ∀ u ns' s', Go [] s s' → Imm mu s'.heap (.lst (intD ns')) u → ns'.Perm ns → ns'.Pairwise (· ≤ ·) → Q u s') : wpAny (model prog w) A (call (.builtin "sorted") [v]) Q E s := by
  obtain ⟨l, vs, rfl, _, hl, il, hlt, _⟩ := lst_at x
  refine sorted_ints hl il.ints_are (by rw [il.length, intD, List.length_map]; exact hs) fun out ns' hi hp hs => ?_
  have k : Kp [] s.heap (sortedAll s.heap vs out) := .nil fun b o e => sortedAll_old e
  obtain ⟨e, he⟩ := sortedAll_at s.heap vs out
  refine h _ ns' _ (Go.ofH k) (Imm.lst_iff.mpr ⟨_, e, out.toList, rfl, al.notin (ge_none (Nat.le_succ _)), by simpa using he, ImmL.ints_of hi⟩) hp hs

theorem list_lst {Q : Value → Shared → Prop} (al : Al mu s.heap) (x : Imm mu s.heap (.lst ds) v) (hs : ds.length ≤ 1000) (h : ∀ u s', Go [] s s' → Imm mu s'.heap (.lst ds) u → Q u s') :
    wpAny (model prog w) A (call (.type "list") [v]) Q E s := by
  obtain ⟨l, vs, rfl, _, hl, il, hlt, n, e⟩ := lst_at x
  have el := il.length
  refine call_list_seq (T := "list") l (.inl rfl) e rfl rfl (fun h' c' hk he => h _ _ (Go.ofH (.nil hk)) (Imm.lst_iff.mpr ⟨_, c', vs, rfl, al.new, he, ?_⟩)) (by rw [List.size_toArray, sizeLine_eq]; omega)
  exact il.kp (W := []) (.nil hk) fun _ q => nomatch q

theorem add_lst {Q : Value → Shared → Prop} (al : Al mu s.heap) (x : Imm mu s.heap (.lst ds) v) (y : Imm mu s.heap (.lst es) u) (hs : ds.length + es.length ≤ 1000) (h : ∀ r s', Go [] s s' → Imm mu s'.heap (.lst (ds ++ es)) r → Q r s') :
    wpAny (model prog w) A (binaryOp .Add v u) Q E s := by
  obtain ⟨l, vs, rfl, _, _, il, _, n, e⟩ := lst_at x
  obtain ⟨b, us, rfl, _, _, iu, _, n2, e2⟩ := lst_at y
  have a1 := il.length
  have a2 := iu.length
  have k : Kp [] s.heap (s.heap.push { cls := .type "list", data := .seq (vs ++ us).toArray }) := Kp.push _
  refine PySem.P.add_list (items := vs.toArray) (items2 := us.toArray) e e2 ?_ (by rw [List.size_toArray, List.size_toArray, sizeLine_eq]; omega)
  rw [show vs.toArray ++ us.toArray = (vs ++ us).toArray by simp]
  exact h _ _ (Go.ofH k) (imm_lst al (il.append iu))

theorem eq_intL {ns ms : List Int} {Q : Value → Shared → Prop} (hA : A.units + 64 < cLine) (x : Imm mu s.heap (.lst (intD ns)) v) (y : Imm mu s.heap (.lst (intD ms)) u) (h : Q (.bool (decide (ns = ms))) s) : wpAny (model prog w) A (compareOp .Eq v u) Q E s := by
  obtain ⟨l, vs, rfl, _, hl, il, _⟩ := lst_at x
  obtain ⟨b, us, rfl, _, hb, iu, _⟩ := lst_at y
  exact eq_intsK hl il.ints_are hb iu.ints_are hA h
theorem ne_intL {ns ms : List Int} {Q : Value → Shared → Prop} (hA : A.units + 64 < cLine) (x : Imm mu s.heap (.lst (intD ns)) v) (y : Imm mu s.heap (.lst (intD ms)) u) (h : Q (.bool (!decide (ns = ms))) s) : wpAny (model prog w) A (compareOp .NotEq v u) Q E s := by
  obtain ⟨l, vs, rfl, _, hl, il, _⟩ := lst_at x
  obtain ⟨b, us, rfl, _, hb, iu, _⟩ := lst_at y
  exact ne_intsK hl il.ints_are hb iu.ints_are hA h
/-- a list against the empty list -/
theorem eq_isnil {l b : Addr} {vs : List Value} {Q : Value → Shared → Prop} (hA : A.units < cLine) (hl : s.heap.IsList l vs.toArray) (hb : s.heap.IsList b ([] : List Value).toArray) (h : Q (.bool vs.isEmpty) s) : wpAny (model prog w) A (compareOp .Eq (.ref l) (.ref b)) Q E s := by
  cases vs with
  | nil => exact SeqAt.eq_listAt (e := fun _ => true) hl hb rfl hA (fun j h1 _ => absurd h1 (Nat.not_lt_zero _)) (by simpa using h)
  | cons a r => exact SeqAt.eq_list_lengthsAt hl hb (by simp) hA (by simpa using h)
theorem ne_isnil {l b : Addr} {vs : List Value} {Q : Value → Shared → Prop} (hA : A.units < cLine) (hl : s.heap.IsList l vs.toArray) (hb : s.heap.IsList b ([] : List Value).toArray) (h : Q (.bool (!vs.isEmpty)) s) : wpAny (model prog w) A (compareOp .NotEq (.ref l) (.ref b)) Q E s := by
  obtain ⟨⟨cls, dd, data, sl⟩, ho, hc, n, hd⟩ := id hl
  obtain ⟨⟨cls2, dd2, data2, sl2⟩, ho2, hc2, n2, hd2⟩ := id hb
  simp only at hc hd hc2 hd2
  subst hc hd hc2 hd2
  cases vs with
  | nil =>
    exact richCompare_meets_room (op := .NotEq) ⟨_, ho, rfl⟩ ⟨_, ho2, rfl⟩ F.slot_list_ne F.entry_list_ne (F.args_list_ne_2 _ _) (SeqAt.list_neAt l b _ _ n n2 dd dd2 sl sl2 rfl (fun _ => true))
      ⟨ho, ho2, fun j h1 _ => absurd h1 (Nat.not_lt_zero _), (fun x => nomatch x), by simpa using h⟩ hA
  | cons a r =>
    exact richCompare_meets_room (op := .NotEq) ⟨_, ho, rfl⟩ ⟨_, ho2, rfl⟩ F.slot_list_ne F.entry_list_ne (F.args_list_ne_2 _ _) (SeqAt.list_ne_lengthsAt l b _ _ n n2 dd dd2 sl sl2 (by simp))
      ⟨ho, ho2, (fun x => nomatch x), by simpa using h⟩ hA
theorem eq_nilL {Q : Value → Shared → Prop} (hA : A.units < cLine) (x : Imm mu s.heap (.lst ds) v) (y : Imm mu s.heap (.lst []) u) (h : Q (.bool ds.isEmpty) s) : wpAny (model prog w) A (compareOp .Eq v u) Q E s := by
  obtain ⟨l, vs, rfl, _, hl, il, _⟩ := lst_at x
  obtain ⟨b, us, rfl, _, hb, iu, _⟩ := lst_at y
  rw [ImmL.nil_iff.mp iu] at hb
  have e : vs.isEmpty = ds.isEmpty := by have := il.length; cases vs <;> cases ds <;> simp_all
  exact eq_isnil hA hl hb (e ▸ h)
theorem ne_nilL {Q : Value → Shared → Prop} (hA : A.units < cLine) (x : Imm mu s.heap (.lst ds) v) (y : Imm mu s.heap (.lst []) u) (h : Q (.bool (!ds.isEmpty)) s) : wpAny (model prog w) A (compareOp .NotEq v u) Q E s := by
  obtain ⟨l, vs, rfl, _, hl, il, _⟩ := lst_at x
  obtain ⟨b, us, rfl, _, hb, iu, _⟩ := lst_at y
  rw [ImmL.nil_iff.mp iu] at hb
  have e : vs.isEmpty = ds.isEmpty := by have := il.length; cases vs <;> cases ds <;> simp_all
  exact ne_isnil hA hl hb (e ▸ h)

/-- an item -/
theorem item_lst {k : Int} {t : Tok} {i : Nat} {d : D} {value slice : Expr} {Q : Value → Shared → Prop} (x : Imm mu s.heap (.lst ds) v) (hk : k = (i : Int)) (hi : i < 1000) (hd : ds[i]? = some d)
    (h : ∀ u, Imm mu s.heap d u → Q u s) (hs : ∀ l, subscripted slice false (.ref l) (.int k t) = operate [.ref l, .int k t] (getItem (.ref l) (.int k t)) := by intro _; with_unfolding_all rfl) :
    wpAny (model prog w) A (subscriptTail value slice v (.int k t)) Q E s := by
  obtain ⟨l, vs, rfl, _, hl, il, _⟩ := lst_at x
  obtain ⟨u, hu, iu⟩ := il.get hd
  subst hk
  exact tail_any hl.typeIs slot_list_getitem.lookup (wpAny_getItem_list hl (Int.natCast_nonneg _) (by omega) (by simpa using hu) (h u iu)) (hs l)
theorem item_tup {k : Int} {t : Tok} {i : Nat} {d : D} {value slice : Expr} {Q : Value → Shared → Prop} (x : Imm mu s.heap (.tup ds) v) (hk : k = (i : Int)) (hi : i < 1000) (hd : ds[i]? = some d)
    (h : ∀ u, Imm mu s.heap d u → Q u s) (hs : ∀ l, subscripted slice false (.ref l) (.int k t) = operate [.ref l, .int k t] (getItem (.ref l) (.int k t)) := by intro _; with_unfolding_all rfl) :
    wpAny (model prog w) A (subscriptTail value slice v (.int k t)) Q E s := by
  obtain ⟨l, vs, rfl, _, hl, il, _⟩ := tup_at x
  obtain ⟨u, hu, iu⟩ := il.get hd
  subst hk
  have hlt : i < vs.length := (List.getElem?_eq_some_iff.mp hu).1
  exact item_tupleT (j := i) hl (by omega) (by omega) (by simp [seqIndex?]; omega) hu (h u iu) (hs l)
theorem min_int {a b : Int} {t t' : Tok} {Q : Value → Shared → Prop} (hA : A.handled = none) (h : ∀ t s', Go [] s s' → Q (.int (min a b) t) s') : wpAny (model prog w) A (call (.builtin "min") [.int a t, .int b t']) Q E s := by
  refine min_two_ints hA fun h' tk k => ?_
  by_cases q : b < a
  · rw [if_pos q]; have := h t' _ (Go.of (tk := tk) (.nil k)); rwa [show min a b = b by omega] at this
  · rw [if_neg q]; have := h t _ (Go.of (tk := tk) (.nil k)); rwa [show min a b = a by omega] at this
theorem max_int {a b : Int} {t t' : Tok} {Q : Value → Shared → Prop} (hA : A.handled = none) (h : ∀ t s', Go [] s s' → Q (.int (max a b) t) s') : wpAny (model prog w) A (call (.builtin "max") [.int a t, .int b t']) Q E s := by
  refine max_two_ints hA fun h' tk k => ?_
  by_cases q : b > a
  · rw [if_pos q]; have := h t' _ (Go.of (tk := tk) (.nil k)); rwa [show max a b = b by omega] at this
  · rw [if_neg q]; have := h t _ (Go.of (tk := tk) (.nil k)); rwa [show max a b = a by omega] at this
end
end Mine
end

-- part Lg
section
open PySem PySem.W PyProof.Rows PySem.Calls
set_option maxRecDepth 100000
set_option linter.unusedVariables false
namespace Mine

section
variable {prog : Program} {w : World} {K : Frag} {G : Gd w K} {s₀ s s' : Shared} {own wr mu mu' : List Addr} {env : Env} {m cm : Str → Option Value} {R : Heap → Prop} {A : Around} {E : Value → Shared → Prop}

/-- a list that is being filled -/
def Fnd (f : Addr) (mu : List Addr) (h : Heap) (ds : List D) : Prop := ∃ vs, h.PlainList f vs.toArray ∧ ImmL mu h ds vs
theorem Fnd.keep {f : Addr} {h h' : Heap} {ds : List D} (x : Fnd f mu h ds) (k : ∀ b o, b ∉ mu → h.get? b = some o → h'.get? b = some o) (kf : ∀ o, h.get? f = some o → h'.get? f = some o) : Fnd f mu h' ds :=
  let ⟨vs, p, i⟩ := x; ⟨vs, p.at kf, ImmL.gen (fun b o n e => ⟨k b o n e, n⟩) _ _ i⟩
theorem Fnd.kp {f : Addr} {W : List Addr} {h h' : Heap} {ds : List D} (x : Fnd f mu h ds) (k : Kp W h h') (hW : ∀ b ∈ W, b ∈ mu) (hf : f ∉ W) : Fnd f mu h' ds := x.keep (fun b o n e => k.keep b o (fun q => n (hW b q)) e) fun o e => k.keep f o hf e
theorem Fnd.freeze {f : Addr} {h : Heap} {ds : List D} (x : Fnd f mu h ds) (hm : ∀ b ∈ mu', b ∈ mu) (hf : f ∉ mu') : Imm mu' h (.lst ds) (.ref f) := by
  obtain ⟨vs, ⟨n, e⟩, i⟩ := x
  exact Imm.lst_iff.mpr ⟨f, n, vs, rfl, hf, e, i.less hm⟩
theorem Fnd.append {f : Addr} {ds : List D} {d : D} {v : Value} {Q : Value → Shared → Prop} (x : Fnd f mu s.heap ds) (ix : Imm mu s.heap d v) (hf : f ∈ mu) (hs : ds.length ≤ 1000)
    (h : ∀ s', Go [f] s s' → Fnd f mu s'.heap (ds ++ [d]) → Q .none s') : wpAny (model prog w) A (call (.builtin "list.append") [.ref f, v]) Q E s := by
  obtain ⟨vs, p, i⟩ := x
  have e1 := i.length
  refine wpAny_list_append_plain (hsz := by rw [List.size_toArray, sizeLine_eq]; omega) p fun h' hl hsb => h _ (Go.ofH (.of_same hsb (let ⟨_, e⟩ := hl; ⟨_, e⟩))) ⟨vs ++ [v], by simpa using hl, ?_⟩
  exact ImmL.gen (fun b o n e => ⟨hsb.extBut b o (fun q => n (q ▸ hf)) e, n⟩) _ _ (i.snoc ix)
theorem Fnd.meth {f : Addr} {ds : List D} {pl : Sem Bool} {Q : Value × List Value → Shared → Prop} (x : Fnd f mu s.heap ds) (h : Q (.builtin "list.append", [.ref f]) s) : wpAny (model prog w) A (getMethod (.ref f) "append" pl) Q E s :=
  let ⟨_, ⟨_, e⟩, _⟩ := x; getMethod_list_append e rfl rfl h

/-- an empty list, to be filled -/
theorem Cx.newFnd (C : Cx G s₀ own wr mu env m cm R s) {pos : Pos} {Q : Value → Shared → Prop}
    (h : ∀ f s', s.heap.get? f = none → s₀.heap.get? f = none → f ∉ mu → Go [] s s' → Fnd f (f :: mu) s'.heap [] → Cx G s₀ own wr (f :: mu) env m cm R s' → Q (.ref f) s') : wpAny (model prog w) A (eval (.List [] pos) env) Q E s := by
  refine wpAny_List (wpAny_items_nil ⟨Nat.zero_le _, h _ _ (size_none _) ?_ C.al.new (Go.ofH (Kp.push _)) ⟨[], ⟨0, Heap.get?_push_size _ rfl⟩, .nil⟩ ((C.go (Go.ofH (Kp.push _))).muMore ⟨_, Heap.get?_push_size _ rfl⟩)⟩)
  cases e : s₀.heap.get? s.heap.objs.size with
  | none => rfl
  | some o => obtain ⟨o', e'⟩ := C.kp.there ⟨o, e⟩; rw [size_none] at e'; cases e'
/-- the list that is being filled has grown -/
theorem Cx.grown (C : Cx G s₀ own wr mu env m cm R s) {f : Addr} {P : Heap → Prop} (g : Go [f] s s') (hf : s₀.heap.get? f = none) (hl : ∃ x, s.heap.PlainList f x) (hc : ∀ n c, (n, c) ∈ env.cells → c ≠ f) (p : P s'.heap) (stb : ∀ h h', P h → Kp wr h h' → P h') : Cx G s₀ own wr mu env m cm P s' := by
  obtain ⟨x, n, e⟩ := hl
  refine C.goI g hf (fun q => ?_) hc p stb
  obtain ⟨o, es, ep, e', hd, _⟩ := C.ns
  rw [q, e] at e'; cases e'; cases hd

theorem unpackI {ds : List D} {v : Value} {n : Nat} {Q : List Value → Shared → Prop} (hA : A.handled = none) (x : Imm mu s.heap (.tup ds) v) (hn : ds.length = n) (h : ∀ vs s', Go [] s s' → ImmL mu s'.heap ds vs → Q vs s') : wpAny (model prog w) A (unpackItems v n none) Q E s := by
  obtain ⟨t, vs, rfl, _, ht, il, _⟩ := tup_at x
  have e := il.length
  rw [← hn, ← e, ← List.size_toArray]
  refine wpAny_unpackItems_tuple hA ht fun h' he => ?_
  have k : Kp [] s.heap h' := Kp.freshE he (size_none _)
  exact h vs _ (Go.ofH k) (il.kp k fun _ q => nomatch q)

/-- x, y = e1, e2 -/
theorem Cx.setPair {x y : Str} {e₁ e₂ : Expr} {px py tp pos kp : Pos} {k k' : Nat} {Q : Flow → Shared → Prop} (_C : Cx G s₀ own wr mu' env m cm R s) (hA : A.handled = none) (hwr : env.locals ∈ wr)
    (h : wpAny (model prog w) A (eval e₁ env) (fun v₁ s₁ => wpAny (model prog w) A (eval e₂ env) (fun v₂ s₂ => ∃ mu m cm R, Cx G s₀ own wr mu env m cm R s₂ ∧
      ∀ s', Cx G s₀ own wr mu env (fun z => if z = x then some v₁ else if z = y then some v₂ else m z) cm R s' → Q .next s') E s₁) E s)
    (he₁ : starEach [e₁, e₂] env = (false, eval e₁ env) :: starEach [e₂] env := by rfl) (he₂ : starEach [e₂] env = (false, eval e₂ env) :: starEach [] env := by rfl)
    (hs : swapsWithSole [.Tuple [.Name x px, .Name y py] k tp] (.Tuple [e₁, e₂] k' kp) pos.line env = pure false := by rfl) (hw : swappedStores [.Tuple [.Name x px, .Name y py] k tp] (.Tuple [e₁, e₂] k' kp) env = pure (some [x, y]) := by rfl)
    (hx : env.kindOf x = some .local := by rfl) (hy : env.kindOf y = some .local := by rfl) :
    wpAny (model prog w) A (exec (.Assign [.Tuple [.Name x px, .Name y py] k tp] (.Tuple [e₁, e₂] k' kp) pos) env) Q E s := by
  refine Assign_Tuple_swapped (names := [x, y]) (Tuple_ (wpAny_items_cons (wpAny_mono h (fun v₁ s₁ h₁ => wpAny_items_cons (wpAny_mono h₁ (fun v₂ s₂ h₂ => ?_) (fun _ _ z => z)) he₂) (fun _ _ z => z)) he₁)) hs hw
  obtain ⟨mu, m, cm, R, C, hQ⟩ := h₂
  refine wpAny_items_nil (C.newTuple (ds := [.raw v₁, .raw v₂]) (.cons .raw (.cons .raw .nil)) (Nat.le_add_left _ _) fun tv s₃ C₃ => ?_)
  refine unpackI hA C₃.r.2 rfl fun vs s₄ g₄ il => ?_
  obtain ⟨u1, r1, rfl, i1, il⟩ := ImmL.cons_iff.mp il
  obtain ⟨u2, r2, rfl, i2, il⟩ := ImmL.cons_iff.mp il
  rw [ImmL.nil_iff] at il; subst il
  rw [Imm.raw_iff] at i1 i2; subst i1; subst i2
  have C₄ := C₃.go g₄
  show wpAny _ A (assignInOrder [bindName env y, bindName env x] [u2, u1]) _ E s₄
  refine wpAny_assignInOrder_more (wpAny_bindName (C₄.st (fun s₅ C₅ => wpAny_assignInOrder_more (wpAny_bindName (C₅.st (fun s₆ C₆ => wpAny_assignInOrder_none (hQ _ (C₆.know C₆.r.1 C.stb))) hwr hx))) hwr hy))

/-- x.append(e) -/
theorem Cx.appendSt (C : Cx G s₀ own wr mu env m cm R s) {x : Str} {px apos cpos pos : Pos} {e : Expr} {f : Addr} {ds₀ : List D} {Q : Flow → Shared → Prop} (mx : m x = some (.ref f)) (F₀ : Fnd f mu s.heap ds₀) (hf : f ∈ mu)
    (h : wpAny (model prog w) A (eval e env) (fun v s₁ => ∃ ds d, Fnd f mu s₁.heap ds ∧ Imm mu s₁.heap d v ∧ ds.length ≤ 1000 ∧ ∀ s', Go [f] s₁ s' → Fnd f mu s'.heap (ds ++ [d]) → Q .next s') E s)
    (hx : env.kindOf x = some .local := by rfl) (he : starEach [e] env = (false, eval e env) :: starEach [] env := by rfl) (hd : (x == ("__debug__" : Str)) = false := by decide)
    (hc : eval (.Call (.Attribute (.Name x px) "append" apos) [e] [] cpos) env = (do let ov ← eval (.Name x px) env; standAt apos.atName; let (f, first) ← holding [ov] (getMethod ov "append" (do return (← importBound (.Name x px) env).getD true)); callWith cpos f first (backTo cpos (starEach [e] env)) []) := by rfl)
    (hi : interactive env = false := by rfl) (hsw : swapsWith (.Call (.Attribute (.Name x px) "append" apos) [e] [] cpos) none pos.line env = pure false := by rfl) :
    wpAny (model prog w) A (exec (.Expr (.Call (.Attribute (.Name x px) "append" apos) [e] [] cpos) pos) env) Q E s := by
  refine wpAny_Expr_any (MethodCall_ (C.ld mx (F₀.meth (callWith_method1 (wpAny_items_cons (wpAny_mono h (fun v s₁ z => ?_) fun _ _ z => z) he) he)) hx hd) hc) hi hsw
  obtain ⟨ds, d, F₁, im, hl, hQ⟩ := z
  exact wpAny_items_nil (F₁.append im hf hl fun s' g F₂ => hQ s' g F₂)

/-- e[:k] -/
theorem Cx.sliceTo (_C : Cx G s₀ own wr mu env m cm R s) {value upper : Expr} {p pos : Pos} {Q : Value → Shared → Prop}
    (h : wpAny (model prog w) A (eval value env) (fun o s₁ => wpAny (model prog w) A (eval upper env) (fun vu s₂ => ∃ (ds : List D) (k : Nat) (t : Tok) (R : Heap → Prop), Cx G s₀ own wr mu env m cm R s₂ ∧ vu = .int k t ∧ Imm mu s₂.heap (.lst ds) o ∧ ds.length ≤ 1000 ∧
      ∀ u s', Cx G s₀ own wr mu env m cm (fun h => R h ∧ Imm mu h (.lst (ds.take k)) u) s' → Q u s') E s₁) E s)
    (ht : ∀ o r, letTemporaryGo value o r = pure () := by intro _ _; rfl) :
    wpAny (model prog w) A (eval (.Subscript value (.Slice none (some upper) none p) pos) env) Q E s := by
  refine wpAny_Subscript_list_slice (wpAny_mono h (fun o s₁ h₁ => wpAny_pure (wpAny_mono h₁ (fun vu s₂ z => ?_) fun _ _ z => z)) fun _ _ z => z) ht
  obtain ⟨ds, k, t, R, C, rfl, im, hl, hQ⟩ := z
  obtain ⟨l, vs, rfl, _, hls, il, _⟩ := lst_at im
  have el := il.length
  refine ⟨l, vs.toArray, none, some (k : Int), rfl, hls, by rw [List.size_toArray, sizeLine_eq]; omega, .none, .int _ _, ?_⟩
  rw [slicePick_upto', List.toList_toArray]
  have k1 : Kp [] s₂.heap (s₂.heap.push { cls := .type "slice", data := .fields #[.none, .int k t, .none] }) := Kp.push _
  have C1 := C.go (Go.ofH k1)
  have z := C1.go (Go.ofH (Kp.push { cls := .type "list", data := .seq (vs.take k).toArray }))
  have e : (s₂.heap.push { cls := .type "slice", data := .fields #[.none, .int k t, .none] }).objs.size = s₂.heap.objs.size + 1 := Heap.size_push ..
  have im1 := imm_lst C1.al ((il.take (n := k)).kp k1 fun _ q => nomatch q)
  dsimp only at im1
  rw [e] at im1
  exact hQ _ _ (z.imm im1)
end
end Mine
end

-- part Lh
section
open PySem PySem.W PyProof.Rows PySem.Calls
set_option maxRecDepth 100000
set_option linter.unusedVariables false
namespace Mine

/-- what one knows of a class of the text -/
structure ClsOk (K : Frag) (C : Addr) (nms : List Str) : Prop where
  ga : findIn K (.ref C) "__getattribute__" = some (some (.builtin "object.__getattribute__"))
  gt : findIn K (.ref C) "__getattr__" = some none
  sa : findIn K (.ref C) "__setattr__" = some (some (.builtin "object.__setattr__"))
  po : plainOver K C = true
  hd : hasDictIn K C = true
  no : ∀ name ∈ nms, findIn K (.ref C) name = some none

theorem D.noteq : True := trivial

/-- an object, its fields -/
structure Inst (mu : List Addr) (h : Heap) (x C dx : Addr) (nms : List Str) (k : Nat) (m : Str → Option D) : Prop where
  xmu : x ∉ mu
  obj : h.get? x = some (instObj C dx)
  ents : ∃ es n, h.get? dx = some (dictOf es n) ∧ es.length ≤ k ∧ (∀ e ∈ es, ∃ s t, e.key = .str s t ∧ s ∈ nms) ∧ ∀ name d, m name = some d → ∃ v, getL name es = some (some v) ∧ Imm mu h d v ∧ handedIn v = true

theorem isStr_str {a b : Str} {t : Tok} : Value.isStr (.str a t) b = (a == b) := rfl
theorem getL_self (name : Str) (hs : Int) (t : Tok) (v : Value) : ∀ es : List DictEntry, getL name (putL name hs (.str name t) v es) = some (some v)
  | [] => by simp [getL, putL, isStr_str]
  | e :: r => by
    have ih := getL_self name hs t v r
    unfold putL
    cases q : e.key.isStr name with
    | true => simp [getL, q]
    | false =>
      simp only [Bool.false_eq_true, if_false]
      unfold getL at ih ⊢
      rw [List.find?_cons, q]
      cases z : List.find? (fun x => x.key.isStr name) (putL name hs (.str name t) v r) with
      | some y => rw [z] at ih; simpa using ih
      | none =>
        rw [z] at ih
        dsimp only at ih
        split at ih <;> cases ih
theorem isStr_one {v : Value} {a b : Str} (h : v.isStr a = true) (hn : b ≠ a) : v.isStr b = false := by
  cases v <;> simp_all [Value.isStr]
  exact fun e => hn e.symm
theorem getL_other {name b : Str} (hn : b ≠ name) (hs : Int) (t : Tok) (v u : Value) : ∀ es : List DictEntry, getL b es = some (some u) → getL b (putL name hs (.str name t) v es) = some (some u)
  | [], e => by simp [getL] at e
  | e :: r, he => by
    have ih := getL_other hn hs t v u r
    unfold putL
    cases q : e.key.isStr name with
    | true =>
      have qb := isStr_one q hn
      simp only [if_true]
      unfold getL at he ⊢
      rw [List.find?_cons, qb] at he ⊢
      dsimp only at he ⊢
      cases z : List.find? (fun x => x.key.isStr b) r with
      | some y => rw [z] at he; exact he
      | none =>
        rw [z] at he
        dsimp only at he
        split at he <;> cases he
    | false =>
      simp only [Bool.false_eq_true, if_false]
      unfold getL at he ⊢
      cases qb : e.key.isStr b with
      | true => rw [List.find?_cons, qb] at he ⊢; exact he
      | false =>
        rw [List.find?_cons, qb] at he ⊢
        dsimp only at he ⊢
        have hr : getL b r = some (some u) := by
          unfold getL
          cases z : List.find? (fun x => x.key.isStr b) r with
          | some y => rw [z] at he; exact he
          | none =>
            rw [z] at he
            dsimp only at he
            split at he <;> cases he
        have := ih hr
        unfold getL at this
        cases z : List.find? (fun x => x.key.isStr b) (putL name hs (.str name t) v r) with
        | some y => rw [z] at this; exact this
        | none =>
          rw [z] at this
          dsimp only at this
          split at this <;> cases this
theorem putL_length (name : Str) (hs : Int) (key v : Value) : ∀ es : List DictEntry, (putL name hs key v es).length ≤ es.length + 1
  | [] => by simp [putL]
  | e :: r => by
    have := putL_length name hs key v r
    unfold putL
    split <;> simp <;> omega
theorem putL_length_of {name : Str} {hs : Int} {key v u : Value} : ∀ {es : List DictEntry}, getL name es = some (some u) → (putL name hs key v es).length ≤ es.length
  | [], e => by simp [getL] at e
  | e :: r, he => by
    unfold putL
    cases q : e.key.isStr name with
    | true => simp
    | false =>
      have hr : getL name r = some (some u) := by
        unfold getL at he ⊢
        rw [List.find?_cons, q] at he
        dsimp only at he
        cases z : List.find? (fun x => x.key.isStr name) r with
        | some y => rw [z] at he; exact he
        | none =>
          rw [z] at he
          dsimp only at he
          split at he <;> cases he
      have := putL_length_of (hs := hs) (key := key) (v := v) hr
      simp; omega
theorem putL_keys {name : Str} {hs : Int} {t : Tok} {v : Value} {nms : List Str} (hn : name ∈ nms) : ∀ {es : List DictEntry}, (∀ e ∈ es, ∃ s t, e.key = .str s t ∧ s ∈ nms) → ∀ e ∈ putL name hs (.str name t) v es, ∃ s t, e.key = .str s t ∧ s ∈ nms
  | [], _, e, h => by simp [putL] at h; subst h; exact ⟨_, _, rfl, hn⟩
  | a :: r, hk, e, h => by
    unfold putL at h
    split at h
    · rcases List.mem_cons.mp h with rfl | h
      · exact hk a List.mem_cons_self
      · exact hk e (List.mem_cons_of_mem _ h)
    · rcases List.mem_cons.mp h with rfl | h
      · exact hk _ List.mem_cons_self
      · exact putL_keys hn (fun e q => hk e (List.mem_cons_of_mem _ q)) e h
theorem getL_none {name : Str} {nms : List Str} (hn : name ∉ nms) {es : List DictEntry} (hk : ∀ e ∈ es, ∃ s t, e.key = .str s t ∧ s ∈ nms) : getL name es = some none := by
  unfold getL
  have a : es.find? (·.key.isStr name) = none := List.find?_eq_none.mpr fun e he q => by
    obtain ⟨s, t, ek, hs⟩ := hk e he
    rw [ek, isStr_str, beq_iff_eq] at q
    exact hn (q ▸ hs)
  have b : es.any (·.refKey) = false := by
    rw [List.any_eq_false]
    intro e he q
    obtain ⟨s, t, ek, hs⟩ := hk e he
    unfold DictEntry.refKey at q
    rw [ek] at q; cases q
  rw [a, b]; rfl
theorem getL_isSome {name : Str} {nms : List Str} {es : List DictEntry} (hk : ∀ e ∈ es, ∃ s t, e.key = .str s t ∧ s ∈ nms) : (getL name es).isSome = true := by
  unfold getL
  have b : es.any (·.refKey) = false := by
    rw [List.any_eq_false]
    intro e he q
    obtain ⟨s, t, ek, hs⟩ := hk e he
    unfold DictEntry.refKey at q
    rw [ek] at q; cases q
  split
  · rfl
  · rw [b]; rfl

section
variable {prog : Program} {w : World} {K : Frag} {G : Gd w K} {s₀ s s' : Shared} {own wr mu mu' : List Addr} {env : Env} {m cm : Str → Option Value} {R : Heap → Prop} {A : Around} {E : Value → Shared → Prop}
variable {x C dx : Addr} {nms : List Str} {k : Nat} {f : Str → Option D} {h h' : Heap}

theorem Inst.gen (I : Inst mu h x C dx nms k f) (kp : ∀ b o, b ∉ mu → h.get? b = some o → h'.get? b = some o ∧ b ∉ mu') (kd : ∀ o, h.get? dx = some o → h'.get? dx = some o) : Inst mu' h' x C dx nms k f :=
  let ⟨es, n, e, l, ks, fs⟩ := I.ents
  ⟨(kp _ _ I.xmu I.obj).2, (kp _ _ I.xmu I.obj).1, es, n, kd _ e, l, ks, fun a d q => let ⟨v, g, i, hh⟩ := fs a d q; ⟨v, g, Imm.gen kp _ _ i, hh⟩⟩
theorem Inst.kp (I : Inst mu h x C dx nms k f) {W : List Addr} (kp : Kp W h h') (hW : ∀ b ∈ W, b ∈ mu) (hd : dx ∉ W) : Inst mu h' x C dx nms k f :=
  I.gen (fun b o n e => ⟨kp.keep b o (fun q => n (hW b q)) e, n⟩) fun o e => kp.keep _ o hd e
theorem Inst.there (I : Inst mu h x C dx nms k f) : ∃ o, h.get? dx = some o := let ⟨_, _, e, _⟩ := I.ents; ⟨_, e⟩
/-- a def is entered -/
theorem Inst.enter (I : Inst mu h x C dx nms k f) {W : List Addr} (kp : Kp W h h') (fr : ∀ b ∈ W, h.get? b = none) : Inst (W ++ mu) h' x C dx nms k f := by
  refine I.gen (fun b o n e => ⟨kp.keep b o (fun q => by rw [fr b q] at e; cases e) e, fun q => (List.mem_append.mp q).elim (fun q => by rw [fr b q] at e; cases e) n⟩) fun o e => kp.keep _ o (fun q => ?_) e
  rw [fr _ q] at e; cases e
theorem Inst.less (I : Inst mu h x C dx nms k f) (hm : ∀ b ∈ mu', b ∈ mu) : Inst mu' h x C dx nms k f := I.gen (fun b o n e => ⟨e, fun q => n (hm b q)⟩) fun _ e => e
theorem Inst.more (I : Inst mu h x C dx nms k f) {k' : Nat} (l : k ≤ k') : Inst mu h x C dx nms k' f := ⟨I.xmu, I.obj, let ⟨es, n, e, l', r⟩ := I.ents; ⟨es, n, e, Nat.le_trans l' l, r⟩⟩
theorem Inst.at_ (I : Inst mu h x C dx nms k f) : ∃ es n, InstAt h x (instObj C dx) C (some (dictOf es n)) ∧ h.get? dx = some (dictOf es n) ∧ es.length ≤ k ∧ (∀ e ∈ es, ∃ s t, e.key = .str s t ∧ s ∈ nms) ∧ ∀ name d, f name = some d → ∃ v, getL name es = some (some v) ∧ Imm mu h d v ∧ handedIn v = true :=
  let ⟨es, n, e, r⟩ := I.ents; ⟨es, n, ⟨I.obj, rfl, rfl, e⟩, e, r⟩

/-- a field is read -/
theorem Inst.get (I : Inst mu s.heap x C dx nms k f) (ok : ClsOk K C nms) (X : K.In s.heap) {name : Str} {d : D} {ex : Bool} {Q : Value → Shared → Prop} (hf : f name = some d) (h : ∀ v, handedIn v = true → Imm mu s.heap d v → Q v { s with toks := s.toks + 1 }) (hn : name ∈ nms := by decide) :
    wpAny (model prog w) A (getAttr (.ref x) name ex) Q E s := by
  obtain ⟨es, n, IA, e, l, ks, fs⟩ := I.at_
  obtain ⟨v, g, im, hh⟩ := fs _ _ hf
  exact get_value X IA ok.ga (findObj_own ok.hd (ok.no _ hn) rfl (by rw [lookIn_dict]; exact g)) hh (h v hh im)
/-- a method is looked up -/
theorem Inst.meth (I : Inst mu s.heap x C dx nms k f) (ok : ClsOk K C nms) (X : K.In s.heap) {name : Str} {fa : Addr} {pl : Sem Bool} {Q : Value × List Value → Shared → Prop} (hf : findIn K (.ref C) name = some (some (.ref fa))) (ht : typeIn K (.ref fa) = some (.type "function")) (h : Q (.ref fa, [.ref x]) s)
    (hn : name ∉ nms := by decide) : wpAny (model prog w) A (getMethod (.ref x) name pl) Q E s := by
  obtain ⟨es, n, IA, e, l, ks, fs⟩ := I.at_
  exact method_fn X IA ok.ga ok.gt hf ht (by show (lookIn name (dictOf es n)).map (·.isSome) = _; rw [lookIn_dict, getL_none hn ks]; rfl) h
/-- a field is written -/
theorem Inst.put (I : Inst mu s.heap x C dx nms k f) (ok : ClsOk K C nms) (X : K.In s.heap) (hdx : dx ∈ mu) {name : Str} {d : D} {v : Value} {Q : Unit → Shared → Prop} (im : Imm mu s.heap d v) (hv : handedIn v = true) (hk : k < 900)
    (h : ∀ s', Go [dx] s s' → Inst mu s'.heap x C dx nms (if (f name).isSome then k else k + 1) (fun y => if y = name then some d else f y) → Q () s') (hn : name ∈ nms := by decide) :
    wpAny (model prog w) A (setAttr (.ref x) name v) Q E s := by
  obtain ⟨es, n, IA, e, l, ks, fs⟩ := I.at_
  have hl : (lookIn name (dictOf es n)).isSome = true := by rw [lookIn_dict]; exact getL_isSome ks
  have hne : x ≠ dx := fun q => I.xmu (q ▸ hdx)
  have ht : takerIn K C name = some none := by unfold takerIn; rw [ok.no _ hn]; rfl
  refine set_plain X IA ok.sa (osa_open (s := { s with toks := s.toks + 1 }) X IA ok.po ht fun b => ?_)
  obtain ⟨cd, hc, hd'⟩ := any_some ok.hd
  have hz : (putL name (PyData.keyHash w.params name) (.str name (s.toks + 1)) v es).length ≤ k + 1 := Nat.le_trans (putL_length ..) (by omega)
  have e' : (s.heap.update dx (Obj.putName name (PyData.keyHash w.params name) (.str name (s.toks + 1)) v)).get? dx = some (dictOf (putL name (PyData.keyHash w.params name) (.str name (s.toks + 1)) v es) (putN name es n)) := by
    rw [← putName_dict]
    exact Heap.get?_update_self _ e (by rw [putName_dict]; rfl)
  refine wpAny_bind (wpAny_pure (wpAny_bind (wpAny_bind (wpAny_loadPart I.obj (wpAny_bind (looks_clsIn (M := model prog w) X hc _ _ _ _ (fun _ _ e => e) ?_))))))
  rw [hd']
  refine wpAny_pure (a := some dx) (wpAny_bind (wpAny_pure (wpAny_bind ?_)))
  unfold nsSet
  refine wpAny_bind (wpAny_bind (wpAny_askSetting (wpAny_pure (wpAny_bind (wpAny_mkText (wpAny_bind (wpAny_loadPart e ?_)))))))
  have c : (!es.toArray.any (·.key.isStr name) && es.toArray.any (·.refKey)) = false := by
    have b : es.any (·.refKey) = false := by
      rw [List.any_eq_false]
      intro en he q
      obtain ⟨s, t, ek, hs⟩ := ks en he
      unfold DictEntry.refKey at q
      rw [ek] at q; cases q
    simp [b]
  dsimp only
  rw [aRefKeyMayBeTheName_at, c]
  refine wpAny_updatePart e ?_
  refine wpAny_bind (wpAny_lookBehind e' (pastItsLine_dict (by rw [List.size_toArray, sizeLine_eq]; omega)) ?_)
  have kp : Kp [dx] s.heap (s.heap.update dx (Obj.putName name (PyData.keyHash w.params name) (.str name (s.toks + 1)) v)) :=
    ⟨fun b o q z => (Heap.get?_update_ne _ _ _ _ fun u => q (List.mem_singleton.mpr u)).trans z, fun b q _ _ => by rw [List.mem_singleton.mp q]; exact ⟨_, e'⟩⟩
  refine wpAny_pure (h _ (Go.of kp) ⟨I.xmu, kp.keep _ _ (fun q => hne (List.mem_singleton.mp q)) I.obj, _, _, e', ?_, putL_keys hn ks, fun a da q => ?_⟩)
  · split
    · rename_i z
      obtain ⟨d0, hd0⟩ := Option.isSome_iff_exists.mp z
      obtain ⟨v0, g0, -⟩ := fs _ _ hd0
      exact Nat.le_trans (putL_length_of g0) l
    · exact hz
  · have ik : ∀ {d' : D} {v' : Value}, Imm mu s.heap d' v' → Imm mu (s.heap.update dx (Obj.putName name (PyData.keyHash w.params name) (.str name (s.toks + 1)) v)) d' v' := fun i => i.kp kp fun b q => by rw [List.mem_singleton.mp q]; exact hdx
    by_cases z : a = name
    · subst z
      simp only [if_true] at q; cases q
      exact ⟨v, getL_self .., ik im, hv⟩
    · rw [if_neg z] at q
      obtain ⟨u, g, i, hh⟩ := fs _ _ q
      exact ⟨u, getL_other z _ _ _ _ _ g, ik i, hh⟩

/-- what keeps while only what may turn turns -/
def Std (mu : List Addr) (P : Heap → Prop) : Prop := ∀ h h', (∀ b o, b ∉ mu → h.get? b = some o → h'.get? b = some o) → P h → P h'
theorem Std.imm {d : D} {v : Value} : Std mu fun h => Imm mu h d v := fun h h' k x => Imm.gen (fun b o n e => ⟨k b o n e, n⟩) _ _ x
theorem Std.and {P P' : Heap → Prop} (a : Std mu P) (b : Std mu P') : Std mu fun h => P h ∧ P' h := fun h h' k x => ⟨a h h' k x.1, b h h' k x.2⟩
theorem Std.true : Std mu fun _ => True := fun _ _ _ x => x

/-- a def that turns its own object -/
structure Slf (K : Frag) (s₀ : Shared) (own wr mu : List Addr) (env : Env) (C dx : Addr) (nms : List Str) : Prop where
  ok : ClsOk K C nms
  hL : env.locals ∈ wr
  hc : ∀ n c, (n, c) ∈ env.cells → c ∈ wr
  ho : dx ∈ own
  he : ∃ o, s₀.heap.get? dx = some o
theorem Cx.offW (C : Cx G s₀ own wr mu env m cm R s) {b : Addr} (he : ∃ o, s₀.heap.get? b = some o) : b ∉ wr := fun q => by obtain ⟨o, e⟩ := he; rw [C.wrNew b q] at e; cases e
theorem Cx.turnW (C : Cx G s₀ own wr mu env m cm R s) {W : List Addr} {P : Heap → Prop} (g : Go W s s') (hL : env.locals ∈ wr) (hc : ∀ n c, (n, c) ∈ env.cells → c ∈ wr) (ho : ∀ b ∈ W, b ∈ own) (he : ∀ b ∈ W, ∃ o, s₀.heap.get? b = some o) (p : P s'.heap) (stb : ∀ h h', P h → Kp wr h h' → P h') :
    Cx G s₀ own wr mu env m cm P s' :=
  C.turn g ho (fun q => C.offW (he _ q) hL) (fun n c e q => C.offW (he _ q) (hc n c e)) p stb
/-- so it stands at another state, too -/
abbrev Cx.At (_ : Cx G s₀ own wr mu env m cm R s) (s' : Shared) : Prop := Cx G s₀ own wr mu env m cm R s'
theorem Cx.getA {CC : Addr} (C : Cx G s₀ own wr mu env m cm R s) (ok : ClsOk K CC nms) (I : Inst mu s.heap x CC dx nms k f) {name : Str} {d : D} {ex : Bool} {Q : Value → Shared → Prop} (hf : f name = some d)
    (h : ∀ v s', handedIn v = true → Imm mu s'.heap d v → Cx G s₀ own wr mu env m cm R s' → Q v s') (hn : name ∈ nms := by decide) : wpAny (model prog w) A (getAttr (.ref x) name ex) Q E s :=
  I.get ok C.X hf (fun v hv im => h v _ hv im (C.tok _)) hn
theorem Cx.putA {CC : Addr} (C : Cx G s₀ own wr mu env m cm R s) (S : Slf K s₀ own wr mu env CC dx nms) (I : Inst mu s.heap x CC dx nms k f) {P : Heap → Prop} (p : P s.heap) (hP : Std mu P) {name : Str} {d : D} {v : Value} {Q : Unit → Shared → Prop}
    (im : Imm mu s.heap d v) (hv : handedIn v = true) (hk : k < 900)
    (h : ∀ s', Cx G s₀ own wr mu env m cm (fun h => Inst mu h x CC dx nms (if (f name).isSome then k else k + 1) (fun y => if y = name then some d else f y) ∧ P h) s' → Q () s') (hn : name ∈ nms := by decide) :
    wpAny (model prog w) A (setAttr (.ref x) name v) Q E s := by
  have hdm := C.ownmu _ S.ho
  refine I.put S.ok C.X hdm im hv hk (fun s' g I' => h s' (C.turnW g S.hL S.hc (fun b q => by rw [List.mem_singleton.mp q]; exact S.ho) (fun b q => by rw [List.mem_singleton.mp q]; exact S.he) ⟨I', ?_⟩ ?_)) hn
  · exact hP _ _ (fun b o n e => g.kp.keep b o (fun q => n (List.mem_singleton.mp q ▸ hdm)) e) p
  · exact fun h h' z kp => ⟨z.1.kp kp C.wrmu (C.offW S.he), hP _ _ (fun b o n e => kp.keep b o (fun q => n (C.wrmu b q)) e) z.2⟩
end
end Mine
end

-- part Li
section
open PySem PySem.W PyProof.Rows PySem.Calls
set_option maxRecDepth 100000
set_option linter.unusedVariables false
namespace Mine

section
variable {prog : Program} {w : World} {K : Frag} {G : Gd w K} {s₀ s s' : Shared} {own wr mu mu' : List Addr} {env : Env} {m cm : Str → Option Value} {R : Heap → Prop} {A : Around} {E : Value → Shared → Prop}
variable {sx : Addr} {ns : List Int} {h h' : Heap}

/-- a dict of packets, by number -/
structure SentAt (prog : Program) (w : World) (mu : List Addr) (h : Heap) (sx : Addr) (ns : List Int) : Prop where
  lo : (sx == sysModules) = false
  at_ : ∃ kvs : List (Int × Value), h.DictOf (intKind prog w) sx kvs ∧ kvs.map (·.1) = ns ∧ ∀ p ∈ kvs, Imm mu h (.pkt p.1) p.2

theorem SentAt.gen (I : SentAt prog w mu h sx ns) (kp : ∀ b o, b ∉ mu → h.get? b = some o → h'.get? b = some o ∧ b ∉ mu') (kd : ∀ o, h.get? sx = some o → h'.get? sx = some o) : SentAt prog w mu' h' sx ns :=
  ⟨I.lo, let ⟨kvs, d, e, i⟩ := I.at_; ⟨kvs, d.at kd, e, fun p q => Imm.gen kp _ _ (i p q)⟩⟩
theorem SentAt.kp (I : SentAt prog w mu h sx ns) {W : List Addr} (kp : Kp W h h') (hW : ∀ b ∈ W, b ∈ mu) (hd : sx ∉ W) : SentAt prog w mu h' sx ns :=
  I.gen (fun b o n e => ⟨kp.keep b o (fun q => n (hW b q)) e, n⟩) fun o e => kp.keep _ o hd e
theorem SentAt.enter (I : SentAt prog w mu h sx ns) {W : List Addr} (kp : Kp W h h') (fr : ∀ b ∈ W, h.get? b = none) : SentAt prog w (W ++ mu) h' sx ns := by
  refine I.gen (fun b o n e => ⟨kp.keep b o (fun q => by rw [fr b q] at e; cases e) e, fun q => (List.mem_append.mp q).elim (fun q => by rw [fr b q] at e; cases e) n⟩) fun o e => kp.keep _ o (fun q => ?_) e
  rw [fr _ q] at e; cases e
theorem SentAt.less (I : SentAt prog w mu h sx ns) (hm : ∀ b ∈ mu', b ∈ mu) : SentAt prog w mu' h sx ns := I.gen (fun b o n e => ⟨e, fun q => n (hm b q)⟩) fun _ e => e
theorem SentAt.there (I : SentAt prog w mu h sx ns) : ∃ o, h.get? sx = some o := let ⟨_, ⟨o, _, _, e, _⟩, _⟩ := I.at_; ⟨o, e⟩

theorem isInt_self {n : Int} {t : Tok} : (intKind prog w).is n (.int n t) = true := by show Value.isInt n (.int n t) = true; simp [Value.isInt]

theorem valueAt_some {kvs : List (Int × Value)} {n : Int} : (valueAt kvs n).isSome = (kvs.map (·.1)).contains n := by
  unfold valueAt
  induction kvs with
  | nil => rfl
  | cons p r ih =>
    rw [List.find?_cons, List.map_cons, List.contains_cons]
    by_cases q : p.1 = n
    · simp [q]
    · have q' : (n == p.1) = false := by simp; exact fun e => q e.symm
      simp only [q, decide_false, q', Bool.false_or]
      exact ih
theorem SentAt.isIn (I : SentAt prog w mu s.heap sx ns) {n : Int} {t : Tok} {Q : Value → Shared → Prop} (h : ∀ s', Go [] s s' → Q (.bool (ns.contains n)) s') : wpAny (model prog w) A (compareOp .In (.int n t) (.ref sx)) Q E s := by
  obtain ⟨kvs, d, e, -⟩ := I.at_
  refine wpAny_in_of (knd := intKind prog w) (k := n) isInt_self I.lo d.mapOf ?_
  rw [valueAt_some, e]
  exact h _ Go.ofT
theorem SentAt.len (I : SentAt prog w mu s.heap sx ns) (hn : ns.length ≤ 1000) {Q : Value → Shared → Prop} (h : ∀ t s', Go [] s s' → Q (.int ns.length t) s') : wpAny (model prog w) A (call (.builtin "len") [.ref sx]) Q E s := by
  obtain ⟨kvs, d, e, -⟩ := I.at_
  have el : kvs.length = ns.length := by rw [← e, List.length_map]
  refine call_len_dict I.lo d (by rw [el]; omega) ?_
  rw [el]
  exact h _ _ Go.ofT
theorem items_ints {kvs : List (Int × Value)} {ns : List Int} (e : kvs.map (·.1) = ns) {acc : List Value} (hl : acc.length = kvs.length) (hp : ∀ (j : Nat) (v : Value), acc[j]? = some v → ∃ k x, kvs[j]? = some (k, x) ∧ (intKind prog w).is k v = true) : IntsAre acc ns := by
  subst e
  induction kvs generalizing acc with
  | nil => cases acc with
    | nil => exact .nil
    | cons a r => cases hl
  | cons p r ih => cases acc with
    | nil => cases hl
    | cons a ac =>
      obtain ⟨k, x, e1, e2⟩ := hp 0 a rfl
      simp at e1; subst e1
      obtain ⟨t, rfl⟩ := Value.isInt_shape e2
      exact .cons _ _ (ih (by simpa using hl) fun j v hj => by simpa using hp (j + 1) v (by simpa using hj))
theorem SentAt.list (I : SentAt prog w mu s.heap sx ns) (al : Al mu s.heap) (hA : A.handled = none) (hn : ns.length ≤ 1000) {Q : Value → Shared → Prop} (h : ∀ u s', Go [] s s' → Imm mu s'.heap (.lst (intD ns)) u → Q u s') : wpAny (model prog w) A (call (.type "list") [.ref sx]) Q E s := by
  obtain ⟨kvs, d, e, -⟩ := I.at_
  have el : kvs.length = ns.length := by rw [← e, List.length_map]
  obtain ⟨ep, hat⟩ := d.dictAt
  refine kdl_call (kdl_dict (knd := intKind prog w) (kvs := kvs) (ep := ep) I.lo) hA hat (by rw [el, sizeLine_eq]; omega) fun h' tk acc c hk hS hacc => ?_
  refine h _ _ (Go.of (.nil hk)) (Imm.lst_iff.mpr ⟨_, c, acc.toList, rfl, al.new, by simpa using hS, ImmL.ints_of ?_⟩)
  exact items_ints (prog := prog) (w := w) e (by rw [Array.length_toList]; exact hacc.1) fun j v q => hacc.2 j v (by rw [← Array.getElem?_toList]; exact q)
theorem SentAt.sorted (I : SentAt prog w mu s.heap sx ns) (al : Al mu s.heap) (hA : A.handled = none) (hn : ns.length < 64) {Q : Value → Shared → Prop}
    (h : ∀ u ns' s', Go [] s s' → Imm mu s'.heap (.lst (intD ns')) u → ns'.Perm ns → ns'.Pairwise (· ≤ ·) → Q u s') : wpAny (model prog w) A (call (.builtin "sorted") [.ref sx]) Q E s := by
  obtain ⟨kvs, d, e, -⟩ := I.at_
  have el : kvs.length = ns.length := by rw [← e, List.length_map]
  obtain ⟨ep, hat⟩ := d.dictAt
  refine call_function_entry kind_sorted plain_sorted entry_sorted (args_sorted1 _) ?_
  unfold Builtin.«sorted»
  refine wpAny_bind (m := checkCount "sorted" 1 1 _) (wpAny_pure ?_)
  refine wpAny_bind (kdu_collect (A := A.in1) (kdl_dict (knd := intKind prog w) (kvs := kvs) (ep := ep) I.lo) hA hat (by rw [el, sizeLine_eq]; omega) fun h' tk acc hk hacc => ?_)
  have hl : acc.toList.length = ns.length := by rw [Array.length_toList, hacc.1, el]
  have hI : IntsAre acc.toList ns := items_ints (prog := prog) (w := w) e (by rw [hl, el]) fun j v q => hacc.2 j v (by rw [← Array.getElem?_toList]; exact q)
  refine wpAny_bind (wpAny_newList ?_ (by rw [hl, sizeLine_eq]; omega))
  have hoL : (h'.push { cls := .type "list", data := .seq acc.toList.toArray }).get? h'.objs.size = some (seqObj "list" acc.toList.toArray 0) := Heap.get?_push_size _ rfl
  refine wpAny_bind (wpAny_holding (wpAny_call_entry slot_list_sort ⟨_, hoL, rfl⟩ entry_list_sort (list_sort_tree hoL hI (by rw [hl]; exact hn) fun out ns' a1 a2 a3 => ⟨_, rfl, ?_⟩) (args_list_sort _)))
  obtain ⟨c, hc⟩ := sortedHeap_at (vs := acc.toList) (out := out) hoL
  refine wpAny_pure ⟨_, rfl, h _ ns' _ (Go.of (.nil fun b o q => ?_)) (Imm.lst_iff.mpr ⟨_, c, out.toList, rfl, ?_, by simpa using hc, ImmL.ints_of a1⟩) a2 a3⟩
  · have lt := Heap.lt_size (hk b o q)
    rw [sortedHeap_old (Nat.ne_of_lt lt) (by rw [Heap.size_push]; exact Nat.lt_succ_of_lt lt)]
    exact Heap.get?_push_of_some _ (hk b o q)
  · exact al.notin (by
      cases q : s.heap.get? h'.objs.size with
      | none => rfl
      | some o => have z := hk _ _ q; rw [size_none] at z; cases z)
/-- the least -/
theorem SentAt.min (I : SentAt prog w mu s.heap sx ns) (hA : A.handled = none) (hn : ns ≠ []) {Q : Value → Shared → Prop} (h : ∀ n t s', n ∈ ns → Go [] s s' → Q (.int n t) s') : wpAny (model prog w) A (call (.builtin "min") [.ref sx]) Q E s := by
  obtain ⟨kvs, d, e, -⟩ := I.at_
  have el : kvs.length = ns.length := by rw [← e, List.length_map]
  have hpos : 0 < kvs.length := by rw [el]; exact List.length_pos_iff.mpr hn
  obtain ⟨ep, hat⟩ := d.dictAt
  have hlt := hat.lt_size
  refine call_min_walk (wpAny_pyIter_dict I.lo hat ?_)
  refine ⟨_, _, _, kvs.length, _, _, _, rfl, Walks.dictKeys (A := A.in1) hA _ sx (Nat.ne_of_lt hlt) kvs ep, ⟨⟨_, Heap.get?_push_size _ rfl, rfl, rfl⟩, hat.push _⟩, fun c hc => ?_, hpos, CmpOf.ints_lt (fun i => (ns[i]?).getD 0) (fun i v hv => ?_), fun v h' tk hP hk => ?_⟩
  · rcases List.mem_cons.mp hc with rfl | hc
    · rw [Heap.size_push]; exact Nat.lt_succ_self _
    · rw [List.mem_singleton.mp hc, Heap.size_push]; exact Nat.lt_succ_of_lt hlt
  · obtain ⟨k, x, e1, e2⟩ := hv
    obtain ⟨t, rfl⟩ := Value.isInt_shape e2
    exact ⟨t, by rw [← e, List.getElem?_map, e1]; rfl⟩
  · obtain ⟨k, x, e1, e2⟩ := hP
    obtain ⟨t, rfl⟩ := Value.isInt_shape e2
    refine h k t _ ?_ (Go.of (.nil (LSm.kept_iter hk)))
    rw [← e]; exact List.mem_map.mpr ⟨(k, x), List.mem_of_getElem? e1, rfl⟩

/-- a number more -/
theorem SentAt.put (I : SentAt prog w mu s.heap sx ns) (hsx : sx ∈ mu) {n : Int} {t : Tok} {v : Value} (hn : n ∉ ns) (hl : ns.length ≤ 900) (im : Imm mu s.heap (.pkt n) v) {Q : Unit → Shared → Prop} (h : ∀ s', Go [sx] s s' → SentAt prog w mu s'.heap sx (ns ++ [n]) → Q () s') :
    wpAny (model prog w) A (setItem (.ref sx) (.int n t) v) Q E s := by
  obtain ⟨kvs, d, e, im'⟩ := I.at_
  have el : kvs.length = ns.length := by rw [← e, List.length_map]
  refine wpAny_setItem_pairs (knd := intKind prog w) (k := n) isInt_self d (fun h' d' sb => ?_) (by rw [el, sizeLine_eq]; omega)
  have k : Kp [sx] s.heap h' := .of_same sb (let ⟨o, _, _, e, _⟩ := d'; ⟨o, e⟩)
  have e2 : stored kvs n v = kvs ++ [(n, v)] := by
    unfold stored
    rw [if_neg]
    intro q
    obtain ⟨p, hp, q⟩ := List.any_eq_true.mp q
    exact hn (e ▸ List.mem_map.mpr ⟨p, hp, by simpa using q⟩)
  rw [e2] at d'
  refine h _ (Go.of k) ⟨I.lo, _, d', by rw [List.map_append, e]; rfl, fun p hp => ?_⟩
  have ks : ∀ {d : D} {v : Value}, Imm mu s.heap d v → Imm mu h' d v := fun i => i.kp k fun b q => by rw [List.mem_singleton.mp q]; exact hsx
  rcases List.mem_append.mp hp with hp | hp
  · exact ks (im' p hp)
  · rw [List.mem_singleton.mp hp]; exact ks im
theorem without_eq (kvs : List (Int × Value)) (n : Int) : (without kvs n).map (·.1) = (kvs.map (·.1)).filter (fun x => !decide (x = n)) := by
  unfold without
  induction kvs with
  | nil => rfl
  | cons p r ih =>
    by_cases q : p.1 = n <;> simp_all
/-- a number is taken out -/
theorem SentAt.pop (I : SentAt prog w mu s.heap sx ns) (hsx : sx ∈ mu) {n : Int} {t : Tok} (hn : n ∈ ns) (hl : ns.length ≤ 900) {Q : Value → Shared → Prop} (h : ∀ v s', Go [sx] s s' → Imm mu s'.heap (.pkt n) v → SentAt prog w mu s'.heap sx (ns.filter fun x => !decide (x = n)) → Q v s') :
    wpAny (model prog w) A (call (.builtin "dict.pop") [.ref sx, .int n t]) Q E s := by
  obtain ⟨kvs, d, e, im'⟩ := I.at_
  have el : kvs.length = ns.length := by rw [← e, List.length_map]
  have hv : (valueAt kvs n).isSome = true := by rw [valueAt_some, e]; simpa using hn
  obtain ⟨v, hv⟩ := Option.isSome_iff_exists.mp hv
  refine call_meetsIn PySem.F.slot_dict_pop d.typeIs PySem.F.entry_dict_pop (PySem.F.args_dict_pop_2 _ _) (meets_dict_pop_there (intKind prog w) sx isInt_self [] (.inl rfl) rfl) ⟨kvs, v, d, by rw [el, sizeLine_eq]; omega, hv, fun h' d' sb => ?_⟩
  have k : Kp [sx] s.heap h' := .of_same sb (let ⟨o, _, _, e, _⟩ := d'; ⟨o, e⟩)
  have ks : ∀ {d : D} {v : Value}, Imm mu s.heap d v → Imm mu h' d v := fun i => i.kp k fun b q => by rw [List.mem_singleton.mp q]; exact hsx
  refine h v _ (Go.of k) (ks ?_) ⟨I.lo, _, d', by rw [without_eq, e], fun p hp => ks (im' p ?_)⟩
  · unfold valueAt at hv
    obtain ⟨p, hp, rfl⟩ := Option.map_eq_some_iff.mp hv
    have := List.find?_some hp
    simp only [decide_eq_true_eq] at this
    exact this ▸ im' p (List.mem_of_find?_eq_some hp)
  · unfold without at hp
    exact (List.mem_filter.mp hp).1
theorem SentAt.meth (I : SentAt prog w mu s.heap sx ns) {pl : Sem Bool} {Q : Value × List Value → Shared → Prop} (h : Q (.builtin "dict.pop", [.ref sx]) s) : wpAny (model prog w) A (getMethod (.ref sx) "pop" pl) Q E s := by
  obtain ⟨kvs, d, -⟩ := I.at_
  exact getMethod_builtin d.typeIs PySem.F.plainAttrs_dict PySem.F.slot_dict_pop PySem.F.type_dict_pop d.mapOf.noDict h
end
end Mine
end

-- part Lj
section
open PySem PySem.W PyProof.Rows PySem.Calls
set_option maxRecDepth 100000
set_option linter.unusedVariables false
namespace Mine

section
variable {prog : Program} {w : World} {K : Frag} {G : Gd w K} {s₀ s₁ s₂ s : Shared} {own wr mu W0 V : List Addr} {env : Env} {m cm : Str → Option Value} {R : Heap → Prop} {A : Around} {E : Value → Shared → Prop}

/-- a comprehension whose elements turn something (`W0`), what is known after i turns (`J`) -/
structure CompPkM (prog : Program) (A : Around) (G : Gd w K) (s₁ : Shared) (mu W0 V : List Addr) (env : Env) (cm : Str → Option Value) (J : List Addr → Nat → Heap → Prop) (scope : Scope) (cl : List (Str × Addr)) (target elt : Expr) (ifs : List Expr) (ds : List D)
    (TB : List Addr → Heap → D → (Str → Option Value) → Prop) (p : D → Bool) (f : D → D) : Prop where
  tbstb : ∀ mu' h h' d mC, TB mu' h d mC → (∀ b o, b ∉ mu' → h.get? b = some o → h'.get? b = some o) → TB mu' h' d mC
  jin : ∀ W h', (∀ b ∈ W, s₁.heap.get? b = none) → (∀ b o, s₁.heap.get? b = some o → h'.get? b = some o) → J (W ++ mu) 0 h'
  jstb : ∀ mu' i h h', J mu' i h → (∀ b o, b ∉ mu' → h.get? b = some o → h'.get? b = some o) → (∀ b ∈ V, ∀ o, h.get? b = some o → h'.get? b = some o) → J mu' i h'
  jless : ∀ mu' i h, (∀ b ∈ mu, b ∈ mu') → J mu' i h → J mu i h
  jskip : ∀ mu' i h d, ds[i]? = some d → p d = false → J mu' i h → J mu' (i + 1) h
  bind : ∀ C mu' mC s d v i (Q' : Unit → Shared → Prop), ds[i]? = some d → C ∈ mu' → Cx G s [] [] mu' (compEnvC scope cl C env) mC cm (J mu' i) s → Imm mu' s.heap d v →
    (∀ s' mC', Go [C] s s' → s'.heap.Ns C mC' → TB mu' s'.heap d mC' → Q' () s') → wpAny (model prog w) A (assign target (compEnvC scope cl C env) v) Q' (fun _ _ => False) s
  test : ∀ C mu' mC s d i, ds[i]? = some d → Cx G s [] [] mu' (compEnvC scope cl C env) mC cm (J mu' i) s → TB mu' s.heap d mC →
    wpAny (model prog w) A (tests ifs (compEnvC scope cl C env)) (fun ok s' => ok = p d ∧ Go [] s s') (fun _ _ => False) s
  elt : ∀ C mu' mC s d i, ds[i]? = some d → p d = true → (∀ b ∈ mu, b ∈ mu') → Cx G s [] [] mu' (compEnvC scope cl C env) mC cm (J mu' i) s → TB mu' s.heap d mC →
    wpAny (model prog w) A (eval elt (compEnvC scope cl C env)) (fun y s' => Go W0 s s' ∧ Imm mu' s'.heap (f d) y ∧ J mu' (i + 1) s'.heap) (fun _ _ => False) s

theorem compCoreM {elt target iter : Expr} {ifs : List Expr} {scope : Scope} {cl : List (Str × Addr)} {pos : Pos} {I : Addr} {fp wri : List Addr} {P : Nat → Value → Prop} {St : Nat → Heap → Prop} {ds : List D}
    {J : List Addr → Nat → Heap → Prop} {TB : List Addr → Heap → D → (Str → Option Value) → Prop} {p : D → Bool} {f : D → D} {RR : Value → Addr → Result → Shared → Prop}
    (C₁ : Cx G s₀ own wr mu env m cm R s₁) (g : Go [] s₁ s₂) (hW0 : ∀ b ∈ W0, ∃ o, s₁.heap.get? b = some o) (hW0m : ∀ b ∈ W0, b ∈ mu) (hW0w : ∀ b ∈ W0, b ∉ wr) (hW0c : ∀ n c, (n, c) ∈ env.cells → c ∉ W0) (hW0o : G.Off W0) (hV1 : ∀ b ∈ V, ∃ o, s₁.heap.get? b = some o) (hVw : ∀ b ∈ V, b ∉ wr)
    (W : Walks prog w A I fp wri ds.length P St) (hst : St 0 s₂.heap) (hfp : ∀ b ∈ fp, b < s₂.heap.objs.size) (hfpW : ∀ b ∈ fp, b ∉ W0) (hwri : ∀ b ∈ wri, s₁.heap.get? b = none) (hal : ∀ i h, St i h → Al wri h)
    (hsz : ds.length ≤ 1000) (hcell : ∀ y ∈ scope.names, y.2 ≠ .cell) (hkind : scope.kind = .function)
    (hsub : ∀ n c, cl.lookup n = some c → env.cells.lookup n = some c) (hap : cl.Pairwise fun x y => x.2 ≠ y.2) (hin : ∀ n c, (n, c) ∈ cl → (n, c) ∈ env.cells)
    (hP : ∀ i v, P i v → ∃ d, ds[i]? = some d ∧ Imm mu s₁.heap d v)
    (pk : CompPkM prog A G s₁ mu W0 V env cm J scope cl target elt ifs ds TB p f)
    (hR : ∀ acc C s', s₁.heap.get? C = none → (∃ mC, s'.heap.Ns C mC) → Go W0 s₁ s' → (∀ h'', (∀ b o, b ∉ C :: wr → s'.heap.get? b = some o → h''.get? b = some o) → J mu ds.length h'' ∧ Imm mu h'' (.lst ((ds.filter p).map f)) acc) → RR acc C (.ok .next) s')
    (ht : ∀ i v (s : Shared) (Q : Unit → Shared → Prop) (E : Value → Shared → Prop), St i s.heap → Q () s → wpAny (model prog w) A (letOwnedTupleGo target (.ref I) v) Q E s) :
    wpAny (model prog w) A (newList []) (fun acc s₃ => wpAny (model prog w) A (newFunctionEnv scope env.globals cl [] env.qual none .none (some env)) (fun cenv s₄ =>
      codeAny (model prog w) A (.compStart (.ListComp elt [⟨target, iter, ifs, 0⟩] scope pos) 0 (.ref I) acc { cenv with scope := relabel scope env }) (RR acc cenv.locals) s₄) E s₃) E s₂ := by
  refine wpAny_newObj_type (hd := by size_fits) (wpAny_newFunctionEnv hcell (by intro y hy; simp at hy) (fun h₁ hns₁ hsb₁ => ?_) hkind)
  dsimp only at hns₁ hsb₁ ⊢
  generalize hD : s₂.heap.objs.size = D at hns₁ hsb₁ ⊢
  generalize hH2 : s₂.heap.push { cls := .type "list", dict := none, data := .seq ([] : List Value).toArray } = H2 at hns₁ hsb₁ ⊢
  have hC : H2.objs.size = D + 1 := by rw [← hH2, Heap.size_push, hD]
  generalize hCC : H2.objs.size = C at hns₁ hsb₁ hC ⊢
  have hDC : D ≠ C := by omega
  have D2 : s₂.heap.get? D = none := hD ▸ size_none _
  have C2 : s₂.heap.get? C = none := ge_none (by omega)
  have D1 : s₁.heap.get? D = none := by
    cases e : s₁.heap.get? D with
    | none => rfl
    | some o => rw [g.kp.all _ _ e] at D2; cases D2
  have C1 : s₁.heap.get? C = none := by
    cases e : s₁.heap.get? C with
    | none => rfl
    | some o => rw [g.kp.all _ _ e] at C2; cases C2
  have ltD : ∀ b : Nat, @LT.lt Nat _ b s₂.heap.objs.size → b ≠ D ∧ b ≠ C := fun b hb => ⟨Nat.ne_of_lt (hD ▸ hb), Nat.ne_of_lt (hC ▸ Nat.lt_succ_of_lt (hD ▸ hb))⟩
  have hDf : D ∉ fp := fun q => (ltD _ (hfp _ q)).1 rfl
  have hCf : C ∉ fp := fun q => (ltD _ (hfp _ q)).2 rfl
  have hDW : D ∉ W0 := fun q => by obtain ⟨o, e⟩ := hW0 _ q; rw [D1] at e; cases e
  have hCW : C ∉ W0 := fun q => by obtain ⟨o, e⟩ := hW0 _ q; rw [C1] at e; cases e
  have hDV : D ∉ V := fun q => by obtain ⟨o, e⟩ := hV1 _ q; rw [D1] at e; cases e
  have hCV : C ∉ V := fun q => by obtain ⟨o, e⟩ := hV1 _ q; rw [C1] at e; cases e
  have hVwri : ∀ b ∈ V, b ∉ wri := fun b q z => by obtain ⟨o, e⟩ := hV1 b q; rw [hwri b z] at e; cases e
  have old : ∀ b o, s₂.heap.get? b = some o → h₁.get? b = some o := fun b o e => hsb₁.extBut b o (ltD b (Heap.lt_size e)).2 (Heap.get?_push_of_some _ (hH2 ▸ Heap.get?_push_of_some _ e))
  have hacc : h₁.PlainList D #[] := ⟨_, hsb₁.extBut _ _ hDC (Heap.get?_push_of_some _ (by rw [← hH2, ← hD]; exact Heap.get?_push_size _ rfl))⟩
  have hst₁ : St 0 h₁ := W.frame _ _ _ hst fun b _ o e => old b o e
  obtain ⟨hh2, tk2, e2⟩ := g.same
  have hrel : ∀ b o, s₁.heap.get? b = some o → h₁.get? b = some o := fun b o e => old b o (g.kp.all b o e)
  have J0 : J (C :: D :: (wri ++ mu)) 0 h₁ := pk.jin (C :: D :: wri) h₁ (fun b q => by
    rcases List.mem_cons.mp q with rfl | q
    · exact C1
    · rcases List.mem_cons.mp q with rfl | q
      · exact D1
      · exact hwri b q) hrel
  generalize hmu : C :: D :: (wri ++ mu) = mu' at J0
  have mC_ : C ∈ mu' := by rw [← hmu]; exact List.mem_cons_self
  have mD_ : D ∈ mu' := by rw [← hmu]; exact List.mem_cons_of_mem _ List.mem_cons_self
  have mw_ : ∀ b ∈ wri, b ∈ mu' := fun b hb => by rw [← hmu]; exact List.mem_cons_of_mem _ (List.mem_cons_of_mem _ (List.mem_append.mpr (.inl hb)))
  have mm_ : ∀ b ∈ mu, b ∈ mu' := fun b hb => by rw [← hmu]; exact List.mem_cons_of_mem _ (List.mem_cons_of_mem _ (List.mem_append.mpr (.inr hb)))
  have mW_ : ∀ b ∈ W0, b ∈ mu' := fun b hb => mm_ b (hW0m b hb)
  have news : ∀ b o, s₁.heap.get? b = some o → b ≠ C ∧ b ≠ D ∧ b ∉ wri := fun b o e => ⟨fun q => (by rw [q, C1] at e; cases e), fun q => (by rw [q, D1] at e; cases e), fun q => (by rw [hwri b q] at e; cases e)⟩
  have enterI : ∀ {h : Heap} {d : Mine.D} {v : Value}, (∀ b o, b ∉ W0 → s₁.heap.get? b = some o → h.get? b = some o) → Imm mu s₁.heap d v → Imm mu' h d v := fun k x => Imm.gen (fun b o n e => ⟨k b o (fun q => n (hW0m b q)) e, fun q => by
    rw [← hmu] at q
    obtain ⟨a1, a2, a3⟩ := news b o e
    rcases List.mem_cons.mp q with q | q
    · exact a1 q
    · rcases List.mem_cons.mp q with q | q
      · exact a2 q
      · exact (List.mem_append.mp q).elim a3 n⟩) _ _ x
  have mkIn : ∀ (mC : Str → Option Value) (s : Shared) (i : Nat), (∃ h tk, s = { s₁ with heap := h, toks := tk }) → (∀ b o, b ∉ W0 → s₁.heap.get? b = some o → s.heap.get? b = some o) → s.heap.Ns C mC → Al mu' s.heap → J mu' i s.heap →
      Cx G s [] [] mu' (compEnvC scope cl C env) mC cm (J mu' i) s := fun mC s i hs hk hn ha hj =>
    { ok := ⟨hkind, C₁.ok.gl, C₁.ok.bl⟩, on0 := fun b o e => hk b o (fun q => by rw [hW0o b q] at e; cases e) (C₁.on b o e), ownOff := .nil, wrNew := fun _ q => (nomatch q), wrmu := fun _ q => (nomatch q), ownmu := fun _ q => (nomatch q)
      same := ⟨_, _, rfl⟩, kp := Kp.rfl', ns := hn
      cells := fun n c e => let ⟨o, ho, hd⟩ := C₁.cells n c (hsub n c e); ⟨o, hk c o (hW0c n c (hin n c (mem_of_lookup e))) ho, hd⟩
      apart := hap
      cne := fun n c q e => by
        obtain ⟨o, e1⟩ := C₁.al c (C₁.cmu n c (hin n c q))
        rw [← e] at e1
        rw [show (compEnvC scope cl C env).locals = C from rfl, C1] at e1; cases e1
      cmu := fun n c q => mm_ c (C₁.cmu n c (hin n c q))
      al := ha
      r := hj
      stb := fun h h' r k => pk.jstb _ _ _ _ r (fun b o _ e => k.all b o e) fun b _ o e => k.all b o e }
  have loop : ∀ s₃ : Shared, s₃ = { s₂ with heap := h₁, toks := s₂.toks + ([] : List (Str × Value)).length } →
      codeAny (model prog w) A (.compLoop (.ListComp elt [⟨target, iter, ifs, 0⟩] scope pos) 0 (.ref I) (.ref D) (compEnvC scope cl C env)) (RR (.ref D) C) s₃ := by
    rintro s₃ e3
    refine compTurns
      (fun k s' => ∃ (i : Nat) (vs : List Value) (mC : Str → Option Value), k = ds.length + 1 - i ∧ i ≤ ds.length ∧ (∃ h tk, s' = { s₁ with heap := h, toks := tk }) ∧ St i s'.heap ∧ s'.heap.PlainList D vs.toArray ∧
        ImmL mu' s'.heap (((ds.take i).filter p).map f) vs ∧ s'.heap.Ns C mC ∧ (∀ b o, b ∉ W0 → s₁.heap.get? b = some o → s'.heap.get? b = some o) ∧ Al W0 s'.heap ∧ J mu' i s'.heap) ?_ (ds.length + 1)
      ⟨0, [], _, rfl, Nat.zero_le _, ⟨h₁, s₂.toks + 0, by rw [e3, e2]; rfl⟩, by rw [e3]; exact hst₁, by rw [e3]; exact hacc, by simpa using ImmL.nil, by rw [e3]; exact hns₁, by rw [e3]; exact fun b o _ e => hrel b o e,
        by rw [e3]; exact fun b q => let ⟨o, e⟩ := hW0 b q; ⟨o, hrel b o e⟩, by rw [e3]; exact J0⟩
    rintro k s' ⟨i, vs, mC, rfl, hi, hs, hst', hpl, him, hn, hk, hw0, hj⟩
    have alive : ∀ h : Heap, (∀ b o, b ∉ W0 → s₁.heap.get? b = some o → h.get? b = some o) → Al W0 h → St i h ∨ St (i + 1) h → (∃ o, h.get? D = some o) → (∃ o, h.get? C = some o) → Al mu' h := fun h hk h0 hS hd hc => by
      rw [← hmu]
      exact Al.cons hc (Al.cons hd (Al.append (hS.elim (hal _ _) (hal _ _)) fun b hb => by
        by_cases q : b ∈ W0
        · exact h0 b q
        · exact let ⟨o, e⟩ := C₁.al b hb; ⟨o, hk _ _ q e⟩))
    have hCw : C ∉ wri := fun q => hCf (W.sub _ q)
    have hDw : D ∉ wri := fun q => hDf (W.sub _ q)
    have hWw : ∀ b ∈ W0, b ∉ wri := fun b q z => by obtain ⟨o, e⟩ := hW0 b q; rw [hwri b z] at e; cases e
    by_cases hlt : i < ds.length
    · refine W.item i _ _ _ hlt hst' fun v h2 tk2 hPv hst2 hk2 => ?_
      obtain ⟨d, hd, im⟩ := hP i v hPv
      have tk1 : (ds.take (i + 1)) = ds.take i ++ [d] := by rw [List.take_add_one, hd]; rfl
      have hk2' : ∀ b o, b ∉ W0 → s₁.heap.get? b = some o → h2.get? b = some o := fun b o n e => hk2 b o (news b o e).2.2 (hk b o n e)
      have hn2 : h2.Ns C mC := hn.at' fun o e => hk2 _ o hCw e
      have hpl2 : h2.PlainList D vs.toArray := hpl.at fun o e => hk2 _ o hDw e
      have him2 := ImmL.gen (mu' := mu') (h' := h2) (fun b o n e => ⟨hk2 b o (fun q => n (mw_ b q)) e, n⟩) _ _ him
      have h02 : Al W0 h2 := fun b q => let ⟨o, e⟩ := hw0 b q; ⟨o, hk2 _ _ (hWw b q) e⟩
      have al2 : Al mu' h2 := alive h2 hk2' h02 (.inr hst2) (let ⟨_, e⟩ := hpl2; ⟨_, e⟩) (let ⟨o, _, _, e, _⟩ := hn2; ⟨o, e⟩)
      have hs2 : SameS s₁ { s' with heap := h2, toks := tk2 } := SameS.trans hs ⟨h2, tk2, rfl⟩
      have hj2 : J mu' i h2 := pk.jstb _ _ _ _ hj (fun b o n e => hk2 b o (fun q => n (mw_ b q)) e) fun b q o e => hk2 b o (hVwri b q) e
      refine ht (i + 1) v _ _ _ hst2 ?_
      refine wpAny_mono (pk.bind C mu' mC _ d v i (fun _ s3 => ∃ mC3, Go [C] _ s3 ∧ s3.heap.Ns C mC3 ∧ TB mu' s3.heap d mC3) hd mC_ (mkIn mC _ i hs2 hk2' hn2 al2 hj2) (enterI hk2' im) (fun s3 mC3 a b c => ⟨mC3, a, b, c⟩)) (fun _ s3 z => ?_) (fun _ _ z => z.elim)
      obtain ⟨mC3, g3, hn3, tb3⟩ := z
      have nC : ∀ b : Addr, b ≠ C → b ∉ [C] := fun b n q => n (List.mem_singleton.mp q)
      have hk3 : ∀ b o, b ∉ W0 → s₁.heap.get? b = some o → s3.heap.get? b = some o := fun b o n e => g3.kp.keep b o (nC b (news b o e).1) (hk2' b o n e)
      have hst3 : St (i + 1) s3.heap := W.frame _ _ _ hst2 fun b hb o e => g3.kp.keep b o (nC b fun q => hCf (q ▸ hb)) e
      have hpl3 : s3.heap.PlainList D vs.toArray := hpl2.at fun o e => g3.kp.keep _ o (nC _ hDC) e
      have him3 := ImmL.gen (mu' := mu') (h' := s3.heap) (fun b o n e => ⟨g3.kp.keep b o (nC b fun q => n (q ▸ mC_)) e, n⟩) _ _ him2
      have al3 : Al mu' s3.heap := al2.kp g3.kp
      have h03 : Al W0 s3.heap := h02.kp g3.kp
      have hs3 : SameS s₁ s3 := SameS.trans hs2 g3.same
      have hj3 : J mu' i s3.heap := pk.jstb _ _ _ _ hj2 (fun b o n e => g3.kp.keep b o (nC b fun q => n (q ▸ mC_)) e) fun b q o e => g3.kp.keep b o (nC b fun z => hCV (z ▸ q)) e
      refine wpAny_mono (pk.test C mu' mC3 s3 d i hd (mkIn mC3 s3 i hs3 hk3 hn3 al3 hj3) tb3) (fun ok s4 z => ?_) (fun _ _ z => z.elim)
      obtain ⟨rfl, g4⟩ := z
      have hk4 : ∀ b o, b ∉ W0 → s₁.heap.get? b = some o → s4.heap.get? b = some o := fun b o n e => g4.kp.all b o (hk3 b o n e)
      have hst4 : St (i + 1) s4.heap := W.frame _ _ _ hst3 fun b _ o e => g4.kp.all b o e
      have hpl4 : s4.heap.PlainList D vs.toArray := hpl3.at fun o e => g4.kp.all _ o e
      have him4 := ImmL.gen (mu' := mu') (h' := s4.heap) (fun b o n e => ⟨g4.kp.all b o e, n⟩) _ _ him3
      have hs4 : SameS s₁ s4 := SameS.trans hs3 g4.same
      have hn4 := hn3.keeps g4.kp.all
      have h04 : Al W0 s4.heap := h03.kp g4.kp
      have hj4 : J mu' i s4.heap := pk.jstb _ _ _ _ hj3 (fun b o _ e => g4.kp.all b o e) fun b _ o e => g4.kp.all b o e
      cases hp : p d with
      | false =>
        simp only [Bool.false_eq_true, if_false]
        exact ⟨ds.length + 1 - (i + 1), by omega, i + 1, vs, mC3, rfl, hlt, hs4, hst4, hpl4, by rw [tk1, List.filter_append]; simpa [hp] using him4, hn4, hk4, h04, pk.jskip _ _ _ _ hd hp hj4⟩
      | true =>
        simp only [if_true]
        refine wpAny_mono (pk.elt C mu' mC3 s4 d i hd hp mm_ (mkIn mC3 s4 i hs4 hk4 hn4 (al3.kp g4.kp) hj4) (pk.tbstb _ _ _ _ _ tb3 fun b o _ e => g4.kp.all b o e)) (fun y s5 z => ?_) (fun _ _ z => z.elim)
        obtain ⟨g5, iy, hj5⟩ := z
        have hlen : vs.toArray.size ≤ sizeLine := by
          have e1 := him.length
          have e2 : ((ds.take i).filter p).length ≤ (ds.take i).length := List.length_filter_le _ _
          rw [List.length_map] at e1
          rw [List.size_toArray, sizeLine_eq, e1]
          have e3 : (ds.take i).length ≤ ds.length := by rw [List.length_take]; exact Nat.min_le_right _ _
          omega
        refine wpAny_list_append_plain (hsz := hlen) (hpl4.at fun o e => g5.kp.keep _ o hDW e) fun h6 hl6 hs6 => ?_
        have k6 : ∀ b o, b ≠ D → s5.heap.get? b = some o → h6.get? b = some o := fun b o n e => hs6.extBut b o n e
        have im6 : ImmL mu' h6 (((ds.take i).filter p).map f ++ [f d]) (vs ++ [y]) := ImmL.gen (mu' := mu') (h' := h6) (fun b o n e => ⟨k6 b o (fun q => n (q ▸ mD_)) e, n⟩) _ _
          (ImmL.snoc (ImmL.gen (mu' := mu') (h' := s5.heap) (fun b o n e => ⟨g5.kp.keep b o (fun q => n (mW_ b q)) e, n⟩) _ _ him4) iy)
        have hn5 : s5.heap.Ns C mC3 := hn4.at' fun o e => g5.kp.keep _ o hCW e
        exact ⟨ds.length + 1 - (i + 1), by omega, i + 1, vs ++ [y], mC3, rfl, hlt, SameS.trans (SameS.trans hs4 g5.same) ⟨h6, s5.toks, rfl⟩,
          W.frame _ _ _ hst4 (fun b hb o e => k6 b o (fun q => hDf (q ▸ hb)) (g5.kp.keep b o (hfpW b hb) e)), by simpa using hl6,
          by rw [tk1, List.filter_append]; simpa [hp] using im6, hn5.sameBut hs6 (Ne.symm hDC), fun b o n e => k6 b o (news b o e).2.1 (g5.kp.keep b o n (hk4 b o n e)),
          fun b q => let ⟨o, e⟩ := (h04.kp g5.kp) b q; ⟨o, k6 b o (fun z => hDW (z ▸ q)) e⟩,
          pk.jstb _ _ _ _ hj5 (fun b o n e => k6 b o (fun q => n (q ▸ mD_)) e) fun b q o e => k6 b o (fun z => hDV (z ▸ q)) e⟩
    · have hin : i = ds.length := by omega
      refine W.done _ _ _ (hin ▸ hst') fun hE tkE hkE => ?_
      have kE : ∀ b o, b ∉ W0 → s₁.heap.get? b = some o → hE.get? b = some o := fun b o n e => hkE b o (news b o e).2.2 (hk b o n e)
      have gE : Go W0 s₁ { s' with heap := hE, toks := tkE } := ⟨SameS.trans hs ⟨hE, tkE, rfl⟩, ⟨fun b o n e => kE b o n e, fun b q o _ => let ⟨o', e⟩ := hw0 b q; ⟨o', hkE _ _ (hWw b q) e⟩⟩⟩
      refine hR (.ref D) C _ C1 ⟨mC, hn.at' fun o e => hkE _ o hCw e⟩ gE fun h'' k'' => ?_
      have nCw : ∀ b : Addr, b ∉ mu' → b ∉ C :: wr := fun b n q => (List.mem_cons.mp q).elim (fun q => n (q ▸ mC_)) fun q => n (mm_ b (C₁.wrmu b q))
      have WCw : ∀ b ∈ V, b ∉ C :: wr := fun b q z => (List.mem_cons.mp z).elim (fun z => hCV (z ▸ q)) fun z => hVw b q z
      refine ⟨pk.jless mu' _ _ mm_ (pk.jstb _ _ _ _ (hin ▸ hj) (fun b o n e => k'' b o (nCw b n) (hkE b o (fun q => n (mw_ b q)) e)) fun b q o e => k'' b o (WCw b q) (hkE b o (hVwri b q) e)), Imm.lst_iff.mpr ?_⟩
      obtain ⟨n, en⟩ := hpl
      have Dw : D ∉ C :: wr := fun q => (List.mem_cons.mp q).elim hDC fun q => C₁.al.notin D1 (C₁.wrmu _ q)
      refine ⟨D, n, vs, rfl, C₁.al.notin D1, k'' _ _ Dw (hkE _ _ hDw en), ?_⟩
      have z := ImmL.gen (mu' := mu) (h' := h'') (fun b o n e => ⟨k'' b o (nCw b n) (hkE b o (fun q => n (mw_ b q)) e), fun q => n (mm_ b q)⟩) _ _ him
      rw [hin, List.take_length] at z
      exact z
  exact codeAny_compStart_list (loop _ rfl) (W.self 0 _ _ _ hst₁ (loop _ rfl))

/-- such a comprehension over a list, its value stored under a name -/
theorem Cx.compStM {elt target iter : Expr} {ifs : List Expr} {scope : Scope} {cl : List (Str × Addr)} {pos spos py : Pos} {y : Str} {Q : Flow → Shared → Prop} (W0 V : List Addr)
    (hA : A.handled = none) (hw : env.locals ∈ wr) (hwc : ∀ n c, (n, c) ∈ env.cells → c ∈ wr) (hW0o : ∀ b ∈ W0, b ∈ own) (hW0 : ∀ b ∈ W0, ∃ o, s₀.heap.get? b = some o) (hV0 : ∀ b ∈ V, ∃ o, s₀.heap.get? b = some o) (hy : env.kindOf y = some .local)
    (hsw : swapsWith (.ListComp elt [⟨target, iter, ifs, 0⟩] scope pos) (some (.Name y py)) spos.line env = pure true)
    (hcell : ∀ y ∈ scope.names, y.2 ≠ .cell) (hkind : scope.kind = .function) (hnames : ∀ y ∈ scope.names, y.2 = .local → scope.names.lookup y.1 = some .local)
    (hclos : closureFor scope env = pure cl) (hsub : ∀ n c, cl.lookup n = some c → env.cells.lookup n = some c) (hap : cl.Pairwise fun x y => x.2 ≠ y.2) (hin : ∀ n c, (n, c) ∈ cl → (n, c) ∈ env.cells)
    (h : wpAny (model prog w) A (eval iter env) (fun xv s₁ => ∃ R ds TB p f J, Cx G s₀ own wr mu env m cm R s₁ ∧ Imm mu s₁.heap (.lst ds) xv ∧ ds.length ≤ 1000 ∧ CompPkM prog A G s₁ mu W0 V env cm J scope cl target elt ifs ds TB p f ∧
      ∀ acc s', Cx G s₀ own wr mu env (fun z => if z = y then some acc else m z) cm (fun h => J mu ds.length h ∧ Imm mu h (.lst ((ds.filter p).map f)) acc) s' → Q .next s') E s)
    (hs : ∀ x, foldedSetIterable iter env x = pure x := by intro _; rfl) :
    wpAny (model prog w) A (exec (.Assign [.Name y py] (.ListComp elt [⟨target, iter, ifs, 0⟩] scope pos) spos) env) Q E s := by
  rw [exec_Assign_Name_used _ _ _ _ hsw]
  refine wpAny_bind (wpAny_standAt (wpAny_bind ?_))
  show wpAny _ A (do let _ ← comprehension (.ListComp elt [⟨target, iter, ifs, 0⟩] scope pos) scope env iter.pos (PySem.newList []) false (eval iter env) (some (assign (.Name y py) env))) _ _ s
  refine wpAny_bind (wpAny_mono (wpAny_comprehension_free (Q := fun _ s' => Q .next s') (g := ⟨target, iter, ifs, 0⟩) (gs := []) rfl hs hclos hkind hnames (wpAny_mono h (fun xv s₁ h₁ => ?_) fun _ _ e => e))
    (fun _ s' hq => wpAny_pure (wpAny_pure hq)) fun _ _ e => e)
  obtain ⟨R, ds, TB, p, f, J, C₁, src, len, pk, hQ⟩ := h₁
  have hlm : ∃ l, xv = .ref l ∧ l ∉ mu := by obtain ⟨l, n, vs, rfl, hl, _⟩ := Imm.lst_iff.mp src; exact ⟨l, rfl, hl⟩
  refine listSrc C₁ src fun l vs s₂ hx il g hit hl hlt => ?_
  have hlmu : l ∉ mu := by obtain ⟨l', e, h⟩ := hlm; rw [hx] at e; cases e; exact h
  have hne : l ≠ s₁.heap.objs.size := Nat.ne_of_lt hlt
  have W := Walks.list (prog := prog) (w := w) hA s₁.heap.objs.size l hne vs.toArray
  have hlen : vs.toArray.size = ds.length := by simp [il.length]
  rw [hlen] at W
  have hlt2 : ∀ b, (∃ o, s₂.heap.get? b = some o) → b < s₂.heap.objs.size := fun b ⟨o, e⟩ => Heap.lt_size e
  have hW1 : ∀ b ∈ W0, ∃ o, s₁.heap.get? b = some o := fun b q => C₁.kp.there (hW0 b q)
  refine compCoreM (W0 := W0) (RR := fun acc C => compPost (model prog w) A E (some (assign (.Name y py) env)) (fun _ s' => Q .next s') acc C) C₁ g hW1 (fun b q => C₁.ownmu b (hW0o b q)) (fun b q => C₁.offW (hW0 b q)) (fun n c q z => C₁.offW (hW0 c z) (hwc n c q)) (fun b q => C₁.ownOff b (hW0o b q)) (fun b q => C₁.kp.there (hV0 b q)) (fun b q => C₁.offW (hV0 b q))
    W ⟨hit, hl⟩ (fun b hb => ?_) (fun b hb => ?_) (fun b hb => by rw [List.mem_singleton.mp hb]; exact size_none _) (fun i h hS => ?_) len hcell hkind hsub hap hin (fun i v hv => ?_) pk (fun acc C s' hC hm g F => ?_) (fun i v s Q E hS q => let ⟨o, e, c, _⟩ := hS.1; letOwned_ e c (by decide) q)
  · rcases List.mem_cons.mp hb with rfl | hb
    · exact hlt2 _ (let ⟨o, e, _⟩ := hit; ⟨o, e⟩)
    · rw [List.mem_singleton.mp hb]; exact hlt2 _ (let ⟨o, e, _⟩ := hl; ⟨o, e⟩)
  · rcases List.mem_cons.mp hb with rfl | hb
    · exact fun q => by obtain ⟨o, e⟩ := hW1 _ q; rw [size_none] at e; cases e
    · rw [List.mem_singleton.mp hb]; exact fun q => hlmu (C₁.ownmu _ (hW0o _ q))
  · intro b hb
    rw [List.mem_singleton.mp hb]
    obtain ⟨o, e, _⟩ := hS.1
    exact ⟨o, e⟩
  · exact il.getV (by simpa using hv)
  · obtain ⟨mC, hn⟩ := hm
    have hLC : env.locals ≠ C := fun q => by obtain ⟨o, _, _, e, _⟩ := C₁.ns; rw [q, hC] at e; cases e
    have C₂ : Cx G s₀ own wr mu env m cm (fun _ => True) s' := C₁.turnW g hw hwc hW0o hW0 trivial fun _ _ x _ => x
    show wpAny _ A (assign (.Name y py) env acc) _ E s'
    refine wpAny_assign_Name (wpAny_storeName_local hy C₂.ns (fun h₂ hn₂ hs₂ => ?_) (notLocals C₂.ok))
    refine ⟨mC, hn.sameBut hs₂ (Ne.symm hLC), fun h₃ hs₃ => hQ acc _ ?_⟩
    have hn₃ := hn₂.sameBut hs₃ hLC
    have hCW : C ∉ W0 := fun q => by obtain ⟨o, e⟩ := hW1 _ q; rw [hC] at e; cases e
    have hCs : ∀ b o, s₁.heap.get? b = some o → b ≠ C := fun b o e q => by rw [q, hC] at e; cases e
    have hCmu : C ∉ mu := C₁.al.notin hC
    have FF := F h₃ fun b o n e => (hs₃.2 b fun q => n (q ▸ List.mem_cons_self)).trans ((hs₂.2 b fun q => n (List.mem_cons_of_mem _ (q ▸ hw))).trans e)
    have stbJ : ∀ h h', (J mu ds.length h ∧ Imm mu h (.lst ((ds.filter p).map f)) acc) → Kp wr h h' → (J mu ds.length h' ∧ Imm mu h' (.lst ((ds.filter p).map f)) acc) := fun h h' x k =>
      ⟨pk.jstb _ _ _ _ x.1 (fun b o n e => k.keep b o (fun q => n (C₁.wrmu b q)) e) fun b q o e => k.keep b o (C₁.offW (hV0 b q)) e, x.2.kp k C₁.wrmu⟩
    have kk : Kp (wr ++ W0) s₁.heap h₃ := ⟨fun b o n e => (hs₃.2 b (hCs b o e)).trans ((hs₂.2 b (fun q => n (List.mem_append.mpr (.inl (q ▸ hw))))).trans (g.kp.keep b o (fun q => n (List.mem_append.mpr (.inr q))) e)), fun b q o e => ?_⟩
    · exact
        { ok := C₁.ok, on0 := C₁.on0, ownOff := C₁.ownOff, wrNew := C₁.wrNew, wrmu := C₁.wrmu, ownmu := C₁.ownmu
          same := SameS.trans C₁.same (SameS.trans g.same ⟨h₃, s'.toks + 1, rfl⟩)
          kp := Kp.fresh (((C₁.kp.mono fun _ q => List.mem_append.mpr (.inr q)).trans (kk.mono fun b q => (List.mem_append.mp q).elim (fun q => List.mem_append.mpr (.inl q)) fun q => List.mem_append.mpr (.inr (hW0o b q)))) : Kp (wr ++ own) s₀.heap h₃) C₁.wrNew
          ns := hn₃
          cells := fun n c e => by
            obtain ⟨o, eo, hd⟩ := C₂.cells n c e
            have hcC : c ≠ C := fun q => hCmu (q ▸ C₁.cmu n c (mem_of_lookup e))
            exact ⟨o, (hs₃.2 c hcC).trans ((hs₂.2 c (Ne.symm (C₁.cne n c (mem_of_lookup e)))).trans eo), hd⟩
          apart := C₁.apart, cne := C₁.cne, cmu := C₁.cmu
          al := C₁.al.kp kk
          r := FF
          stb := stbJ }
    · by_cases z : b = env.locals
      · rw [z]; exact let ⟨o, _, _, e, _⟩ := hn₃; ⟨o, e⟩
      · obtain ⟨o', e'⟩ := g.kp.there ⟨o, e⟩
        exact ⟨o', (hs₃.2 b (hCs b o e)).trans ((hs₂.2 b z).trans e')⟩
end
end Mine
end

-- part Lk
section
open PySem PySem.W PyProof.Rows PySem.Calls
set_option maxRecDepth 100000
set_option linter.unusedVariables false
namespace Mine

section
variable {prog : Program} {w : World} {K : Frag} {G : Gd w K} {s₀ s₁ s₂ s : Shared} {own wr mu mu' W0 : List Addr} {env : Env} {m cm : Str → Option Value} {R : Heap → Prop} {A : Around} {E : Value → Shared → Prop}

theorem assignAttr {o : Expr} {attr : Str} {pos : Pos} {v : Value} {Q : Unit → Shared → Prop} (h : wpAny (model prog w) A (eval o env) (fun ov s₁ => wpAny (model prog w) A (setAttr ov attr v) Q E s₁) E s) : wpAny (model prog w) A (assign (.Attribute o attr pos) env v) Q E s := by
  rw [arm_assign_Attribute]
  exact wpAny_bind (wpAny_holding (wpAny_mono h (fun ov s₁ z => wpAny_bind (wpAny_standAt (wpAny_bind (wpAny_holding (wpAny_mono z (fun _ s₂ q => wpAny_release q) fun _ _ e => e))))) fun _ _ e => e))
theorem assignSub {o i : Expr} {pos : Pos} {v : Value} {Q : Unit → Shared → Prop} (h : wpAny (model prog w) A (eval o env) (fun ov s₁ => wpAny (model prog w) A (eval i env) (fun iv s₂ => wpAny (model prog w) A (setItem ov iv v) Q E s₂) E s₁) E s) : wpAny (model prog w) A (assign (.Subscript o i pos) env v) Q E s := by
  rw [arm_assign_Subscript]
  exact wpAny_bind (wpAny_holding (wpAny_mono h (fun ov s₁ z => wpAny_bind (wpAny_holding (wpAny_mono z (fun iv s₂ z => wpAny_bind (wpAny_standAt (wpAny_bind (wpAny_holding (wpAny_mono z (fun _ s₃ q => wpAny_release q) fun _ _ e => e))))) fun _ _ e => e))) fun _ _ e => e))

/-- t1, t2 = e1, e2 where the targets are no two names -/
theorem Cx.setTwo {T₁ T₂ e₁ e₂ : Expr} {tp pos kp : Pos} {k k' : Nat} {Q : Flow → Shared → Prop} (_C : Cx G s₀ own wr mu' env m cm R s) (hA : A.handled = none)
    (h : wpAny (model prog w) A (eval e₁ env) (fun v₁ s₁ => wpAny (model prog w) A (eval e₂ env) (fun v₂ s₂ => ∃ mu m cm R, Cx G s₀ own wr mu env m cm R s₂ ∧
      ∀ s', Cx G s₀ own wr mu env m cm R s' → wpAny (model prog w) A (assign T₁ env v₁) (fun _ s => wpAny (model prog w) A (assign T₂ env v₂) (fun _ => Q .next) E s) E s') E s₁) E s)
    (he₁ : starEach [e₁, e₂] env = (false, eval e₁ env) :: starEach [e₂] env := by rfl) (he₂ : starEach [e₂] env = (false, eval e₂ env) :: starEach [] env := by rfl)
    (ha : assignEach [T₁, T₂] env = [(false, assign T₁ env), (false, assign T₂ env)] := by rfl)
    (hs : swapsWithSole [.Tuple [T₁, T₂] k tp] (.Tuple [e₁, e₂] k' kp) pos.line env = pure false := by rfl) (hw : swappedStores [.Tuple [T₁, T₂] k tp] (.Tuple [e₁, e₂] k' kp) env = pure none := by rfl) :
    wpAny (model prog w) A (exec (.Assign [.Tuple [T₁, T₂] k tp] (.Tuple [e₁, e₂] k' kp) pos) env) Q E s := by
  refine Assign_Tuple (Tuple_ (wpAny_items_cons (wpAny_mono h (fun v₁ s₁ h₁ => wpAny_items_cons (wpAny_mono h₁ (fun v₂ s₂ h₂ => ?_) (fun _ _ z => z)) he₂) (fun _ _ z => z)) he₁)) hs hw
  obtain ⟨mu, m, cm, R, C, hQ⟩ := h₂
  refine wpAny_items_nil (C.newTuple (ds := [.raw v₁, .raw v₂]) (.cons .raw (.cons .raw .nil)) (Nat.le_add_left _ _) fun tv s₃ C₃ => ?_)
  obtain ⟨t, n, vs, rfl, _, ht, il⟩ := Imm.tup_iff.mp C₃.r.2
  obtain ⟨u1, r1, rfl, i1, il⟩ := ImmL.cons_iff.mp il
  obtain ⟨u2, r2, rfl, i2, il⟩ := ImmL.cons_iff.mp il
  rw [ImmL.nil_iff] at il; subst il
  rw [Imm.raw_iff] at i1 i2; subst i1; subst i2
  refine wpAny_assign_Tuple hA (items := #[u1, u2]) ⟨_, ht, rfl, n, rfl⟩ (by rw [ha]; rfl) (by rw [ha]; rfl) fun h₁ he₁ => ?_
  rw [ha]
  have C₄ := C₃.go (Go.ofH (Kp.freshE he₁ (size_none _)))
  exact wpAny_assignInOrder_more (wpAny_mono (hQ _ (C₄.know C₄.r.1 C.stb)) (fun _ s z => wpAny_assignInOrder_more (wpAny_mono z (fun _ s z => wpAny_assignInOrder_none z) fun _ _ e => e)) fun _ _ e => e)

def optD : Option Int → D
  | none => .none
  | some i => .int i
theorem opt_is {h : Heap} {o : Option Int} {v : Value} {Q : Value → Shared → Prop} (im : Imm mu h (optD o) v) (q : Q (.bool o.isNone) s) : wpAny (model prog w) A (compareOp .Is v .none) Q E s := by
  cases o with
  | none => rw [optD, Imm.none_iff] at im; subst im; exact wpAny_is_self (by rfl) q
  | some i => rw [optD, Imm.int_iff] at im; obtain ⟨t, rfl⟩ := im; exact wpAny_is_other (by rfl) (by simp) q
theorem opt_isNot {h : Heap} {o : Option Int} {v : Value} {Q : Value → Shared → Prop} (im : Imm mu h (optD o) v) (q : Q (.bool o.isSome) s) : wpAny (model prog w) A (compareOp .IsNot v .none) Q E s := by
  cases o with
  | none => rw [optD, Imm.none_iff] at im; subst im; exact wpAny_isNot_self (by rfl) q
  | some i => rw [optD, Imm.int_iff] at im; obtain ⟨t, rfl⟩ := im; exact wpAny_isNot_other (by rfl) (by simp) q
theorem optD.hand {h : Heap} {o : Option Int} {v : Value} (im : Imm mu h (optD o) v) : handedIn v = true := by
  cases o with
  | none => rw [optD, Imm.none_iff] at im; subst im; rfl
  | some i => rw [optD, Imm.int_iff] at im; obtain ⟨t, rfl⟩ := im; rfl
theorem lst.hand {h : Heap} {ds : List D} {v : Value} (im : Imm mu h (.lst ds) v) : handedIn v = true := by obtain ⟨_, _, _, rfl, _⟩ := Imm.lst_iff.mp im; rfl
end
end Mine
end

-- part Ll
section
open PySem PySem.W PyProof.Rows PySem.Calls
set_option maxRecDepth 100000
set_option linter.unusedVariables false
namespace Mine

section
variable {prog : Program} {w : World} {K : Frag} {G : Gd w K} {s₀ s₁ s₂ s : Shared} {own wr mu mu' W0 : List Addr} {env : Env} {m cm : Str → Option Value} {R : Heap → Prop} {A : Around} {E : Value → Shared → Prop}
variable {x dx : Addr} {nms : List Str} {k : Nat} {f : Str → Option D}

/-- what keeps while only what the def may turn turns -/
def Stw (own wr : List Addr) (P : Heap → Prop) : Prop := ∀ W h h', (∀ b ∈ W, b ∈ own ∨ b ∈ wr) → P h → Kp W h h' → P h'
theorem Std.toW {P : Heap → Prop} (hP : Std mu P) (C : Cx G s₀ own wr mu env m cm R s) : Stw own wr P := fun W h h' hW p kp => hP _ _ (fun b o n e => kp.keep b o (fun q => n ((hW b q).elim (C.ownmu b) (C.wrmu b))) e) p
theorem Stw.and {P P' : Heap → Prop} (a : Stw own wr P) (b : Stw own wr P') : Stw own wr fun h => P h ∧ P' h := fun W h h' hW p kp => ⟨a W h h' hW p.1 kp, b W h h' hW p.2 kp⟩
theorem Stw.stb {P : Heap → Prop} (a : Stw own wr P) : ∀ h h', P h → Kp wr h h' → P h' := fun h h' p k => a wr h h' (fun b q => .inr q) p k
theorem Cx.putW {CC : Addr} (C : Cx G s₀ own wr mu env m cm R s) (S : Slf K s₀ own wr mu env CC dx nms) (I : Inst mu s.heap x CC dx nms k f) {P : Heap → Prop} (p : P s.heap) (hP : Stw [dx] wr P) {name : Str} {d : D} {v : Value} {Q : Unit → Shared → Prop}
    (im : Imm mu s.heap d v) (hv : handedIn v = true) (hk : k < 900) (ho : (f name).isSome = true)
    (h : ∀ s', Cx G s₀ own wr mu env m cm (fun h => Inst mu h x CC dx nms k (fun y => if y = name then some d else f y) ∧ P h) s' → Q () s') (hn : name ∈ nms := by decide) :
    wpAny (model prog w) A (setAttr (.ref x) name v) Q E s := by
  have hdm := C.ownmu _ S.ho
  refine I.put S.ok C.X hdm im hv hk (fun s' g I' => h s' (C.turnW g S.hL S.hc (fun b q => by rw [List.mem_singleton.mp q]; exact S.ho) (fun b q => by rw [List.mem_singleton.mp q]; exact S.he) ⟨by rw [if_pos ho] at I'; exact I', ?_⟩ ?_)) hn
  · exact hP _ _ _ (fun b q => .inl q) p g.kp
  · exact fun h h' z kp => ⟨z.1.kp kp C.wrmu (C.offW S.he), hP.stb _ _ z.2 kp⟩

theorem assignPair {T₁ T₂ : Expr} {kk : Nat} {pt : Pos} {d₁ d₂ : D} {v : Value} {Q : Unit → Shared → Prop} (hA : A.handled = none) (im : Imm mu s.heap (.tup [d₁, d₂]) v)
    (h : ∀ v₁ v₂ s', Go [] s s' → Imm mu s'.heap d₁ v₁ → Imm mu s'.heap d₂ v₂ → wpAny (model prog w) A (assign T₁ env v₁) (fun _ s₁ => wpAny (model prog w) A (assign T₂ env v₂) Q E s₁) E s')
    (ha : assignEach [T₁, T₂] env = [(false, assign T₁ env), (false, assign T₂ env)] := by rfl) :
    wpAny (model prog w) A (assign (.Tuple [T₁, T₂] kk pt) env v) Q E s := by
  obtain ⟨t, n, vs, rfl, ht, e, il⟩ := Imm.tup_iff.mp im
  obtain ⟨v₁, r₁, rfl, i₁, il⟩ := ImmL.cons_iff.mp il
  obtain ⟨v₂, r₂, rfl, i₂, il⟩ := ImmL.cons_iff.mp il
  rw [ImmL.nil_iff] at il; subst il
  refine wpAny_assign_Tuple hA (items := #[v₁, v₂]) ⟨_, e, rfl, n, rfl⟩ (by rw [ha]; rfl) (by rw [ha]; rfl) fun h₁ he₁ => ?_
  rw [ha]
  have k₁ : Kp [] s.heap h₁ := Kp.freshE he₁ (size_none _)
  exact wpAny_assignInOrder_more (wpAny_mono (h v₁ v₂ _ (Go.ofH k₁) (i₁.kp k₁ fun _ q => nomatch q) (i₂.kp k₁ fun _ q => nomatch q)) (fun _ s z => wpAny_assignInOrder_more (wpAny_mono z (fun _ s z => wpAny_assignInOrder_none z) fun _ _ e => e)) fun _ _ e => e)
theorem assignTriple {T₁ T₂ T₃ : Expr} {kk : Nat} {pt : Pos} {d₁ d₂ d₃ : D} {v : Value} {Q : Unit → Shared → Prop} (hA : A.handled = none) (im : Imm mu s.heap (.tup [d₁, d₂, d₃]) v)
    (h : ∀ v₁ v₂ v₃ s', Go [] s s' → Imm mu s'.heap d₁ v₁ → Imm mu s'.heap d₂ v₂ → Imm mu s'.heap d₃ v₃ → wpAny (model prog w) A (assign T₁ env v₁) (fun _ s₁ => wpAny (model prog w) A (assign T₂ env v₂) (fun _ s₂ => wpAny (model prog w) A (assign T₃ env v₃) Q E s₂) E s₁) E s')
    (ha : assignEach [T₁, T₂, T₃] env = [(false, assign T₁ env), (false, assign T₂ env), (false, assign T₃ env)] := by rfl) :
    wpAny (model prog w) A (assign (.Tuple [T₁, T₂, T₃] kk pt) env v) Q E s := by
  obtain ⟨t, n, vs, rfl, ht, e, il⟩ := Imm.tup_iff.mp im
  obtain ⟨v₁, r₁, rfl, i₁, il⟩ := ImmL.cons_iff.mp il
  obtain ⟨v₂, r₂, rfl, i₂, il⟩ := ImmL.cons_iff.mp il
  obtain ⟨v₃, r₃, rfl, i₃, il⟩ := ImmL.cons_iff.mp il
  rw [ImmL.nil_iff] at il; subst il
  refine wpAny_assign_Tuple hA (items := #[v₁, v₂, v₃]) ⟨_, e, rfl, n, rfl⟩ (by rw [ha]; rfl) (by rw [ha]; rfl) fun h₁ he₁ => ?_
  rw [ha]
  have k₁ : Kp [] s.heap h₁ := Kp.freshE he₁ (size_none _)
  have nn : ∀ b ∈ ([] : List Addr), b ∈ mu := fun _ q => nomatch q
  exact wpAny_assignInOrder_more (wpAny_mono (h v₁ v₂ v₃ _ (Go.ofH k₁) (i₁.kp k₁ nn) (i₂.kp k₁ nn) (i₃.kp k₁ nn)) (fun _ s z => wpAny_assignInOrder_more (wpAny_mono z (fun _ s z => wpAny_assignInOrder_more (wpAny_mono z (fun _ s z => wpAny_assignInOrder_none z) fun _ _ e => e)) fun _ _ e => e)) fun _ _ e => e)
end
end Mine
end

-- part Lm
section
open PySem PySem.W PyProof.Rows PySem.Calls
set_option maxRecDepth 100000
set_option linter.unusedVariables false
namespace Mine

section
variable {prog : Program} {w : World} {K : Frag} {G : Gd w K} {s₀ s₁ s₂ s : Shared} {own wr mu mu' W0 : List Addr} {env : Env} {m cm : Str → Option Value} {R : Heap → Prop} {A : Around} {E : Value → Shared → Prop}
variable {x dx : Addr} {nms : List Str} {k : Nat} {f : Str → Option D}

theorem tc_weight (C : Addr) (rest : List Value) : (Code.builtin "type.__call__" ⟨.ref C :: rest, []⟩).weight = 1 := by
  have a : (Code.builtin "type.__call__" ⟨.ref C :: rest, []⟩).frames = 0 := by with_unfolding_all rfl
  have b : (Code.builtin "type.__call__" ⟨.ref C :: rest, []⟩).isCreation = true := by with_unfolding_all rfl
  have c : (Code.builtin "type.__call__" ⟨.ref C :: rest, []⟩).isGuard = false := by show guardIds.contains "type.__call__" = false; decide +kernel
  have d : (Code.builtin "type.__call__" ⟨.ref C :: rest, []⟩).isCaller = false := by with_unfolding_all rfl
  unfold Code.weight
  rw [a, b, c, d]; rfl
theorem tc_units (args : Args) : (Code.builtin "type.__call__" args).cUnits = 1 := by with_unfolding_all rfl

theorem Ar.make {n : Nat} (hA : Ar (n + 1) A) (C : Addr) (rest : List Value) : Ar n (A.under (.builtin "type.__call__" ⟨.ref C :: rest, []⟩)) :=
  ⟨hA.1, by show A.depth + Code.weight _ + n < _; rw [tc_weight]; have := hA.2.1; omega, by show A.units + Code.cUnits _ + 16 * n < _; rw [tc_units]; have := hA.2.2; omega⟩
/-- an object is made -/
theorem makeI {n : Nat} {C fI : Addr} {rest : List Value} {Q : Value → Shared → Prop} (X : K.In s.heap) (hA : Ar (n + 1) A) (al : Al mu s.heap) (hm : makesIn K C = true) (hi : findIn K (.ref C) "__init__" = some (some (.ref fI))) (hf : typeIn K (.ref fI) = some (.type "function"))
    (h : ∀ A' x dx s', Ar n A' → Go [] s s' → s.heap.get? dx = none → s.heap.get? x = none → x ∉ mu → dx ∉ mu → x ≠ dx → Inst (dx :: mu) s'.heap x C dx nms 0 (fun _ => none) →
      codeAny (model prog w) A' (.call (.ref fI) ⟨.ref x :: rest, []⟩) (fun r s' => match r with | .ok (.ret v) => v = .none ∧ Q (.ref x) s' | .ok _ => False | .error e => E e s') s') :
    wpAny (model prog w) A (call (.ref C) rest) Q E s := by
  obtain ⟨hh, g, d, t, os⟩ := s
  refine wpAny_call (make_core (makes_of X hm) (looks_findIn X hi) (fun self => bind_fn X self hf) (.inl rfl) ?_)
  have k : Kp [] hh ((hh.push emptyDict).push (instObj C hh.objs.size)) := (Kp.push _).trans (Kp.push _)
  have n1 : hh.get? hh.objs.size = none := size_none _
  have n2 : hh.get? (hh.objs.size + 1) = none := ge_none (Nat.le_succ _)
  have e1 : ((hh.push emptyDict).push (instObj C hh.objs.size)).get? hh.objs.size = some emptyDict := Heap.get?_push_of_some _ (Heap.get?_push_size _ rfl)
  have e2 : ((hh.push emptyDict).push (instObj C hh.objs.size)).get? (hh.objs.size + 1) = some (instObj C hh.objs.size) := by
    have e := Heap.get?_push_size (hh.push emptyDict) (o := instObj C hh.objs.size) rfl
    rwa [Heap.size_push] at e
  have hne : hh.objs.size + 1 ≠ hh.objs.size := Nat.succ_ne_self _
  refine codeAny_mono (h _ _ _ _ (hA.make C rest) (Go.ofH k) n1 n2 (al.notin n2) (al.notin n1) hne ⟨fun q => (List.mem_cons.mp q).elim hne (al.notin n2), e2, [], 0, e1, Nat.le_refl _, (fun _ q => nomatch q), (fun _ _ q => nomatch q)⟩) fun r s' z => ?_
  rcases r with e | (v | _ | _ | _) <;> first | exact z | exact z.elim

/-- what is made and then turned alone: nothing that stood has turned -/
theorem Go.made {W : List Addr} (g : Go [] s s₁) (g₂ : Go W s₁ s₂) (f : ∀ b ∈ W, s.heap.get? b = none) : Go [] s s₂ :=
  ⟨SameS.trans g.same g₂.same, Kp.fresh (V := []) (by rw [List.append_nil]; exact (g.kp.any).trans g₂.kp) f⟩
theorem Cx.putN {CC : Addr} (C : Cx G s₀ own wr mu env m cm R s) (S : Slf K s₀ own wr mu env CC dx nms) (I : Inst mu s.heap x CC dx nms k f) {P : Heap → Prop} (p : P s.heap) (hP : Std mu P) {name : Str} {d : D} {v : Value} {Q : Unit → Shared → Prop}
    (im : Imm mu s.heap d v) (hv : handedIn v = true) (hk : k < 900)
    (h : ∀ s', Cx G s₀ own wr mu env m cm (fun h => Inst mu h x CC dx nms (k + 1) (fun y => if y = name then some d else f y) ∧ P h) s' → Q () s') (hn : name ∈ nms := by decide) :
    wpAny (model prog w) A (setAttr (.ref x) name v) Q E s :=
  C.putA S I p hP im hv hk (fun s' C' => h s' (C'.know ⟨C'.r.1.more (by split <;> omega), C'.r.2⟩ fun h h' z kp => ⟨z.1.kp kp C'.wrmu (C'.offW S.he), hP _ _ (fun b o n e => kp.keep b o (fun q => n (C'.wrmu b q)) e) z.2⟩)) hn
theorem Cx.putNW {CC : Addr} (C : Cx G s₀ own wr mu env m cm R s) (S : Slf K s₀ own wr mu' env CC dx nms) (I : Inst mu s.heap x CC dx nms k f) {P : Heap → Prop} (p : P s.heap) (hP : Stw [dx] wr P) {name : Str} {d : D} {v : Value} {Q : Unit → Shared → Prop}
    (im : Imm mu s.heap d v) (hv : handedIn v = true) (hk : k < 900)
    (h : ∀ s', Cx G s₀ own wr mu env m cm (fun h => Inst mu h x CC dx nms (k + 1) (fun y => if y = name then some d else f y) ∧ P h) s' → Q () s') (hn : name ∈ nms := by decide) :
    wpAny (model prog w) A (setAttr (.ref x) name v) Q E s := by
  have hdm := C.ownmu _ S.ho
  refine I.put S.ok C.X hdm im hv hk (fun s' g I' => h s' (C.turnW g S.hL S.hc (fun b q => by rw [List.mem_singleton.mp q]; exact S.ho) (fun b q => by rw [List.mem_singleton.mp q]; exact S.he) ⟨I'.more (by split <;> omega), ?_⟩ ?_)) hn
  · exact hP _ _ _ (fun b q => .inl q) p g.kp
  · exact fun h h' z kp => ⟨z.1.kp kp C.wrmu (C.offW S.he), hP.stb _ _ z.2 kp⟩
end
end Mine
end

-- part Ln
section
open PySem PySem.W PyProof.Rows PySem.Calls
set_option maxRecDepth 100000
set_option linter.unusedVariables false
namespace Mine

theorem valueAt_cons {p : Str × Value} {r : List (Str × Value)} {k : Str} : valueAt (p :: r) k = if p.1 = k then some p.2 else valueAt r k := by
  unfold valueAt
  rw [List.find?_cons]
  by_cases h : p.1 = k <;> simp [h]
theorem stored_cons {p : Str × Value} {r : List (Str × Value)} {k : Str} {v : Value} (hn : ((p :: r).map (·.1)).Nodup) (hp : (valueAt (p :: r) k).isSome = true) : stored (p :: r) k v = if p.1 = k then (p.1, v) :: r else p :: stored r k v := by
  unfold stored
  by_cases h : p.1 = k
  · subst h
    rw [List.map_cons, List.nodup_cons] at hn
    simp only [List.any_cons, decide_true, Bool.true_or, if_true, List.map_cons]
    rw [map_store_of_not_mem r p.1 v hn.1]
  · rw [valueAt_cons, if_neg h] at hp
    have ha : (r.any fun kv => decide (kv.1 = k)) = true := by
      unfold valueAt at hp
      obtain ⟨x, hx⟩ := Option.isSome_iff_exists.mp hp
      obtain ⟨q, hq, -⟩ := Option.map_eq_some_iff.mp hx
      exact List.any_eq_true.mpr ⟨q, List.mem_of_find?_eq_some hq, by simpa using List.find?_some hq⟩
    simp [h, ha]
theorem valueAt_stored {k : Str} {v : Value} : ∀ {kvs : List (Str × Value)}, (kvs.map (·.1)).Nodup → (valueAt kvs k).isSome = true → ∀ k', valueAt (stored kvs k v) k' = if k' = k then some v else valueAt kvs k'
  | [], _, h, _ => by simp [valueAt] at h
  | p :: r, hn, h, k' => by
    rw [stored_cons hn h]
    by_cases q : p.1 = k
    · rw [if_pos q, valueAt_cons, valueAt_cons]
      by_cases z : k' = k
      · rw [if_pos (q.trans z.symm), if_pos z]
      · have : ¬p.1 = k' := fun e => z (e.symm.trans q)
        rw [if_neg this, if_neg z, if_neg this]
    · rw [if_neg q, valueAt_cons, valueAt_cons]
      rw [valueAt_cons, if_neg q] at h
      rw [valueAt_stored (by rw [List.map_cons, List.nodup_cons] at hn; exact hn.2) h k']
      by_cases z : p.1 = k'
      · have : ¬k' = k := fun e => q (z.trans e)
        simp [z, this]
      · simp [z]
theorem stored_length {k : Str} {v : Value} {kvs : List (Str × Value)} (h : (valueAt kvs k).isSome = true) : (stored kvs k v).length = kvs.length := by
  unfold stored
  have ha : (kvs.any fun kv => decide (kv.1 = k)) = true := by
    unfold valueAt at h
    obtain ⟨x, hx⟩ := Option.isSome_iff_exists.mp h
    obtain ⟨q, hq, -⟩ := Option.map_eq_some_iff.mp hx
    exact List.any_eq_true.mpr ⟨q, List.mem_of_find?_eq_some hq, by simpa using List.find?_some hq⟩
  rw [if_pos ha, List.length_map]

section
variable {prog : Program} {w : World} {K : Frag} {G : Gd w K} {s₀ s₁ s₂ s : Shared} {own wr mu mu' : List Addr} {env : Env} {A : Around} {E : Value → Shared → Prop} {h h' : Heap}
variable {bk : Addr} {f : Str → Option D}
/-- a dict with fields -/
structure FldAt (prog : Program) (w : World) (mu : List Addr) (h : Heap) (bk : Addr) (f : Str → Option D) : Prop where
  at_ : ∃ kvs : List (Str × Value), h.DictOf (strKind prog w) bk kvs ∧ kvs.length ≤ 10 ∧ ∀ name d, f name = some d → ∃ v, valueAt kvs name = some v ∧ Imm mu h d v
theorem FldAt.gen (I : FldAt prog w mu h bk f) (kp : ∀ b o, b ∉ mu → h.get? b = some o → h'.get? b = some o ∧ b ∉ mu') (kd : ∀ o, h.get? bk = some o → h'.get? bk = some o) : FldAt prog w mu' h' bk f :=
  let ⟨kvs, d, l, fs⟩ := I.at_; ⟨kvs, d.at kd, l, fun a d e => let ⟨v, x, i⟩ := fs a d e; ⟨v, x, Imm.gen kp _ _ i⟩⟩
theorem FldAt.kp (I : FldAt prog w mu h bk f) {W : List Addr} (kp : Kp W h h') (hW : ∀ b ∈ W, b ∈ mu) (hd : bk ∉ W) : FldAt prog w mu h' bk f :=
  I.gen (fun b o n e => ⟨kp.keep b o (fun q => n (hW b q)) e, n⟩) fun o e => kp.keep _ o hd e
theorem FldAt.there (I : FldAt prog w mu h bk f) : ∃ o, h.get? bk = some o := let ⟨_, ⟨o, _, _, e, _⟩, _⟩ := I.at_; ⟨o, e⟩
theorem isStr_self {x : Str} {t : Tok} : (strKind prog w).is x (.str x t) = true := strKind_is prog w x t
theorem FldAt.get (I : FldAt prog w mu s.heap bk f) {name : Str} {t : Tok} {d : D} {value slice : Expr} {Q : Value → Shared → Prop} (hf : f name = some d) (h : ∀ v s', Go [] s s' → Imm mu s'.heap d v → Q v s')
    (hs : ∀ l, subscripted slice false (.ref l) (.str name t) = operate [.ref l, .str name t] (getItem (.ref l) (.str name t)) := by intro _; with_unfolding_all rfl) :
    wpAny (model prog w) A (subscriptTail value slice (.ref bk) (.str name t)) Q E s := by
  obtain ⟨kvs, d, l, fs⟩ := I.at_
  obtain ⟨v, e, i⟩ := fs _ _ hf
  exact tail_any d.typeIs slot_dict_getitem.lookup (wpAny_getItem_of (knd := strKind prog w) isStr_self d.mapOf e (h v _ Go.ofT i)) (hs bk)
theorem FldAt.put (I : FldAt prog w mu s.heap bk f) (hbk : bk ∈ mu) {name : Str} {t : Tok} {d : D} {v : Value} {Q : Unit → Shared → Prop} (ho : (f name).isSome = true) (im : Imm mu s.heap d v)
    (h : ∀ s', Go [bk] s s' → FldAt prog w mu s'.heap bk (fun y => if y = name then some d else f y) → Q () s') : wpAny (model prog w) A (setItem (.ref bk) (.str name t) v) Q E s := by
  obtain ⟨kvs, dk, l, fs⟩ := I.at_
  obtain ⟨d0, hd0⟩ := Option.isSome_iff_exists.mp ho
  obtain ⟨v0, e0, -⟩ := fs _ _ hd0
  have hs : (valueAt kvs name).isSome = true := by rw [e0]; rfl
  refine wpAny_setItem_pairs (knd := strKind prog w) isStr_self dk (fun h' d' sb => ?_) (by rw [sizeLine_eq]; omega)
  have k : Kp [bk] s.heap h' := .of_same sb (let ⟨o, _, _, e, _⟩ := d'; ⟨o, e⟩)
  have ks : ∀ {d : D} {v : Value}, Imm mu s.heap d v → Imm mu h' d v := fun i => i.kp k fun b q => by rw [List.mem_singleton.mp q]; exact hbk
  have nd : (kvs.map (·.1)).Nodup := by obtain ⟨_, _, _, _, _, _, _, _, nd⟩ := dk; exact nd
  refine h _ (Go.of k) ⟨_, d', by rw [stored_length hs]; exact l, fun a da q => ?_⟩
  by_cases z : a = name
  · rw [if_pos z] at q; cases q
    exact ⟨v, by rw [valueAt_stored nd hs, if_pos z], ks im⟩
  · rw [if_neg z] at q
    obtain ⟨u, e, i⟩ := fs _ _ q
    exact ⟨u, by rw [valueAt_stored nd hs, if_neg z]; exact e, ks i⟩
end
end Mine
end

-- part Lo
section
open PySem PySem.W PyProof.Rows PySem.Calls
set_option maxRecDepth 100000
set_option linter.unusedVariables false
namespace Mine

section
variable {prog : Program} {w : World} {K : Frag} {G : Gd w K} {s₀ s₁ s₂ s : Shared} {own wr mu mu' : List Addr} {env : Env} {m cm : Str → Option Value} {R : Heap → Prop} {A : Around} {E : Value → Shared → Prop}

/-- a for over a range from naught -/
theorem Cx.forRange {target iter : Expr} {body : List Stmt} {pos : Pos} {Q : Flow → Shared → Prop} (_C : Cx G s₀ own wr mu env m cm R s) (hA : A.handled = none)
    (h : wpAny (model prog w) A (eval iter env) (fun xv s₁ => ∃ (m cm : Str → Option Value) (R : Heap → Prop) (n : Nat) (r : Addr) (t u v : Tok), Cx G s₀ own wr mu env m cm R s₁ ∧ xv = .ref r ∧ IsRange s₁.heap r 0 n 1 t u v ∧ n ≤ 1000 ∧
      ∀ I s₂, s₁.heap.get? I = none → Go [] s₁ s₂ → (∃ o, s₂.heap.get? I = some o) → Cx G s₀ own wr (I :: mu) env m cm R s₂ →
        ∃ m cm R Inv, Inv 0 m cm R ∧ Cx G s₀ own wr (I :: mu) env m cm R s₂ ∧ ForPk prog A E G s₀ own wr mu env target body Q n (fun i h v => ∃ t, v = .int i t) I Inv) E s)
    (hs : ∀ x, foldedSetIterable iter env x = pure x := by intro _; rfl) :
    wpAny (model prog w) A (exec (.For target iter body [] pos) env) Q E s := by
  refine wpAny_For (wpAny_mono h (fun xv s₁ z => ?_) fun _ _ e => e) hs
  obtain ⟨m, cm, R, n, r, t, u, v, C₁, rfl, hr, hn, h⟩ := z
  refine wpAny_pyIter_range hr (small_one (by decide) (by decide) (by omega) (by omega)) ?_
  have hsz : Builtin.Range.rangeSize 0 (n : Int) 1 = (n : Int) := by rw [rangeSize_nat]; omega
  rw [hsz]
  have hI1 : s₁.heap.get? s₁.heap.objs.size = none := size_none _
  have hIm : s₁.heap.objs.size ∉ mu := C₁.al.new
  have g : Go [] s₁ { s₁ with heap := s₁.heap.push { cls := .type "range_iterator", data := .fields #[rawInt 0, rawInt (n : Int), rawInt 1] } } := Go.ofH (Kp.push _)
  have hit : (s₁.heap.push { cls := .type "range_iterator", data := .fields #[rawInt 0, rawInt (n : Int), rawInt 1] }).get? s₁.heap.objs.size = some { cls := .type "range_iterator", data := .fields #[rawInt 0, rawInt (n : Int), rawInt 1] } := Heap.get?_push_size _ rfl
  have W := Walks.range (prog := prog) (w := w) hA s₁.heap.objs.size 0 1 n
  have C₂ := (C₁.go g).muMore ⟨_, hit⟩
  obtain ⟨m', cm', R', Inv, hi, C', pk⟩ := h _ _ hI1 g ⟨_, hit⟩ C₂
  have hI0 : s₀.heap.get? s₁.heap.objs.size = none := by
    cases e : s₀.heap.get? s₁.heap.objs.size with
    | none => rfl
    | some o => obtain ⟨o', e'⟩ := C₁.kp.there ⟨o, e⟩; rw [hI1] at e'; cases e'
  refine forCore (X := fun _ => True) (R' := fun r s' => match r with | .ok f => Q f s' | .error e => cameBackBy (model prog w) A env E e s') W (fun b hb => by rw [List.mem_singleton.mp hb]; exact hIm) (fun i h x => ⟨_, x⟩) (fun _ _ _ _ x _ => x) (fun i v h hp _ => ?_) C₁.wrmu C₁.ownmu C₁.cmu hI0 (fun q => ?_) (fun n c q z => hIm (z ▸ C₁.cmu n c q)) pk (by simpa using hit) trivial hi C' (fun _ _ q => q) (fun i v s Q E hS q => letOwned_ hS rfl (by decide) q)
  · obtain ⟨t, e⟩ := hp
    exact ⟨t, by rw [e]; congr 1; omega⟩
  · obtain ⟨o, _, _, e, _⟩ := C₁.ns
    rw [q, hI1] at e; cases e

/-- list(range(n)) -/
theorem list_rangeN {n : Nat} {t : Tok} {Q : Value → Shared → Prop} (hA : A.handled = none) (al : Al mu s.heap) (hn : n ≤ 1000) (h : ∀ u s', Go [] s s' → Imm mu s'.heap (.lst (intD ((List.range n).map fun (i : Nat) => (i : Int)))) u → Q u s') :
    wpAny (model prog w) A (call (.type "range") [.int n t]) (fun r s' => wpAny (model prog w) A (call (.type "list") [r]) Q E s') E s := by
  refine call_range_1 ?_
  refine call_list_range (a := 0) (b := n) (c := 1) hA (IsRange.new _ _ _ _ _ _ _) (small_one (by decide) (by decide) (by omega) (by omega)) (by rw [rangeSize_nat]) (by omega) fun h' tk acc c' hk hS hacc => ?_
  have k : ∀ b o, s.heap.get? b = some o → h'.get? b = some o := fun b o e => hk b o (Heap.get?_push_of_some _ e)
  refine h _ _ (Go.of (.nil k)) (Imm.lst_iff.mpr ⟨_, c', acc.toList, rfl, ?_, by simpa using hS, ImmL.ints_of ?_⟩)
  · exact al.notin (by
      cases q : s.heap.get? (s.heap.push { cls := .type "range", data := .fields #[.int 0 s.toks, .int n t, .int 1 (s.toks + 1)] }).objs.size with
      | none => rfl
      | some o => exact absurd (Heap.lt_size (Heap.get?_push_of_some _ q)) (Nat.lt_irrefl _))
  · have key : ∀ (ys : List Value) (k : Nat), (∀ (j : Nat) (v : Value), ys[j]? = some v → ∃ t, v = Value.int ((k + j : Nat) : Int) t) → IntsAre ys ((List.range' k ys.length).map fun (i : Nat) => (i : Int)) := by
      intro ys
      induction ys with
      | nil => intro k _; exact .nil
      | cons y r ih =>
        intro k hy
        obtain ⟨t, e⟩ := hy 0 y rfl
        subst e
        rw [List.length_cons, List.range'_succ, List.map_cons]
        exact .cons _ _ (ih (k + 1) fun j v hj => by
          obtain ⟨t, e⟩ := hy (j + 1) v (by simpa using hj)
          exact ⟨t, by rw [e]; congr 2; omega⟩)
    have e := key acc.toList 0 fun j v hj => by
      obtain ⟨t, e⟩ := hacc.2 j v (by rw [← Array.getElem?_toList]; exact hj)
      exact ⟨t, by rw [e]; congr 1; omega⟩
    rw [Array.length_toList, hacc.1] at e
    rw [List.range_eq_range']
    exact e
end
end Mine
end

-- part Lp
section
open PySem PySem.W PyProof.Rows PySem.Calls
set_option maxRecDepth 100000
set_option linter.unusedVariables false
namespace Mine

section
variable {prog : Program} {w : World} {K : Frag} {G : Gd w K} {s₀ s₁ s₂ s : Shared} {own wr mu mu' : List Addr} {env : Env} {m cm : Str → Option Value} {R : Heap → Prop} {A : Around} {E : Value → Shared → Prop}

/-- the value of a comprehension over a dict of packets -/
theorem Cx.compSent {elt target iter : Expr} {ifs : List Expr} {scope : Scope} {cl : List (Str × Addr)} {pos : Pos} {Q : Value → Shared → Prop} (_C : Cx G s₀ own wr mu env m cm R s)
    (hA : A.handled = none)
    (hcell : ∀ y ∈ scope.names, y.2 ≠ .cell) (hkind : scope.kind = .function) (hnames : ∀ y ∈ scope.names, y.2 = .local → scope.names.lookup y.1 = some .local)
    (hclos : closureFor scope env = pure cl) (hsub : ∀ n c, cl.lookup n = some c → env.cells.lookup n = some c) (hap : cl.Pairwise fun x y => x.2 ≠ y.2) (hin : ∀ n c, (n, c) ∈ cl → (n, c) ∈ env.cells)
    (h : wpAny (model prog w) A (eval iter env) (fun xv s₁ => ∃ (R : Heap → Prop) (sx : Addr) (ns : List Int) (TB : List Addr → Heap → D → (Str → Option Value) → Prop) (p : D → Bool) (f : D → D), Cx G s₀ own wr mu env m cm R s₁ ∧ xv = .ref sx ∧ SentAt prog w mu s₁.heap sx ns ∧ ns.length ≤ 1000 ∧
      CompPk prog A G s₁ mu env cm R scope cl target elt ifs (intD ns) TB p f ∧
      ∀ acc s', Cx G s₀ own wr mu env m cm (fun h => R h ∧ Imm mu h (.lst (((intD ns).filter p).map f)) acc) s' → Q acc s') E s)
    (hs : ∀ x, foldedSetIterable iter env x = pure x := by intro _; rfl) :
    wpAny (model prog w) A (eval (.ListComp elt [⟨target, iter, ifs, 0⟩] scope pos) env) Q E s := by
  show wpAny (model prog w) A (comprehension (.ListComp elt [⟨target, iter, ifs, 0⟩] scope pos) scope env iter.pos (PySem.newList []) false (eval iter env) none) Q E s
  refine wpAny_comprehension_free (g := ⟨target, iter, ifs, 0⟩) (gs := []) rfl hs hclos hkind hnames (wpAny_mono h (fun xv s₁ h₁ => ?_) fun _ _ e => e)
  obtain ⟨R, sx, ns, TB, p, f, C₁, rfl, T, hl, pk, hQ⟩ := h₁
  obtain ⟨kvs, d, e, -⟩ := T.at_
  obtain ⟨ep, hat⟩ := d.dictAt
  have el : kvs.length = ns.length := by rw [← e, List.length_map]
  have hlt := hat.lt_size
  refine wpAny_pyIter_dict T.lo hat ?_
  have W := Walks.dictKeys (prog := prog) (w := w) (knd := intKind prog w) hA s₁.heap.objs.size sx (Nat.ne_of_lt hlt) kvs ep
  have hds : kvs.length = (intD ns).length := by rw [el, intD, List.length_map]
  have hIt : (s₁.heap.push { cls := .type "dict_keyiterator", data := .fields #[.ref sx, .int 0 0, .int kvs.length 0, .int ep 0] }).IsKeyIter s₁.heap.objs.size sx 0 kvs.length ep := ⟨_, Heap.get?_push_size _ rfl, rfl, rfl⟩
  have hat' := hat.push { cls := .type "dict_keyiterator", data := .fields #[.ref sx, .int 0 0, .int kvs.length 0, .int ep 0] }
  rw [hds] at W
  refine compCore (RR := fun acc C => compPost (model prog w) A E none Q acc C) C₁ (Go.ofH (Kp.push _)) W ⟨hds ▸ hIt, hat'⟩ (fun b hb => ?_) (fun b hb => by rw [List.mem_singleton.mp hb]; exact size_none _) (fun i h hS => ?_) (by rw [intD, List.length_map]; exact hl) hcell hkind hsub hap hin (fun i v hv => ?_) pk (fun acc C s' hC hm g F => ?_) (fun i v s Q E hS q => let ⟨o, e, c, _⟩ := hS.1; letOwned_ e c (by decide) q)
  · rcases List.mem_cons.mp hb with rfl | hb
    · rw [Heap.size_push]; exact Nat.lt_succ_self _
    · rw [List.mem_singleton.mp hb, Heap.size_push]; exact Nat.lt_succ_of_lt hlt
  · intro b hb
    rw [List.mem_singleton.mp hb]
    obtain ⟨o, e, _⟩ := hS.1
    exact ⟨o, e⟩
  · obtain ⟨k, x, e1, e2⟩ := hv
    obtain ⟨t, rfl⟩ := Value.isInt_shape e2
    exact ⟨.int k, by simp [intD, ← e, e1], .int⟩
  · obtain ⟨mC, hn⟩ := hm
    refine ⟨mC, hn, fun h'' hs'' => hQ _ _ ?_⟩
    have k' : Kp [] s₁.heap h'' := .nil fun b o e => (hs''.2 b (fun q => by rw [q, hC] at e; cases e)).trans (g.kp.all b o e)
    have gg : Go [] s₁ { s' with heap := h'' } := ⟨SameS.trans g.same ⟨h'', s'.toks, rfl⟩, k'⟩
    exact (C₁.go gg).know (F h'' k'.any fun b o n e => (hs''.2 b fun q => n (q ▸ List.mem_cons_self)).trans e) (fun _ _ x k => ⟨C₁.stb _ _ x.1 k, x.2.kp k C₁.wrmu⟩)
end
end Mine
end

-- part Lq
section
open PySem PySem.W PyProof.Rows PySem.Calls
set_option maxRecDepth 100000
set_option linter.unusedVariables false
namespace Mine

section
variable {prog : Program} {w : World} {K : Frag} {G : Gd w K} {s₀ s₁ s₂ s : Shared} {own wr mu mu' : List Addr} {env : Env} {m cm : Str → Option Value} {R : Heap → Prop} {A : Around} {E : Value → Shared → Prop}

/-- t1, t2, t3 = e1, e2, e3 where the targets are no three local names -/
theorem Cx.setThree {T₁ T₂ T₃ e₁ e₂ e₃ : Expr} {tp pos kp : Pos} {k k' : Nat} {Q : Flow → Shared → Prop} (_C : Cx G s₀ own wr mu' env m cm R s) (hA : A.handled = none)
    (h : wpAny (model prog w) A (eval e₁ env) (fun v₁ s₁ => wpAny (model prog w) A (eval e₂ env) (fun v₂ s₂ => wpAny (model prog w) A (eval e₃ env) (fun v₃ s₃ => ∃ mu m cm R, Cx G s₀ own wr mu env m cm R s₃ ∧
      ∀ s', Cx G s₀ own wr mu env m cm R s' → wpAny (model prog w) A (assign T₁ env v₁) (fun _ s => wpAny (model prog w) A (assign T₂ env v₂) (fun _ s => wpAny (model prog w) A (assign T₃ env v₃) (fun _ => Q .next) E s) E s) E s') E s₂) E s₁) E s)
    (he₁ : starEach [e₁, e₂, e₃] env = (false, eval e₁ env) :: starEach [e₂, e₃] env := by rfl) (he₂ : starEach [e₂, e₃] env = (false, eval e₂ env) :: starEach [e₃] env := by rfl) (he₃ : starEach [e₃] env = (false, eval e₃ env) :: starEach [] env := by rfl)
    (ha : assignEach [T₁, T₂, T₃] env = [(false, assign T₁ env), (false, assign T₂ env), (false, assign T₃ env)] := by rfl)
    (hs : swapsWithSole [.Tuple [T₁, T₂, T₃] k tp] (.Tuple [e₁, e₂, e₃] k' kp) pos.line env = pure false := by rfl) (hw : swappedStores [.Tuple [T₁, T₂, T₃] k tp] (.Tuple [e₁, e₂, e₃] k' kp) env = pure none := by rfl) :
    wpAny (model prog w) A (exec (.Assign [.Tuple [T₁, T₂, T₃] k tp] (.Tuple [e₁, e₂, e₃] k' kp) pos) env) Q E s := by
  refine Assign_Tuple (Tuple_ (wpAny_items_cons (wpAny_mono h (fun v₁ s₁ h₁ => wpAny_items_cons (wpAny_mono h₁ (fun v₂ s₂ h₂ => wpAny_items_cons (wpAny_mono h₂ (fun v₃ s₃ h₃ => ?_) (fun _ _ z => z)) he₃) (fun _ _ z => z)) he₂) (fun _ _ z => z)) he₁)) hs hw
  obtain ⟨mu, m, cm, R, C, hQ⟩ := h₃
  refine wpAny_items_nil (C.newTuple (ds := [.raw v₁, .raw v₂, .raw v₃]) (.cons .raw (.cons .raw (.cons .raw .nil))) (Nat.le_add_left _ _) fun tv s₃ C₃ => ?_)
  obtain ⟨t, n, vs, rfl, _, ht, il⟩ := Imm.tup_iff.mp C₃.r.2
  obtain ⟨u1, r1, rfl, i1, il⟩ := ImmL.cons_iff.mp il
  obtain ⟨u2, r2, rfl, i2, il⟩ := ImmL.cons_iff.mp il
  obtain ⟨u3, r3, rfl, i3, il⟩ := ImmL.cons_iff.mp il
  rw [ImmL.nil_iff] at il; subst il
  rw [Imm.raw_iff] at i1 i2 i3; subst i1; subst i2; subst i3
  refine wpAny_assign_Tuple hA (items := #[u1, u2, u3]) ⟨_, ht, rfl, n, rfl⟩ (by rw [ha]; rfl) (by rw [ha]; rfl) fun h₁ he₁ => ?_
  rw [ha]
  have C₄ := C₃.go (Go.ofH (Kp.freshE he₁ (size_none _)))
  exact wpAny_assignInOrder_more (wpAny_mono (hQ _ (C₄.know C₄.r.1 C.stb)) (fun _ s z => wpAny_assignInOrder_more (wpAny_mono z (fun _ s z => wpAny_assignInOrder_more (wpAny_mono z (fun _ s z => wpAny_assignInOrder_none z) fun _ _ e => e)) fun _ _ e => e)) fun _ _ e => e)

/-- a number is in a list of numbers -/
theorem in_ints {ns : List Int} {n : Int} {t : Tok} {v : Value} {Q : Value → Shared → Prop} (x : Imm mu s.heap (.lst (intD ns)) v) (h : Q (.bool (decide (n ∈ ns))) s) : wpAny (model prog w) A (compareOp .In (.int n t) v) Q E s := by
  obtain ⟨l, k, vs, rfl, _, e, il⟩ := Imm.lst_iff.mp x
  refine PySem.SeqRoads2.in_list (items := vs.toArray) (fun y => match y with | .int a _ => a == n | _ => false) ?_ e ?_
  · intro y hy
    obtain ⟨i, hi⟩ := List.mem_iff_getElem?.mp (by simpa using hy : y ∈ vs)
    obtain ⟨d, hd, im⟩ := il.getV hi
    simp only [intD, List.getElem?_map, Option.map_eq_some_iff] at hd
    obtain ⟨a, ha, rfl⟩ := hd
    obtain ⟨ta, rfl⟩ := Imm.int_iff.mp im
    exact MeetsSeq.EqGives.int _ _ _ _
  · have key : ∀ {ns : List Int} {vs : List Value}, IntsAre vs ns → (vs.any fun y => match y with | .int a _ => a == n | _ => false) = decide (n ∈ ns) := by
      intro ns vs hI
      induction hI with
      | nil => simp
      | cons a t _ ih =>
        have e : (a == n) = decide (n = a) := by
          by_cases q : n = a
          · subst q; simp
          · have q' : ¬a = n := fun z => q z.symm
            simp [q, q']
        rw [List.any_cons, ih]
        simp [e]
    have e1 := key il.ints_are
    rw [List.any_toArray, e1]; exact h
end
end Mine
end

-- part Lr
section
open PySem PySem.W PyProof.Rows PySem.Calls
set_option maxRecDepth 100000
set_option linter.unusedVariables false
namespace Mine

section
variable {prog : Program} {w : World} {K : Frag} {G : Gd w K} {s₀ s₁ s₂ s s' : Shared} {own wr mu mu' : List Addr} {env : Env} {m cm : Str → Option Value} {R : Heap → Prop} {A : Around} {E : Value → Shared → Prop}

/-- something that did not stand when the def was entered has turned -/
theorem Cx.turnN (C : Cx G s₀ own wr mu env m cm R s) {V : List Addr} {P : Heap → Prop} (g : Go V s s') (hn : ∀ b ∈ V, s₀.heap.get? b = none) (hL : env.locals ∉ V) (hc : ∀ n c, (n, c) ∈ env.cells → c ∉ V) (p : P s'.heap) (stb : ∀ h h', P h → Kp wr h h' → P h') :
    Cx G s₀ own wr mu env m cm P s' :=
  { ok := C.ok, on0 := C.on0, ownOff := C.ownOff, wrNew := C.wrNew, wrmu := C.wrmu, ownmu := C.ownmu
    same := (Go.trans (W := V ++ own) (C.go0.mono fun _ q => List.mem_append.mpr (.inr q)) (g.mono fun b q => List.mem_append.mpr (.inl q))).same
    kp := ((C.kp.mono fun _ q => List.mem_append.mpr (.inr q)).trans (g.kp.mono fun b q => List.mem_append.mpr (.inl q)) : Kp (V ++ own) s₀.heap s'.heap).fresh hn
    ns := let ⟨o, es, ep, e, r⟩ := C.ns; ⟨o, es, ep, g.kp.keep _ _ hL e, r⟩
    cells := fun n c e => let ⟨o, ho, hd⟩ := C.cells n c e; ⟨o, g.kp.keep _ _ (hc n c (mem_of_lookup e)) ho, hd⟩
    apart := C.apart, cne := C.cne, cmu := C.cmu, al := C.al.kp g.kp, r := p, stb := stb }
/-- more things that may turn -/
theorem Cx.muMoreL (C : Cx G s₀ own wr mu env m cm R s) {V : List Addr} (e : ∀ b ∈ V, ∃ o, s.heap.get? b = some o) : Cx G s₀ own wr (V ++ mu) env m cm R s :=
  { C with cmu := fun n c q => List.mem_append.mpr (.inr (C.cmu n c q)), wrmu := fun b q => List.mem_append.mpr (.inr (C.wrmu b q)), ownmu := fun b q => List.mem_append.mpr (.inr (C.ownmu b q)), al := Al.append e C.al }

/-- a comprehension whose elements are new things: what is known of the values so far (`J`) -/
structure CompPkV (prog : Program) (A : Around) (G : Gd w K) (s₁ : Shared) (mu : List Addr) (env : Env) (cm : Str → Option Value) (R : Heap → Prop) (scope : Scope) (cl : List (Str × Addr)) (elt : Expr) (n : Nat)
    (J : List Addr → Nat → List Value → Heap → Prop) : Prop where
  jin : ∀ mu' h, J mu' 0 [] h
  jstb : ∀ mu' i vs h h', J mu' i vs h → (∀ b o, b ∉ mu' → h.get? b = some o → h'.get? b = some o) → J mu' i vs h'
  jless : ∀ mu' i vs h, (∀ b ∈ mu, b ∈ mu') → J mu' i vs h → J mu i vs h
  jlen : ∀ mu' i vs h, J mu' i vs h → vs.length = i
  jnew : ∀ mu' i vs h, J mu' i vs h → True
  elt : ∀ C mu' mC s i vs, i < n → Cx G s [] [] mu' (compEnvC scope cl C env) mC cm R s → J mu' i vs s.heap →
    wpAny (model prog w) A (eval elt (compEnvC scope cl C env)) (fun y s' => Go [] s s' ∧ J mu' (i + 1) (vs ++ [y]) s'.heap) (fun _ _ => False) s

theorem compCoreV {x : Str} {px : Pos} {elt iter : Expr} {scope : Scope} {cl : List (Str × Addr)} {pos : Pos} {I : Addr} {fp wri : List Addr} {P : Nat → Value → Prop} {St : Nat → Heap → Prop} {n : Nat}
    {J : List Addr → Nat → List Value → Heap → Prop} {RR : Value → Addr → Result → Shared → Prop}
    (C₁ : Cx G s₀ own wr mu env m cm R s₁) (g : Go [] s₁ s₂)
    (W : Walks prog w A I fp wri n P St) (hst : St 0 s₂.heap) (hfp : ∀ b ∈ fp, b < s₂.heap.objs.size) (hwri : ∀ b ∈ wri, s₁.heap.get? b = none) (hal : ∀ i h, St i h → Al wri h)
    (hsz : n ≤ 1000) (hcell : ∀ y ∈ scope.names, y.2 ≠ .cell) (hkind : scope.kind = .function)
    (hsub : ∀ n c, cl.lookup n = some c → env.cells.lookup n = some c) (hap : cl.Pairwise fun x y => x.2 ≠ y.2) (hin : ∀ n c, (n, c) ∈ cl → (n, c) ∈ env.cells)
    (hx : ∀ C, (compEnvC scope cl C env).kindOf x = some .local)
    (pk : CompPkV prog A G s₁ mu env cm R scope cl elt n J)
    (hR : ∀ D vs C s', s₁.heap.get? C = none → s₁.heap.get? D = none → (∃ mC, s'.heap.Ns C mC) → Go [] s₁ s' → (∀ h'', Kp wr s₁.heap h'' → (∀ b o, b ∉ C :: wr → s'.heap.get? b = some o → h''.get? b = some o) → R h'' ∧ J mu n vs h'' ∧ h''.PlainList D vs.toArray) → RR (.ref D) C (.ok .next) s')
    (ht : ∀ i v (s : Shared) (Q : Unit → Shared → Prop) (E : Value → Shared → Prop), St i s.heap → Q () s → wpAny (model prog w) A (letOwnedTupleGo (.Name x px) (.ref I) v) Q E s) :
    wpAny (model prog w) A (newList []) (fun acc s₃ => wpAny (model prog w) A (newFunctionEnv scope env.globals cl [] env.qual none .none (some env)) (fun cenv s₄ =>
      codeAny (model prog w) A (.compStart (.ListComp elt [⟨.Name x px, iter, [], 0⟩] scope pos) 0 (.ref I) acc { cenv with scope := relabel scope env }) (RR acc cenv.locals) s₄) E s₃) E s₂ := by
  refine wpAny_newObj_type (hd := by size_fits) (wpAny_newFunctionEnv hcell (by intro y hy; simp at hy) (fun h₁ hns₁ hsb₁ => ?_) hkind)
  dsimp only at hns₁ hsb₁ ⊢
  generalize hD : s₂.heap.objs.size = D at hns₁ hsb₁ ⊢
  generalize hH2 : s₂.heap.push { cls := .type "list", dict := none, data := .seq ([] : List Value).toArray } = H2 at hns₁ hsb₁ ⊢
  have hC : H2.objs.size = D + 1 := by rw [← hH2, Heap.size_push, hD]
  generalize hCC : H2.objs.size = C at hns₁ hsb₁ hC ⊢
  have hDC : D ≠ C := by omega
  have D2 : s₂.heap.get? D = none := hD ▸ size_none _
  have C2 : s₂.heap.get? C = none := ge_none (by omega)
  have D1 : s₁.heap.get? D = none := by
    cases e : s₁.heap.get? D with
    | none => rfl
    | some o => rw [g.kp.all _ _ e] at D2; cases D2
  have C1 : s₁.heap.get? C = none := by
    cases e : s₁.heap.get? C with
    | none => rfl
    | some o => rw [g.kp.all _ _ e] at C2; cases C2
  have ltD : ∀ b : Nat, @LT.lt Nat _ b s₂.heap.objs.size → b ≠ D ∧ b ≠ C := fun b hb => ⟨Nat.ne_of_lt (hD ▸ hb), Nat.ne_of_lt (hC ▸ Nat.lt_succ_of_lt (hD ▸ hb))⟩
  have hDf : D ∉ fp := fun q => (ltD _ (hfp _ q)).1 rfl
  have hCf : C ∉ fp := fun q => (ltD _ (hfp _ q)).2 rfl
  have old : ∀ b o, s₂.heap.get? b = some o → h₁.get? b = some o := fun b o e => hsb₁.extBut b o (ltD b (Heap.lt_size e)).2 (Heap.get?_push_of_some _ (hH2 ▸ Heap.get?_push_of_some _ e))
  have hacc : h₁.PlainList D #[] := ⟨_, hsb₁.extBut _ _ hDC (Heap.get?_push_of_some _ (by rw [← hH2, ← hD]; exact Heap.get?_push_size _ rfl))⟩
  have hst₁ : St 0 h₁ := W.frame _ _ _ hst fun b _ o e => old b o e
  obtain ⟨hh2, tk2, e2⟩ := g.same
  generalize hmu : C :: D :: (wri ++ mu) = mu'
  have mC_ : C ∈ mu' := by rw [← hmu]; exact List.mem_cons_self
  have mD_ : D ∈ mu' := by rw [← hmu]; exact List.mem_cons_of_mem _ List.mem_cons_self
  have mw_ : ∀ b ∈ wri, b ∈ mu' := fun b hb => by rw [← hmu]; exact List.mem_cons_of_mem _ (List.mem_cons_of_mem _ (List.mem_append.mpr (.inl hb)))
  have mm_ : ∀ b ∈ mu, b ∈ mu' := fun b hb => by rw [← hmu]; exact List.mem_cons_of_mem _ (List.mem_cons_of_mem _ (List.mem_append.mpr (.inr hb)))
  have news : ∀ b o, s₁.heap.get? b = some o → b ≠ C ∧ b ≠ D ∧ b ∉ wri := fun b o e => ⟨fun q => (by rw [q, C1] at e; cases e), fun q => (by rw [q, D1] at e; cases e), fun q => (by rw [hwri b q] at e; cases e)⟩
  have mkIn : ∀ (mC : Str → Option Value) (s : Shared), (∃ h tk, s = { s₁ with heap := h, toks := tk }) → (∀ b o, s₁.heap.get? b = some o → s.heap.get? b = some o) → s.heap.Ns C mC → Al mu' s.heap →
      Cx G s [] [] mu' (compEnvC scope cl C env) mC cm R s := fun mC s hs hk hn ha =>
    { ok := ⟨hkind, C₁.ok.gl, C₁.ok.bl⟩, on0 := fun b o e => hk b o (C₁.on b o e), ownOff := .nil, wrNew := fun _ q => (nomatch q), wrmu := fun _ q => (nomatch q), ownmu := fun _ q => (nomatch q)
      same := ⟨_, _, rfl⟩, kp := Kp.rfl', ns := hn
      cells := fun n c e => (C₁.cells n c (hsub n c e)).keeps hk
      apart := hap
      cne := fun n c q e => by
        obtain ⟨o, e1⟩ := C₁.al c (C₁.cmu n c (hin n c q))
        rw [← e] at e1
        rw [show (compEnvC scope cl C env).locals = C from rfl, C1] at e1; cases e1
      cmu := fun n c q => mm_ c (C₁.cmu n c (hin n c q))
      al := ha
      r := C₁.stb _ _ C₁.r (Kp.nil hk).any
      stb := fun h h' r k => C₁.stb _ _ r k.any }
  have hrel : ∀ b o, s₁.heap.get? b = some o → h₁.get? b = some o := fun b o e => old b o (g.kp.all b o e)
  have loop : ∀ s₃ : Shared, s₃ = { s₂ with heap := h₁, toks := s₂.toks + ([] : List (Str × Value)).length } →
      codeAny (model prog w) A (.compLoop (.ListComp elt [⟨.Name x px, iter, [], 0⟩] scope pos) 0 (.ref I) (.ref D) (compEnvC scope cl C env)) (RR (.ref D) C) s₃ := by
    rintro s₃ e3
    refine compTurns
      (fun k s' => ∃ (i : Nat) (vs : List Value) (mC : Str → Option Value), k = n + 1 - i ∧ i ≤ n ∧ (∃ h tk, s' = { s₁ with heap := h, toks := tk }) ∧ St i s'.heap ∧ s'.heap.PlainList D vs.toArray ∧
        J mu' i vs s'.heap ∧ s'.heap.Ns C mC ∧ (∀ b o, s₁.heap.get? b = some o → s'.heap.get? b = some o)) ?_ (n + 1)
      ⟨0, [], _, rfl, Nat.zero_le _, ⟨h₁, s₂.toks + 0, by rw [e3, e2]; rfl⟩, by rw [e3]; exact hst₁, by rw [e3]; exact hacc, pk.jin _ _, by rw [e3]; exact hns₁, by rw [e3]; exact hrel⟩
    rintro k s' ⟨i, vs, mC, rfl, hi, hs, hst', hpl, him, hn, hk⟩
    have alive : ∀ h : Heap, (∀ b o, s₁.heap.get? b = some o → h.get? b = some o) → St i h ∨ St (i + 1) h → (∃ o, h.get? D = some o) → (∃ o, h.get? C = some o) → Al mu' h := fun h hk hS hd hc => by
      rw [← hmu]
      exact Al.cons hc (Al.cons hd (Al.append (hS.elim (hal _ _) (hal _ _)) fun b hb => let ⟨o, e⟩ := C₁.al b hb; ⟨o, hk _ _ e⟩))
    have hCw : C ∉ wri := fun q => hCf (W.sub _ q)
    have hDw : D ∉ wri := fun q => hDf (W.sub _ q)
    by_cases hlt : i < n
    · refine W.item i _ _ _ hlt hst' fun v h2 tk2 hPv hst2 hk2 => ?_
      have hk2' : ∀ b o, s₁.heap.get? b = some o → h2.get? b = some o := fun b o e => hk2 b o (news b o e).2.2 (hk b o e)
      have hn2 : h2.Ns C mC := hn.at' fun o e => hk2 _ o hCw e
      have hpl2 : h2.PlainList D vs.toArray := hpl.at fun o e => hk2 _ o hDw e
      have him2 := pk.jstb _ _ _ _ h2 him fun b o n e => hk2 b o (fun q => n (mw_ b q)) e
      have al2 : Al mu' h2 := alive h2 hk2' (.inr hst2) (let ⟨_, e⟩ := hpl2; ⟨_, e⟩) (let ⟨o, _, _, e, _⟩ := hn2; ⟨o, e⟩)
      have hs2 : SameS s₁ { s' with heap := h2, toks := tk2 } := SameS.trans hs ⟨h2, tk2, rfl⟩
      refine ht (i + 1) v _ _ _ hst2 ?_
      have Cb := mkIn mC _ hs2 hk2' hn2 al2
      refine wpAny_assign_Name (wpAny_storeName_local (hx C) Cb.ns (fun h3 hn3 hs3' => ?_) (notLocals Cb.ok))
      have k3 : Kp [C] h2 h3 := .of_same hs3' (let ⟨o, _, _, e, _⟩ := hn3; ⟨o, e⟩)
      generalize hmC3 : (fun y => if y = x then some v else mC y) = mC3 at hn3
      have nC : ∀ b : Addr, b ≠ C → b ∉ [C] := fun b n q => n (List.mem_singleton.mp q)
      have hk3 : ∀ b o, s₁.heap.get? b = some o → h3.get? b = some o := fun b o e => k3.keep b o (nC b (news b o e).1) (hk2' b o e)
      have hst3 : St (i + 1) h3 := W.frame _ _ _ hst2 fun b hb o e => k3.keep b o (nC b fun q => hCf (q ▸ hb)) e
      have hpl3 : h3.PlainList D vs.toArray := hpl2.at fun o e => k3.keep _ o (nC _ hDC) e
      have him3 := pk.jstb _ _ _ _ h3 him2 fun b o n e => k3.keep b o (nC b fun q => n (q ▸ mC_)) e
      have al3 : Al mu' h3 := al2.kp k3
      have hs3 : SameS s₁ { s' with heap := h3, toks := tk2 + 1 } := SameS.trans hs2 ⟨h3, tk2 + 1, rfl⟩
      refine wpAny_tests_nil ?_
      simp only [if_true]
      refine wpAny_mono (pk.elt C mu' mC3 { s' with heap := h3, toks := tk2 + 1 } i vs hlt (mkIn mC3 _ hs3 hk3 hn3 al3) him3) (fun y s5 z => ?_) (fun _ _ z => z.elim)
      obtain ⟨g5, iy⟩ := z
      have hlen : vs.toArray.size ≤ sizeLine := by
        have e1 := pk.jlen _ _ _ _ him
        rw [List.size_toArray, sizeLine_eq, e1]
        omega
      refine wpAny_list_append_plain (hsz := hlen) (hpl3.at fun o e => g5.kp.all _ o e) fun h6 hl6 hs6 => ?_
      have k6 : ∀ b o, b ≠ D → s5.heap.get? b = some o → h6.get? b = some o := fun b o n e => hs6.extBut b o n e
      have im6 := pk.jstb _ _ _ _ h6 iy fun b o n e => k6 b o (fun q => n (q ▸ mD_)) e
      exact ⟨n + 1 - (i + 1), by omega, i + 1, vs ++ [y], mC3, rfl, hlt, SameS.trans (SameS.trans hs3 g5.same) ⟨h6, s5.toks, rfl⟩,
        W.frame _ _ _ hst3 (fun b hb o e => k6 b o (fun q => hDf (q ▸ hb)) (g5.kp.all b o e)), by simpa using hl6,
        im6, (hn3.keeps g5.kp.all).sameBut hs6 (Ne.symm hDC), fun b o e => k6 b o (news b o e).2.1 (g5.kp.all b o (hk3 b o e))⟩
    · have hin : i = n := by omega
      refine W.done _ _ _ (hin ▸ hst') fun hE tkE hkE => ?_
      have kE : ∀ b o, s₁.heap.get? b = some o → hE.get? b = some o := fun b o e => hkE b o (news b o e).2.2 (hk b o e)
      have gE : Go [] s₁ { s' with heap := hE, toks := tkE } := ⟨SameS.trans hs ⟨hE, tkE, rfl⟩, .nil kE⟩
      refine hR D vs C _ C1 D1 ⟨mC, hn.at' fun o e => hkE _ o hCw e⟩ gE fun h'' kw k'' => ?_
      have nCw : ∀ b : Addr, b ∉ mu' → b ∉ C :: wr := fun b n q => (List.mem_cons.mp q).elim (fun q => n (q ▸ mC_)) fun q => n (mm_ b (C₁.wrmu b q))
      have Dw : D ∉ C :: wr := fun q => (List.mem_cons.mp q).elim hDC fun q => C₁.al.notin D1 (C₁.wrmu _ q)
      refine ⟨C₁.stb _ _ C₁.r kw, pk.jless mu' _ _ _ mm_ (pk.jstb _ _ _ _ _ (hin ▸ him) fun b o n e => k'' b o (nCw b n) (hkE b o (fun q => n (mw_ b q)) e)), hpl.at fun o e => k'' _ _ Dw (hkE _ _ hDw e)⟩
  exact codeAny_compStart_list (loop _ rfl) (W.self 0 _ _ _ hst₁ (loop _ rfl))

/-- the value of such a comprehension stored under a name -/
theorem Cx.compStV {x : Str} {px : Pos} {elt iter : Expr} {scope : Scope} {cl : List (Str × Addr)} {pos spos py : Pos} {y : Str} {Q : Flow → Shared → Prop} (_C : Cx G s₀ own wr mu env m cm R s)
    (hA : A.handled = none) (hw : env.locals ∈ wr) (hy : env.kindOf y = some .local)
    (hsw : swapsWith (.ListComp elt [⟨.Name x px, iter, [], 0⟩] scope pos) (some (.Name y py)) spos.line env = pure true)
    (hcell : ∀ y ∈ scope.names, y.2 ≠ .cell) (hkind : scope.kind = .function) (hnames : ∀ y ∈ scope.names, y.2 = .local → scope.names.lookup y.1 = some .local)
    (hclos : closureFor scope env = pure cl) (hsub : ∀ n c, cl.lookup n = some c → env.cells.lookup n = some c) (hap : cl.Pairwise fun x y => x.2 ≠ y.2) (hin : ∀ n c, (n, c) ∈ cl → (n, c) ∈ env.cells)
    (hx : ∀ C, (compEnvC scope cl C env).kindOf x = some .local)
    (h : wpAny (model prog w) A (eval iter env) (fun xv s₁ => ∃ R ds J, Cx G s₀ own wr mu env m cm R s₁ ∧ Imm mu s₁.heap (.lst ds) xv ∧ ds.length ≤ 1000 ∧ CompPkV prog A G s₁ mu env cm R scope cl elt ds.length J ∧
      ∀ D vs s', Go wr s₁ s' → s₁.heap.get? D = none → J mu ds.length vs s'.heap → s'.heap.PlainList D vs.toArray → Cx G s₀ own wr mu env (fun z => if z = y then some (.ref D) else m z) cm R s' → Q .next s') E s)
    (hs : ∀ x, foldedSetIterable iter env x = pure x := by intro _; rfl) :
    wpAny (model prog w) A (exec (.Assign [.Name y py] (.ListComp elt [⟨.Name x px, iter, [], 0⟩] scope pos) spos) env) Q E s := by
  rw [exec_Assign_Name_used _ _ _ _ hsw]
  refine wpAny_bind (wpAny_standAt (wpAny_bind ?_))
  show wpAny _ A (do let _ ← comprehension (.ListComp elt [⟨.Name x px, iter, [], 0⟩] scope pos) scope env iter.pos (PySem.newList []) false (eval iter env) (some (assign (.Name y py) env))) _ _ s
  refine wpAny_bind (wpAny_mono (wpAny_comprehension_free (Q := fun _ s' => Q .next s') (g := ⟨.Name x px, iter, [], 0⟩) (gs := []) rfl hs hclos hkind hnames (wpAny_mono h (fun xv s₁ h₁ => ?_) fun _ _ e => e))
    (fun _ s' hq => wpAny_pure (wpAny_pure hq)) fun _ _ e => e)
  obtain ⟨R, ds, J, C₁, src, len, pk, hQ⟩ := h₁
  refine listSrc C₁ src fun l vs s₂ hxv il g hit hl hlt => ?_
  have hne : l ≠ s₁.heap.objs.size := Nat.ne_of_lt hlt
  have W := Walks.list (prog := prog) (w := w) hA s₁.heap.objs.size l hne vs.toArray
  have hlen : vs.toArray.size = ds.length := by simp [il.length]
  rw [hlen] at W
  have hlt2 : ∀ b, (∃ o, s₂.heap.get? b = some o) → b < s₂.heap.objs.size := fun b ⟨o, e⟩ => Heap.lt_size e
  refine compCoreV (RR := fun acc C => compPost (model prog w) A E (some (assign (.Name y py) env)) (fun _ s' => Q .next s') acc C) C₁ g W ⟨hit, hl⟩ (fun b hb => ?_) (fun b hb => by rw [List.mem_singleton.mp hb]; exact size_none _) (fun i h hS => ?_) len hcell hkind hsub hap hin hx pk (fun D vs' C s' hC hD hm g F => ?_) (fun i v s Q E hS q => let ⟨o, e, c, _⟩ := hS.1; letOwned_ e c (by decide) q)
  · rcases List.mem_cons.mp hb with rfl | hb
    · exact hlt2 _ (let ⟨o, e, _⟩ := hit; ⟨o, e⟩)
    · rw [List.mem_singleton.mp hb]; exact hlt2 _ (let ⟨o, e, _⟩ := hl; ⟨o, e⟩)
  · intro b hb
    rw [List.mem_singleton.mp hb]
    obtain ⟨o, e, _⟩ := hS.1
    exact ⟨o, e⟩
  · obtain ⟨mC, hn⟩ := hm
    have hLC : env.locals ≠ C := fun q => by obtain ⟨o, _, _, e, _⟩ := C₁.ns; rw [q, hC] at e; cases e
    show wpAny _ A (assign (.Name y py) env (.ref D)) _ E s'
    refine wpAny_assign_Name (wpAny_storeName_local hy (C₁.ns.keeps g.kp.all) (fun h₂ hn₂ hs₂ => ?_) (notLocals C₁.ok))
    refine ⟨mC, hn.sameBut hs₂ (Ne.symm hLC), fun h₃ hs₃ => ?_⟩
    have hn₃ := hn₂.sameBut hs₃ hLC
    have k₃ : Kp wr s₁.heap h₃ := (Kp.of_ext (a := env.locals) (fun b o n e => (hs₃.2 b (fun q => by rw [q, hC] at e; cases e)).trans ((hs₂.2 b n).trans (g.kp.all b o e))) (let ⟨o, _, _, e, _⟩ := hn₃; ⟨o, e⟩)).mono fun b q => by rw [List.mem_singleton.mp q]; exact hw
    obtain ⟨r3, j3, p3⟩ := F h₃ k₃ fun b o n e => (hs₃.2 b fun q => n (q ▸ List.mem_cons_self)).trans ((hs₂.2 b fun q => n (List.mem_cons_of_mem _ (q ▸ hw))).trans e)
    have g3 : Go wr s₁ { s' with heap := h₃, toks := s'.toks + 1 } := ⟨SameS.trans g.same ⟨h₃, s'.toks + 1, rfl⟩, k₃⟩
    refine hQ D vs' _ g3 hD j3 p3 (C₁.upd (m' := fun z => if z = y then some (.ref D) else m z) g3 hn₃ (fun n c e => ?_) r3 C₁.stb)
    obtain ⟨o, eo, hd⟩ := C₁.cells n c e
    have hcC : c ≠ C := fun q => by rw [q, hC] at eo; cases eo
    exact ⟨o, (hs₃.2 c hcC).trans ((hs₂.2 c (Ne.symm (C₁.cne n c (mem_of_lookup e)))).trans (g.kp.all _ _ eo)), hd⟩
end
end Mine
end

-- part He
section
open PySem PySem.W PyProof.Rows PySem.Calls
set_option maxRecDepth 100000
set_option linter.unusedVariables false
namespace Mine
/-- a def of the text's top, a def of a class -/
noncomputable def fd (i : Nat) : Arguments × List Stmt × Scope := match PySem.Challenge.pw_sj0112_01.main.body[i]? with
  | some (.FunctionDef _ a b _ _ _ s _ _ _) => (a, b, s)
  | _ => default
noncomputable def md (i j : Nat) : Arguments × List Stmt × Scope := match PySem.Challenge.pw_sj0112_01.main.body[i]? with
  | some (.ClassDef _ _ _ b _ _ _ _ _ _ _) => (match b[j]? with
    | some (.FunctionDef _ a b _ _ _ s _ _ _) => (a, b, s)
    | _ => default)
  | _ => default
noncomputable def fo (d : Arguments × List Stmt × Scope) (n q : Str) (m : Value) (c : Addr) : Obj :=
  { cls := .type "function", data := .func { name := n, qualname := q, params := d.1, body := .stmts d.2.1, scope := d.2.2, globals := 3, closure := [], defaults := .none, kwdefaults := .none, pyModule := m, code := .ref c } }
/-- the objects that the walks read -/
noncomputable def kfAs : List Addr := [3, 22, 28, 29, 35, 36, 40, 41, 45, 46, 52, 53, 59, 60, 64, 65, 71, 72, 76, 77, 81, 82, 83, 96, 97, 99, 100, 117, 118, 124, 125, 131, 132, 138, 139, 145, 146, 159, 160, 166, 167, 171, 172, 178, 179, 192, 193, 199, 200, 206, 207, 244, 245, 255, 256, 262, 263, 267, 268, 274, 275, 279, 280, 284, 285]
noncomputable def Kf : Params → Frag := fun P =>
  (nat_lit 3, { cls := Value.type "dict", data := Data.dict #[{ hash := PyData.keyHash P (Str.ofString "__name__"), key := Value.str (Str.ofString "__name__") 165, val := Value.str (Str.ofString "law_sj0112_01") 524 }, { hash := PyData.keyHash P (Str.ofString "__doc__"), key := Value.str (Str.ofString "__doc__") 166, val := Value.none }, { hash := PyData.keyHash P (Str.ofString "__package__"), key := Value.str (Str.ofString "__package__") 167, val := Value.none }, { hash := PyData.keyHash P (Str.ofString "__loader__"), key := Value.str (Str.ofString "__loader__") 168, val := Value.builtin "__main__.__loader__#opaque" }, { hash := PyData.keyHash P (Str.ofString "__spec__"), key := Value.str (Str.ofString "__spec__") 169, val := Value.none }, { hash := PyData.keyHash P (Str.ofString "__annotations__"), key := Value.str (Str.ofString "__annotations__") 170, val := Value.ref 6 }, { hash := PyData.keyHash P (Str.ofString "__builtins__"), key := Value.str (Str.ofString "__builtins__") 171, val := Value.ref 4 }, { hash := PyData.keyHash P (Str.ofString "__file__"), key := Value.str (Str.ofString "__file__") 173, val := Value.str (Str.ofString "/claim/cut.py") 172 }, { hash := PyData.keyHash P (Str.ofString "__cached__"), key := Value.str (Str.ofString "__cached__") 174, val := Value.none }, { hash := PyData.keyHash P (Str.ofString "_wall"), key := Value.str (Str.ofString "_wall") 193, val := Value.ref 21 }, { hash := PyData.keyHash P (Str.ofString "NOT_ELICITING"), key := Value.str (Str.ofString "NOT_ELICITING") 199, val := Value.ref 22 }, { hash := PyData.keyHash P (Str.ofString "is_eliciting"), key := Value.str (Str.ofString "is_eliciting") 206, val := Value.ref 29 }, { hash := PyData.keyHash P (Str.ofString "counts_in_flight"), key := Value.str (Str.ofString "counts_in_flight") 213, val := Value.ref 36 }, { hash := PyData.keyHash P (Str.ofString "any_eliciting"), key := Value.str (Str.ofString "any_eliciting") 219, val := Value.ref 41 }, { hash := PyData.keyHash P (Str.ofString "any_in_flight"), key := Value.str (Str.ofString "any_in_flight") 225, val := Value.ref 46 }, { hash := PyData.keyHash P (Str.ofString "add_number"), key := Value.str (Str.ofString "add_number") 235, val := Value.ref 53 }, { hash := PyData.keyHash P (Str.ofString "add_range"), key := Value.str (Str.ofString "add_range") 247, val := Value.ref 60 }, { hash := PyData.keyHash P (Str.ofString "has_number"), key := Value.str (Str.ofString "has_number") 253, val := Value.ref 65 }, { hash := PyData.keyHash P (Str.ofString "ack_of"), key := Value.str (Str.ofString "ack_of") 261, val := Value.ref 72 }, { hash := PyData.keyHash P (Str.ofString "newly_acked"), key := Value.str (Str.ofString "newly_acked") 267, val := Value.ref 77 }, { hash := PyData.keyHash P (Str.ofString "prune"), key := Value.str (Str.ofString "prune") 273, val := Value.ref 82 }, { hash := PyData.keyHash P (Str.ofString "MOST_RANGES"), key := Value.str (Str.ofString "MOST_RANGES") 277, val := Value.int 32 276 }, { hash := PyData.keyHash P (Str.ofString "KEPT_RANGES"), key := Value.str (Str.ofString "KEPT_RANGES") 279, val := Value.int 64 278 }, { hash := PyData.keyHash P (Str.ofString "ACK_EACH"), key := Value.str (Str.ofString "ACK_EACH") 281, val := Value.int 2 280 }, { hash := PyData.keyHash P (Str.ofString "ECN_PLACES"), key := Value.str (Str.ofString "ECN_PLACES") 285, val := Value.ref 83 }, { hash := PyData.keyHash P (Str.ofString "SentPacket"), key := Value.str (Str.ofString "SentPacket") 322, val := Value.ref 100 }, { hash := PyData.keyHash P (Str.ofString "Space"), key := Value.str (Str.ofString "Space") 516, val := Value.ref 245 }, { hash := PyData.keyHash P (Str.ofString "kept_ranges"), key := Value.str (Str.ofString "kept_ranges") 523, val := Value.ref 256 }, { hash := PyData.keyHash P (Str.ofString "_law_take"), key := Value.str (Str.ofString "_law_take") 533, val := Value.ref 263 }, { hash := PyData.keyHash P (Str.ofString "_law_within"), key := Value.str (Str.ofString "_law_within") 539, val := Value.ref 268 }, { hash := PyData.keyHash P (Str.ofString "_law_goes"), key := Value.str (Str.ofString "_law_goes") 557, val := Value.ref 275 }, { hash := PyData.keyHash P (Str.ofString "_law_comes"), key := Value.str (Str.ofString "_law_comes") 563, val := Value.ref 280 }, { hash := PyData.keyHash P (Str.ofString "_law_right"), key := Value.str (Str.ofString "_law_right") 569, val := Value.ref 285 }, { hash := PyData.keyHash P (Str.ofString "law"), key := Value.str (Str.ofString "law") 575, val := Value.ref 290 }] 34 }) ::
  (nat_lit 22, { cls := Value.type "tuple", data := Data.seq #[Value.str (Str.ofString "ack") 196, Value.str (Str.ofString "padding") 197, Value.str (Str.ofString "close") 198] }) ::
  (nat_lit 28, { cls := Value.type "code", data := Data.fields #[Value.str (Str.ofString "is_eliciting") 200, Value.str (Str.ofString "is_eliciting") 201, Value.str (Str.ofString "/claim/cut.py") 202, Value.int 6 0, Value.int 1 0, Value.int 0 0, Value.int 0 0, Value.int 3 0, Value.ref 23, Value.bool true, Value.int 181 0, Value.ref 24, Value.none, Value.ref 25, Value.ref 26, Value.ref 27, Value.int 204 0, Value.int 6 0, Value.str (Str.ofString "/claim/cut.py") 205] }) ::
  (nat_lit 29, fo (fd 3) "is_eliciting" "is_eliciting" (Value.str (Str.ofString "quic.framerules") 194) 28) ::
  (nat_lit 35, { cls := Value.type "code", data := Data.fields #[Value.str (Str.ofString "counts_in_flight") 207, Value.str (Str.ofString "counts_in_flight") 208, Value.str (Str.ofString "/claim/cut.py") 209, Value.int 8 0, Value.int 1 0, Value.int 0 0, Value.int 0 0, Value.int 3 0, Value.ref 30, Value.bool true, Value.int 181 0, Value.ref 31, Value.none, Value.ref 32, Value.ref 33, Value.ref 34, Value.int 211 0, Value.int 8 0, Value.str (Str.ofString "/claim/cut.py") 212] }) ::
  (nat_lit 36, fo (fd 4) "counts_in_flight" "counts_in_flight" (Value.str (Str.ofString "quic.framerules") 194) 35) ::
  (nat_lit 40, { cls := Value.type "code", data := Data.fields #[Value.str (Str.ofString "any_eliciting") 214, Value.str (Str.ofString "any_eliciting") 215, Value.str (Str.ofString "/claim/cut.py") 216, Value.int 10 0, Value.int 1 0, Value.int 0 0, Value.int 0 0, Value.int 3 0, Value.ref 37, Value.bool true, Value.int 181 0, Value.ref 38, Value.none, Value.none, Value.none, Value.ref 39, Value.int 217 0, Value.int 10 0, Value.str (Str.ofString "/claim/cut.py") 218] }) ::
  (nat_lit 41, fo (fd 5) "any_eliciting" "any_eliciting" (Value.str (Str.ofString "quic.framerules") 194) 40) ::
  (nat_lit 45, { cls := Value.type "code", data := Data.fields #[Value.str (Str.ofString "any_in_flight") 220, Value.str (Str.ofString "any_in_flight") 221, Value.str (Str.ofString "/claim/cut.py") 222, Value.int 12 0, Value.int 1 0, Value.int 0 0, Value.int 0 0, Value.int 3 0, Value.ref 42, Value.bool true, Value.int 181 0, Value.ref 43, Value.none, Value.none, Value.none, Value.ref 44, Value.int 223 0, Value.int 12 0, Value.str (Str.ofString "/claim/cut.py") 224] }) ::
  (nat_lit 46, fo (fd 6) "any_in_flight" "any_in_flight" (Value.str (Str.ofString "quic.framerules") 194) 45) ::
  (nat_lit 52, { cls := Value.type "code", data := Data.fields #[Value.str (Str.ofString "add_number") 228, Value.str (Str.ofString "add_number") 229, Value.str (Str.ofString "/claim/cut.py") 230, Value.int 15 0, Value.int 2 0, Value.int 0 0, Value.int 0 0, Value.int 3 0, Value.ref 47, Value.bool true, Value.int 181 0, Value.ref 48, Value.none, Value.ref 49, Value.ref 50, Value.ref 51, Value.int 233 0, Value.int 15 0, Value.str (Str.ofString "/claim/cut.py") 234] }) ::
  (nat_lit 53, fo (fd 8) "add_number" "add_number" (Value.str (Str.ofString "quic.ranges") 226) 52) ::
  (nat_lit 59, { cls := Value.type "code", data := Data.fields #[Value.str (Str.ofString "add_range") 236, Value.str (Str.ofString "add_range") 237, Value.str (Str.ofString "/claim/cut.py") 238, Value.int 17 0, Value.int 3 0, Value.int 0 0, Value.int 0 0, Value.int 3 0, Value.ref 54, Value.bool true, Value.int 181 0, Value.ref 55, Value.none, Value.ref 56, Value.ref 57, Value.ref 58, Value.int 245 0, Value.int 17 0, Value.str (Str.ofString "/claim/cut.py") 246] }) ::
  (nat_lit 60, fo (fd 9) "add_range" "add_range" (Value.str (Str.ofString "quic.ranges") 226) 59) ::
  (nat_lit 64, { cls := Value.type "code", data := Data.fields #[Value.str (Str.ofString "has_number") 248, Value.str (Str.ofString "has_number") 249, Value.str (Str.ofString "/claim/cut.py") 250, Value.int 30 0, Value.int 2 0, Value.int 0 0, Value.int 0 0, Value.int 3 0, Value.ref 61, Value.bool true, Value.int 181 0, Value.ref 62, Value.none, Value.none, Value.none, Value.ref 63, Value.int 251 0, Value.int 30 0, Value.str (Str.ofString "/claim/cut.py") 252] }) ::
  (nat_lit 65, fo (fd 10) "has_number" "has_number" (Value.str (Str.ofString "quic.ranges") 226) 64) ::
  (nat_lit 71, { cls := Value.type "code", data := Data.fields #[Value.str (Str.ofString "ack_of") 254, Value.str (Str.ofString "ack_of") 255, Value.str (Str.ofString "/claim/cut.py") 256, Value.int 32 0, Value.int 2 0, Value.int 0 0, Value.int 0 0, Value.int 3 0, Value.ref 66, Value.bool true, Value.int 181 0, Value.ref 67, Value.none, Value.ref 68, Value.ref 69, Value.ref 70, Value.int 259 0, Value.int 32 0, Value.str (Str.ofString "/claim/cut.py") 260] }) ::
  (nat_lit 72, fo (fd 11) "ack_of" "ack_of" (Value.str (Str.ofString "quic.ranges") 226) 71) ::
  (nat_lit 76, { cls := Value.type "code", data := Data.fields #[Value.str (Str.ofString "newly_acked") 262, Value.str (Str.ofString "newly_acked") 263, Value.str (Str.ofString "/claim/cut.py") 264, Value.int 34 0, Value.int 2 0, Value.int 0 0, Value.int 0 0, Value.int 3 0, Value.ref 73, Value.bool true, Value.int 181 0, Value.ref 74, Value.none, Value.none, Value.none, Value.ref 75, Value.int 265 0, Value.int 34 0, Value.str (Str.ofString "/claim/cut.py") 266] }) ::
  (nat_lit 77, fo (fd 12) "newly_acked" "newly_acked" (Value.str (Str.ofString "quic.ranges") 226) 76) ::
  (nat_lit 81, { cls := Value.type "code", data := Data.fields #[Value.str (Str.ofString "prune") 268, Value.str (Str.ofString "prune") 269, Value.str (Str.ofString "/claim/cut.py") 270, Value.int 36 0, Value.int 2 0, Value.int 0 0, Value.int 0 0, Value.int 3 0, Value.ref 78, Value.bool true, Value.int 181 0, Value.ref 79, Value.none, Value.none, Value.none, Value.ref 80, Value.int 271 0, Value.int 36 0, Value.str (Str.ofString "/claim/cut.py") 272] }) ::
  (nat_lit 82, fo (fd 13) "prune" "prune" (Value.str (Str.ofString "quic.ranges") 226) 81) ::
  (nat_lit 83, { cls := Value.type "tuple", data := Data.seq #[Value.none, Value.int 1 282, Value.int 0 283, Value.int 2 284] }) ::
  (nat_lit 96, { cls := Value.type "code", data := Data.fields #[Value.str (Str.ofString "__init__") 298, Value.str (Str.ofString "SentPacket.__init__") 299, Value.str (Str.ofString "/claim/cut.py") 300, Value.int 45 0, Value.int 5 0, Value.int 0 0, Value.int 0 0, Value.int 3 0, Value.ref 91, Value.bool true, Value.int 181 0, Value.ref 92, Value.none, Value.ref 93, Value.ref 94, Value.ref 95, Value.int 306 0, Value.int 45 0, Value.str (Str.ofString "/claim/cut.py") 307] }) ::
  (nat_lit 97, fo (md 19 0) "__init__" "SentPacket.__init__" (Value.str (Str.ofString "quic.spaces") 274) 96) ::
  (nat_lit 99, { cls := Value.type "dict", data := Data.dict #[{ hash := PyData.keyHash P (Str.ofString "__module__"), key := Value.str (Str.ofString "__module__") 293, val := Value.str (Str.ofString "quic.spaces") 274 }, { hash := PyData.keyHash P (Str.ofString "__firstlineno__"), key := Value.str (Str.ofString "__firstlineno__") 297, val := Value.int 43 296 }, { hash := PyData.keyHash P (Str.ofString "__init__"), key := Value.str (Str.ofString "__init__") 308, val := Value.ref 97 }, { hash := PyData.keyHash P (Str.ofString "__static_attributes__"), key := Value.str (Str.ofString "__static_attributes__") 315, val := Value.ref 98 }, { hash := PyData.keyHash P (Str.ofString "__dict__"), key := Value.str (Str.ofString "__dict__") 317, val := Value.ref 101 }, { hash := PyData.keyHash P (Str.ofString "__weakref__"), key := Value.str (Str.ofString "__weakref__") 319, val := Value.ref 102 }, { hash := PyData.keyHash P (Str.ofString "__doc__"), key := Value.str (Str.ofString "__doc__") 320, val := Value.none }] 4 }) ::
  (nat_lit 100, { cls := Value.type "type", data := Data.cls { name := Str.ofString "SentPacket", bases := [Value.type "object"], mro := [Value.ref 100, Value.type "object"], ns := 99, qualname := Str.ofString "SentPacket" }, slots := #[none, none, some (Value.str (Str.ofString "SentPacket") 286), some (Value.str (Str.ofString "SentPacket") 294), some (Value.builtin "object.__new__"), some (Value.bool true)] }) ::
  (nat_lit 117, { cls := Value.type "code", data := Data.fields #[Value.str (Str.ofString "__init__") 335, Value.str (Str.ofString "Space.__init__") 336, Value.str (Str.ofString "/claim/cut.py") 337, Value.int 54 0, Value.int 2 0, Value.int 0 0, Value.int 0 0, Value.int 3 0, Value.ref 112, Value.bool true, Value.int 181 0, Value.ref 113, Value.none, Value.ref 114, Value.ref 115, Value.ref 116, Value.int 340 0, Value.int 54 0, Value.str (Str.ofString "/claim/cut.py") 341] }) ::
  (nat_lit 118, fo (md 20 0) "__init__" "Space.__init__" (Value.str (Str.ofString "quic.spaces") 274) 117) ::
  (nat_lit 124, { cls := Value.type "code", data := Data.fields #[Value.str (Str.ofString "is_known") 343, Value.str (Str.ofString "Space.is_known") 344, Value.str (Str.ofString "/claim/cut.py") 345, Value.int 73 0, Value.int 2 0, Value.int 0 0, Value.int 0 0, Value.int 3 0, Value.ref 119, Value.bool true, Value.int 181 0, Value.ref 120, Value.none, Value.ref 121, Value.ref 122, Value.ref 123, Value.int 348 0, Value.int 73 0, Value.str (Str.ofString "/claim/cut.py") 349] }) ::
  (nat_lit 125, fo (md 20 1) "is_known" "Space.is_known" (Value.str (Str.ofString "quic.spaces") 274) 124) ::
  (nat_lit 131, { cls := Value.type "code", data := Data.fields #[Value.str (Str.ofString "on_received") 351, Value.str (Str.ofString "Space.on_received") 352, Value.str (Str.ofString "/claim/cut.py") 353, Value.int 78 0, Value.int 5 0, Value.int 0 0, Value.int 0 0, Value.int 3 0, Value.ref 126, Value.bool true, Value.int 181 0, Value.ref 127, Value.none, Value.ref 128, Value.ref 129, Value.ref 130, Value.int 361 0, Value.int 78 0, Value.str (Str.ofString "/claim/cut.py") 362] }) ::
  (nat_lit 132, fo (md 20 2) "on_received" "Space.on_received" (Value.str (Str.ofString "quic.spaces") 274) 131) ::
  (nat_lit 138, { cls := Value.type "code", data := Data.fields #[Value.str (Str.ofString "ack_frame") 364, Value.str (Str.ofString "Space.ack_frame") 365, Value.str (Str.ofString "/claim/cut.py") 366, Value.int 95 0, Value.int 3 0, Value.int 0 0, Value.int 0 0, Value.int 3 0, Value.ref 133, Value.bool true, Value.int 181 0, Value.ref 134, Value.none, Value.ref 135, Value.ref 136, Value.ref 137, Value.int 372 0, Value.int 95 0, Value.str (Str.ofString "/claim/cut.py") 373] }) ::
  (nat_lit 139, fo (md 20 3) "ack_frame" "Space.ack_frame" (Value.str (Str.ofString "quic.spaces") 274) 138) ::
  (nat_lit 145, { cls := Value.type "code", data := Data.fields #[Value.str (Str.ofString "on_ack_sent") 375, Value.str (Str.ofString "Space.on_ack_sent") 376, Value.str (Str.ofString "/claim/cut.py") 377, Value.int 102 0, Value.int 1 0, Value.int 0 0, Value.int 0 0, Value.int 3 0, Value.ref 140, Value.bool true, Value.int 181 0, Value.ref 141, Value.none, Value.ref 142, Value.ref 143, Value.ref 144, Value.int 379 0, Value.int 102 0, Value.str (Str.ofString "/claim/cut.py") 380] }) ::
  (nat_lit 146, fo (md 20 4) "on_ack_sent" "Space.on_ack_sent" (Value.str (Str.ofString "quic.spaces") 274) 145) ::
  (nat_lit 159, { cls := Value.type "code", data := Data.fields #[Value.str (Str.ofString "take_number") 389, Value.str (Str.ofString "Space.take_number") 390, Value.str (Str.ofString "/claim/cut.py") 391, Value.int 111 0, Value.int 1 0, Value.int 0 0, Value.int 0 0, Value.int 3 0, Value.ref 154, Value.bool true, Value.int 181 0, Value.ref 155, Value.none, Value.ref 156, Value.ref 157, Value.ref 158, Value.int 393 0, Value.int 111 0, Value.str (Str.ofString "/claim/cut.py") 394] }) ::
  (nat_lit 160, fo (md 20 6) "take_number" "Space.take_number" (Value.str (Str.ofString "quic.spaces") 274) 159) ::
  (nat_lit 166, { cls := Value.type "code", data := Data.fields #[Value.str (Str.ofString "on_sent") 396, Value.str (Str.ofString "Space.on_sent") 397, Value.str (Str.ofString "/claim/cut.py") 398, Value.int 115 0, Value.int 5 0, Value.int 0 0, Value.int 0 0, Value.int 3 0, Value.ref 161, Value.bool true, Value.int 181 0, Value.ref 162, Value.none, Value.ref 163, Value.ref 164, Value.ref 165, Value.int 405 0, Value.int 115 0, Value.str (Str.ofString "/claim/cut.py") 406] }) ::
  (nat_lit 167, fo (md 20 7) "on_sent" "Space.on_sent" (Value.str (Str.ofString "quic.spaces") 274) 166) ::
  (nat_lit 171, { cls := Value.type "code", data := Data.fields #[Value.str (Str.ofString "take") 408, Value.str (Str.ofString "Space.take") 409, Value.str (Str.ofString "/claim/cut.py") 410, Value.int 122 0, Value.int 2 0, Value.int 0 0, Value.int 0 0, Value.int 3 0, Value.ref 168, Value.bool true, Value.int 181 0, Value.ref 169, Value.none, Value.none, Value.none, Value.ref 170, Value.int 411 0, Value.int 122 0, Value.str (Str.ofString "/claim/cut.py") 412] }) ::
  (nat_lit 172, fo (md 20 8) "take" "Space.take" (Value.str (Str.ofString "quic.spaces") 274) 171) ::
  (nat_lit 178, { cls := Value.type "code", data := Data.fields #[Value.str (Str.ofString "acked_by") 414, Value.str (Str.ofString "Space.acked_by") 415, Value.str (Str.ofString "/claim/cut.py") 416, Value.int 126 0, Value.int 2 0, Value.int 0 0, Value.int 0 0, Value.int 3 0, Value.ref 173, Value.bool true, Value.int 181 0, Value.ref 174, Value.none, Value.ref 175, Value.ref 176, Value.ref 177, Value.int 419 0, Value.int 126 0, Value.str (Str.ofString "/claim/cut.py") 420] }) ::
  (nat_lit 179, fo (md 20 9) "acked_by" "Space.acked_by" (Value.str (Str.ofString "quic.spaces") 274) 178) ::
  (nat_lit 192, { cls := Value.type "code", data := Data.fields #[Value.str (Str.ofString "note_ranges") 430, Value.str (Str.ofString "Space.note_ranges") 431, Value.str (Str.ofString "/claim/cut.py") 432, Value.int 132 0, Value.int 2 0, Value.int 0 0, Value.int 0 0, Value.int 3 0, Value.ref 187, Value.bool true, Value.int 181 0, Value.ref 188, Value.none, Value.ref 189, Value.ref 190, Value.ref 191, Value.int 438 0, Value.int 132 0, Value.str (Str.ofString "/claim/cut.py") 439] }) ::
  (nat_lit 193, fo (md 20 11) "note_ranges" "Space.note_ranges" (Value.str (Str.ofString "quic.spaces") 274) 192) ::
  (nat_lit 199, { cls := Value.type "code", data := Data.fields #[Value.str (Str.ofString "is_beyond") 441, Value.str (Str.ofString "Space.is_beyond") 442, Value.str (Str.ofString "/claim/cut.py") 443, Value.int 139 0, Value.int 2 0, Value.int 0 0, Value.int 0 0, Value.int 3 0, Value.ref 194, Value.bool true, Value.int 181 0, Value.ref 195, Value.none, Value.ref 196, Value.ref 197, Value.ref 198, Value.int 446 0, Value.int 139 0, Value.str (Str.ofString "/claim/cut.py") 447] }) ::
  (nat_lit 200, fo (md 20 12) "is_beyond" "Space.is_beyond" (Value.str (Str.ofString "quic.spaces") 274) 199) ::
  (nat_lit 206, { cls := Value.type "code", data := Data.fields #[Value.str (Str.ofString "note_largest") 449, Value.str (Str.ofString "Space.note_largest") 450, Value.str (Str.ofString "/claim/cut.py") 451, Value.int 142 0, Value.int 2 0, Value.int 0 0, Value.int 0 0, Value.int 3 0, Value.ref 201, Value.bool true, Value.int 181 0, Value.ref 202, Value.none, Value.ref 203, Value.ref 204, Value.ref 205, Value.int 454 0, Value.int 142 0, Value.str (Str.ofString "/claim/cut.py") 455] }) ::
  (nat_lit 207, fo (md 20 13) "note_largest" "Space.note_largest" (Value.str (Str.ofString "quic.spaces") 274) 206) ::
  (nat_lit 244, { cls := Value.type "dict", data := Data.dict #[{ hash := PyData.keyHash P (Str.ofString "__module__"), key := Value.str (Str.ofString "__module__") 330, val := Value.str (Str.ofString "quic.spaces") 274 }, { hash := PyData.keyHash P (Str.ofString "__firstlineno__"), key := Value.str (Str.ofString "__firstlineno__") 334, val := Value.int 52 333 }, { hash := PyData.keyHash P (Str.ofString "__init__"), key := Value.str (Str.ofString "__init__") 342, val := Value.ref 118 }, { hash := PyData.keyHash P (Str.ofString "is_known"), key := Value.str (Str.ofString "is_known") 350, val := Value.ref 125 }, { hash := PyData.keyHash P (Str.ofString "on_received"), key := Value.str (Str.ofString "on_received") 363, val := Value.ref 132 }, { hash := PyData.keyHash P (Str.ofString "ack_frame"), key := Value.str (Str.ofString "ack_frame") 374, val := Value.ref 139 }, { hash := PyData.keyHash P (Str.ofString "on_ack_sent"), key := Value.str (Str.ofString "on_ack_sent") 381, val := Value.ref 146 }, { hash := PyData.keyHash P (Str.ofString "owes_ack"), key := Value.str (Str.ofString "owes_ack") 388, val := Value.ref 153 }, { hash := PyData.keyHash P (Str.ofString "take_number"), key := Value.str (Str.ofString "take_number") 395, val := Value.ref 160 }, { hash := PyData.keyHash P (Str.ofString "on_sent"), key := Value.str (Str.ofString "on_sent") 407, val := Value.ref 167 }, { hash := PyData.keyHash P (Str.ofString "take"), key := Value.str (Str.ofString "take") 413, val := Value.ref 172 }, { hash := PyData.keyHash P (Str.ofString "acked_by"), key := Value.str (Str.ofString "acked_by") 421, val := Value.ref 179 }, { hash := PyData.keyHash P (Str.ofString "note_acked"), key := Value.str (Str.ofString "note_acked") 429, val := Value.ref 186 }, { hash := PyData.keyHash P (Str.ofString "note_ranges"), key := Value.str (Str.ofString "note_ranges") 440, val := Value.ref 193 }, { hash := PyData.keyHash P (Str.ofString "is_beyond"), key := Value.str (Str.ofString "is_beyond") 448, val := Value.ref 200 }, { hash := PyData.keyHash P (Str.ofString "note_largest"), key := Value.str (Str.ofString "note_largest") 456, val := Value.ref 207 }, { hash := PyData.keyHash P (Str.ofString "eliciting_left"), key := Value.str (Str.ofString "eliciting_left") 463, val := Value.ref 214 }, { hash := PyData.keyHash P (Str.ofString "bare_numbers"), key := Value.str (Str.ofString "bare_numbers") 470, val := Value.ref 221 }, { hash := PyData.keyHash P (Str.ofString "octets_out"), key := Value.str (Str.ofString "octets_out") 477, val := Value.ref 228 }, { hash := PyData.keyHash P (Str.ofString "sent_rows"), key := Value.str (Str.ofString "sent_rows") 484, val := Value.ref 235 }, { hash := PyData.keyHash P (Str.ofString "forget"), key := Value.str (Str.ofString "forget") 491, val := Value.ref 242 }, { hash := PyData.keyHash P (Str.ofString "__static_attributes__"), key := Value.str (Str.ofString "__static_attributes__") 509, val := Value.ref 243 }, { hash := PyData.keyHash P (Str.ofString "__dict__"), key := Value.str (Str.ofString "__dict__") 511, val := Value.ref 246 }, { hash := PyData.keyHash P (Str.ofString "__weakref__"), key := Value.str (Str.ofString "__weakref__") 513, val := Value.ref 247 }, { hash := PyData.keyHash P (Str.ofString "__doc__"), key := Value.str (Str.ofString "__doc__") 514, val := Value.none }] 4 }) ::
  (nat_lit 245, { cls := Value.type "type", data := Data.cls { name := Str.ofString "Space", bases := [Value.type "object"], mro := [Value.ref 245, Value.type "object"], ns := 244, qualname := Str.ofString "Space" }, slots := #[none, none, some (Value.str (Str.ofString "Space") 323), some (Value.str (Str.ofString "Space") 331), some (Value.builtin "object.__new__"), some (Value.bool true)] }) ::
  (nat_lit 255, { cls := Value.type "code", data := Data.fields #[Value.str (Str.ofString "kept_ranges") 517, Value.str (Str.ofString "kept_ranges") 518, Value.str (Str.ofString "/claim/cut.py") 519, Value.int 160 0, Value.int 1 0, Value.int 0 0, Value.int 0 0, Value.int 3 0, Value.ref 250, Value.bool true, Value.int 181 0, Value.ref 251, Value.none, Value.ref 252, Value.ref 253, Value.ref 254, Value.int 521 0, Value.int 160 0, Value.str (Str.ofString "/claim/cut.py") 522] }) ::
  (nat_lit 256, fo (fd 21) "kept_ranges" "kept_ranges" (Value.str (Str.ofString "quic.spaces") 274) 255) ::
  (nat_lit 262, { cls := Value.type "code", data := Data.fields #[Value.str (Str.ofString "_law_take") 526, Value.str (Str.ofString "_law_take") 527, Value.str (Str.ofString "/claim/cut.py") 528, Value.int 165 0, Value.int 2 0, Value.int 0 0, Value.int 0 0, Value.int 3 0, Value.ref 257, Value.bool true, Value.int 181 0, Value.ref 258, Value.none, Value.ref 259, Value.ref 260, Value.ref 261, Value.int 531 0, Value.int 165 0, Value.str (Str.ofString "/claim/cut.py") 532] }) ::
  (nat_lit 263, fo (fd 23) "_law_take" "_law_take" (Value.str (Str.ofString "law_sj0112_01") 524) 262) ::
  (nat_lit 267, { cls := Value.type "code", data := Data.fields #[Value.str (Str.ofString "_law_within") 534, Value.str (Str.ofString "_law_within") 535, Value.str (Str.ofString "/claim/cut.py") 536, Value.int 170 0, Value.int 2 0, Value.int 0 0, Value.int 0 0, Value.int 3 0, Value.ref 264, Value.bool true, Value.int 181 0, Value.ref 265, Value.none, Value.none, Value.none, Value.ref 266, Value.int 537 0, Value.int 170 0, Value.str (Str.ofString "/claim/cut.py") 538] }) ::
  (nat_lit 268, fo (fd 24) "_law_within" "_law_within" (Value.str (Str.ofString "law_sj0112_01") 524) 267) ::
  (nat_lit 274, { cls := Value.type "code", data := Data.fields #[Value.str (Str.ofString "_law_goes") 540, Value.str (Str.ofString "_law_goes") 541, Value.str (Str.ofString "/claim/cut.py") 542, Value.int 175 0, Value.int 6 0, Value.int 0 0, Value.int 0 0, Value.int 3 0, Value.ref 269, Value.bool true, Value.int 181 0, Value.ref 270, Value.none, Value.ref 271, Value.ref 272, Value.ref 273, Value.int 555 0, Value.int 175 0, Value.str (Str.ofString "/claim/cut.py") 556] }) ::
  (nat_lit 275, fo (fd 25) "_law_goes" "_law_goes" (Value.str (Str.ofString "law_sj0112_01") 524) 274) ::
  (nat_lit 279, { cls := Value.type "code", data := Data.fields #[Value.str (Str.ofString "_law_comes") 558, Value.str (Str.ofString "_law_comes") 559, Value.str (Str.ofString "/claim/cut.py") 560, Value.int 187 0, Value.int 4 0, Value.int 0 0, Value.int 0 0, Value.int 3 0, Value.ref 276, Value.bool true, Value.int 181 0, Value.ref 277, Value.none, Value.none, Value.none, Value.ref 278, Value.int 561 0, Value.int 187 0, Value.str (Str.ofString "/claim/cut.py") 562] }) ::
  (nat_lit 280, fo (fd 26) "_law_comes" "_law_comes" (Value.str (Str.ofString "law_sj0112_01") 524) 279) ::
  (nat_lit 284, { cls := Value.type "code", data := Data.fields #[Value.str (Str.ofString "_law_right") 564, Value.str (Str.ofString "_law_right") 565, Value.str (Str.ofString "/claim/cut.py") 566, Value.int 204 0, Value.int 3 0, Value.int 0 0, Value.int 0 0, Value.int 3 0, Value.ref 281, Value.bool true, Value.int 181 0, Value.ref 282, Value.none, Value.none, Value.none, Value.ref 283, Value.int 567 0, Value.int 204 0, Value.str (Str.ofString "/claim/cut.py") 568] }) ::
  (nat_lit 285, fo (fd 27) "_law_right" "_law_right" (Value.str (Str.ofString "law_sj0112_01") 524) 284) :: []
/-- of the text's top the law alone is looked at, the other names are loose -/
noncomputable def vw : Program := PySem.W.view PySem.Challenge.pw_sj0112_01 [28]
noncomputable def lo : List Str := ["_wall", "__name__", "NOT_ELICITING", "is_eliciting", "counts_in_flight", "any_eliciting", "any_in_flight", "add_number", "add_range", "has_number", "ack_of", "newly_acked", "prune", "MOST_RANGES", "KEPT_RANGES", "ACK_EACH", "ECN_PLACES", "SentPacket", "Space", "kept_ranges", "_law_take", "_law_within", "_law_goes", "_law_comes", "_law_right"]
noncomputable abbrev hook : Hook := kHook Kf kfAs (fun _ => by kernel_rfl)
theorem left_boot {p q : Program} {loose : List Str} {Xt : Shared → Bool} {α : Type} {Yf : Shared → α} {Ya : World → α} {N : Nat} (e : opening p = plainProg p.main.scope.names) (hN : Nat.ble 600 N = true) (f : ∀ s, fenceModules? p s = some s)
    (h : ∀ (w : World) (os : OsState), (topFrom treeTable p w N ⟨boot_heap w.params, Array.mk [], boot_drawn, boot_toks, os⟩).map (fun s => (openSeen q loose (importedModules p.main.body) Xt true s, Yf s)) = some (openGood q loose, Ya w)) : LeftO p q loose Xt Yf Ya N := fun w => by
  obtain ⟨s, hs, hv⟩ := Option.map_eq_some_iff.mp (boot_open e hN f w)
  unfold openEnds
  rw [hs]
  obtain ⟨a, b, c, d, os⟩ := s
  simp only [Prod.mk.injEq] at hv
  obtain ⟨rfl, rfl, rfl, rfl⟩ := hv
  exact h w os
/-- the run of the text's top -/
theorem left_ : LeftO PySem.Challenge.pw_sj0112_01 vw lo (fun s => xlAt vw [] s && recOk (RowW.records PySem.Challenge.rw_sj0112_01.row.toRowW) s) (Hook.obs hook) (Hook.val hook) 3426 := by
  refine left_boot rfl (by decide) (fun _ => rfl) fun w os => ?_
  unfold topFrom
  first | rw [PySem.W.Fast.te14082659384304107361, PySem.W.Fast.te14364793385576792824, PySem.W.Fast.te8920871248978507458, PySem.W.Fast.te4187177175401517315, PySem.W.Fast.te5923862056798008813] | skip
  kernel_rfl
/-- the looks at the law's text -/
theorem said_ : PySem.Challenge.rw_sj0112_01.wellSaid = true := by
  first | rw [PySem.W.Fast.te9446332074065402090] | skip
  kernel_rfl
end Mine
end

-- part F0
section
open PySem PySem.W PyProof.Rows PySem.Calls
set_option maxRecDepth 100000
set_option linter.unusedVariables false
namespace Mine
theorem upd_eq {α : Type} {m : Str → Option α} {x : Str} {v : α} : (fun z => if z = x then some v else m z) x = some v := by simp
theorem upd_ne {α : Type} {m : Str → Option α} {x y : Str} {v : α} {u : Option α} (h : (decide (x = y)) = false) (e : m x = u) : (fun z => if z = y then some v else m z) x = u := by
  have : x ≠ y := of_decide_eq_false h
  simp [this, e]

abbrev PP : Program := PySem.Challenge.pw_sj0112_01
end Mine
end

section
open PySem PySem.W PyProof.Rows PySem.Calls
set_option maxRecDepth 100000
set_option linter.unusedVariables false
namespace Mine
theorem fillF1 : (PySem.Challenge.rw_sj0112_01 = PySem.Challenge.rw_sj0112_01) ∧ (Kf = Kf) := by k_fill; exact ⟨rfl, rfl⟩
local macro_rules | `(tactic| walk_at "lk") => `(tactic| first | assumption | exact upd_eq | exact if_pos rfl | (refine upd_ne (by rfl) ?_; walk_at "lk") | (refine (if_neg (of_decide_eq_false (by rfl))).trans ?_; walk_at "lk"))
local macro_rules | `(tactic| walk_at "nil") => `(tactic| repeat (with_reducible refine wpAny_execs_nil ?_))
local macro_rules | `(tactic| walk_at "loc") => `(tactic| (refine' Cx.ld ?C ?v ?_; (case C => assumption); (case v => first | with_unfolding_all rfl | walk_at "lk")))
local macro_rules | `(tactic| walk_at "cell") => `(tactic| (refine' Cx.ldc ?C ?c ?v ?_; (case C => assumption); (case c => with_unfolding_all rfl); (case v => first | with_unfolding_all rfl | walk_at "lk")))
local macro_rules | `(tactic| walk_at "glo") => `(tactic| (refine' Cx.ldg ?C ?e ?_; (case C => assumption); (case e => k_is)))
local macro_rules | `(tactic| walk_at "blt") => `(tactic| (refine' Cx.ldb ?C ?e ?v ?_; (case C => assumption); (case e => k_is); (case v => boot_fast)))

local macro_rules | `(tactic| walk_at "atr") => `(tactic| (refine Attribute_Name_ ?_; walk_at "loc"))
local macro_rules | `(tactic| walk_at "atc") => `(tactic| (refine Attribute_Name_ ?_; walk_at "cell"))
-- part F1
def rgL (rs : List (Int × Int)) : List D := rs.map fun p => .tup [.int p.1, .int p.2]
def rgD (rs : List (Int × Int)) : D := .lst (rgL rs)
theorem rg_tup (rs : List (Int × Int)) : ∀ d ∈ rgL rs, ∃ d₁ d₂, d = .tup [d₁, d₂] := by
  intro d hd
  obtain ⟨p, -, rfl⟩ := List.mem_map.mp hd
  exact ⟨_, _, rfl⟩
theorem filter_tt' (l : List D) : l.filter (fun _ => true) = l := by simp

def hasNum (rs : List (Int × Int)) (n : Int) : Bool := rs.any fun p => decide (p.1 ≤ n) && decide (n ≤ p.2)
def rgF (n : Int) : D → D
  | .tup [.int a, .int b] => .bool (decide (a ≤ n) && decide (n ≤ b))
  | _ => .none

section
variable {w : World} {G : Gd w (Kf w.params)} {z : Shared} {A : Around} {E : Value → Shared → Prop} {mu : List Addr}
set_option maxHeartbeats 400000

theorem has_number_ (on : G.On z.heap) (hA : Ar 10 A) (al : Al mu z.heap) {v : Value} {rs : List (Int × Int)} (hs : rs.length ≤ 1000) (I : Imm mu z.heap (rgD rs) v) {n : Int} {t : Tok} {Q : Value → Shared → Prop}
    (h : ∀ s', Go [] z s' → Q (.bool (hasNum rs n)) s') :
    wpAny (model PP w) A (call (.ref 65) [v, .int n t]) Q E z := by
  refine enter (n := 9) (m := fun y => if y = "ranges" then some (v) else none) (cm := fun y => if y = "n" then some (.int n t) else none) on hA (by k_is) (by rfl) (by with_unfolding_all rfl) (by rfl) (by with_unfolding_all rfl) (by with_unfolding_all rfl) (by decide) (by rfl) (by rfl) (by rfl)
    [] mu (fun mu h => Imm mu h (rgD rs) v) .nil (fun _ q => nomatch q) al (fun _ h' k f => I.enter k f) (fun _ h h' _ x k => x.kp k (fun b q => List.mem_append.mpr (.inl q))) ?_
  intro L wr mu' A s' hL hc hmu hN hA C
  refine wpAny_execs_cons (wpAny_Return_some (Call_ ?_))
  walk_at "blt"
  refine callWith_method1 (wpAny_items_cons ?_)
  refine Cx.comp C hA.hd (by decide) rfl (by decide) (by with_unfolding_all rfl) (fun _ _ e => e) ?_ (fun _ _ e => e) ?_
  · exact C.apart
  walk_at "loc"
  refine ⟨_, _, _, _, rgF n, ⟨C, C.r, by simpa [rgL] using hs, CompPk.ofPair (p := fun _ => true) hA.hd (fun _ => by with_unfolding_all rfl) (fun _ => by with_unfolding_all rfl) (by decide) (rg_tup rs) (fun _ _ _ _ _ _ _ _ _ _ _ _ _ _ => tests_nil) ?_⟩, ?_⟩
  · intro C' mu' mC s' d₁ d₂ v₁ v₂ hd _ Cc e₁ i₁ e₂ i₂
    obtain ⟨⟨a, b⟩, -, e⟩ := List.mem_map.mp hd
    cases e
    obtain ⟨t₁, rfl⟩ := Imm.int_iff.mp i₁
    obtain ⟨t₂, rfl⟩ := Imm.int_iff.mp i₂
    refine Compare_chain (Cc.ld e₁ (chain_link ?_))
    walk_at "cell"
    refine le_int (wpAny_truthy_bool ?_)
    cases hab : decide (a ≤ n) with
    | false => exact ⟨Go.rfl', by simp [rgF, hab, Imm.bool_iff]⟩
    | true =>
      refine chain_last (Cc.ld e₂ (le_int ?_))
      exact ⟨Go.rfl', by simp [rgF, hab, Imm.bool_iff]⟩
  · intro acc s' C
    refine wpAny_items_nil (any_lst (bs := rs.map fun p => decide (p.1 ≤ n) && decide (n ≤ p.2)) hA.hd (mu := mu') ?_ ?_)
    · have z := C.r.2
      rw [filter_tt'] at z
      simpa [boolD, rgL, rgF, List.map_map, Function.comp_def] using z
    · intro s'' g
      have z := h s'' (C.go0.trans g)
      simpa [hasNum, List.any_map, Function.comp_def] using z

/-- adding a range -/
structure ArSt where
  found : List (Int × Int)
  isIn : Bool
  lo : Int
  hi : Int
def arStep (st : ArSt) (one : Int × Int) : ArSt :=
  if one.1 > st.hi + 1 then { st with found := st.found ++ [one] }
  else if one.2 < st.lo - 1 then (if st.isIn then { st with found := st.found ++ [one] } else { st with found := st.found ++ [(st.lo, st.hi)] ++ [one], isIn := true })
  else { st with lo := min st.lo one.1, hi := max st.hi one.2 }
def addRange (rs : List (Int × Int)) (lo hi : Int) : List (Int × Int) :=
  let st := rs.foldl arStep ⟨[], false, lo, hi⟩
  if st.isIn then st.found else st.found ++ [(st.lo, st.hi)]

theorem arLen : ∀ (rs : List (Int × Int)) (st : ArSt), (rs.foldl arStep st).found.length ≤ st.found.length + 2 * rs.length
  | [], st => by simp
  | p :: r, st => by
    have ih := arLen r (arStep st p)
    have e : (arStep st p).found.length ≤ st.found.length + 2 := by
      unfold arStep
      (repeat' split) <;> simp
    rw [List.foldl_cons, List.length_cons]; omega

theorem add_range_ (on : G.On z.heap) (hA : Ar 10 A) (al : Al mu z.heap) {v : Value} {rs : List (Int × Int)} (hs : rs.length ≤ 400) (I : Imm mu z.heap (rgD rs) v) {lo hi : Int} {t t' : Tok} {Q : Value → Shared → Prop}
    (h : ∀ u s', Go [] z s' → Imm mu s'.heap (rgD (addRange rs lo hi)) u → Q u s') :
    wpAny (model PP w) A (call (.ref 60) [v, .int lo t, .int hi t']) Q E z := by
  refine enter (n := 9) (m := fun y => if y = "high" then some (.int hi t') else if y = "low" then some (.int lo t) else if y = "ranges" then some (v) else none) (cm := fun _ => none) on hA (by k_is) (by rfl) (by with_unfolding_all rfl) (by rfl) (by with_unfolding_all rfl) (by with_unfolding_all rfl) (by decide) (by rfl) (by rfl) (by rfl)
    [] mu (fun mu h => Imm mu h (rgD rs) v) .nil (fun _ q => nomatch q) al (fun _ h' k f => I.enter k f) (fun _ h h' _ x k => x.kp k (fun b q => List.mem_append.mpr (.inl q))) ?_
  intro L wr mu' A s' hL hc hmu hN hA C
  refine wpAny_execs_cons (C.setPair hA.hd hL (C.newFnd ?_))
  intro f s₁ hf1 hf0 hfm g₁ F₁ C₁
  refine Constant_bool ⟨_, _, _, fun h => Imm (f :: mu') h (rgD rs) v ∧ Fnd f (f :: mu') h [], C₁.know ⟨?_, F₁⟩ ?_, ?_⟩
  · exact (C.r.enter (W := [f]) g₁.kp.any (fun b q => by rw [List.mem_singleton.mp q]; exact hf1))
  · exact fun h h' x k => ⟨x.1.kp k C₁.wrmu, x.2.kp k C₁.wrmu fun q => hfm (C.wrmu _ q)⟩
  intro s₂ C₂
  have C' := C
  refine wpAny_execs_cons (C₂.forList hA.hd ?_)
  walk_at "loc"
  refine ⟨_, _, _, _, C₂, C₂.r.1, fun I s₃ hI1 g₃ hI C₃ => ?_⟩
  have hfI : f ≠ I := fun q => by obtain ⟨vs, ⟨n, e⟩, _⟩ := C₂.r.2; rw [q, hI1] at e; cases e
  have hfw : f ∉ I :: wr := fun q => (List.mem_cons.mp q).elim hfI fun q => hfm (C.wrmu _ q)
  refine ⟨_, _, fun h => Fnd f (I :: f :: mu') h [], fun i m cm R => ∃ st t₁ t₂, st = (rs.take i).foldl arStep ⟨[], false, lo, hi⟩ ∧ m "found" = some (.ref f) ∧ m "is_in" = some (.bool st.isIn) ∧ m "low" = some (.int st.lo t₁) ∧ m "high" = some (.int st.hi t₂) ∧ R = fun h => Fnd f (I :: f :: mu') h (rgL st.found),
    ⟨_, t, t', rfl, by with_unfolding_all rfl, by with_unfolding_all rfl, by with_unfolding_all rfl, by with_unfolding_all rfl, rfl⟩, C₃.know ?_ ?_, ⟨?_, ?_, ?_⟩⟩
  · obtain ⟨vs, p, il⟩ := C₂.r.2
    rw [ImmL.nil_iff.mp il] at p
    exact ⟨[], p.at fun o e => g₃.kp.all _ o e, .nil⟩
  · exact fun h h' x k => x.kp k (fun b q => List.mem_cons_of_mem _ (List.mem_cons_of_mem _ (C.wrmu b q))) fun q => hfm (C.wrmu _ q)
  · rintro i m cm R ⟨st, t₁, t₂, -, -, -, -, -, rfl⟩ h h' x k
    refine x.keep (fun b o n e => k b o (fun q => n ?_) e) fun o e => k f o hfw e
    rcases List.mem_cons.mp q with q | q
    · rw [q]; exact List.mem_cons_self
    · exact List.mem_cons_of_mem _ (List.mem_cons_of_mem _ (C.wrmu b q))
  · rintro i v m cm R LP s hin ⟨st, t₁, t₂, hst, m1, m2, m3, m4, rfl⟩ hLP C ⟨d, hd, im⟩
    simp only [rgL, List.getElem?_map, Option.map_eq_some_iff] at hd
    obtain ⟨⟨a, b⟩, hab, rfl⟩ := hd
    have hff : f ∈ I :: f :: mu' := List.mem_cons_of_mem _ List.mem_cons_self
    have hlen : st.found.length ≤ 800 := by
      have := arLen (rs.take i) ⟨[], false, lo, hi⟩
      rw [← hst] at this
      have e3 : (rs.take i).length ≤ rs.length := by rw [List.length_take]; exact Nat.min_le_right _ _
      simp only [List.length_nil] at this
      omega
    have hfw' : f ∉ wr := fun q => hfw (List.mem_cons_of_mem _ q)
    have hwm : ∀ b ∈ wr, b ∈ I :: f :: mu' := fun b q => List.mem_cons_of_mem _ (List.mem_cons_of_mem _ (C₁.wrmu b q |> fun q => (List.mem_cons.mp q).elim (fun q => absurd (q ▸ ‹b ∈ wr›) hfw') id))
    have stbP : ∀ st' : ArSt, ∀ h h', ((Fnd f (I :: f :: mu') h (rgL st'.found) ∧ LP h) ∧ Imm (I :: f :: mu') h (.tup [.int a, .int b]) v) → Kp wr h h' → ((Fnd f (I :: f :: mu') h' (rgL st'.found) ∧ LP h') ∧ Imm (I :: f :: mu') h' (.tup [.int a, .int b]) v) :=
      fun st' h h' x k => ⟨⟨x.1.1.kp k hwm hfw', hLP wr h h' (fun b q => List.mem_cons_of_mem _ (C'.wrmu b q)) x.1.2 k⟩, x.2.kp k hwm⟩
    have hfin : ∀ st' m s t₁ t₂, st' = arStep st (a, b) → m "found" = some (.ref f) → m "is_in" = some (.bool st'.isIn) → m "low" = some (.int st'.lo t₁) → m "high" = some (.int st'.hi t₂) →
        Cx G z [] wr (I :: f :: mu') C.envOf m C.cmOf (fun h => (Fnd f (I :: f :: mu') h (rgL st'.found) ∧ LP h) ∧ Imm (I :: f :: mu') h (.tup [.int a, .int b]) v) s →
        ∃ m' cm' R', (∃ st t₁ t₂, st = (rs.take (i + 1)).foldl arStep ⟨[], false, lo, hi⟩ ∧ m' "found" = some (.ref f) ∧ m' "is_in" = some (.bool st.isIn) ∧ m' "low" = some (.int st.lo t₁) ∧ m' "high" = some (.int st.hi t₂) ∧ R' = fun h => Fnd f (I :: f :: mu') h (rgL st.found)) ∧ Cx G z [] wr (I :: f :: mu') C.envOf m' cm' (fun h => R' h ∧ LP h) s := by
      intro st' m s t₁ t₂ e m1 m2 m3 m4 C
      have e2 : st' = (rs.take (i + 1)).foldl arStep ⟨[], false, lo, hi⟩ := by rw [List.take_add_one, hab, List.foldl_append, ← hst, e]; rfl
      exact ⟨m, _, _, ⟨st', t₁, t₂, e2, m1, m2, m3, m4, rfl⟩, C.know C.r.1 fun h h' x k => ⟨x.1.kp k hwm hfw', hLP wr h h' (fun b q => List.mem_cons_of_mem _ (C'.wrmu b q)) x.2 k⟩⟩
    refine wpAny_assign_Name ((C.imm im).st (fun s C => ?_))
    refine wpAny_execs_cons (wpAny_If (wpAny_isTrue_Compare1 (Subscript_ ?_)))
    walk_at "loc"
    refine C.cInt fun _ s C => item_tup (i := 0) C.r.2 rfl (by decide) rfl fun u iu => ?_
    obtain ⟨t₃, rfl⟩ := Imm.int_iff.mp iu
    refine wpAny_BinOp ?_
    walk_at "loc"
    refine C.cInt fun _ s C => add_int (gt_int (wpAny_truthy_bool ?_))
    have C := C.tok (s.toks + 1)
    by_cases c1 : st.hi + 1 < a
    · rw [if_pos (by simpa using c1)]
      have hst' : arStep st (a, b) = { st with found := st.found ++ [(a, b)] } := by simp [arStep, c1]
      refine wpAny_execs_cons (C.appendSt (by walk_at "lk") C.r.1.1 hff ?_)
      walk_at "loc"
      refine ⟨_, _, C.r.1.1, C.r.2, by simp [rgL]; omega, fun s' g F => wpAny_execs_nil (wpAny_execs_nil ?_)⟩
      refine hfin _ _ _ t₁ t₂ hst'.symm (by walk_at "lk") (by walk_at "lk") (by walk_at "lk") (by walk_at "lk") (C.grown g hf0 (let ⟨vs, p, _⟩ := C.r.1.1; ⟨_, p⟩) (fun _ _ q => nomatch q) ?_ (stbP _))
      exact ⟨⟨by simpa [rgL] using F, hLP [f] _ _ (fun b q => by rw [List.mem_singleton.mp q]; exact List.mem_cons_self) C.r.1.2 g.kp⟩, C.r.2.kp g.kp fun b q => by rw [List.mem_singleton.mp q]; exact hff⟩
    · rw [if_neg (by simpa using c1)]
      refine wpAny_execs_cons (wpAny_If (wpAny_isTrue_Compare1 (Subscript_ ?_)))
      walk_at "loc"
      refine C.cInt fun _ s C => item_tup (i := 1) C.r.2 rfl (by decide) rfl fun u iu => ?_
      obtain ⟨t₄, rfl⟩ := Imm.int_iff.mp iu
      refine wpAny_BinOp ?_
      walk_at "loc"
      refine C.cInt fun _ s C => sub_int (lt_int (wpAny_truthy_bool ?_))
      have C := C.tok (s.toks + 1)
      by_cases c2 : b < st.lo - 1
      · rw [if_pos (by simpa using c2)]
        cases hin' : st.isIn with
        | true =>
          have hst' : arStep st (a, b) = { st with found := st.found ++ [(a, b)] } := by simp [arStep, c1, c2, hin']
          refine wpAny_execs_cons (wpAny_If (isTrue_not (isTrue_plain ?_)))
          walk_at "loc"
          refine wpAny_truthy_bool ?_
          rw [hin']
          refine wpAny_execs_nil ?_
          refine wpAny_execs_cons (C.appendSt (by walk_at "lk") C.r.1.1 hff ?_)
          walk_at "loc"
          refine ⟨_, _, C.r.1.1, C.r.2, by simp [rgL]; omega, fun s' g F => ?_⟩
          walk_at "nil"
          refine hfin _ _ _ t₁ t₂ hst'.symm (by walk_at "lk") (by walk_at "lk") (by walk_at "lk") (by walk_at "lk") (C.grown g hf0 (let ⟨vs, p, _⟩ := C.r.1.1; ⟨_, p⟩) (fun _ _ q => nomatch q) ?_ (stbP _))
          exact ⟨⟨by simpa [rgL] using F, hLP [f] _ _ (fun b q => by rw [List.mem_singleton.mp q]; exact List.mem_cons_self) C.r.1.2 g.kp⟩, C.r.2.kp g.kp fun b q => by rw [List.mem_singleton.mp q]; exact hff⟩
        | false =>
          have hst' : arStep st (a, b) = { st with found := st.found ++ [(st.lo, st.hi)] ++ [(a, b)], isIn := true } := by simp [arStep, c1, c2, hin']
          refine wpAny_execs_cons (wpAny_If (isTrue_not (isTrue_plain ?_)))
          walk_at "loc"
          refine wpAny_truthy_bool ?_
          rw [hin']
          refine wpAny_execs_cons (C.appendSt (by walk_at "lk") C.r.1.1 hff ?_)
          refine Tuple_ (wpAny_items_cons ?_)
          walk_at "loc"
          refine wpAny_items_cons ?_
          walk_at "loc"
          refine wpAny_items_nil (C.newTuple (ds := [.int st.lo, .int st.hi]) (.cons .int (.cons .int .nil)) (Nat.le_add_left _ _) fun tv s C => ?_)
          refine ⟨_, _, C.r.1.1.1, C.r.2, by simp [rgL]; omega, fun s' g F => ?_⟩
          have C := C.grown (P := fun h => (Fnd f (I :: f :: mu') h (rgL (st.found ++ [(st.lo, st.hi)])) ∧ LP h) ∧ Imm (I :: f :: mu') h (.tup [.int a, .int b]) v) g hf0 (let ⟨vs, p, _⟩ := C.r.1.1.1; ⟨_, p⟩) (fun _ _ q => nomatch q)
            ⟨⟨by simpa [rgL] using F, hLP [f] _ _ (fun b q => by rw [List.mem_singleton.mp q]; exact List.mem_cons_self) C.r.1.1.2 g.kp⟩, C.r.1.2.kp g.kp fun b q => by rw [List.mem_singleton.mp q]; exact hff⟩ (stbP { st with found := st.found ++ [(st.lo, st.hi)] })
          refine wpAny_execs_cons (wpAny_Assign_Name (Constant_bool (C.st (fun s C => ?_))))
          refine wpAny_execs_nil (wpAny_execs_cons (C.appendSt (by walk_at "lk") C.r.1.1 hff ?_))
          walk_at "loc"
          refine ⟨_, _, C.r.1.1, C.r.2, by simp [rgL]; omega, fun s' g F => ?_⟩
          walk_at "nil"
          refine hfin _ _ _ t₁ t₂ hst'.symm (by walk_at "lk") (by walk_at "lk") (by walk_at "lk") (by walk_at "lk") (C.grown g hf0 (let ⟨vs, p, _⟩ := C.r.1.1; ⟨_, p⟩) (fun _ _ q => nomatch q) ?_ (stbP _))
          exact ⟨⟨by simpa [rgL] using F, hLP [f] _ _ (fun b q => by rw [List.mem_singleton.mp q]; exact List.mem_cons_self) C.r.1.2 g.kp⟩, C.r.2.kp g.kp fun b q => by rw [List.mem_singleton.mp q]; exact hff⟩
      · rw [if_neg (by simpa using c2)]
        have hst' : arStep st (a, b) = { st with lo := min st.lo a, hi := max st.hi b } := by simp [arStep, c1, c2]
        refine wpAny_execs_cons (C.setPair hA.hd hL (Call_ ?_))
        walk_at "blt"
        refine callWith_method1 (wpAny_items_cons ?_)
        walk_at "loc"
        refine wpAny_items_cons (Subscript_ ?_)
        walk_at "loc"
        refine C.cInt fun _ s C => item_tup (i := 0) C.r.2 rfl (by decide) rfl fun u iu => ?_
        obtain ⟨t₅, rfl⟩ := Imm.int_iff.mp iu
        refine wpAny_items_nil (min_int hA.hd fun t₆ s' g => ?_)
        have C := C.go g
        refine Call_ ?_
        walk_at "blt"
        refine callWith_method1 (wpAny_items_cons ?_)
        walk_at "loc"
        refine wpAny_items_cons (Subscript_ ?_)
        walk_at "loc"
        refine C.cInt fun _ s C => item_tup (i := 1) C.r.2 rfl (by decide) rfl fun u iu => ?_
        obtain ⟨t₇, rfl⟩ := Imm.int_iff.mp iu
        refine wpAny_items_nil (max_int hA.hd fun t₈ s' g => ?_)
        have C := C.go g
        refine ⟨_, _, _, _, C, fun s' C => ?_⟩
        walk_at "nil"
        refine hfin _ _ _ t₆ t₈ hst'.symm ?_ ?_ ?_ ?_ C
        · walk_at "lk"
        · walk_at "lk"
        · walk_at "lk"
        · walk_at "lk"
  · rintro m cm R s ⟨st, t₁, t₂, hst, m1, m2, m3, m4, rfl⟩ C
    have hst' : st = rs.foldl arStep ⟨[], false, lo, hi⟩ := by rw [hst, show (rgL rs).length = rs.length by simp [rgL], List.take_length]
    have hlen : st.found.length ≤ 800 := by
      have := arLen rs ⟨[], false, lo, hi⟩
      rw [← hst'] at this
      simp only [List.length_nil] at this
      omega
    have sub1 : ∀ b ∈ f :: mu', b ∈ I :: f :: mu' := fun b q => List.mem_cons_of_mem _ q
    have hfmu : f ∉ mu := fun q => hfm (hmu f q)
    refine wpAny_execs_cons (wpAny_Return_some (IfExp_ (isTrue_plain ?_)))
    walk_at "loc"
    refine wpAny_truthy_bool ?_
    cases hin : st.isIn with
    | true =>
      rw [if_pos rfl]
      walk_at "loc"
      refine h _ _ C.go0 ?_
      have z := C.r.freeze (mu' := mu) (fun b q => sub1 b (List.mem_cons_of_mem _ (hmu b q))) hfmu
      have e : addRange rs lo hi = st.found := by unfold addRange; rw [← hst']; simp [hin]
      rw [e]; exact z
    | false =>
      rw [if_neg Bool.false_ne_true]
      refine wpAny_BinOp ?_
      walk_at "loc"
      refine List_ (wpAny_items_cons (Tuple_ (wpAny_items_cons ?_)))
      walk_at "loc"
      refine wpAny_items_cons ?_
      walk_at "loc"
      refine wpAny_items_nil (C.newTuple (ds := [.int st.lo, .int st.hi]) (.cons .int (.cons .int .nil)) (Nat.le_add_left _ _) fun tv s C => ?_)
      refine wpAny_items_nil (C.newList (ds := [.tup [.int st.lo, .int st.hi]]) (.cons C.r.2 .nil) (Nat.le_add_left _ _) fun lv s C => ?_)
      have fz : Imm mu s.heap (.lst (rgL st.found)) (.ref f) := C.r.1.1.freeze (fun b q => sub1 b (List.mem_cons_of_mem _ (hmu b q))) hfmu
      refine add_lst (C.al.less fun b q => List.mem_cons_of_mem _ (hmu b q)) fz (C.r.2.less fun b q => List.mem_cons_of_mem _ (hmu b q)) (by simp [rgL]; omega) fun r s' g ir => ?_
      refine h _ _ (C.go0.trans g) ?_
      have e : addRange rs lo hi = st.found ++ [(st.lo, st.hi)] := by unfold addRange; rw [← hst']; simp [hin]
      rw [e]; simpa [rgD, rgL] using ir

theorem add_number_ (on : G.On z.heap) (hA : Ar 11 A) (al : Al mu z.heap) {v : Value} {rs : List (Int × Int)} (hs : rs.length ≤ 400) (I : Imm mu z.heap (rgD rs) v) {n : Int} {t : Tok} {Q : Value → Shared → Prop}
    (h : ∀ u s', Go [] z s' → Imm mu s'.heap (rgD (addRange rs n n)) u → Q u s') :
    wpAny (model PP w) A (call (.ref 53) [v, .int n t]) Q E z := by
  refine enter (n := 10) (m := fun y => if y = "n" then some (.int n t) else if y = "ranges" then some (v) else none) (cm := fun _ => none) on hA (by k_is) (by rfl) (by with_unfolding_all rfl) (by rfl) (by with_unfolding_all rfl) (by with_unfolding_all rfl) (by decide) (by rfl) (by rfl) (by rfl)
    [] mu (fun mu h => Imm mu h (rgD rs) v) .nil (fun _ q => nomatch q) al (fun _ h' k f => I.enter k f) (fun _ h h' _ x k => x.kp k (fun b q => List.mem_append.mpr (.inl q))) ?_
  intro L wr mu' A s' hL hc hmu hN hA C
  refine wpAny_execs_cons (wpAny_Return_some (Call_ ?_))
  walk_at "glo"
  refine callWith_K C.X (by k_is) (wpAny_items_cons ?_)
  walk_at "loc"
  refine wpAny_items_cons ?_
  walk_at "loc"
  refine wpAny_items_cons ?_
  walk_at "loc"
  refine wpAny_items_nil ⟨C.X, add_range_ C.on hA C.al hs C.r fun u s' g iu => h u s' (C.go0.trans g) (iu.less hmu)⟩
end
-- part F2
section
variable {w : World} {G : Gd w (Kf w.params)} {z : Shared} {A : Around} {E : Value → Shared → Prop} {mu : List Addr}
set_option maxHeartbeats 400000

theorem ack_of_ (on : G.On z.heap) (hA : Ar 10 A) (al : Al mu z.heap) {v : Value} {ds : List D} {k : Nat} (hs : ds.length ≤ k) (hk : k ≤ 100) (I : Imm mu z.heap (.lst ds) v) {t : Tok} {Q : Value → Shared → Prop}
    (h : ∀ u s', Go [] z s' → Imm mu s'.heap (.lst ds) u → Q u s') :
    wpAny (model PP w) A (call (.ref 72) [v, .int k t]) Q E z := by
  refine enter (n := 9) (m := fun y => if y = "most" then some (.int k t) else if y = "ranges" then some (v) else none) (cm := fun _ => none) on hA (by k_is) (by rfl) (by with_unfolding_all rfl) (by rfl) (by with_unfolding_all rfl) (by with_unfolding_all rfl) (by decide) (by rfl) (by rfl) (by rfl)
    [] mu (fun mu h => Imm mu h (.lst ds) v) .nil (fun _ q => nomatch q) al (fun _ h' k f => I.enter k f) (fun _ h h' _ x k => x.kp k (fun b q => List.mem_append.mpr (.inl q))) ?_
  intro L wr mu' A s' hL hc hmu hN hA C
  refine wpAny_execs_cons (wpAny_Return_some (Call_ ?_))
  walk_at "blt"
  refine callWith_type1 (wpAny_items_cons (C.sliceTo ?_))
  walk_at "loc"
  walk_at "loc"
  refine ⟨ds, k, t, _, C, rfl, C.r, by omega, fun u s C => ?_⟩
  refine wpAny_items_nil (list_lst C.al C.r.2 (by rw [List.length_take]; omega) fun u' s' g iu => ?_)
  rw [List.take_of_length_le hs] at iu
  exact h _ _ (C.go0.trans g) (iu.less hmu)

/-- the numbers that lie in ranges -/
theorem newly_acked_ (on : G.On z.heap) (hA : Ar 20 A) (al : Al mu z.heap) {v u : Value} {ns : List Int} {rs : List (Int × Int)} (hn : ns.length < 64) (hs : rs.length ≤ 400) (I : Imm mu z.heap (.lst (intD ns)) v) (J : Imm mu z.heap (rgD rs) u) {Q : Value → Shared → Prop}
    (h : ∀ r ns' s', Go [] z s' → Imm mu s'.heap (.lst (intD ns')) r → ns'.Perm (ns.filter (hasNum rs)) → ns'.Pairwise (· ≤ ·) → Q r s') :
    wpAny (model PP w) A (call (.ref 77) [v, u]) Q E z := by
  refine enter (n := 19) (m := fun y => if y = "sent_numbers" then some (v) else none) (cm := fun y => if y = "ranges" then some (u) else none) on hA (by k_is) (by rfl) (by with_unfolding_all rfl) (by rfl) (by with_unfolding_all rfl) (by with_unfolding_all rfl) (by decide) (by rfl) (by rfl) (by rfl)
    [] mu (fun mu h => Imm mu h (.lst (intD ns)) v ∧ Imm mu h (rgD rs) u) .nil (fun _ q => nomatch q) al (fun _ h' k f => ⟨I.enter k f, J.enter k f⟩) (fun _ h h' _ x k => ⟨x.1.kp k (fun b q => List.mem_append.mpr (.inl q)), x.2.kp k (fun b q => List.mem_append.mpr (.inl q))⟩) ?_
  intro L wr mu' A s' hL hc hmu hN hA C
  refine wpAny_execs_cons (wpAny_Return_some (Call_ ?_))
  walk_at "blt"
  refine callWith_method1 (wpAny_items_cons (C.comp hA.hd (by decide) rfl (by decide) (by with_unfolding_all rfl) (fun _ _ e => e) C.apart (fun _ _ e => e) ?_))
  walk_at "loc"
  refine ⟨_, intD ns, _, fun d => match d with | .int n => hasNum rs n | _ => false, fun d => d, ⟨C, C.r.1, by simp [intD]; omega, CompPk.ofName (fun _ => by with_unfolding_all rfl) ?_ ?_⟩, ?_⟩
  · intro C' mu' mC s d v hd Cc e im
    obtain ⟨n, -, rfl⟩ := List.mem_map.mp hd
    obtain ⟨t, rfl⟩ := Imm.int_iff.mp im
    refine wpAny_tests_one (isTrue_plain (Call_ ?_))
    walk_at "glo"
    refine callWith_K Cc.X (by k_is) (wpAny_items_cons ?_)
    walk_at "cell"
    refine wpAny_items_cons (Cc.ld e (wpAny_items_nil ⟨Cc.X, ?_⟩))
    exact has_number_ Cc.on (hA.le (by omega)) Al.nil (by omega) (Cc.r.2.less fun _ q => nomatch q) fun s' g => wpAny_truthy_bool ⟨rfl, g⟩
  · intro C' mu' mC s d v hd _ Cc e im
    exact Cc.ld e ⟨Go.rfl', im⟩
  · intro acc s C
    have e : (((intD ns).filter fun d => match d with | .int n => hasNum rs n | _ => false).map fun d => d) = intD (ns.filter (hasNum rs)) := by
      simp [intD, List.filter_map, Function.comp_def]
    have im := C.r.2
    rw [e] at im
    refine wpAny_items_nil (sorted_lst C.al im (Nat.lt_of_le_of_lt (List.length_filter_le _ _) hn) fun u' ns' s' g iu hp hs => ?_)
    exact h _ ns' _ (C.go0.trans g) (iu.less hmu) hp hs

/-- ranges without all numbers below one -/
def pruneR (rs : List (Int × Int)) (low : Int) : List (Int × Int) := (rs.filter fun p => decide (low ≤ p.2)).map fun p => (max p.1 low, p.2)
theorem prune_ (on : G.On z.heap) (hA : Ar 20 A) (al : Al mu z.heap) {v : Value} {rs : List (Int × Int)} {low : Int} {t : Tok} (hs : rs.length ≤ 900) (I : Imm mu z.heap (rgD rs) v) {Q : Value → Shared → Prop}
    (h : ∀ r s', Go [] z s' → Imm mu s'.heap (rgD (pruneR rs low)) r → Q r s') :
    wpAny (model PP w) A (call (.ref 82) [v, .int low t]) Q E z := by
  refine enter (n := 19) (m := fun y => if y = "ranges" then some (v) else none) (cm := fun y => if y = "low" then some (.int low t) else none) on hA (by k_is) (by rfl) (by with_unfolding_all rfl) (by rfl) (by with_unfolding_all rfl) (by with_unfolding_all rfl) (by decide) (by rfl) (by rfl) (by rfl)
    [] mu (fun mu h => Imm mu h (rgD rs) v) .nil (fun _ q => nomatch q) al (fun _ h' k f => I.enter k f) (fun _ h h' _ x k => x.kp k (fun b q => List.mem_append.mpr (.inl q))) ?_
  intro L wr mu' A s' hL hc hmu hN hA C
  refine wpAny_execs_cons (wpAny_Return_some (C.comp hA.hd (by decide) rfl (by decide) (by with_unfolding_all rfl) (fun _ _ e => e) C.apart (fun _ _ e => e) ?_))
  walk_at "loc"
  refine ⟨_, rgL rs, _, fun d => match d with | .tup [.int a, .int b] => decide (low ≤ b) | _ => false, fun d => match d with | .tup [.int a, .int b] => .tup [.int (max a low), .int b] | _ => .none, ⟨C, C.r, by simp [rgL]; omega, CompPk.ofName (fun _ => by with_unfolding_all rfl) ?_ ?_⟩, ?_⟩
  · intro C' mu' mC s d v hd Cc e im
    obtain ⟨⟨a, b⟩, -, rfl⟩ := List.mem_map.mp hd
    have Cc := Cc.imm im
    refine wpAny_tests_one (wpAny_isTrue_Compare1 (Subscript_ (Cc.ld e (Cc.cInt fun _ s Cc => item_tup (i := 1) Cc.r.2 rfl (by decide) rfl fun u iu => ?_))))
    obtain ⟨t', rfl⟩ := Imm.int_iff.mp iu
    walk_at "cell"
    exact ge_int (wpAny_truthy_bool ⟨rfl, Cc.go0⟩)
  · intro C' mu' mC s d v hd hp Cc e im
    obtain ⟨⟨a, b⟩, -, rfl⟩ := List.mem_map.mp hd
    have Cc := Cc.imm im
    refine Tuple_ (wpAny_items_cons (Call_ ?_))
    walk_at "blt"
    refine callWith_method1 (wpAny_items_cons (Subscript_ (Cc.ld e (Cc.cInt fun _ s Cc => item_tup (i := 0) Cc.r.2 rfl (by decide) rfl fun u iu => ?_))))
    obtain ⟨t', rfl⟩ := Imm.int_iff.mp iu
    refine wpAny_items_cons ?_
    walk_at "cell"
    refine wpAny_items_nil (max_int hA.hd fun t₂ s' g => ?_)
    have Cc := Cc.go g
    refine wpAny_items_cons (Subscript_ (Cc.ld e (Cc.cInt fun _ s Cc => item_tup (i := 1) Cc.r.2 rfl (by decide) rfl fun u iu => ?_)))
    obtain ⟨t₃, rfl⟩ := Imm.int_iff.mp iu
    exact wpAny_items_nil (Cc.newTuple (ds := [.int (max a low), .int b]) (.cons .int (.cons .int .nil)) (Nat.le_add_left _ _) fun tv s Cc => ⟨Cc.go0, Cc.r.2⟩)
  · intro acc s C
    refine h _ _ C.go0 ?_
    have im := C.r.2
    have e : ((rgL rs).filter (fun d => match d with | .tup [.int a, .int b] => decide (low ≤ b) | _ => false)).map (fun d => match d with | .tup [.int a, .int b] => D.tup [.int (max a low), .int b] | _ => .none) = rgL (pruneR rs low) := by
      simp [rgL, pruneR, List.filter_map, Function.comp_def]
    rw [e] at im
    exact im.less hmu

/-- the newest of too many ranges: here there are never too many -/
theorem kept_ranges_ (on : G.On z.heap) (hA : Ar 20 A) (al : Al mu z.heap) {v : Value} {rs : List (Int × Int)} (hs : rs.length ≤ 64) (I : Imm mu z.heap (rgD rs) v) {Q : Value → Shared → Prop}
    (h : ∀ s', Go [] z s' → Q v s') :
    wpAny (model PP w) A (call (.ref 256) [v]) Q E z := by
  refine enter (n := 19) (m := fun y => if y = "ranges" then some (v) else none) (cm := fun _ => none) on hA (by k_is) (by rfl) (by with_unfolding_all rfl) (by rfl) (by with_unfolding_all rfl) (by with_unfolding_all rfl) (by decide) (by rfl) (by rfl) (by rfl)
    [] mu (fun mu h => Imm mu h (rgD rs) v) .nil (fun _ q => nomatch q) al (fun _ h' k f => I.enter k f) (fun _ h h' _ x k => x.kp k (fun b q => List.mem_append.mpr (.inl q))) ?_
  intro L wr mu' A s' hL hc hmu hN hA C
  refine wpAny_execs_cons (wpAny_If (wpAny_isTrue_Compare1 (Call_ ?_)))
  walk_at "blt"
  refine callWith_method1 (wpAny_items_cons ?_)
  walk_at "loc"
  refine wpAny_items_nil (len_lst C.r (by simp [rgL]; omega) fun t s' g => ?_)
  have C := C.go g
  walk_at "glo"
  refine le_int (wpAny_truthy_bool ?_)
  rw [if_pos (by simp [rgL]; omega)]
  refine wpAny_execs_cons (wpAny_Return_some ?_)
  walk_at "loc"
  exact h _ C.go0
end
-- part F3
def rowD (l : List (Str × List D)) : List D := l.map fun p => .tup (.str p.1 :: p.2)
section
variable {w : World} {G : Gd w (Kf w.params)} {z : Shared} {A : Around} {E : Value → Shared → Prop} {mu : List Addr}
set_option maxHeartbeats 400000

def inTwo (x : Str) : Bool := (["ack", "close"] : List Str).any fun y => y.cps.toList == x.cps.toList
def inThree (x : Str) : Bool := (["ack", "padding", "close"] : List Str).any fun y => y.cps.toList == x.cps.toList

theorem is_eliciting_ (on : G.On z.heap) (hA : Ar 6 A) (al : Al mu z.heap) {v : Value} {x : Str} {rest : List D} (I : Imm mu z.heap (.tup (.str x :: rest)) v) {Q : Value → Shared → Prop}
    (h : ∀ s', Go [] z s' → Q (.bool (!inThree x)) s') :
    wpAny (model PP w) A (call (.ref 29) [v]) Q E z := by
  refine enter (n := 5) (m := fun y => if y = "f" then some (v) else none) (cm := fun _ => none) on hA (by k_is) (by rfl) (by with_unfolding_all rfl) (by rfl) (by with_unfolding_all rfl) (by with_unfolding_all rfl) (by decide) (by rfl) (by rfl) (by rfl)
    [] mu (fun mu h => Imm mu h (.tup (.str x :: rest)) v) .nil (fun _ q => nomatch q) al (fun _ h' k f => I.enter k f) (fun _ h h' _ x k => x.kp k (fun b q => List.mem_append.mpr (.inl q))) ?_
  intro L wr mu' A s' hL hc hmu hN hA C
  refine wpAny_execs_cons (wpAny_Return_some (wpAny_Compare1 (Subscript_ ?_)))
  walk_at "loc"
  refine C.cInt fun _ s C => item_tup (i := 0) C.r rfl (by decide) rfl fun u iu => ?_
  obtain ⟨t, rfl⟩ := Imm.str_iff.mp iu
  walk_at "glo"
  refine PySem.SeqRoads2.notIn_tuple (n := 0) (items := #[.str "ack" 196, .str "padding" 197, .str "close" 198]) (fun y => match y with | .str a _ => a.cps.toList == x.cps.toList | _ => false) ?_ (C.X _ _ (by k_is)) ?_
  · intro y hy
    simp only [List.mem_cons, List.not_mem_nil, or_false, Array.mem_def] at hy
    rcases hy with rfl | rfl | rfl <;> exact PySem.SeqRoads2.EqGives.str _ _ _ _
  · have e : (!(#[.str "ack" 196, .str "padding" 197, .str "close" 198] : Array Value).any fun y => match y with | .str a _ => a.cps.toList == x.cps.toList | _ => false) = !inThree x := by simp [inThree]
    rw [e]
    exact h _ C.go0

theorem counts_in_flight_ (on : G.On z.heap) (hA : Ar 6 A) (al : Al mu z.heap) {v : Value} {x : Str} {rest : List D} (I : Imm mu z.heap (.tup (.str x :: rest)) v) {Q : Value → Shared → Prop}
    (h : ∀ s', Go [] z s' → Q (.bool (!inTwo x)) s') :
    wpAny (model PP w) A (call (.ref 36) [v]) Q E z := by
  refine enter (n := 5) (m := fun y => if y = "f" then some (v) else none) (cm := fun _ => none) on hA (by k_is) (by rfl) (by with_unfolding_all rfl) (by rfl) (by with_unfolding_all rfl) (by with_unfolding_all rfl) (by decide) (by rfl) (by rfl) (by rfl)
    [] mu (fun mu h => Imm mu h (.tup (.str x :: rest)) v) .nil (fun _ q => nomatch q) al (fun _ h' k f => I.enter k f) (fun _ h h' _ x k => x.kp k (fun b q => List.mem_append.mpr (.inl q))) ?_
  intro L wr mu' A s' hL hc hmu hN hA C
  refine wpAny_execs_cons (wpAny_Return_some (wpAny_Compare1 (Subscript_ ?_)))
  walk_at "loc"
  refine C.cInt fun _ s C => item_tup (i := 0) C.r rfl (by decide) rfl fun u iu => ?_
  obtain ⟨t, rfl⟩ := Imm.str_iff.mp iu
  refine Tuple_ (wpAny_items_cons (C.cStr fun t₁ s C => wpAny_items_cons (C.cStr fun t₂ s C => wpAny_items_nil ?_)))
  refine C.newTuple (ds := [.str "ack", .str "close"]) (.cons .str (.cons .str .nil)) (Nat.le_add_left _ _) fun tv s C => ?_
  obtain ⟨l, n, vs, rfl, -, hl, il⟩ := Imm.tup_iff.mp C.r.2
  refine PySem.SeqRoads2.notIn_tuple (items := vs.toArray) (fun y => match y with | .str a _ => a.cps.toList == x.cps.toList | _ => false) ?_ hl ?_
  · obtain ⟨u1, r1, rfl, i1, il⟩ := ImmL.cons_iff.mp il
    obtain ⟨u2, r2, rfl, i2, il⟩ := ImmL.cons_iff.mp il
    rw [ImmL.nil_iff] at il; subst il
    obtain ⟨t₁, rfl⟩ := Imm.str_iff.mp i1
    obtain ⟨t₂, rfl⟩ := Imm.str_iff.mp i2
    intro y hy
    simp only [List.mem_cons, List.not_mem_nil, or_false, Array.mem_def] at hy
    rcases hy with rfl | rfl <;> exact PySem.SeqRoads2.EqGives.str _ _ _ _
  · obtain ⟨u1, r1, rfl, i1, il⟩ := ImmL.cons_iff.mp il
    obtain ⟨u2, r2, rfl, i2, il⟩ := ImmL.cons_iff.mp il
    rw [ImmL.nil_iff] at il; subst il
    obtain ⟨t₁, rfl⟩ := Imm.str_iff.mp i1
    obtain ⟨t₂, rfl⟩ := Imm.str_iff.mp i2
    have e : (!(([.str "ack" t₁, .str "close" t₂] : List Value).toArray).any fun y => match y with | .str a _ => a.cps.toList == x.cps.toList | _ => false) = !inTwo x := by simp [inTwo]
    rw [e]
    exact h _ C.go0

theorem any_eliciting_ (on : G.On z.heap) (hA : Ar 16 A) (al : Al mu z.heap) {v : Value} {l : List (Str × List D)} (hs : l.length ≤ 10) (I : Imm mu z.heap (.lst (rowD l)) v) {Q : Value → Shared → Prop}
    (h : ∀ b s', Go [] z s' → Q (.bool b) s') :
    wpAny (model PP w) A (call (.ref 41) [v]) Q E z := by
  refine enter (n := 15) (m := fun y => if y = "row" then some (v) else none) (cm := fun _ => none) on hA (by k_is) (by rfl) (by with_unfolding_all rfl) (by rfl) (by with_unfolding_all rfl) (by with_unfolding_all rfl) (by decide) (by rfl) (by rfl) (by rfl)
    [] mu (fun mu h => Imm mu h (.lst (rowD l)) v) .nil (fun _ q => nomatch q) al (fun _ h' k f => I.enter k f) (fun _ h h' _ x k => x.kp k (fun b q => List.mem_append.mpr (.inl q))) ?_
  intro L wr mu' A s' hL hc hmu hN hA C
  refine wpAny_execs_cons (wpAny_Return_some (wpAny_Compare1 (C.comp hA.hd (by decide) rfl (by decide) (by with_unfolding_all rfl) (fun _ _ e => e) C.apart (fun _ _ e => e) ?_)))
  walk_at "loc"
  refine ⟨_, rowD l, _, fun d => match d with | .tup (.str x :: _) => !inThree x | _ => false, fun d => d, ⟨C, C.r, by simp [rowD]; omega, CompPk.ofName (fun _ => by with_unfolding_all rfl) ?_ ?_⟩, ?_⟩
  · intro C' mu' mC s d v hd Cc e im
    obtain ⟨⟨x, rest⟩, -, rfl⟩ := List.mem_map.mp hd
    refine wpAny_tests_one (isTrue_plain (Call_ ?_))
    walk_at "glo"
    refine callWith_K Cc.X (by k_is) (wpAny_items_cons (Cc.ld e (wpAny_items_nil ⟨Cc.X, ?_⟩)))
    exact is_eliciting_ Cc.on (hA.le (by omega)) Al.nil (im.less fun _ q => nomatch q) fun s' g => wpAny_truthy_bool ⟨rfl, g⟩
  · intro C' mu' mC s d v hd _ Cc e im
    exact Cc.ld e ⟨Go.rfl', im⟩
  · intro acc s C
    refine List_ (wpAny_items_nil (C.newList .nil (Nat.zero_le _) fun u s C => ?_))
    exact ne_nilL (by have := hA.2.2; omega) C.r.1.2 C.r.2 (h _ _ C.go0)

theorem any_in_flight_ (on : G.On z.heap) (hA : Ar 16 A) (al : Al mu z.heap) {v : Value} {l : List (Str × List D)} (hs : l.length ≤ 10) (I : Imm mu z.heap (.lst (rowD l)) v) {Q : Value → Shared → Prop}
    (h : ∀ b s', Go [] z s' → Q (.bool b) s') :
    wpAny (model PP w) A (call (.ref 46) [v]) Q E z := by
  refine enter (n := 15) (m := fun y => if y = "row" then some (v) else none) (cm := fun _ => none) on hA (by k_is) (by rfl) (by with_unfolding_all rfl) (by rfl) (by with_unfolding_all rfl) (by with_unfolding_all rfl) (by decide) (by rfl) (by rfl) (by rfl)
    [] mu (fun mu h => Imm mu h (.lst (rowD l)) v) .nil (fun _ q => nomatch q) al (fun _ h' k f => I.enter k f) (fun _ h h' _ x k => x.kp k (fun b q => List.mem_append.mpr (.inl q))) ?_
  intro L wr mu' A s' hL hc hmu hN hA C
  refine wpAny_execs_cons (wpAny_Return_some (wpAny_Compare1 (C.comp hA.hd (by decide) rfl (by decide) (by with_unfolding_all rfl) (fun _ _ e => e) C.apart (fun _ _ e => e) ?_)))
  walk_at "loc"
  refine ⟨_, rowD l, _, fun d => match d with | .tup (.str x :: _) => !inTwo x | _ => false, fun d => d, ⟨C, C.r, by simp [rowD]; omega, CompPk.ofName (fun _ => by with_unfolding_all rfl) ?_ ?_⟩, ?_⟩
  · intro C' mu' mC s d v hd Cc e im
    obtain ⟨⟨x, rest⟩, -, rfl⟩ := List.mem_map.mp hd
    refine wpAny_tests_one (isTrue_plain (Call_ ?_))
    walk_at "glo"
    refine callWith_K Cc.X (by k_is) (wpAny_items_cons (Cc.ld e (wpAny_items_nil ⟨Cc.X, ?_⟩)))
    exact counts_in_flight_ Cc.on (hA.le (by omega)) Al.nil (im.less fun _ q => nomatch q) fun s' g => wpAny_truthy_bool ⟨rfl, g⟩
  · intro C' mu' mC s d v hd _ Cc e im
    exact Cc.ld e ⟨Go.rfl', im⟩
  · intro acc s C
    refine List_ (wpAny_items_nil (C.newList .nil (Nat.zero_le _) fun u s C => ?_))
    exact ne_nilL (by have := hA.2.2; omega) C.r.1.2 C.r.2 (h _ _ C.go0)
end
-- part F4
def spNms : List Str := ["name", "next_number", "sent", "largest_acked", "acked", "last_eliciting_time", "loss_time", "received", "largest_seen", "largest_time", "floor", "first_unacked", "unacked", "wants_now", "has_new", "ecn", "is_gone"]
def pkNms : List Str := ["number", "time", "size", "frames", "is_eliciting", "in_flight"]
section
variable {w : World} {G : Gd w (Kf w.params)} {z : Shared} {A : Around} {E : Value → Shared → Prop} {mu mu' : List Addr}
set_option maxHeartbeats 400000

theorem spOk : ClsOk (Kf w.params) 245 spNms where
  ga := by k_is
  gt := by k_is
  sa := by k_is
  po := by k_is
  hd := by k_is
  no := fun name hn => by
    simp only [spNms, List.mem_cons, List.not_mem_nil, or_false] at hn
    rcases hn with rfl | rfl | rfl | rfl | rfl | rfl | rfl | rfl | rfl | rfl | rfl | rfl | rfl | rfl | rfl | rfl | rfl <;> k_is
theorem pkOk : ClsOk (Kf w.params) 100 pkNms where
  ga := by k_is
  gt := by k_is
  sa := by k_is
  po := by k_is
  hd := by k_is
  no := fun name hn => by
    simp only [pkNms, List.mem_cons, List.not_mem_nil, or_false] at hn
    rcases hn with rfl | rfl | rfl | rfl | rfl | rfl <;> k_is

/-- one end, as far as it counts -/
structure Sd where
  next : Int
  sent : List Int
  la : Option Int
  acked : List (Int × Int)
  recv : List (Int × Int)
structure SpF (sx : Addr) (S : Sd) (m : Str → Option D) : Prop where
  name : m "name" = some (.str "application")
  next : m "next_number" = some (.int S.next)
  sent : m "sent" = some (.raw (.ref sx))
  la : m "largest_acked" = some (optD S.la)
  acked : m "acked" = some (rgD S.acked)
  recv : m "received" = some (rgD S.recv)
  seen : ∃ o, m "largest_seen" = some (optD o)
  time : ∃ o, m "largest_time" = some (optD o)
  floor : m "floor" = some (.int 0)
  fu : ∃ o, m "first_unacked" = some (optD o)
  un : ∃ i, m "unacked" = some (.int i)
  wn : (m "wants_now").isSome = true
  hn : (m "has_new").isSome = true
  lt : (m "last_eliciting_time").isSome = true
  ecn : m "ecn" = some (.lst [.int 0, .int 0, .int 0])
theorem SpF.putRecv {sx : Addr} {S : Sd} {m : Str → Option D} (F : SpF sx S m) (r : List (Int × Int)) : SpF sx { S with recv := r } (fun y => if y = "received" then some (rgD r) else m y) where
  name := upd_ne (x := "name") (y := "received") (by rfl) F.name
  next := upd_ne (x := "next_number") (y := "received") (by rfl) F.next
  sent := upd_ne (x := "sent") (y := "received") (by rfl) F.sent
  la := upd_ne (x := "largest_acked") (y := "received") (by rfl) F.la
  acked := upd_ne (x := "acked") (y := "received") (by rfl) F.acked
  recv := upd_eq
  seen := let ⟨o, e⟩ := F.seen; ⟨o, upd_ne (x := "largest_seen") (y := "received") (by rfl) e⟩
  time := let ⟨o, e⟩ := F.time; ⟨o, upd_ne (x := "largest_time") (y := "received") (by rfl) e⟩
  floor := upd_ne (x := "floor") (y := "received") (by rfl) F.floor
  fu := let ⟨o, e⟩ := F.fu; ⟨o, upd_ne (x := "first_unacked") (y := "received") (by rfl) e⟩
  un := let ⟨o, e⟩ := F.un; ⟨o, upd_ne (x := "unacked") (y := "received") (by rfl) e⟩
  wn := (congrArg Option.isSome (upd_ne (x := "wants_now") (y := "received") (by rfl) rfl)).trans F.wn
  hn := (congrArg Option.isSome (upd_ne (x := "has_new") (y := "received") (by rfl) rfl)).trans F.hn
  lt := (congrArg Option.isSome (upd_ne (x := "last_eliciting_time") (y := "received") (by rfl) rfl)).trans F.lt
  ecn := upd_ne (x := "ecn") (y := "received") (by rfl) F.ecn
theorem SpF.putNext {sx : Addr} {S : Sd} {m : Str → Option D} (F : SpF sx S m) (r : Int) : SpF sx { S with next := r } (fun y => if y = "next_number" then some (.int r) else m y) where
  name := upd_ne (x := "name") (y := "next_number") (by rfl) F.name
  next := upd_eq
  sent := upd_ne (x := "sent") (y := "next_number") (by rfl) F.sent
  la := upd_ne (x := "largest_acked") (y := "next_number") (by rfl) F.la
  acked := upd_ne (x := "acked") (y := "next_number") (by rfl) F.acked
  recv := upd_ne (x := "received") (y := "next_number") (by rfl) F.recv
  seen := let ⟨o, e⟩ := F.seen; ⟨o, upd_ne (x := "largest_seen") (y := "next_number") (by rfl) e⟩
  time := let ⟨o, e⟩ := F.time; ⟨o, upd_ne (x := "largest_time") (y := "next_number") (by rfl) e⟩
  floor := upd_ne (x := "floor") (y := "next_number") (by rfl) F.floor
  fu := let ⟨o, e⟩ := F.fu; ⟨o, upd_ne (x := "first_unacked") (y := "next_number") (by rfl) e⟩
  un := let ⟨o, e⟩ := F.un; ⟨o, upd_ne (x := "unacked") (y := "next_number") (by rfl) e⟩
  wn := (congrArg Option.isSome (upd_ne (x := "wants_now") (y := "next_number") (by rfl) rfl)).trans F.wn
  hn := (congrArg Option.isSome (upd_ne (x := "has_new") (y := "next_number") (by rfl) rfl)).trans F.hn
  lt := (congrArg Option.isSome (upd_ne (x := "last_eliciting_time") (y := "next_number") (by rfl) rfl)).trans F.lt
  ecn := upd_ne (x := "ecn") (y := "next_number") (by rfl) F.ecn
theorem SpF.putLa {sx : Addr} {S : Sd} {m : Str → Option D} (F : SpF sx S m) (r : Option Int) : SpF sx { S with la := r } (fun y => if y = "largest_acked" then some (optD r) else m y) where
  name := upd_ne (x := "name") (y := "largest_acked") (by rfl) F.name
  next := upd_ne (x := "next_number") (y := "largest_acked") (by rfl) F.next
  sent := upd_ne (x := "sent") (y := "largest_acked") (by rfl) F.sent
  la := upd_eq
  acked := upd_ne (x := "acked") (y := "largest_acked") (by rfl) F.acked
  recv := upd_ne (x := "received") (y := "largest_acked") (by rfl) F.recv
  seen := let ⟨o, e⟩ := F.seen; ⟨o, upd_ne (x := "largest_seen") (y := "largest_acked") (by rfl) e⟩
  time := let ⟨o, e⟩ := F.time; ⟨o, upd_ne (x := "largest_time") (y := "largest_acked") (by rfl) e⟩
  floor := upd_ne (x := "floor") (y := "largest_acked") (by rfl) F.floor
  fu := let ⟨o, e⟩ := F.fu; ⟨o, upd_ne (x := "first_unacked") (y := "largest_acked") (by rfl) e⟩
  un := let ⟨o, e⟩ := F.un; ⟨o, upd_ne (x := "unacked") (y := "largest_acked") (by rfl) e⟩
  wn := (congrArg Option.isSome (upd_ne (x := "wants_now") (y := "largest_acked") (by rfl) rfl)).trans F.wn
  hn := (congrArg Option.isSome (upd_ne (x := "has_new") (y := "largest_acked") (by rfl) rfl)).trans F.hn
  lt := (congrArg Option.isSome (upd_ne (x := "last_eliciting_time") (y := "largest_acked") (by rfl) rfl)).trans F.lt
  ecn := upd_ne (x := "ecn") (y := "largest_acked") (by rfl) F.ecn
theorem SpF.putAcked {sx : Addr} {S : Sd} {m : Str → Option D} (F : SpF sx S m) (r : List (Int × Int)) : SpF sx { S with acked := r } (fun y => if y = "acked" then some (rgD r) else m y) where
  name := upd_ne (x := "name") (y := "acked") (by rfl) F.name
  next := upd_ne (x := "next_number") (y := "acked") (by rfl) F.next
  sent := upd_ne (x := "sent") (y := "acked") (by rfl) F.sent
  la := upd_ne (x := "largest_acked") (y := "acked") (by rfl) F.la
  acked := upd_eq
  recv := upd_ne (x := "received") (y := "acked") (by rfl) F.recv
  seen := let ⟨o, e⟩ := F.seen; ⟨o, upd_ne (x := "largest_seen") (y := "acked") (by rfl) e⟩
  time := let ⟨o, e⟩ := F.time; ⟨o, upd_ne (x := "largest_time") (y := "acked") (by rfl) e⟩
  floor := upd_ne (x := "floor") (y := "acked") (by rfl) F.floor
  fu := let ⟨o, e⟩ := F.fu; ⟨o, upd_ne (x := "first_unacked") (y := "acked") (by rfl) e⟩
  un := let ⟨o, e⟩ := F.un; ⟨o, upd_ne (x := "unacked") (y := "acked") (by rfl) e⟩
  wn := (congrArg Option.isSome (upd_ne (x := "wants_now") (y := "acked") (by rfl) rfl)).trans F.wn
  hn := (congrArg Option.isSome (upd_ne (x := "has_new") (y := "acked") (by rfl) rfl)).trans F.hn
  lt := (congrArg Option.isSome (upd_ne (x := "last_eliciting_time") (y := "acked") (by rfl) rfl)).trans F.lt
  ecn := upd_ne (x := "ecn") (y := "acked") (by rfl) F.ecn
theorem SpF.putSeen {sx : Addr} {S : Sd} {m : Str → Option D} (F : SpF sx S m) (r : Option Int) : SpF sx S (fun y => if y = "largest_seen" then some (optD r) else m y) where
  name := upd_ne (x := "name") (y := "largest_seen") (by rfl) F.name
  next := upd_ne (x := "next_number") (y := "largest_seen") (by rfl) F.next
  sent := upd_ne (x := "sent") (y := "largest_seen") (by rfl) F.sent
  la := upd_ne (x := "largest_acked") (y := "largest_seen") (by rfl) F.la
  acked := upd_ne (x := "acked") (y := "largest_seen") (by rfl) F.acked
  recv := upd_ne (x := "received") (y := "largest_seen") (by rfl) F.recv
  seen := ⟨_, upd_eq⟩
  time := let ⟨o, e⟩ := F.time; ⟨o, upd_ne (x := "largest_time") (y := "largest_seen") (by rfl) e⟩
  floor := upd_ne (x := "floor") (y := "largest_seen") (by rfl) F.floor
  fu := let ⟨o, e⟩ := F.fu; ⟨o, upd_ne (x := "first_unacked") (y := "largest_seen") (by rfl) e⟩
  un := let ⟨o, e⟩ := F.un; ⟨o, upd_ne (x := "unacked") (y := "largest_seen") (by rfl) e⟩
  wn := (congrArg Option.isSome (upd_ne (x := "wants_now") (y := "largest_seen") (by rfl) rfl)).trans F.wn
  hn := (congrArg Option.isSome (upd_ne (x := "has_new") (y := "largest_seen") (by rfl) rfl)).trans F.hn
  lt := (congrArg Option.isSome (upd_ne (x := "last_eliciting_time") (y := "largest_seen") (by rfl) rfl)).trans F.lt
  ecn := upd_ne (x := "ecn") (y := "largest_seen") (by rfl) F.ecn
theorem SpF.putTime {sx : Addr} {S : Sd} {m : Str → Option D} (F : SpF sx S m) (r : Option Int) : SpF sx S (fun y => if y = "largest_time" then some (optD r) else m y) where
  name := upd_ne (x := "name") (y := "largest_time") (by rfl) F.name
  next := upd_ne (x := "next_number") (y := "largest_time") (by rfl) F.next
  sent := upd_ne (x := "sent") (y := "largest_time") (by rfl) F.sent
  la := upd_ne (x := "largest_acked") (y := "largest_time") (by rfl) F.la
  acked := upd_ne (x := "acked") (y := "largest_time") (by rfl) F.acked
  recv := upd_ne (x := "received") (y := "largest_time") (by rfl) F.recv
  seen := let ⟨o, e⟩ := F.seen; ⟨o, upd_ne (x := "largest_seen") (y := "largest_time") (by rfl) e⟩
  time := ⟨_, upd_eq⟩
  floor := upd_ne (x := "floor") (y := "largest_time") (by rfl) F.floor
  fu := let ⟨o, e⟩ := F.fu; ⟨o, upd_ne (x := "first_unacked") (y := "largest_time") (by rfl) e⟩
  un := let ⟨o, e⟩ := F.un; ⟨o, upd_ne (x := "unacked") (y := "largest_time") (by rfl) e⟩
  wn := (congrArg Option.isSome (upd_ne (x := "wants_now") (y := "largest_time") (by rfl) rfl)).trans F.wn
  hn := (congrArg Option.isSome (upd_ne (x := "has_new") (y := "largest_time") (by rfl) rfl)).trans F.hn
  lt := (congrArg Option.isSome (upd_ne (x := "last_eliciting_time") (y := "largest_time") (by rfl) rfl)).trans F.lt
  ecn := upd_ne (x := "ecn") (y := "largest_time") (by rfl) F.ecn
theorem SpF.putFu {sx : Addr} {S : Sd} {m : Str → Option D} (F : SpF sx S m) (r : Option Int) : SpF sx S (fun y => if y = "first_unacked" then some (optD r) else m y) where
  name := upd_ne (x := "name") (y := "first_unacked") (by rfl) F.name
  next := upd_ne (x := "next_number") (y := "first_unacked") (by rfl) F.next
  sent := upd_ne (x := "sent") (y := "first_unacked") (by rfl) F.sent
  la := upd_ne (x := "largest_acked") (y := "first_unacked") (by rfl) F.la
  acked := upd_ne (x := "acked") (y := "first_unacked") (by rfl) F.acked
  recv := upd_ne (x := "received") (y := "first_unacked") (by rfl) F.recv
  seen := let ⟨o, e⟩ := F.seen; ⟨o, upd_ne (x := "largest_seen") (y := "first_unacked") (by rfl) e⟩
  time := let ⟨o, e⟩ := F.time; ⟨o, upd_ne (x := "largest_time") (y := "first_unacked") (by rfl) e⟩
  floor := upd_ne (x := "floor") (y := "first_unacked") (by rfl) F.floor
  fu := ⟨_, upd_eq⟩
  un := let ⟨o, e⟩ := F.un; ⟨o, upd_ne (x := "unacked") (y := "first_unacked") (by rfl) e⟩
  wn := (congrArg Option.isSome (upd_ne (x := "wants_now") (y := "first_unacked") (by rfl) rfl)).trans F.wn
  hn := (congrArg Option.isSome (upd_ne (x := "has_new") (y := "first_unacked") (by rfl) rfl)).trans F.hn
  lt := (congrArg Option.isSome (upd_ne (x := "last_eliciting_time") (y := "first_unacked") (by rfl) rfl)).trans F.lt
  ecn := upd_ne (x := "ecn") (y := "first_unacked") (by rfl) F.ecn
theorem SpF.putUn {sx : Addr} {S : Sd} {m : Str → Option D} (F : SpF sx S m) (r : Int) : SpF sx S (fun y => if y = "unacked" then some (.int r) else m y) where
  name := upd_ne (x := "name") (y := "unacked") (by rfl) F.name
  next := upd_ne (x := "next_number") (y := "unacked") (by rfl) F.next
  sent := upd_ne (x := "sent") (y := "unacked") (by rfl) F.sent
  la := upd_ne (x := "largest_acked") (y := "unacked") (by rfl) F.la
  acked := upd_ne (x := "acked") (y := "unacked") (by rfl) F.acked
  recv := upd_ne (x := "received") (y := "unacked") (by rfl) F.recv
  seen := let ⟨o, e⟩ := F.seen; ⟨o, upd_ne (x := "largest_seen") (y := "unacked") (by rfl) e⟩
  time := let ⟨o, e⟩ := F.time; ⟨o, upd_ne (x := "largest_time") (y := "unacked") (by rfl) e⟩
  floor := upd_ne (x := "floor") (y := "unacked") (by rfl) F.floor
  fu := let ⟨o, e⟩ := F.fu; ⟨o, upd_ne (x := "first_unacked") (y := "unacked") (by rfl) e⟩
  un := ⟨_, upd_eq⟩
  wn := (congrArg Option.isSome (upd_ne (x := "wants_now") (y := "unacked") (by rfl) rfl)).trans F.wn
  hn := (congrArg Option.isSome (upd_ne (x := "has_new") (y := "unacked") (by rfl) rfl)).trans F.hn
  lt := (congrArg Option.isSome (upd_ne (x := "last_eliciting_time") (y := "unacked") (by rfl) rfl)).trans F.lt
  ecn := upd_ne (x := "ecn") (y := "unacked") (by rfl) F.ecn
theorem SpF.putWn {sx : Addr} {S : Sd} {m : Str → Option D} (F : SpF sx S m) (r : D) : SpF sx S (fun y => if y = "wants_now" then some (r) else m y) where
  name := upd_ne (x := "name") (y := "wants_now") (by rfl) F.name
  next := upd_ne (x := "next_number") (y := "wants_now") (by rfl) F.next
  sent := upd_ne (x := "sent") (y := "wants_now") (by rfl) F.sent
  la := upd_ne (x := "largest_acked") (y := "wants_now") (by rfl) F.la
  acked := upd_ne (x := "acked") (y := "wants_now") (by rfl) F.acked
  recv := upd_ne (x := "received") (y := "wants_now") (by rfl) F.recv
  seen := let ⟨o, e⟩ := F.seen; ⟨o, upd_ne (x := "largest_seen") (y := "wants_now") (by rfl) e⟩
  time := let ⟨o, e⟩ := F.time; ⟨o, upd_ne (x := "largest_time") (y := "wants_now") (by rfl) e⟩
  floor := upd_ne (x := "floor") (y := "wants_now") (by rfl) F.floor
  fu := let ⟨o, e⟩ := F.fu; ⟨o, upd_ne (x := "first_unacked") (y := "wants_now") (by rfl) e⟩
  un := let ⟨o, e⟩ := F.un; ⟨o, upd_ne (x := "unacked") (y := "wants_now") (by rfl) e⟩
  wn := congrArg Option.isSome upd_eq
  hn := (congrArg Option.isSome (upd_ne (x := "has_new") (y := "wants_now") (by rfl) rfl)).trans F.hn
  lt := (congrArg Option.isSome (upd_ne (x := "last_eliciting_time") (y := "wants_now") (by rfl) rfl)).trans F.lt
  ecn := upd_ne (x := "ecn") (y := "wants_now") (by rfl) F.ecn
theorem SpF.putHn {sx : Addr} {S : Sd} {m : Str → Option D} (F : SpF sx S m) (r : D) : SpF sx S (fun y => if y = "has_new" then some (r) else m y) where
  name := upd_ne (x := "name") (y := "has_new") (by rfl) F.name
  next := upd_ne (x := "next_number") (y := "has_new") (by rfl) F.next
  sent := upd_ne (x := "sent") (y := "has_new") (by rfl) F.sent
  la := upd_ne (x := "largest_acked") (y := "has_new") (by rfl) F.la
  acked := upd_ne (x := "acked") (y := "has_new") (by rfl) F.acked
  recv := upd_ne (x := "received") (y := "has_new") (by rfl) F.recv
  seen := let ⟨o, e⟩ := F.seen; ⟨o, upd_ne (x := "largest_seen") (y := "has_new") (by rfl) e⟩
  time := let ⟨o, e⟩ := F.time; ⟨o, upd_ne (x := "largest_time") (y := "has_new") (by rfl) e⟩
  floor := upd_ne (x := "floor") (y := "has_new") (by rfl) F.floor
  fu := let ⟨o, e⟩ := F.fu; ⟨o, upd_ne (x := "first_unacked") (y := "has_new") (by rfl) e⟩
  un := let ⟨o, e⟩ := F.un; ⟨o, upd_ne (x := "unacked") (y := "has_new") (by rfl) e⟩
  wn := (congrArg Option.isSome (upd_ne (x := "wants_now") (y := "has_new") (by rfl) rfl)).trans F.wn
  hn := congrArg Option.isSome upd_eq
  lt := (congrArg Option.isSome (upd_ne (x := "last_eliciting_time") (y := "has_new") (by rfl) rfl)).trans F.lt
  ecn := upd_ne (x := "ecn") (y := "has_new") (by rfl) F.ecn
theorem SpF.putLt {sx : Addr} {S : Sd} {m : Str → Option D} (F : SpF sx S m) (r : D) : SpF sx S (fun y => if y = "last_eliciting_time" then some (r) else m y) where
  name := upd_ne (x := "name") (y := "last_eliciting_time") (by rfl) F.name
  next := upd_ne (x := "next_number") (y := "last_eliciting_time") (by rfl) F.next
  sent := upd_ne (x := "sent") (y := "last_eliciting_time") (by rfl) F.sent
  la := upd_ne (x := "largest_acked") (y := "last_eliciting_time") (by rfl) F.la
  acked := upd_ne (x := "acked") (y := "last_eliciting_time") (by rfl) F.acked
  recv := upd_ne (x := "received") (y := "last_eliciting_time") (by rfl) F.recv
  seen := let ⟨o, e⟩ := F.seen; ⟨o, upd_ne (x := "largest_seen") (y := "last_eliciting_time") (by rfl) e⟩
  time := let ⟨o, e⟩ := F.time; ⟨o, upd_ne (x := "largest_time") (y := "last_eliciting_time") (by rfl) e⟩
  floor := upd_ne (x := "floor") (y := "last_eliciting_time") (by rfl) F.floor
  fu := let ⟨o, e⟩ := F.fu; ⟨o, upd_ne (x := "first_unacked") (y := "last_eliciting_time") (by rfl) e⟩
  un := let ⟨o, e⟩ := F.un; ⟨o, upd_ne (x := "unacked") (y := "last_eliciting_time") (by rfl) e⟩
  wn := (congrArg Option.isSome (upd_ne (x := "wants_now") (y := "last_eliciting_time") (by rfl) rfl)).trans F.wn
  hn := (congrArg Option.isSome (upd_ne (x := "has_new") (y := "last_eliciting_time") (by rfl) rfl)).trans F.hn
  lt := congrArg Option.isSome upd_eq
  ecn := upd_ne (x := "ecn") (y := "last_eliciting_time") (by rfl) F.ecn

structure SpAt (mu : List Addr) (h : Heap) (x dx sx : Addr) (S : Sd) : Prop where
  at_ : ∃ m, Inst mu h x 245 dx spNms 17 m ∧ SpF sx S m
theorem SpAt.gen {h h' : Heap} {x dx sx : Addr} {S : Sd} (I : SpAt mu h x dx sx S) (kp : ∀ b o, b ∉ mu → h.get? b = some o → h'.get? b = some o ∧ b ∉ mu') (kd : ∀ o, h.get? dx = some o → h'.get? dx = some o) : SpAt mu' h' x dx sx S :=
  let ⟨m, I, f⟩ := I.at_; ⟨m, I.gen kp kd, f⟩
theorem SpAt.kp {h h' : Heap} {x dx sx : Addr} {S : Sd} (I : SpAt mu h x dx sx S) {W : List Addr} (kp : Kp W h h') (hW : ∀ b ∈ W, b ∈ mu) (hd : dx ∉ W) : SpAt mu h' x dx sx S := let ⟨m, I, f⟩ := I.at_; ⟨m, I.kp kp hW hd, f⟩
theorem SpAt.enter {h h' : Heap} {x dx sx : Addr} {S : Sd} (I : SpAt mu h x dx sx S) {W : List Addr} (kp : Kp W h h') (fr : ∀ b ∈ W, h.get? b = none) : SpAt (W ++ mu) h' x dx sx S := let ⟨m, I, f⟩ := I.at_; ⟨m, I.enter kp fr, f⟩
theorem SpAt.less {h : Heap} {x dx sx : Addr} {S : Sd} (I : SpAt mu h x dx sx S) (hm : ∀ b ∈ mu', b ∈ mu) : SpAt mu' h x dx sx S := let ⟨m, I, f⟩ := I.at_; ⟨m, I.less hm, f⟩
theorem SpAt.there {h : Heap} {x dx sx : Addr} {S : Sd} (I : SpAt mu h x dx sx S) : ∃ o, h.get? dx = some o := let ⟨_, I, _⟩ := I.at_; I.there
theorem offN {h : Heap} {dx : Addr} (e : ∃ o, h.get? dx = some o) {W : List Addr} (f : ∀ b ∈ W, h.get? b = none) : dx ∉ W := fun q => by obtain ⟨o, e⟩ := e; rw [f _ q] at e; cases e
theorem mem_l {W mu : List Addr} : ∀ b ∈ W, b ∈ W ++ mu := fun b q => List.mem_append.mpr (.inl q)

section
variable {s₀ s s' : Shared} {own wr : List Addr} {env : Env} {m cm : Str → Option Value} {P : Heap → Prop} {x dx sx : Addr} {S : Sd} {f : Str → Option D}
theorem Cx.open_ (C : Cx G s₀ own wr mu env m cm (fun h => SpAt mu h x dx sx S ∧ P h) s) (he : ∃ o, s₀.heap.get? dx = some o) (hP : Std mu P) : ∃ f, SpF sx S f ∧ Cx G s₀ own wr mu env m cm (fun h => Inst mu h x 245 dx spNms 17 f ∧ P h) s :=
  let ⟨⟨f, I, F⟩, p⟩ := (⟨C.r.1.at_, C.r.2⟩ : (∃ m, Inst mu s.heap x 245 dx spNms 17 m ∧ SpF sx S m) ∧ P s.heap)
  ⟨f, F, C.know ⟨I, p⟩ fun h h' z kp => ⟨z.1.kp kp C.wrmu (C.offW he), hP _ _ (fun b o n e => kp.keep b o (fun q => n (C.wrmu b q)) e) z.2⟩⟩
theorem Cx.close_ (C : Cx G s₀ own wr mu env m cm (fun h => Inst mu h x 245 dx spNms 17 f ∧ P h) s) (he : ∃ o, s₀.heap.get? dx = some o) (hP : Std mu P) (F : SpF sx S f) : Cx G s₀ own wr mu env m cm (fun h => SpAt mu h x dx sx S ∧ P h) s :=
  C.know ⟨⟨_, C.r.1, F⟩, C.r.2⟩ fun h h' z kp => ⟨z.1.kp kp C.wrmu (C.offW he), hP _ _ (fun b o n e => kp.keep b o (fun q => n (C.wrmu b q)) e) z.2⟩
theorem Cx.putO {prog : Program} {CC : Addr} {nms : List Str} {k : Nat} {R : Heap → Prop} (C : Cx G s₀ own wr mu env m cm R s) (S : Slf (Kf w.params) s₀ own wr mu env CC dx nms) (I : Inst mu s.heap x CC dx nms k f) (p : P s.heap) (hP : Std mu P) {name : Str} {d : D} {v : Value} {Q : Unit → Shared → Prop}
    (im : Imm mu s.heap d v) (hv : handedIn v = true) (hk : k < 900) (ho : (f name).isSome = true)
    (h : ∀ s', Cx G s₀ own wr mu env m cm (fun h => Inst mu h x CC dx nms k (fun y => if y = name then some d else f y) ∧ P h) s' → Q () s') (hn : name ∈ nms := by decide) :
    wpAny (model prog w) A (setAttr (.ref x) name v) Q E s :=
  C.putA S I p hP im hv hk (fun s' C' => h s' (by rw [if_pos ho] at C'; exact C')) hn
theorem stepMid {M : Model} {P : Shared → Prop} {st : Stmt} {rest : List Stmt} {Q : Flow → Shared → Prop} (h1 : wpAny M A (exec st env) (fun fl s => fl = .next ∧ P s) E s) (h2 : ∀ s, P s → wpAny M A (execs rest env) Q E s) : wpAny M A (execs (st :: rest) env) Q E s :=
  wpAny_execs_cons (wpAny_mono h1 (fun fl s z => by obtain ⟨rfl, z⟩ := z; exact h2 s z) fun _ _ e => e)
end

theorem is_known_ (on : G.On z.heap) (hA : Ar 20 A) (al : Al mu z.heap) {x dx sx : Addr} {S : Sd} (I : SpAt mu z.heap x dx sx S) (hr : S.recv.length < 64) {n : Int} {t : Tok} (hn : 0 ≤ n) {Q : Value → Shared → Prop}
    (h : ∀ s', Go [] z s' → Q (.bool (hasNum S.recv n)) s') :
    wpAny (model PP w) A (call (.ref 125) [.ref x, .int n t]) Q E z := by
  obtain ⟨m, I, F⟩ := I.at_
  refine enter (n := 19) (m := fun y => if y = "number" then some (.int n t) else if y = "self" then some (.ref x) else none) (cm := fun _ => none) on hA (by k_is) (by rfl) (by with_unfolding_all rfl) (by rfl) (by with_unfolding_all rfl) (by with_unfolding_all rfl) (by decide) (by rfl) (by rfl) (by rfl)
    [] mu (fun mu h => Inst mu h x 245 dx spNms 17 m) .nil (fun _ q => nomatch q) al (fun _ h' k f => I.enter k f) (fun _ h h' f x k => x.kp k mem_l (offN I.there f)) ?_
  intro L wr mu' A s' hL hc hmu hN hA C
  refine wpAny_execs_cons (wpAny_If (isTrue_or (wpAny_isTrue_Compare1 ?_)))
  walk_at "loc"
  walk_at "atr"
  refine C.getA spOk C.r F.floor fun v s hv im C => ?_
  obtain ⟨t₁, rfl⟩ := Imm.int_iff.mp im
  refine lt_int (wpAny_truthy_bool ?_)
  rw [if_neg (by simp; omega)]
  refine isTrue_or (isTrue_and (wpAny_isTrue_Compare1 (Call_ ?_)))
  walk_at "blt"
  refine callWith_method1 (wpAny_items_cons ?_)
  walk_at "atr"
  refine C.getA spOk C.r F.recv fun v s hv im C => ?_
  refine wpAny_items_nil (len_lst (ds := rgL S.recv) im (by simp [rgL]; omega) fun t₂ s₂ g => ?_)
  have C := C.go g
  walk_at "glo"
  refine ge_int (wpAny_truthy_bool ?_)
  rw [if_neg (by simp [rgL]; omega)]
  rw [if_neg Bool.false_ne_true]
  refine isTrue_or_nil ?_
  rw [if_neg Bool.false_ne_true]
  walk_at "nil"
  refine wpAny_execs_cons (wpAny_Return_some (Call_ ?_))
  walk_at "glo"
  refine callWith_K C.X (by k_is) (wpAny_items_cons ?_)
  walk_at "atr"
  refine C.getA spOk C.r F.recv fun v s hv im C => ?_
  have C := C.imm im
  refine wpAny_items_cons ?_
  walk_at "loc"
  refine wpAny_items_nil ⟨C.X, has_number_ C.on (hA.le (by omega)) C.al (by omega) C.r.2 fun s' g => h s' (C.go0.trans g)⟩

theorem on_received_ (on : G.On z.heap) (hA : Ar 30 A) (al : Al mu z.heap) {x dx sx : Addr} {S : Sd} (I : SpAt mu z.heap x dx sx S) (hdx : dx ∈ mu) (hoff : G.Off [dx]) (hr : S.recv.length < 60) {n now : Int} (hr' : (addRange S.recv n n).length ≤ 60) {t t' tm : Tok} {Q : Value → Shared → Prop}
    (h : ∀ s', Go [dx] z s' → SpAt mu s'.heap x dx sx { S with recv := addRange S.recv n n } → Q .none s') :
    wpAny (model PP w) A (call (.ref 132) [.ref x, .int n t, .int now t', .bool true, .int 0 tm]) Q E z := by
  have he := I.there
  refine enter (n := 29) (m := fun y => if y = "mark" then some (.int 0 tm) else if y = "has_eliciting" then some (.bool true) else if y = "now" then some (.int now t') else if y = "number" then some (.int n t) else if y = "self" then some (.ref x) else none) (cm := fun _ => none) on hA (by k_is) (by rfl) (by with_unfolding_all rfl) (by rfl) (by with_unfolding_all rfl) (by with_unfolding_all rfl) (by decide) (by rfl) (by rfl) (by rfl)
    [dx] mu (fun mu h => SpAt mu h x dx sx S ∧ True) hoff (fun b q => by rw [List.mem_singleton.mp q]; exact hdx) al (fun _ h' k f => ⟨I.enter k f, trivial⟩) (fun _ h h' f x k => ⟨x.1.kp k mem_l (offN I.there f), trivial⟩) ?_
  intro L wr mu' A s' hL hc hmu hN hA C
  have SF : Slf (Kf w.params) z [dx] wr mu' C.envOf 245 dx spNms := ⟨spOk, hL, hc, List.mem_singleton.mpr rfl, he⟩
  have C0 := C
  refine stepMid (P := fun s => ∃ b, Cx G z [dx] wr mu' C0.envOf (fun y => if y = "is_gap" then some (.bool b) else C0.mOf y) C0.cmOf (fun h => SpAt mu' h x dx sx S ∧ True) s) ?_ ?_
  · obtain ⟨m, F, C⟩ := C.open_ he .true
    obtain ⟨o, ho⟩ := F.seen
    refine wpAny_Assign_Name (BoolOp_and (wpAny_Compare1 ?_))
    walk_at "atr"
    refine C.getA spOk C.r.1 ho fun v s hv im C => ?_
    refine Constant_none (opt_isNot im (wpAny_truthy_bool ?_))
    cases o with
    | none =>
      rw [if_neg (by simp)]
      exact C.st fun s C => ⟨rfl, false, C.close_ he .true F⟩
    | some i =>
      rw [if_pos (by rfl)]
      refine BoolOp_one (wpAny_Compare1 ?_)
      walk_at "loc"
      refine wpAny_BinOp ?_
      walk_at "atr"
      refine C.getA spOk C.r.1 ho fun v s hv im C => ?_
      obtain ⟨ti, rfl⟩ := Imm.int_iff.mp im
      refine C.cInt fun _ s C => add_int (ne_int ?_)
      have C := C.tok (s.toks + 1)
      exact C.st fun s C => ⟨rfl, _, C.close_ he .true F⟩
  rintro s ⟨b, C⟩
  obtain ⟨m, F, C⟩ := C.open_ he .true
  -- ranges = add_number(self.received, number)
  refine wpAny_execs_cons (wpAny_Assign_Name (Call_ ?_))
  walk_at "glo"
  refine callWith_K C.X (by k_is) (wpAny_items_cons ?_)
  walk_at "atr"
  refine C.getA spOk C.r.1 F.recv fun v s hv im C => ?_
  refine wpAny_items_cons ?_
  walk_at "loc"
  refine wpAny_items_nil ⟨C.X, add_number_ C.on (hA.le (by omega)) C.al (by omega) im fun u s g iu => ?_⟩
  have C := (C.go g).imm iu
  refine C.st fun s C => ?_
  -- self.received = kept_ranges(ranges)
  refine wpAny_execs_cons (plainObj_wpAny_Assign_Attribute (Call_ ?_))
  walk_at "glo"
  refine callWith_K C.X (by k_is) (wpAny_items_cons ?_)
  walk_at "loc"
  refine wpAny_items_nil ⟨C.X, kept_ranges_ C.on (hA.le (by omega)) C.al (by omega) C.r.2 fun s g => ?_⟩
  have C := C.go g
  walk_at "loc"
  refine C.putO SF C.r.1.1 (P := fun h => Imm mu' h (rgD (addRange S.recv n n)) u) C.r.2 .imm C.r.2 (lst.hand C.r.2) (by decide) (by rw [F.recv]; rfl) fun s C => ?_
  have F := F.putRecv (addRange S.recv n n)
  have C := C.close_ he .imm F
  -- if len(ranges) > KEPT_RANGES
  refine wpAny_execs_cons (wpAny_If (wpAny_isTrue_Compare1 (Call_ ?_)))
  walk_at "blt"
  refine callWith_method1 (wpAny_items_cons ?_)
  walk_at "loc"
  refine wpAny_items_nil (len_lst (ds := rgL (addRange S.recv n n)) C.r.2 (by simp [rgL]; omega) fun t₂ s₂ g => ?_)
  have C := C.go g
  walk_at "glo"
  refine gt_int (wpAny_truthy_bool ?_)
  rw [if_neg (by simp [rgL]; omega)]
  walk_at "nil"
  -- if mark > 0
  refine wpAny_execs_cons (wpAny_If (wpAny_isTrue_Compare1 ?_))
  walk_at "loc"
  refine C.cInt fun _ s C => gt_int (wpAny_truthy_bool ?_)
  rw [if_neg (by simp)]
  walk_at "nil"
  -- if self.largest_seen is None or number > self.largest_seen
  have C1 := C
  refine stepMid (P := fun s => Cx G z [dx] wr mu' C0.envOf C1.mOf C0.cmOf (fun h => SpAt mu' h x dx sx { S with recv := addRange S.recv n n } ∧ True) s) ?_ ?_
  · obtain ⟨m, F, C⟩ := C.open_ he .imm
    obtain ⟨o, ho⟩ := F.seen
    refine wpAny_If (wpAny_mono (Q := fun _ s => Cx G z [dx] wr mu' C0.envOf C1.mOf C0.cmOf (fun h => Inst mu' h x 245 dx spNms 17 m ∧ Imm mu' h (rgD (addRange S.recv n n)) u) s) (isTrue_or (wpAny_isTrue_Compare1 ?_)) (fun c s C => ?_) fun _ _ e => e)
    · walk_at "atr"
      refine C.getA spOk C.r.1 ho fun v s hv im C => ?_
      refine Constant_none (opt_is im (wpAny_truthy_bool ?_))
      cases o with
      | none => rw [if_pos (by rfl)]; exact C
      | some i =>
        rw [if_neg (by simp)]
        refine isTrue_or (wpAny_isTrue_Compare1 ?_)
        walk_at "loc"
        walk_at "atr"
        refine C.getA spOk C.r.1 ho fun v s hv im C => ?_
        obtain ⟨ti, rfl⟩ := Imm.int_iff.mp im
        refine gt_int (wpAny_truthy_bool ?_)
        split
        · exact C
        · exact isTrue_or_nil C
    · cases c with
      | false => rw [if_neg Bool.false_ne_true]; exact wpAny_execs_nil ⟨rfl, C.close_ he .imm F |>.know ⟨⟨_, C.r.1, F⟩, trivial⟩ fun h h' z kp => ⟨z.1.kp kp C.wrmu (C.offW he), trivial⟩⟩
      | true =>
        rw [if_pos rfl]
        refine wpAny_execs_cons (C.setTwo hA.hd ?_)
        walk_at "loc"
        walk_at "loc"
        refine ⟨_, _, _, _, C, fun s C => assignAttr ?_⟩
        walk_at "loc"
        refine C.putO SF C.r.1 (P := fun _ => True) trivial .true (d := optD (some n)) .int rfl (by decide) (by rw [ho]; rfl) fun s C => ?_
        have F := F.putSeen (some n)
        refine assignAttr ?_
        walk_at "loc"
        obtain ⟨o₂, ho₂⟩ := F.time
        refine C.putO SF C.r.1 (P := fun _ => True) trivial .true (d := optD (some now)) .int rfl (by decide) (by rw [ho₂]; rfl) fun s C => ?_
        have F := F.putTime (some now)
        exact wpAny_execs_nil ⟨rfl, C.close_ he .true F⟩
  intro s C
  -- self.has_new = True
  obtain ⟨m, F, C⟩ := C.open_ he .true
  refine wpAny_execs_cons (plainObj_wpAny_Assign_Attribute (Constant_bool ?_))
  walk_at "loc"
  refine C.putO SF C.r.1 (P := fun _ => True) trivial .true (d := .bool true) .bool rfl (by decide) F.hn fun s C => ?_
  have F := F.putHn (.bool true)
  -- if has_eliciting
  refine wpAny_execs_cons (wpAny_If (isTrue_plain ?_))
  walk_at "loc"
  refine wpAny_truthy_bool ?_
  rw [if_pos rfl]
  -- self.unacked += 1
  obtain ⟨un, hun⟩ := F.un
  refine wpAny_execs_cons (wpAny_AugAssign_AttributeAny ?_)
  walk_at "loc"
  refine C.getA spOk C.r.1 hun fun v s hv im C => ?_
  obtain ⟨tu, rfl⟩ := Imm.int_iff.mp im
  refine C.cInt fun _ s C => iadd_int ?_
  have C := C.tok (s.toks + 1)
  refine C.putO SF C.r.1 (P := fun _ => True) trivial .true (d := .int (un + 1)) .int rfl (by decide) (by rw [hun]; rfl) fun s C => ?_
  have F := F.putUn (un + 1)
  -- self.first_unacked = ..
  obtain ⟨fu, hfu⟩ := F.fu
  refine wpAny_execs_cons (plainObj_wpAny_Assign_Attribute (wpAny_mono (Q := fun v s => ∃ o, Imm mu' s.heap (optD o) v ∧ C.At s) (IfExp_ (wpAny_isTrue_Compare1 ?_)) (fun v s w => ?_) fun _ _ e => e))
  · walk_at "atr"
    refine C.getA spOk C.r.1 hfu fun v s hv im C => ?_
    refine Constant_none (opt_is im (wpAny_truthy_bool ?_))
    split
    · walk_at "loc"
      exact ⟨some now, .int, C⟩
    · walk_at "atr"
      exact C.getA spOk C.r.1 hfu fun v s hv im C => ⟨_, im, C⟩
  obtain ⟨o, im, C⟩ := w
  walk_at "loc"
  refine C.putO SF C.r.1 (P := fun _ => True) trivial .true im (optD.hand im) (by decide) (by rw [hfu]; rfl) fun s C => ?_
  have F := F.putFu o
  -- if is_gap or ..
  refine wpAny_execs_cons (wpAny_If (wpAny_mono (Q := fun _ s => C.At s) (isTrue_or (isTrue_plain ?_)) (fun c s C => ?_) fun _ _ e => e))
  · walk_at "loc"
    refine wpAny_truthy_bool ?_
    split
    · exact C
    refine isTrue_or (wpAny_isTrue_Compare1 ?_)
    walk_at "atr"
    obtain ⟨un, hun⟩ := F.un
    refine C.getA spOk C.r.1 hun fun v s hv im C => ?_
    obtain ⟨tu, rfl⟩ := Imm.int_iff.mp im
    walk_at "glo"
    refine ge_int (wpAny_truthy_bool ?_)
    split
    · exact C
    refine isTrue_or (wpAny_isTrue_Compare1 ?_)
    walk_at "atr"
    refine C.getA spOk C.r.1 F.name fun v s hv im C => ?_
    obtain ⟨tu, rfl⟩ := Imm.str_iff.mp im
    refine C.cStr fun _ s C => ne_str (wpAny_truthy_bool ?_)
    split
    · exact C
    refine isTrue_or (wpAny_isTrue_Compare1 ?_)
    walk_at "loc"
    refine C.cInt fun _ s C => eq_int (wpAny_truthy_bool ?_)
    split
    · exact C
    exact isTrue_or_nil C
  cases c with
  | false =>
    rw [if_neg Bool.false_ne_true]
    walk_at "nil"
    exact h _ C.go0 ((SpAt.mk ⟨_, C.r.1, F⟩).less hmu)
  | true =>
    rw [if_pos rfl]
    refine wpAny_execs_cons (plainObj_wpAny_Assign_Attribute (Constant_bool ?_))
    walk_at "loc"
    refine C.putO SF C.r.1 (P := fun _ => True) trivial .true (d := .bool true) .bool rfl (by decide) F.wn fun s C => ?_
    have F := F.putWn (.bool true)
    walk_at "nil"
    exact h _ C.go0 ((SpAt.mk ⟨_, C.r.1, F⟩).less hmu)
end
-- part F5
section
variable {prog : Program} {w : World} {A : Around} {E : Value → Shared → Prop} {mu : List Addr} {s : Shared}
theorem sum_lst {ns : List Int} {v : Value} {Q : Value → Shared → Prop} (hA : A.handled = none) (x : Imm mu s.heap (.lst (intD ns)) v) (h : ∀ t s', Go [] s s' → Q (.int (preSum (fun i => (ns[i]?).getD 0) ns.length) t) s') : wpAny (model prog w) A (call (.builtin "sum") [v]) Q E s := by
  obtain ⟨l, vs, rfl, _, hl, il, hlt, _⟩ := lst_at x
  have el : vs.length = ns.length := by rw [il.length, intD, List.length_map]
  refine call_sum_walkG (wpAny_pyIter_list hl ?_)
  refine ⟨_, _, _, vs.toArray.size, _, _, fun i => (ns[i]?).getD 0, rfl, Walks.list (A := A.in1) hA _ l (Nat.ne_of_lt hlt) vs.toArray,
    ⟨⟨_, Heap.get?_push_size _ rfl, rfl, rfl⟩, hl.push _⟩, fun c hc => ?_, fun i v hP => ?_, fun h' tk t' hk => ?_⟩
  · rcases List.mem_cons.mp hc with rfl | hc
    · rw [Heap.size_push]; exact Nat.lt_succ_self _
    · rw [List.mem_singleton.mp hc, Heap.size_push]; exact Nat.lt_succ_of_lt hlt
  · obtain ⟨d, hd, im⟩ := il.getV (by simpa using hP)
    simp only [intD, List.getElem?_map, Option.map_eq_some_iff] at hd
    obtain ⟨n, hn, rfl⟩ := hd
    obtain ⟨t, rfl⟩ := Imm.int_iff.mp im
    exact ⟨t, by simp [hn]⟩
  · rw [List.size_toArray, el]
    exact h _ _ (Go.of (.nil (LSm.kept_iter hk)))
end
section
variable {w : World} {G : Gd w (Kf w.params)} {z : Shared} {A : Around} {E : Value → Shared → Prop} {mu mu' : List Addr}
set_option maxHeartbeats 400000

theorem ack_frame_ (on : G.On z.heap) (hA : Ar 30 A) (al : Al mu z.heap) {x dx sx : Addr} {S : Sd} (I : SpAt mu z.heap x dx sx S) (hr : S.recv.length ≤ 30) {now : Int} {t' te : Tok} {Q : Value → Shared → Prop}
    (h0 : S.recv = [] → ∀ s', Go [] z s' → Q .none s')
    (h1 : S.recv ≠ [] → ∀ v d s', Go [] z s' → Imm mu s'.heap (.tup [.str "ack", .int d, rgD S.recv, .none]) v → Q v s') :
    wpAny (model PP w) A (call (.ref 139) [.ref x, .int now t', .int 0 te]) Q E z := by
  have he := I.there
  obtain ⟨m, I, F⟩ := I.at_
  refine enter (n := 29) (m := fun y => if y = "exponent" then some (.int 0 te) else if y = "now" then some (.int now t') else if y = "self" then some (.ref x) else none) (cm := fun _ => none) on hA (by k_is) (by rfl) (by with_unfolding_all rfl) (by rfl) (by with_unfolding_all rfl) (by with_unfolding_all rfl) (by decide) (by rfl) (by rfl) (by rfl)
    [] mu (fun mu h => Inst mu h x 245 dx spNms 17 m) .nil (fun _ q => nomatch q) al (fun _ h' k f => I.enter k f) (fun _ h h' f x k => x.kp k mem_l (offN I.there f)) ?_
  intro L wr mu' A s' hL hc hmu hN hA C
  refine wpAny_execs_cons (wpAny_If (wpAny_isTrue_Compare1 (Call_ ?_)))
  walk_at "blt"
  refine callWith_method1 (wpAny_items_cons ?_)
  walk_at "atr"
  refine C.getA spOk C.r F.recv fun v s hv im C => ?_
  refine wpAny_items_nil (len_lst (ds := rgL S.recv) im (by simp [rgL]; omega) fun t₂ s₂ g => ?_)
  have C := C.go g
  refine C.cInt fun _ s C => eq_int (wpAny_truthy_bool ?_)
  cases hrec : S.recv with
  | nil =>
    rw [if_pos (by rfl)]
    exact wpAny_execs_cons (wpAny_Return_some (Constant_none (h0 hrec _ C.go0)))
  | cons p r =>
  rw [if_neg (by simp [rgL]; omega)]
  walk_at "nil"
  -- delay
  refine wpAny_execs_cons (wpAny_Assign_Name (wpAny_mono (Q := fun v s => ∃ d t, v = .int d t ∧ C.At s) (IfExp_ (wpAny_isTrue_Compare1 ?_)) (fun v s w => ?_) fun _ _ e => e))
  · walk_at "atr"
    obtain ⟨o, ho⟩ := F.time
    refine C.getA spOk C.r ho fun v s hv im C => ?_
    refine Constant_none (opt_is im (wpAny_truthy_bool ?_))
    cases o with
    | none => rw [if_pos (by rfl)]; exact C.cInt fun t s C => ⟨_, _, rfl, C⟩
    | some i =>
      rw [if_neg (by simp)]
      refine wpAny_BinOp (Call_ ?_)
      walk_at "blt"
      refine callWith_method1 (wpAny_items_cons (C.cInt fun _ s C => wpAny_items_cons (wpAny_BinOp ?_)))
      walk_at "loc"
      walk_at "atr"
      refine C.getA spOk C.r ho fun v s hv im C => ?_
      obtain ⟨ti, rfl⟩ := Imm.int_iff.mp im
      refine sub_int ?_
      have C := C.tok (s.toks + 1)
      refine wpAny_items_nil (max_int hA.hd fun tm s g => ?_)
      have C := C.go g
      refine wpAny_BinOp (C.cInt fun _ s C => ?_)
      walk_at "loc"
      refine pow_int_small (by decide) (by decide) (by decide) ?_
      have C := C.tok (s.toks + 1)
      refine floordiv_int (by decide) ?_
      exact ⟨_, _, rfl, C.tok _⟩
  obtain ⟨d, td, rfl, C⟩ := w
  refine C.st fun s C => ?_
  -- marks
  refine wpAny_execs_cons (wpAny_Assign_Name (IfExp_ (wpAny_isTrue_Compare1 (Call_ ?_))))
  walk_at "blt"
  refine callWith_method1 (wpAny_items_cons ?_)
  walk_at "atr"
  refine C.getA spOk C.r F.ecn fun v s hv im C => ?_
  refine wpAny_items_nil (sum_lst (ns := [0, 0, 0]) hA.hd im fun t s g => ?_)
  have C := C.go g
  refine C.cInt fun _ s C => gt_int (wpAny_truthy_bool ?_)
  rw [if_neg (by simp [preSum])]
  refine Constant_none (C.st fun s C => ?_)
  -- return
  refine wpAny_execs_cons (wpAny_Return_some (Tuple_ (wpAny_items_cons (C.cStr fun t s C => wpAny_items_cons ?_))))
  walk_at "loc"
  refine wpAny_items_cons (Call_ ?_)
  walk_at "glo"
  refine callWith_K C.X (by k_is) (wpAny_items_cons ?_)
  walk_at "atr"
  refine C.getA spOk C.r F.recv fun v s hv im C => ?_
  refine wpAny_items_cons ?_
  walk_at "glo"
  refine wpAny_items_nil ⟨C.X, ack_of_ (k := 32) C.on (hA.le (by omega)) C.al (by simp [rgL]; omega) (by decide) im fun u s g iu => ?_⟩
  have C := (C.go g).imm iu
  refine wpAny_items_cons ?_
  walk_at "loc"
  refine wpAny_items_nil (C.newTuple (ds := [.str "ack", .int d, rgD S.recv, .none]) (.cons .str (.cons .int (.cons C.r.2 (.cons .none .nil)))) (by show 4 ≤ 1000; decide) fun tv s C => ?_)
  exact h1 (by rw [hrec]; simp) _ d _ C.go0 (C.r.2.less hmu)

theorem on_ack_sent_ (on : G.On z.heap) (hA : Ar 30 A) (al : Al mu z.heap) {x dx sx : Addr} {S : Sd} (I : SpAt mu z.heap x dx sx S) (hdx : dx ∈ mu) (hoff : G.Off [dx]) {Q : Value → Shared → Prop}
    (h : ∀ s', Go [dx] z s' → SpAt mu s'.heap x dx sx S → Q .none s') :
    wpAny (model PP w) A (call (.ref 146) [.ref x]) Q E z := by
  have he := I.there
  obtain ⟨m, I, F⟩ := I.at_
  refine enter (n := 29) (m := fun y => if y = "self" then some (.ref x) else none) (cm := fun _ => none) on hA (by k_is) (by rfl) (by with_unfolding_all rfl) (by rfl) (by with_unfolding_all rfl) (by with_unfolding_all rfl) (by decide) (by rfl) (by rfl) (by rfl)
    [dx] mu (fun mu h => Inst mu h x 245 dx spNms 17 m ∧ True) hoff (fun b q => by rw [List.mem_singleton.mp q]; exact hdx) al (fun _ h' k f => ⟨I.enter k f, trivial⟩) (fun _ h h' f x k => ⟨x.1.kp k mem_l (offN I.there f), trivial⟩) ?_
  intro L wr mu' A s' hL hc hmu hN hA C
  have SF : Slf (Kf w.params) z [dx] wr mu' C.envOf 245 dx spNms := ⟨spOk, hL, hc, List.mem_singleton.mpr rfl, he⟩
  obtain ⟨fu, hfu⟩ := F.fu
  refine wpAny_execs_cons (plainObj_wpAny_Assign_Attribute (Constant_none ?_))
  walk_at "loc"
  refine C.putO SF C.r.1 (P := fun _ => True) trivial .true (d := optD none) .none rfl (by decide) (by rw [hfu]; rfl) fun s C => ?_
  have F := F.putFu none
  obtain ⟨un, hun⟩ := F.un
  refine wpAny_execs_cons (plainObj_wpAny_Assign_Attribute (C.cInt fun _ s C => ?_))
  walk_at "loc"
  refine C.putO SF C.r.1 (P := fun _ => True) trivial .true (d := .int 0) .int rfl (by decide) (by rw [hun]; rfl) fun s C => ?_
  have F := F.putUn 0
  refine wpAny_execs_cons (plainObj_wpAny_Assign_Attribute (Constant_bool ?_))
  walk_at "loc"
  refine C.putO SF C.r.1 (P := fun _ => True) trivial .true (d := .bool false) .bool rfl (by decide) F.wn fun s C => ?_
  have F := F.putWn (.bool false)
  refine wpAny_execs_cons (plainObj_wpAny_Assign_Attribute (Constant_bool ?_))
  walk_at "loc"
  refine C.putO SF C.r.1 (P := fun _ => True) trivial .true (d := .bool false) .bool rfl (by decide) F.hn fun s C => ?_
  have F := F.putHn (.bool false)
  walk_at "nil"
  exact h _ C.go0 ((SpAt.mk ⟨_, C.r.1, F⟩).less hmu)
end
-- part F6
section
variable {w : World} {G : Gd w (Kf w.params)} {z : Shared} {A : Around} {E : Value → Shared → Prop} {mu mu' : List Addr}
set_option maxHeartbeats 400000

theorem take_number_ (on : G.On z.heap) (hA : Ar 30 A) (al : Al mu z.heap) {x dx sx : Addr} {S : Sd} (I : SpAt mu z.heap x dx sx S) (hdx : dx ∈ mu) (hoff : G.Off [dx]) {Q : Value → Shared → Prop}
    (h : ∀ t s', Go [dx] z s' → SpAt mu s'.heap x dx sx { S with next := S.next + 1 } → Q (.int S.next t) s') :
    wpAny (model PP w) A (call (.ref 160) [.ref x]) Q E z := by
  have he := I.there
  obtain ⟨m, I, F⟩ := I.at_
  refine enter (n := 29) (m := fun y => if y = "self" then some (.ref x) else none) (cm := fun _ => none) on hA (by k_is) (by rfl) (by with_unfolding_all rfl) (by rfl) (by with_unfolding_all rfl) (by with_unfolding_all rfl) (by decide) (by rfl) (by rfl) (by rfl)
    [dx] mu (fun mu h => Inst mu h x 245 dx spNms 17 m ∧ True) hoff (fun b q => by rw [List.mem_singleton.mp q]; exact hdx) al (fun _ h' k f => ⟨I.enter k f, trivial⟩) (fun _ h h' f x k => ⟨x.1.kp k mem_l (offN I.there f), trivial⟩) ?_
  intro L wr mu' A s' hL hc hmu hN hA C
  have SF : Slf (Kf w.params) z [dx] wr mu' C.envOf 245 dx spNms := ⟨spOk, hL, hc, List.mem_singleton.mpr rfl, he⟩
  refine wpAny_execs_cons (wpAny_AugAssign_AttributeAny ?_)
  walk_at "loc"
  refine C.getA spOk C.r.1 F.next fun v s hv im C => ?_
  obtain ⟨tu, rfl⟩ := Imm.int_iff.mp im
  refine C.cInt fun _ s C => iadd_int ?_
  have C := C.tok (s.toks + 1)
  refine C.putO SF C.r.1 (P := fun _ => True) trivial .true (d := .int (S.next + 1)) .int rfl (by decide) (by rw [F.next]; rfl) fun s C => ?_
  have F := F.putNext (S.next + 1)
  refine wpAny_execs_cons (wpAny_Return_some (wpAny_BinOp ?_))
  walk_at "atr"
  refine C.getA spOk C.r.1 F.next fun v s hv im C => ?_
  obtain ⟨tu, rfl⟩ := Imm.int_iff.mp im
  refine C.cInt fun _ s C => sub_int ?_
  have C := C.tok (s.toks + 1)
  have e : S.next + 1 - 1 = S.next := by omega
  dsimp only
  rw [e]
  exact h _ _ C.go0 ((SpAt.mk ⟨_, C.r.1, F⟩).less hmu)

def maxO (o : Option Int) (n : Int) : Option Int := match o with | none => some n | some i => some (if i < n then n else i)
theorem note_largest_ (on : G.On z.heap) (hA : Ar 30 A) (al : Al mu z.heap) {x dx sx : Addr} {S : Sd} (I : SpAt mu z.heap x dx sx S) (hdx : dx ∈ mu) (hoff : G.Off [dx]) {n : Int} {t : Tok} {Q : Value → Shared → Prop}
    (h : ∀ s', Go [dx] z s' → SpAt mu s'.heap x dx sx { S with la := maxO S.la n } → Q .none s') :
    wpAny (model PP w) A (call (.ref 207) [.ref x, .int n t]) Q E z := by
  have he := I.there
  obtain ⟨m, I, F⟩ := I.at_
  refine enter (n := 29) (m := fun y => if y = "number" then some (.int n t) else if y = "self" then some (.ref x) else none) (cm := fun _ => none) on hA (by k_is) (by rfl) (by with_unfolding_all rfl) (by rfl) (by with_unfolding_all rfl) (by with_unfolding_all rfl) (by decide) (by rfl) (by rfl) (by rfl)
    [dx] mu (fun mu h => Inst mu h x 245 dx spNms 17 m ∧ True) hoff (fun b q => by rw [List.mem_singleton.mp q]; exact hdx) al (fun _ h' k f => ⟨I.enter k f, trivial⟩) (fun _ h h' f x k => ⟨x.1.kp k mem_l (offN I.there f), trivial⟩) ?_
  intro L wr mu' A s' hL hc hmu hN hA C
  have SF : Slf (Kf w.params) z [dx] wr mu' C.envOf 245 dx spNms := ⟨spOk, hL, hc, List.mem_singleton.mpr rfl, he⟩
  refine wpAny_execs_cons (wpAny_If (wpAny_mono (Q := fun c s => (c = false → S.la = maxO S.la n) ∧ (c = true → some n = maxO S.la n) ∧ C.At s) (isTrue_or (wpAny_isTrue_Compare1 ?_)) (fun c s w => ?_) fun _ _ e => e))
  · walk_at "atr"
    refine C.getA spOk C.r.1 F.la fun v s hv im C => ?_
    refine Constant_none (opt_is im (wpAny_truthy_bool ?_))
    cases ho : S.la with
    | none => rw [if_pos (by rfl)]; exact ⟨(fun q => nomatch q), fun _ => rfl, C⟩
    | some i =>
      rw [if_neg (by simp)]
      refine isTrue_or (wpAny_isTrue_Compare1 ?_)
      walk_at "loc"
      walk_at "atr"
      refine C.getA spOk C.r.1 (F.la.trans (by rw [ho])) fun v s hv im C => ?_
      obtain ⟨ti, rfl⟩ := Imm.int_iff.mp im
      refine gt_int (wpAny_truthy_bool ?_)
      by_cases q : i < n
      · rw [if_pos (by simpa using q)]; exact ⟨(fun q => nomatch q), fun _ => by simp [maxO, q], C⟩
      · rw [if_neg (by simpa using q)]
        exact isTrue_or_nil ⟨fun _ => by simp [maxO, q], (fun q => nomatch q), C⟩
  obtain ⟨w0, w1, C⟩ := w
  cases c with
  | false =>
    rw [if_neg Bool.false_ne_true]
    walk_at "nil"
    have e : { S with la := maxO S.la n } = S := by rw [← w0 rfl]
    exact h _ C.go0 (by rw [e]; exact (SpAt.mk ⟨_, C.r.1, F⟩).less hmu)
  | true =>
    rw [if_pos rfl]
    refine wpAny_execs_cons (plainObj_wpAny_Assign_Attribute ?_)
    walk_at "loc"
    walk_at "loc"
    refine C.putO SF C.r.1 (P := fun _ => True) trivial .true (d := optD (some n)) .int rfl (by decide) (by rw [F.la]; rfl) fun s C => ?_
    have F := F.putLa (some n)
    rw [w1 rfl] at F
    walk_at "nil"
    exact h _ C.go0 ((SpAt.mk ⟨_, C.r.1, w1 rfl ▸ F⟩).less hmu)

theorem is_beyond_ (on : G.On z.heap) (hA : Ar 30 A) (al : Al mu z.heap) {x dx sx : Addr} {S : Sd} (I : SpAt mu z.heap x dx sx S) {v : Value} {p : Int × Int} {rs : List (Int × Int)} (hr : rs.length ≤ 60) (J : Imm mu z.heap (rgD (p :: rs)) v) {Q : Value → Shared → Prop}
    (h : ∀ s', Go [] z s' → Q (.bool (decide (S.next ≤ p.2))) s') :
    wpAny (model PP w) A (call (.ref 200) [.ref x, v]) Q E z := by
  have he := I.there
  obtain ⟨m, I, F⟩ := I.at_
  refine enter (n := 29) (m := fun y => if y = "ranges" then some (v) else if y = "self" then some (.ref x) else none) (cm := fun _ => none) on hA (by k_is) (by rfl) (by with_unfolding_all rfl) (by rfl) (by with_unfolding_all rfl) (by with_unfolding_all rfl) (by decide) (by rfl) (by rfl) (by rfl)
    [] mu (fun mu h => Inst mu h x 245 dx spNms 17 m ∧ Imm mu h (rgD (p :: rs)) v) .nil (fun _ q => nomatch q) al (fun _ h' k f => ⟨I.enter k f, J.enter k f⟩) (fun _ h h' f x k => ⟨x.1.kp k mem_l (offN I.there f), x.2.kp k mem_l⟩) ?_
  intro L wr mu' A s' hL hc hmu hN hA C
  refine wpAny_execs_cons (wpAny_Return_some (BoolOp_and (wpAny_Compare1 (Call_ ?_))))
  walk_at "blt"
  refine callWith_method1 (wpAny_items_cons ?_)
  walk_at "loc"
  refine wpAny_items_nil (len_lst (ds := rgL (p :: rs)) C.r.2 (by simp [rgL]; omega) fun t₂ s₂ g => ?_)
  have C := C.go g
  refine C.cInt fun _ s C => gt_int (wpAny_truthy_bool ?_)
  rw [if_pos (by simp [rgL])]
  refine BoolOp_one (wpAny_Compare1 (Subscript_ (Subscript_ ?_)))
  walk_at "loc"
  refine C.cInt fun _ s C => item_lst (ds := rgL (p :: rs)) (i := 0) C.r.2 rfl (by decide) rfl fun u iu => ?_
  have C := C.imm iu
  refine C.cInt fun _ s C => item_tup (i := 1) C.r.2 rfl (by decide) rfl fun u iu => ?_
  obtain ⟨t, rfl⟩ := Imm.int_iff.mp iu
  walk_at "atr"
  refine C.getA spOk C.r.1.1 F.next fun v s hv im C => ?_
  obtain ⟨ti, rfl⟩ := Imm.int_iff.mp im
  exact ge_int (h _ C.go0)

theorem acked_by_ (on : G.On z.heap) (hA : Ar 30 A) (al : Al mu z.heap) {x dx sx : Addr} {S : Sd} (I : SpAt mu z.heap x dx sx S) (T : SentAt PP w mu z.heap sx S.sent) (hsent : S.sent.length < 64) {v : Value} {rs : List (Int × Int)} (hr : rs.length ≤ 60) (J : Imm mu z.heap (rgD rs) v) {Q : Value → Shared → Prop}
    (h : ∀ r ns' s', Go [] z s' → Imm mu s'.heap (.lst (intD ns')) r → ns'.Perm (S.sent.filter (hasNum rs)) → ns'.Pairwise (· ≤ ·) → Q r s') :
    wpAny (model PP w) A (call (.ref 179) [.ref x, v]) Q E z := by
  have he := I.there
  have hs := T.there
  obtain ⟨m, I, F⟩ := I.at_
  refine enter (n := 29) (m := fun y => if y = "ranges" then some (v) else if y = "self" then some (.ref x) else none) (cm := fun _ => none) on hA (by k_is) (by rfl) (by with_unfolding_all rfl) (by rfl) (by with_unfolding_all rfl) (by with_unfolding_all rfl) (by decide) (by rfl) (by rfl) (by rfl)
    [] mu (fun mu h => (Inst mu h x 245 dx spNms 17 m ∧ SentAt PP w mu h sx S.sent) ∧ Imm mu h (rgD rs) v) .nil (fun _ q => nomatch q) al (fun _ h' k f => ⟨⟨I.enter k f, T.enter k f⟩, J.enter k f⟩) (fun _ h h' f x k => ⟨⟨x.1.1.kp k mem_l (offN I.there f), x.1.2.kp k mem_l (offN hs f)⟩, x.2.kp k mem_l⟩) ?_
  intro L wr mu' A s' hL hc hmu hN hA C
  refine wpAny_execs_cons (wpAny_Return_some (Call_ ?_))
  walk_at "glo"
  refine callWith_K C.X (by k_is) (wpAny_items_cons (Call_ ?_))
  walk_at "blt"
  refine callWith_type1 (wpAny_items_cons ?_)
  walk_at "atr"
  refine C.getA spOk C.r.1.1 F.sent fun u s hv im C => ?_
  rw [Imm.raw_iff] at im; subst im
  refine wpAny_items_nil (C.r.1.2.list C.al hA.hd (by omega) fun u s' g iu => ?_)
  have C := (C.go g).imm iu
  refine wpAny_items_cons ?_
  walk_at "loc"
  refine wpAny_items_nil ⟨C.X, newly_acked_ C.on (hA.le (by omega)) C.al hsent (by omega) C.r.2 C.r.1.2 fun r ns' s' g ir hp hs => ?_⟩
  exact h _ _ _ (C.go0.trans g) (ir.less hmu) hp hs
end
-- part F7
def noteF (least : Int) (told acked : List (Int × Int)) : List (Int × Int) := told.foldl (fun a p => if least ≤ p.2 then addRange a p.1 p.2 else a) acked
section
variable {w : World} {G : Gd w (Kf w.params)} {z : Shared} {A : Around} {E : Value → Shared → Prop} {mu mu' : List Addr}
set_option maxHeartbeats 400000

theorem note_ranges_ (on : G.On z.heap) (hA : Ar 30 A) (al : Al mu z.heap) {x dx sx : Addr} {S : Sd} (I : SpAt mu z.heap x dx sx S) (T : SentAt PP w mu z.heap sx S.sent) (hsent : S.sent.length < 64) (hdx : dx ∈ mu) (hoff : G.Off [dx]) {v : Value} {rs : List (Int × Int)} (hr : rs.length ≤ 60) (J : Imm mu z.heap (rgD rs) v)
    (hb : ∀ least i, (noteF least (rs.take i) S.acked).length ≤ 60) {Q : Value → Shared → Prop}
    (h : ∀ least s', Go [dx] z s' → SpAt mu s'.heap x dx sx { S with acked := pruneR (noteF least rs S.acked) least } → Q .none s') :
    wpAny (model PP w) A (call (.ref 193) [.ref x, v]) Q E z := by
  have he := I.there
  have hs := T.there
  refine enter (n := 29) (m := fun y => if y = "ranges" then some (v) else if y = "self" then some (.ref x) else none) (cm := fun _ => none) on hA (by k_is) (by rfl) (by with_unfolding_all rfl) (by rfl) (by with_unfolding_all rfl) (by with_unfolding_all rfl) (by decide) (by rfl) (by rfl) (by rfl)
    [dx] mu (fun mu h => (SpAt mu h x dx sx S ∧ Imm mu h (rgD rs) v) ∧ SentAt PP w mu h sx S.sent) hoff (fun b q => by rw [List.mem_singleton.mp q]; exact hdx) al (fun _ h' k f => ⟨⟨I.enter k f, J.enter k f⟩, T.enter k f⟩) (fun _ h h' f x k => ⟨⟨x.1.1.kp k mem_l (offN I.there f), x.1.2.kp k mem_l⟩, x.2.kp k mem_l (offN hs f)⟩) ?_
  intro L wr mu' A s' hL hc hmu hN hA C
  have SF : Slf (Kf w.params) z [dx] wr mu' C.envOf 245 dx spNms := ⟨spOk, hL, hc, List.mem_singleton.mpr rfl, he⟩
  have C0 := C
  -- least
  refine wpAny_execs_cons (wpAny_Assign_Name (wpAny_mono (Q := fun v s => ∃ n t, v = .int n t ∧ C.At s) (IfExp_ (wpAny_isTrue_Compare1 (Call_ ?_))) (fun v s w => ?_) fun _ _ e => e))
  · obtain ⟨m, I, F⟩ := C.r.1.1.at_
    walk_at "blt"
    refine callWith_method1 (wpAny_items_cons ?_)
    walk_at "atr"
    refine C.getA spOk I F.sent fun u s hv im C => ?_
    rw [Imm.raw_iff] at im; subst im
    refine wpAny_items_nil (C.r.2.len (by omega) fun t s g => ?_)
    have C := C.go g
    refine C.cInt fun _ s C => gt_int (wpAny_truthy_bool ?_)
    obtain ⟨m, I, F⟩ := C.r.1.1.at_
    split
    · rename_i hpos
      refine Call_ ?_
      walk_at "blt"
      refine callWith_method1 (wpAny_items_cons ?_)
      walk_at "atr"
      refine C.getA spOk I F.sent fun u s hv im C => ?_
      rw [Imm.raw_iff] at im; subst im
      refine wpAny_items_nil (C.r.2.min hA.hd (fun q => by simp [q] at hpos) fun n t s hn g => ?_)
      exact ⟨_, _, rfl, C.go g⟩
    · walk_at "atr"
      refine C.getA spOk I F.next fun u s hv im C => ?_
      obtain ⟨tn, rfl⟩ := Imm.int_iff.mp im
      exact ⟨_, _, rfl, C⟩
  obtain ⟨least, tl, rfl, C⟩ := w
  refine C.st fun s C => ?_
  have C := C.know (P := fun h => SpAt mu' h x dx sx S ∧ Imm mu' h (rgD rs) v) C.r.1 fun h h' z kp => ⟨z.1.kp kp C.wrmu (C.offW he), z.2.kp kp C.wrmu⟩
  -- the loop
  refine wpAny_execs_cons (C.forList hA.hd ?_)
  walk_at "loc"
  refine ⟨_, _, _, rgL rs, C, C.r.2, fun Ia s₃ hI1 g₃ hI C₃ => ?_⟩
  have hdI : dx ≠ Ia := fun q => by obtain ⟨o, e⟩ := C.r.1.there; rw [q, hI1] at e; cases e
  have hdw : dx ∉ Ia :: wr := fun q => (List.mem_cons.mp q).elim hdI (C.offW he)
  have wI : ∀ b, b ∉ Ia :: mu' → b ∉ Ia :: wr := fun b n q => n ((List.mem_cons.mp q).elim (fun q => q ▸ List.mem_cons_self) fun q => List.mem_cons_of_mem _ (C.wrmu b q))
  refine ⟨_, _, fun h => SpAt (Ia :: mu') h x dx sx S, fun i m cm R => ∃ tl, m "self" = some (.ref x) ∧ m "least" = some (.int least tl) ∧ R = fun h => SpAt (Ia :: mu') h x dx sx { S with acked := noteF least (rs.take i) S.acked },
    ⟨tl, by walk_at "lk", by walk_at "lk", by simp [noteF]⟩, C₃.know ?_ ?_, ⟨?_, ?_, ?_⟩⟩
  · exact C.r.1.gen (fun b o n e => ⟨g₃.kp.all b o e, fun q => (List.mem_cons.mp q).elim (fun q => by rw [q, hI1] at e; cases e) n⟩) fun o e => g₃.kp.all _ o e
  · exact fun h h' x k => x.kp k (fun b q => List.mem_cons_of_mem _ (C.wrmu b q)) (C.offW he)
  · rintro i m cm R ⟨tl, -, -, rfl⟩ h h' x k
    exact x.gen (fun b o n e => ⟨k b o (wI b n) e, n⟩) fun o e => k _ o hdw e
  · rintro i v m cm R LP s hin ⟨tl, m1, m2, rfl⟩ hLP C ⟨d, hd, im⟩
    simp only [rgL, List.getElem?_map, Option.map_eq_some_iff] at hd
    obtain ⟨⟨a, b⟩, hab, rfl⟩ := hd
    have hSt : ∀ P : Heap → Prop, Std (Ia :: mu') P → Stw [dx] wr fun h => P h ∧ LP h := fun P hP => (hP.toW C).and fun W h h' hW p kp => hLP W h h' (fun b q => (hW b q).elim (fun q => by rw [List.mem_singleton.mp q]; exact C0.ownmu _ (List.mem_singleton.mpr rfl)) (C0.wrmu b)) p kp
    refine assignPair hA.hd im fun v₁ v₂ s g i₁ i₂ => ?_
    obtain ⟨t₁, rfl⟩ := Imm.int_iff.mp i₁
    obtain ⟨t₂, rfl⟩ := Imm.int_iff.mp i₂
    have C := C.go g
    refine wpAny_assign_Name (C.st fun s C => wpAny_assign_Name (C.st fun s C => ?_))
    refine wpAny_execs_cons (wpAny_If (wpAny_isTrue_Compare1 ?_))
    walk_at "loc"
    walk_at "loc"
    refine ge_int (wpAny_truthy_bool ?_)
    have hst : noteF least (rs.take (i + 1)) S.acked = if least ≤ b then addRange (noteF least (rs.take i) S.acked) a b else noteF least (rs.take i) S.acked := by
      unfold noteF; rw [List.take_add_one, hab, List.foldl_append]; rfl
    by_cases hle : least ≤ b
    · rw [if_pos (by simpa using hle)]
      rw [if_pos hle] at hst
      obtain ⟨f, IF, F⟩ := C.r.1.at_
      refine wpAny_execs_cons (plainObj_wpAny_Assign_Attribute (Call_ ?_))
      walk_at "glo"
      refine callWith_K C.X (by k_is) (wpAny_items_cons ?_)
      walk_at "atr"
      refine C.getA spOk IF F.acked fun u s hv im C => ?_
      refine wpAny_items_cons ?_
      walk_at "loc"
      refine wpAny_items_cons ?_
      walk_at "loc"
      refine wpAny_items_nil ⟨C.X, add_range_ C.on (hA.le (by omega)) C.al (Nat.le_trans (hb least i) (by decide)) im fun u s g iu => ?_⟩
      have C := C.go g
      walk_at "loc"
      obtain ⟨f, IF, F⟩ := C.r.1.at_
      refine C.putW ⟨spOk, hL, hc, List.mem_singleton.mpr rfl, he⟩ IF (P := fun h => True ∧ LP h) ⟨trivial, C.r.2⟩ (hSt _ .true) iu (lst.hand iu) (by decide) (by rw [F.acked]; rfl) fun s C => ?_
      have F := F.putAcked (addRange (noteF least (rs.take i) S.acked) a b)
      refine wpAny_execs_nil (wpAny_execs_nil ?_)
      refine ⟨C.mOf, _, _, ⟨tl, by walk_at "lk", by walk_at "lk", rfl⟩, C.know ⟨⟨_, C.r.1, by rw [hst]; exact F⟩, C.r.2.2⟩ ?_⟩
      exact fun h h' z kp => ⟨z.1.kp kp C.wrmu (C.offW he), hLP _ _ _ (C0.wrmu) z.2 kp⟩
    · rw [if_neg (by simpa using hle)]
      rw [if_neg hle] at hst
      refine wpAny_execs_nil (wpAny_execs_nil ?_)
      exact ⟨C.mOf, _, _, ⟨tl, by walk_at "lk", by walk_at "lk", rfl⟩, by rw [hst]; exact C⟩
  · rintro m cm R s ⟨tl, m1, m2, rfl⟩ C
    rw [show (rgL rs).length = rs.length by simp [rgL], List.take_length] at C
    have C := C.know (P := fun h => SpAt mu' h x dx sx { S with acked := noteF least rs S.acked }) (C.r.less fun b q => List.mem_cons_of_mem _ q) fun h h' z kp => z.kp kp C.wrmu (C.offW he)
    obtain ⟨f, IF, F⟩ := C.r.at_
    refine wpAny_execs_cons (plainObj_wpAny_Assign_Attribute (Call_ ?_))
    walk_at "glo"
    refine callWith_K C.X (by k_is) (wpAny_items_cons ?_)
    walk_at "atr"
    refine C.getA spOk IF F.acked fun u s hv im C => ?_
    refine wpAny_items_cons ?_
    walk_at "loc"
    have hb' := hb least rs.length
    rw [List.take_length] at hb'
    refine wpAny_items_nil ⟨C.X, prune_ C.on (hA.le (by omega)) C.al (Nat.le_trans hb' (by decide)) im fun u s g iu => ?_⟩
    have C := C.go g
    walk_at "loc"
    obtain ⟨f, IF, F⟩ := C.r.at_
    refine C.putO SF IF (P := fun _ => True) trivial .true iu (lst.hand iu) (by decide) (by rw [F.acked]; rfl) fun s C => ?_
    have F := F.putAcked (pruneR (noteF least rs S.acked) least)
    walk_at "nil"
    exact h least _ C.go0 ((SpAt.mk ⟨_, C.r.1, F⟩).less hmu)
end
-- part F8
section
variable {w : World} {G : Gd w (Kf w.params)} {z : Shared} {A : Around} {E : Value → Shared → Prop} {mu mu' : List Addr}
set_option maxHeartbeats 400000

theorem pk_init_ (on : G.On z.heap) (hA : Ar 30 A) (al : Al mu z.heap) {x dx : Addr} (I : Inst mu z.heap x 100 dx pkNms 0 fun _ => none) (hdx : dx ∈ mu) (hoff : G.Off [dx]) {n now : Int} {t t' t'' : Tok} {v : Value} {l : List (Str × List D)} (hl : l.length ≤ 10) (J : Imm mu z.heap (.lst (rowD l)) v) {Rr : Result → Shared → Prop}
    (h : ∀ b f s', Go [dx] z s' → Inst mu s'.heap x 100 dx pkNms 6 f → f "number" = some (.int n) → f "is_eliciting" = some (.bool b) → Rr (.ok (.ret .none)) s') :
    codeAny (model PP w) A (.call (.ref 97) ⟨[.ref x, .int n t, .int now t', .int 100 t'', v], []⟩) Rr z := by
  have he := I.there
  refine enterC (n := 29) (m := fun y => if y = "frames" then some (v) else if y = "size" then some (.int 100 t'') else if y = "time" then some (.int now t') else if y = "number" then some (.int n t) else if y = "self" then some (.ref x) else none) (cm := fun _ => none) on hA (by k_is) (by rfl) (by with_unfolding_all rfl) (by rfl) (by with_unfolding_all rfl) (by with_unfolding_all rfl) (by decide) (by rfl) (by rfl) (by rfl)
    [dx] mu (fun mu h => Inst mu h x 100 dx pkNms 0 (fun _ => none) ∧ Imm mu h (.lst (rowD l)) v) hoff (fun b q => by rw [List.mem_singleton.mp q]; exact hdx) al (fun _ h' k f => ⟨I.enter k f, J.enter k f⟩) (fun _ h h' f x k => ⟨x.1.kp k mem_l (offN I.there f), x.2.kp k mem_l⟩) ?_
  intro L wr mu' A s' hL hc hmu hN hA C
  have SF : Slf (Kf w.params) z [dx] wr mu' C.envOf 100 dx pkNms := ⟨pkOk, hL, hc, List.mem_singleton.mpr rfl, he⟩
  refine wpAny_execs_cons (plainObj_wpAny_Assign_Attribute ?_)
  walk_at "loc"
  walk_at "loc"
  refine C.putN SF C.r.1 (P := fun h => Imm mu' h (.lst (rowD l)) v) C.r.2 .imm (d := .int n) .int rfl (by decide) fun s C => ?_
  refine wpAny_execs_cons (plainObj_wpAny_Assign_Attribute ?_)
  walk_at "loc"
  walk_at "loc"
  refine C.putN SF C.r.1 (P := fun h => Imm mu' h (.lst (rowD l)) v) C.r.2 .imm (d := .int now) .int rfl (by decide) fun s C => ?_
  refine wpAny_execs_cons (plainObj_wpAny_Assign_Attribute ?_)
  walk_at "loc"
  walk_at "loc"
  refine C.putN SF C.r.1 (P := fun h => Imm mu' h (.lst (rowD l)) v) C.r.2 .imm (d := .int 100) .int rfl (by decide) fun s C => ?_
  refine wpAny_execs_cons (plainObj_wpAny_Assign_Attribute ?_)
  walk_at "loc"
  walk_at "loc"
  refine C.putN SF C.r.1 (P := fun h => Imm mu' h (.lst (rowD l)) v) C.r.2 .imm (d := .raw v) .raw (lst.hand C.r.2) (by decide) fun s C => ?_
  refine wpAny_execs_cons (plainObj_wpAny_Assign_Attribute (Call_ ?_))
  walk_at "glo"
  refine callWith_K C.X (by k_is) (wpAny_items_cons ?_)
  walk_at "loc"
  refine wpAny_items_nil ⟨C.X, any_eliciting_ C.on (hA.le (by omega)) C.al hl C.r.2 fun b s g => ?_⟩
  have C := C.go g
  walk_at "loc"
  refine C.putN SF C.r.1 (P := fun h => Imm mu' h (.lst (rowD l)) v) C.r.2 .imm (d := .bool b) .bool rfl (by decide) fun s C => ?_
  refine wpAny_execs_cons (plainObj_wpAny_Assign_Attribute (Call_ ?_))
  walk_at "glo"
  refine callWith_K C.X (by k_is) (wpAny_items_cons ?_)
  walk_at "loc"
  refine wpAny_items_nil ⟨C.X, any_in_flight_ C.on (hA.le (by omega)) C.al hl C.r.2 fun b' s g => ?_⟩
  have C := C.go g
  walk_at "loc"
  refine C.putN SF C.r.1 (P := fun h => Imm mu' h (.lst (rowD l)) v) C.r.2 .imm (d := .bool b') .bool rfl (by decide) fun s C => ?_
  walk_at "nil"
  exact h b _ _ C.go0 (C.r.1.less hmu) (by walk_at "lk") (by walk_at "lk")

theorem SpF.anySent {sx : Addr} {S : Sd} {m : Str → Option D} (F : SpF sx S m) (l : List Int) : SpF sx { S with sent := l } m := { name := F.name, next := F.next, sent := F.sent, la := F.la, acked := F.acked, recv := F.recv, seen := F.seen, time := F.time, floor := F.floor, fu := F.fu, un := F.un, wn := F.wn, hn := F.hn, lt := F.lt, ecn := F.ecn }
theorem SpAt.anySent {h : Heap} {x dx sx : Addr} {S : Sd} (I : SpAt mu h x dx sx S) (l : List Int) : SpAt mu h x dx sx { S with sent := l } := let ⟨m, I, F⟩ := I.at_; ⟨m, I, F.anySent l⟩
/-- a whole end -/
structure SdAt (w : World) (mu : List Addr) (h : Heap) (x dx sx : Addr) (S : Sd) : Prop where
  sp : SpAt mu h x dx sx S
  st : SentAt PP w mu h sx S.sent

theorem on_sent_ (on : G.On z.heap) (hA : Ar 40 A) (al : Al mu z.heap) {x dx sx : Addr} {S : Sd} (I : SpAt mu z.heap x dx sx S) (T : SentAt PP w mu z.heap sx S.sent) (hsent : S.sent.length < 64) (hdx : dx ∈ mu) (hsx : sx ∈ mu) (hds : dx ≠ sx) (hoff : G.Off [dx, sx]) {n now : Int} {t t' t'' : Tok} (hn : n ∉ S.sent) {v : Value} {l : List (Str × List D)} (hl : l.length ≤ 10) (J : Imm mu z.heap (.lst (rowD l)) v) {Q : Value → Shared → Prop}
    (h : ∀ u s', Go [dx, sx] z s' → SpAt mu s'.heap x dx sx { S with sent := S.sent ++ [n] } → SentAt PP w mu s'.heap sx (S.sent ++ [n]) → Q u s') :
    wpAny (model PP w) A (call (.ref 167) [.ref x, .int n t, .int now t', .int 100 t'', v]) Q E z := by
  have he := I.there
  have hs := T.there
  obtain ⟨m, I, F⟩ := I.at_
  refine enter (n := 39) (m := fun y => if y = "frames" then some (v) else if y = "size" then some (.int 100 t'') else if y = "now" then some (.int now t') else if y = "number" then some (.int n t) else if y = "self" then some (.ref x) else none) (cm := fun _ => none) on hA (by k_is) (by rfl) (by with_unfolding_all rfl) (by rfl) (by with_unfolding_all rfl) (by with_unfolding_all rfl) (by decide) (by rfl) (by rfl) (by rfl)
    [dx, sx] mu (fun mu h => (Inst mu h x 245 dx spNms 17 m ∧ SentAt PP w mu h sx S.sent) ∧ Imm mu h (.lst (rowD l)) v) hoff (fun b q => by rcases List.mem_cons.mp q with rfl | q; exact hdx; rw [List.mem_singleton.mp q]; exact hsx) al (fun _ h' k f => ⟨⟨I.enter k f, T.enter k f⟩, J.enter k f⟩) (fun _ h h' f x k => ⟨⟨x.1.1.kp k mem_l (offN I.there f), x.1.2.kp k mem_l (offN hs f)⟩, x.2.kp k mem_l⟩) ?_
  intro L wr mu' A s' hL hc hmu hN hA C
  have SF : Slf (Kf w.params) z [dx, sx] wr mu' C.envOf 245 dx spNms := ⟨spOk, hL, hc, List.mem_cons_self, he⟩
  have hdm := hmu _ hdx
  have hsm := hmu _ hsx
  refine wpAny_execs_cons (wpAny_Assign_Name (Call_ ?_))
  walk_at "glo"
  refine callWith_K C.X (by k_is) (wpAny_items_cons ?_)
  walk_at "loc"
  refine wpAny_items_cons ?_
  walk_at "loc"
  refine wpAny_items_cons ?_
  walk_at "loc"
  refine wpAny_items_cons ?_
  walk_at "loc"
  refine wpAny_items_nil ⟨C.X, makeI (nms := pkNms) C.X hA C.al (by k_is) (by k_is) (by k_is) fun A₁ p pd s₁ hA₁ g pd0 p0 pm pdm hne IP => ?_⟩
  have C₁ := C.go g
  have C₂ := C₁.muMore IP.there
  refine pk_init_ C₂.on (hA₁.le (by omega)) C₂.al IP List.mem_cons_self (fun b q => by rw [List.mem_singleton.mp q]; exact C.on.off pd0) hl (Imm.more (W := [pd]) C.r.2 (fun b q => by rw [List.mem_singleton.mp q]; exact pd0) |>.kp g.kp fun _ q => nomatch q) fun b f s₂ g₂ IP hnum hel => ⟨rfl, ?_⟩
  have f1 : ∀ b ∈ [pd], s'.heap.get? b = none := fun b q => by rw [List.mem_singleton.mp q]; exact pd0
  have IP' : Inst mu' s₂.heap p 100 pd pkNms 6 f := IP.less fun b q => List.mem_cons_of_mem _ q
  have C := (C.go (g.made g₂ f1)).also (P := fun h => Inst mu' h p 100 pd pkNms 6 f) IP' fun h h' y k => y.kp k C.wrmu fun q => pdm (C.wrmu _ q)
  refine C.st fun s C => ?_
  -- self.sent[number] = packet
  refine wpAny_execs_cons (wpAny_Assign_Subscript ?_)
  walk_at "loc"
  walk_at "atr"
  refine C.getA spOk C.r.1.1.1 F.sent fun u s hv im C => ?_
  rw [Imm.raw_iff] at im; subst im
  walk_at "loc"
  have hpkt : Imm mu' s.heap (.pkt n) (.ref p) := by
    obtain ⟨es, k, e, -, -, fs⟩ := C.r.2.ents
    obtain ⟨v', e', im', -⟩ := fs _ _ hnum
    obtain ⟨t₀, rfl⟩ := Imm.int_iff.mp im'
    exact Imm.pkt_iff.mpr ⟨p, pd, _, t₀, rfl, C.r.2.xmu, pdm, C.r.2.obj, e, by rw [lookIn_dict]; exact e'⟩
  refine C.r.1.1.2.put hsm hn (by omega) hpkt fun s₃ g₃ T' => ?_
  have C := C.turnW (P := fun h => (Inst mu' h x 245 dx spNms 17 m ∧ SentAt PP w mu' h sx (S.sent ++ [n])) ∧ Inst mu' h p 100 pd pkNms 6 f) g₃ hL hc (fun b q => by rw [List.mem_singleton.mp q]; exact List.mem_cons_of_mem _ (List.mem_singleton.mpr rfl)) (fun b q => by rw [List.mem_singleton.mp q]; exact hs)
    ⟨⟨C.r.1.1.1.kp g₃.kp (fun b q => by rw [List.mem_singleton.mp q]; exact hsm) fun q => hds (List.mem_singleton.mp q), T'⟩, C.r.2.kp g₃.kp (fun b q => by rw [List.mem_singleton.mp q]; exact hsm) fun q => pdm (List.mem_singleton.mp q ▸ hsm)⟩
    fun h h' y k => ⟨⟨y.1.1.kp k C.wrmu (C.offW he), y.1.2.kp k C.wrmu (C.offW hs)⟩, y.2.kp k C.wrmu fun q => pdm (C.wrmu _ q)⟩
  -- if packet.is_eliciting
  refine wpAny_execs_cons (wpAny_If (isTrue_plain ?_))
  walk_at "atr"
  refine C.getA pkOk C.r.2 hel fun v s hv im C => ?_
  rw [Imm.bool_iff] at im; subst im
  refine wpAny_truthy_bool ?_
  cases b with
  | false =>
    rw [if_neg Bool.false_ne_true]
    walk_at "nil"
    refine wpAny_execs_cons (wpAny_Return_some ?_)
    walk_at "loc"
    exact h _ _ C.go0 ((SpAt.mk ⟨_, C.r.1.1, F.anySent _⟩).less hmu) (C.r.1.2.less hmu)
  | true =>
    rw [if_pos rfl]
    refine wpAny_execs_cons (plainObj_wpAny_Assign_Attribute ?_)
    walk_at "loc"
    walk_at "loc"
    refine C.putW SF C.r.1.1 (P := fun h => SentAt PP w mu' h sx (S.sent ++ [n])) C.r.1.2 ?_ (d := .int now) .int rfl (by decide) F.lt fun s C => ?_
    · exact fun W h h' hW y kp => y.kp kp (fun b q => (hW b q).elim (fun q => by rw [List.mem_singleton.mp q]; exact hdm) (C.wrmu b)) fun q => (hW _ q).elim (fun q => hds (List.mem_singleton.mp q).symm) (C.offW hs)
    have F := F.putLt (.int now)
    walk_at "nil"
    refine wpAny_execs_cons (wpAny_Return_some ?_)
    walk_at "loc"
    exact h _ _ C.go0 ((SpAt.mk ⟨_, C.r.1, F.anySent _⟩).less hmu) (C.r.2.less hmu)
end
-- part F9
section
variable {w : World} {G : Gd w (Kf w.params)} {z : Shared} {A : Around} {E : Value → Shared → Prop} {mu mu' : List Addr}
set_option maxHeartbeats 400000
theorem Gd.On.lo (on : G.On z.heap) : (z.heap.objs.size == sysModules) = false := by
  have h : mainGlobals < z.heap.objs.size := by
    obtain ⟨o, es, ep, e, -⟩ := G.g
    exact Heap.lt_size (on _ _ e)
  have : sysModules < mainGlobals := by decide
  simp only [beq_eq_false_iff_ne, ne_eq]
  exact Nat.ne_of_gt (Nat.lt_trans this h)
theorem Cx.lo {s₀ s : Shared} {own wr : List Addr} {env : Env} {m cm : Str → Option Value} {R : Heap → Prop} (C : Cx G s₀ own wr mu env m cm R s) : (s.heap.objs.size == sysModules) = false := Gd.On.lo C.on

def sd0 : Sd := ⟨0, [], none, [], []⟩
theorem sp_init_ (on : G.On z.heap) (hA : Ar 30 A) (al : Al mu z.heap) {x dx : Addr} (I : Inst mu z.heap x 245 dx spNms 0 fun _ => none) (hdx : dx ∈ mu) (hoff : G.Off [dx]) {t : Tok} {Rr : Result → Shared → Prop}
    (h : ∀ sx s', Go [dx] z s' → z.heap.get? sx = none → sx ≠ dx → SpAt (sx :: mu) s'.heap x dx sx sd0 → SentAt PP w (sx :: mu) s'.heap sx [] → Rr (.ok (.ret .none)) s') :
    codeAny (model PP w) A (.call (.ref 118) ⟨[.ref x, .str "application" t], []⟩) Rr z := by
  have he := I.there
  refine enterC (n := 29) (m := fun y => if y = "name" then some (.str "application" t) else if y = "self" then some (.ref x) else none) (cm := fun _ => none) on hA (by k_is) (by rfl) (by with_unfolding_all rfl) (by rfl) (by with_unfolding_all rfl) (by with_unfolding_all rfl) (by decide) (by rfl) (by rfl) (by rfl)
    [dx] mu (fun mu h => Inst mu h x 245 dx spNms 0 (fun _ => none) ∧ True) hoff (fun b q => by rw [List.mem_singleton.mp q]; exact hdx) al (fun _ h' k f => ⟨I.enter k f, trivial⟩) (fun _ h h' f x k => ⟨x.1.kp k mem_l (offN I.there f), trivial⟩) ?_
  intro L wr mu' A s' hL hc hmu hN hA C
  have SF : Slf (Kf w.params) z [dx] wr mu' C.envOf 245 dx spNms := ⟨spOk, hL, hc, List.mem_singleton.mpr rfl, he⟩
  refine wpAny_execs_cons (plainObj_wpAny_Assign_Attribute ?_)
  walk_at "loc"
  walk_at "loc"
  refine C.putN SF C.r.1 (P := fun _ => True) trivial .true (d := .str "application") .str rfl (by decide) fun s C => ?_
  refine wpAny_execs_cons (plainObj_wpAny_Assign_Attribute (C.cInt fun _ s C => ?_))
  walk_at "loc"
  refine C.putN SF C.r.1 (P := fun _ => True) trivial .true (d := .int 0) .int rfl (by decide) fun s C => ?_
  refine wpAny_execs_cons (plainObj_wpAny_Assign_Attribute (wpAny_Dict_empty ?_))
  have g : Go [] s { s with heap := s.heap.push { cls := .type "dict", data := .dict #[] } } := Go.ofH (Kp.push _)
  have hsd : s.heap.get? s.heap.objs.size = none := size_none _
  have T0 : (s.heap.push { cls := .type "dict", data := .dict #[] }).DictOf (intKind PP w) s.heap.objs.size [] := Heap.DictOf.new _
  have hlo := C.lo
  generalize s.heap.objs.size = sd at hsd T0 hlo ⊢
  have hsm : sd ∉ mu' := C.al.notin hsd
  have T0 : SentAt PP w (sd :: mu') (s.heap.push { cls := .type "dict", data := .dict #[] }) sd [] := ⟨hlo, [], T0, rfl, fun _ q => nomatch q⟩
  have hsz : z.heap.get? sd = none := by
    cases e : z.heap.get? sd with
    | none => rfl
    | some o => obtain ⟨o', e'⟩ := C.kp.there ⟨o, e⟩; rw [hsd] at e'; cases e'
  have hsdx : sd ≠ dx := fun q => by obtain ⟨o, e⟩ := he; rw [← q, hsz] at e; cases e
  have sstd : Stw [dx] wr fun h => SentAt PP w (sd :: mu') h sd [] := fun W h h' hW y kp => y.kp kp (fun b q => (hW b q).elim (fun q => by rw [List.mem_singleton.mp q]; exact List.mem_cons_of_mem _ (C.ownmu _ (List.mem_singleton.mpr rfl))) fun q => List.mem_cons_of_mem _ (C.wrmu b q)) fun q => (hW _ q).elim (fun q => hsdx (List.mem_singleton.mp q)) fun q => hsm (C.wrmu _ q)
  have I1 := C.r.1.gen (mu' := sd :: mu') (h' := s.heap.push { cls := .type "dict", data := .dict #[] }) (fun b o n e => ⟨g.kp.all b o e, fun q => (List.mem_cons.mp q).elim (fun q => by rw [q, hsd] at e; cases e) n⟩) fun o e => g.kp.all _ o e
  have C := ((C.go g).muMore T0.there).know (P := fun h => Inst (sd :: mu') h x 245 dx spNms _ _ ∧ SentAt PP w (sd :: mu') h sd []) ⟨I1, T0⟩ fun h h' y k => ⟨y.1.kp k (fun b q => List.mem_cons_of_mem _ (C.wrmu b q)) (C.offW he), sstd.stb _ _ y.2 k⟩
  walk_at "loc"
  refine C.putNW SF C.r.1 (P := fun h => SentAt PP w (sd :: mu') h sd []) C.r.2 sstd (d := .raw (.ref sd)) .raw rfl (by decide) fun s C => ?_
  refine wpAny_execs_cons (plainObj_wpAny_Assign_Attribute (Constant_none ?_))
  walk_at "loc"
  refine C.putNW SF C.r.1 (P := fun h => SentAt PP w (sd :: mu') h sd []) C.r.2 sstd (d := .none) .none rfl (by decide) fun s C => ?_
  refine wpAny_execs_cons (plainObj_wpAny_Assign_Attribute (List_ (wpAny_items_nil (C.newList .nil (Nat.zero_le _) fun lv s C => ?_))))
  walk_at "loc"
  refine C.putNW SF C.r.1.1 (P := fun h => SentAt PP w (sd :: mu') h sd []) C.r.1.2 sstd (d := .lst []) C.r.2 (lst.hand C.r.2) (by decide) fun s C => ?_
  refine wpAny_execs_cons (plainObj_wpAny_Assign_Attribute (Constant_none ?_))
  walk_at "loc"
  refine C.putNW SF C.r.1 (P := fun h => SentAt PP w (sd :: mu') h sd []) C.r.2 sstd (d := .none) .none rfl (by decide) fun s C => ?_
  refine wpAny_execs_cons (plainObj_wpAny_Assign_Attribute (Constant_none ?_))
  walk_at "loc"
  refine C.putNW SF C.r.1 (P := fun h => SentAt PP w (sd :: mu') h sd []) C.r.2 sstd (d := .none) .none rfl (by decide) fun s C => ?_
  refine wpAny_execs_cons (plainObj_wpAny_Assign_Attribute (List_ (wpAny_items_nil (C.newList .nil (Nat.zero_le _) fun lv s C => ?_))))
  walk_at "loc"
  refine C.putNW SF C.r.1.1 (P := fun h => SentAt PP w (sd :: mu') h sd []) C.r.1.2 sstd (d := .lst []) C.r.2 (lst.hand C.r.2) (by decide) fun s C => ?_
  refine wpAny_execs_cons (plainObj_wpAny_Assign_Attribute (Constant_none ?_))
  walk_at "loc"
  refine C.putNW SF C.r.1 (P := fun h => SentAt PP w (sd :: mu') h sd []) C.r.2 sstd (d := .none) .none rfl (by decide) fun s C => ?_
  refine wpAny_execs_cons (plainObj_wpAny_Assign_Attribute (Constant_none ?_))
  walk_at "loc"
  refine C.putNW SF C.r.1 (P := fun h => SentAt PP w (sd :: mu') h sd []) C.r.2 sstd (d := .none) .none rfl (by decide) fun s C => ?_
  refine wpAny_execs_cons (plainObj_wpAny_Assign_Attribute (C.cInt fun _ s C => ?_))
  walk_at "loc"
  refine C.putNW SF C.r.1 (P := fun h => SentAt PP w (sd :: mu') h sd []) C.r.2 sstd (d := .int 0) .int rfl (by decide) fun s C => ?_
  refine wpAny_execs_cons (plainObj_wpAny_Assign_Attribute (Constant_none ?_))
  walk_at "loc"
  refine C.putNW SF C.r.1 (P := fun h => SentAt PP w (sd :: mu') h sd []) C.r.2 sstd (d := .none) .none rfl (by decide) fun s C => ?_
  refine wpAny_execs_cons (plainObj_wpAny_Assign_Attribute (C.cInt fun _ s C => ?_))
  walk_at "loc"
  refine C.putNW SF C.r.1 (P := fun h => SentAt PP w (sd :: mu') h sd []) C.r.2 sstd (d := .int 0) .int rfl (by decide) fun s C => ?_
  refine wpAny_execs_cons (plainObj_wpAny_Assign_Attribute (Constant_bool ?_))
  walk_at "loc"
  refine C.putNW SF C.r.1 (P := fun h => SentAt PP w (sd :: mu') h sd []) C.r.2 sstd (d := .bool false) .bool rfl (by decide) fun s C => ?_
  refine wpAny_execs_cons (plainObj_wpAny_Assign_Attribute (Constant_bool ?_))
  walk_at "loc"
  refine C.putNW SF C.r.1 (P := fun h => SentAt PP w (sd :: mu') h sd []) C.r.2 sstd (d := .bool false) .bool rfl (by decide) fun s C => ?_
  refine wpAny_execs_cons (plainObj_wpAny_Assign_Attribute (List_ (wpAny_items_cons (C.cInt fun _ s C => wpAny_items_cons (C.cInt fun _ s C => wpAny_items_cons (C.cInt fun _ s C => wpAny_items_nil (C.newList (ds := [.int 0, .int 0, .int 0]) (.cons .int (.cons .int (.cons .int .nil))) (by show 3 ≤ 1000; decide) fun lv s C => ?_)))))))
  walk_at "loc"
  refine C.putNW SF C.r.1.1 (P := fun h => SentAt PP w (sd :: mu') h sd []) C.r.1.2 sstd (d := .lst [.int 0, .int 0, .int 0]) C.r.2 (lst.hand C.r.2) (by decide) fun s C => ?_
  refine wpAny_execs_cons (plainObj_wpAny_Assign_Attribute (Constant_bool ?_))
  walk_at "loc"
  refine C.putNW SF C.r.1 (P := fun h => SentAt PP w (sd :: mu') h sd []) C.r.2 sstd (d := .bool false) .bool rfl (by decide) fun s C => ?_
  walk_at "nil"
  have sub : ∀ b ∈ sd :: mu, b ∈ sd :: mu' := fun b q => (List.mem_cons.mp q).elim (fun q => q ▸ List.mem_cons_self) fun q => List.mem_cons_of_mem _ (hmu b q)
  refine h sd _ C.go0 hsz hsdx ⟨_, (C.r.1.less sub), ?_⟩ (C.r.2.less sub)
  exact { name := by walk_at "lk", next := by walk_at "lk", sent := by walk_at "lk", la := by walk_at "lk", acked := by walk_at "lk", recv := by walk_at "lk", seen := ⟨none, by walk_at "lk"⟩, time := ⟨none, by walk_at "lk"⟩, floor := by walk_at "lk", fu := ⟨none, by walk_at "lk"⟩, un := ⟨0, by walk_at "lk"⟩, wn := Option.isSome_iff_exists.mpr ⟨.bool false, by walk_at "lk"⟩, hn := Option.isSome_iff_exists.mpr ⟨.bool false, by walk_at "lk"⟩, lt := Option.isSome_iff_exists.mpr ⟨.none, by walk_at "lk"⟩, ecn := by walk_at "lk" }
end
-- part F10
section
variable {w : World} {G : Gd w (Kf w.params)} {z : Shared} {A : Around} {E : Value → Shared → Prop} {mu mu' : List Addr}
set_option maxHeartbeats 400000

/-- what is left when these are taken -/
def leftOf (sent ns : List Int) : List Int := sent.filter fun a => !ns.contains a
theorem leftOf_nil (sent : List Int) : leftOf sent [] = sent := by simp [leftOf]
theorem leftOf_snoc (sent ns : List Int) (n : Int) : (leftOf sent ns).filter (fun x => !decide (x = n)) = leftOf sent (ns ++ [n]) := by
  unfold leftOf
  rw [List.filter_filter]
  refine List.filter_congr fun a _ => ?_
  simp [List.contains_eq_mem, Bool.and_comm]
theorem leftOf_skip (sent ns : List Int) {n : Int} (h : n ∉ sent) : leftOf sent ns = leftOf sent (ns ++ [n]) := by
  unfold leftOf
  refine List.filter_congr fun a ha => ?_
  have : a ≠ n := fun q => h (q ▸ ha)
  simp [List.contains_eq_mem, this]

theorem take_ (on : G.On z.heap) (hA : Ar 30 A) (al : Al mu z.heap) {x dx sx : Addr} {S : Sd} (I : SpAt mu z.heap x dx sx S) (T : SentAt PP w mu z.heap sx S.sent) (hsent : S.sent.length < 64) (hsx : sx ∈ mu) (hoff : G.Off [sx]) (hdsx : dx ≠ sx) {v : Value} {ns : List Int} (hn : ns.length < 64) (nd : ns.Nodup) (J : Imm mu z.heap (.lst (intD ns)) v) {Q : Value → Shared → Prop}
    (h : ∀ r ns' s', Go [sx] z s' → ns'.Perm ns → ns'.Pairwise (· ≤ ·) → Imm mu s'.heap (.lst ((ns'.filter S.sent.contains).map .pkt)) r → SpAt mu s'.heap x dx sx { S with sent := leftOf S.sent ns' } → SentAt PP w mu s'.heap sx (leftOf S.sent ns') → Q r s') :
    wpAny (model PP w) A (call (.ref 172) [.ref x, v]) Q E z := by
  have he := I.there
  have hs := T.there
  obtain ⟨m, I, F⟩ := I.at_
  refine enter (n := 29) (m := fun y => if y = "numbers" then some (v) else none) (cm := fun y => if y = "self" then some (.ref x) else none) on hA (by k_is) (by rfl) (by with_unfolding_all rfl) (by rfl) (by with_unfolding_all rfl) (by with_unfolding_all rfl) (by decide) (by rfl) (by rfl) (by rfl)
    [sx] mu (fun mu h => (Inst mu h x 245 dx spNms 17 m ∧ SentAt PP w mu h sx S.sent) ∧ Imm mu h (.lst (intD ns)) v) hoff (fun b q => by rw [List.mem_singleton.mp q]; exact hsx) al (fun _ h' k f => ⟨⟨I.enter k f, T.enter k f⟩, J.enter k f⟩) (fun _ h h' f x k => ⟨⟨x.1.1.kp k mem_l (offN I.there f), x.1.2.kp k mem_l (offN hs f)⟩, x.2.kp k mem_l⟩) ?_
  intro L wr mu' A s' hL hc hmu hN hA C
  have hsm := hmu _ hsx
  refine wpAny_execs_cons (Cx.compStM (G := G) (s₀ := z) (own := [sx]) (wr := wr) (mu := mu') (m := C.mOf) (cm := C.cmOf) [sx] [dx, sx] hA.hd hL hc (fun b q => q) (fun b q => by rw [List.mem_singleton.mp q]; exact hs) (fun b q => by rcases List.mem_cons.mp q with rfl | q; exact he; rw [List.mem_singleton.mp q]; exact hs) (by rfl) (by with_unfolding_all rfl) (by decide) rfl (by decide) (by with_unfolding_all rfl) (fun _ _ e => e) C.apart (fun _ _ e => e) ?_)
  refine Call_ ?_
  walk_at "blt"
  refine callWith_method1 (wpAny_items_cons ?_)
  walk_at "loc"
  refine wpAny_items_nil (sorted_lst C.al C.r.2 hn fun u ns' s g iu hp hs' => ?_)
  have C := C.go g
  have nd' : ns'.Nodup := hp.nodup_iff.mpr nd
  have hl' : ns'.length = ns.length := hp.length_eq
  have hidx : ∀ {i : Nat} {d : D}, (intD ns')[i]? = some d → ∃ n, ns'[i]? = some n ∧ d = .int n := fun {i d} e => by
    simp only [intD, List.getElem?_map, Option.map_eq_some_iff] at e
    obtain ⟨n, e, rfl⟩ := e
    exact ⟨n, e, rfl⟩
  have htk : ∀ {i : Nat} {n : Int}, ns'[i]? = some n → ns'.take (i + 1) = ns'.take i ++ [n] := fun e => by rw [List.take_add_one, e]; rfl
  have hnew : ∀ {i : Nat} {n : Int}, ns'[i]? = some n → n ∉ ns'.take i := fun {i n} e q => by
    have hx := nd'
    rw [← List.take_append_drop (i + 1) ns', htk e, List.append_assoc, List.nodup_append] at hx
    exact (hx.2.2 n q n (by simp)) rfl
  have hcont : ∀ {i : Nat} {n : Int}, ns'[i]? = some n → (leftOf S.sent (ns'.take i)).contains n = S.sent.contains n := fun {i n} e => by
    have := hnew e
    rw [Bool.eq_iff_iff]
    simp [leftOf, List.contains_eq_mem, this]
  have heS : ∃ o, s.heap.get? dx = some o := C.r.1.1.there
  have hsS : ∃ o, s.heap.get? sx = some o := C.r.1.2.there
  refine ⟨_, intD ns', TBn "number", fun d => match d with | .int n => S.sent.contains n | _ => false, fun d => match d with | .int n => .pkt n | _ => .none,
    fun mu'' i h => Inst mu'' h x 245 dx spNms 17 m ∧ SentAt PP w mu'' h sx (leftOf S.sent (ns'.take i)), C, iu, by simp [intD]; omega, ?_, ?_⟩
  · exact
      { tbstb := fun mu' h h' d mC z k => let ⟨v, e, i⟩ := z; ⟨v, e, i.keep k⟩
        jin := fun W h' hW k => by
          have kn : ∀ b o, s.heap.get? b = some o → b ∉ W := fun b o e q => by rw [hW b q] at e; cases e
          have g' : ∀ b o, b ∉ mu' → s.heap.get? b = some o → h'.get? b = some o ∧ b ∉ W ++ mu' := fun b o n e => ⟨k b o e, fun q => (List.mem_append.mp q).elim (kn b o e) n⟩
          exact ⟨C.r.1.1.gen g' fun o e => k _ o e, by rw [List.take_zero, leftOf_nil]; exact C.r.1.2.gen g' fun o e => k _ o e⟩
        jstb := fun mu'' i h h' y k kV => ⟨y.1.gen (fun b o n e => ⟨k b o n e, n⟩) fun o e => kV _ List.mem_cons_self o e, y.2.gen (fun b o n e => ⟨k b o n e, n⟩) fun o e => kV _ (List.mem_cons_of_mem _ (List.mem_singleton.mpr rfl)) o e⟩
        jless := fun mu'' i h hm y => ⟨y.1.less hm, y.2.less hm⟩
        jskip := fun mu'' i h d hd hp y => by
          obtain ⟨n, e, rfl⟩ := hidx hd
          refine ⟨y.1, ?_⟩
          rw [htk e, ← leftOf_skip _ _ (by simpa using hp)]
          exact y.2
        bind := fun C₂ mu'' mC s d v i Q' hd hC Cc im h => bindName_ Cc (by with_unfolding_all rfl) hC im fun s' mC' g n z => h s' mC' g n z
        test := fun C₂ mu'' mC s d i hd Cc ⟨v, e, im⟩ => by
          obtain ⟨n, hn, rfl⟩ := hidx hd
          obtain ⟨t, rfl⟩ := Imm.int_iff.mp im
          refine wpAny_tests_one (wpAny_isTrue_Compare1 (Cc.ld e ?_))
          walk_at "atc"
          refine Cc.getA spOk Cc.r.1 F.sent fun u s hv im Cc => ?_
          rw [Imm.raw_iff] at im; subst im
          refine Cc.r.2.isIn fun s g => wpAny_truthy_bool ⟨hcont hn, (Cc.go0.trans g)⟩
        elt := fun C₂ mu'' mC s d i hd hp hmm Cc ⟨v, e, im⟩ => by
          obtain ⟨n, hn, rfl⟩ := hidx hd
          obtain ⟨t, rfl⟩ := Imm.int_iff.mp im
          refine MethodCall_ ?_
          walk_at "atc"
          refine Cc.getA spOk Cc.r.1 F.sent fun u s hv im Cc => ?_
          rw [Imm.raw_iff] at im; subst im
          refine Cc.r.2.meth (callWith_method1 (wpAny_items_cons (Cc.ld e (wpAny_items_nil ?_))))
          have hin : n ∈ leftOf S.sent (ns'.take i) := by
            have := hcont hn
            rw [show S.sent.contains n = true from hp] at this
            simpa using this
          refine Cc.r.2.pop (hmm _ hsm) hin (Nat.le_trans (List.length_filter_le _ _) (by omega)) fun v s g im T' => ⟨Go.trans (Cc.go0.mono fun _ q => nomatch q) g, im, ?_, ?_⟩
          · exact Cc.r.1.kp g.kp (fun b q => by rw [List.mem_singleton.mp q]; exact hmm _ hsm) fun q => hdsx (List.mem_singleton.mp q)
          · rw [htk hn, ← leftOf_snoc]; exact T' }
  intro acc s C
  refine wpAny_execs_cons (wpAny_Return_some ?_)
  walk_at "loc"
  have e : (((intD ns').filter fun d => match d with | .int n => S.sent.contains n | _ => false).map fun d => match d with | .int n => D.pkt n | _ => .none) = (ns'.filter S.sent.contains).map .pkt := by
    have e0 : S.sent.contains = fun n => decide (n ∈ S.sent) := by funext n; simp
    rw [e0]
    simp [intD, List.filter_map, Function.comp_def]
  have im := C.r.2
  rw [e] at im
  have e2 : ns'.take (intD ns').length = ns' := by rw [show (intD ns').length = ns'.length by simp [intD], List.take_length]
  have T' := C.r.1.2
  rw [e2] at T'
  exact h _ ns' _ C.go0 hp hs' (im.less hmu) ((SpAt.mk ⟨_, C.r.1.1, F.anySent _⟩).less hmu) (T'.less hmu)
end
-- part F11
section
variable {prog : Program} {w : World} {A : Around} {E : Value → Shared → Prop} {mu mu' : List Addr} {s : Shared} {h h' : Heap}
/-- the box of the script: what is left of it -/
structure BoxAt (mu : List Addr) (h : Heap) (bx : Addr) (ns : List Int) (k : Nat) : Prop where
  at_ : ∃ lv t, h.IsList bx #[lv, .int k t] ∧ Imm mu h (.lst (intD ns)) lv
theorem BoxAt.gen {bx : Addr} {ns : List Int} {k : Nat} (I : BoxAt mu h bx ns k) (kp : ∀ b o, b ∉ mu → h.get? b = some o → h'.get? b = some o ∧ b ∉ mu') (kd : ∀ o, h.get? bx = some o → h'.get? bx = some o) : BoxAt mu' h' bx ns k :=
  let ⟨lv, t, ⟨o, e, r⟩, i⟩ := I.at_; ⟨lv, t, ⟨o, kd o e, r⟩, Imm.gen kp _ _ i⟩
theorem BoxAt.kp {bx : Addr} {ns : List Int} {k : Nat} (I : BoxAt mu h bx ns k) {W : List Addr} (kp : Kp W h h') (hW : ∀ b ∈ W, b ∈ mu) (hd : bx ∉ W) : BoxAt mu h' bx ns k :=
  I.gen (fun b o n e => ⟨kp.keep b o (fun q => n (hW b q)) e, n⟩) fun o e => kp.keep _ o hd e
theorem BoxAt.enter {bx : Addr} {ns : List Int} {k : Nat} (I : BoxAt mu h bx ns k) {W : List Addr} (kp : Kp W h h') (fr : ∀ b ∈ W, h.get? b = none) : BoxAt (W ++ mu) h' bx ns k := by
  refine I.gen (fun b o n e => ⟨kp.keep b o (fun q => by rw [fr b q] at e; cases e) e, fun q => (List.mem_append.mp q).elim (fun q => by rw [fr b q] at e; cases e) n⟩) fun o e => kp.keep _ o (fun q => ?_) e
  rw [fr _ q] at e; cases e
theorem BoxAt.less {bx : Addr} {ns : List Int} {k : Nat} (I : BoxAt mu h bx ns k) (hm : ∀ b ∈ mu', b ∈ mu) : BoxAt mu' h bx ns k := I.gen (fun b o n e => ⟨e, fun q => n (hm b q)⟩) fun _ e => e
theorem BoxAt.there {bx : Addr} {ns : List Int} {k : Nat} (I : BoxAt mu h bx ns k) : ∃ o, h.get? bx = some o := let ⟨_, _, ⟨o, e, _⟩, _⟩ := I.at_; ⟨o, e⟩
theorem item_isl {l : Addr} {items : Array Value} {k : Int} {t : Tok} {i : Nat} {u : Value} {value slice : Expr} {Q : Value → Shared → Prop} (hl : s.heap.IsList l items) (hk : k = (i : Int)) (hi : i < 1000) (hu : items[i]? = some u)
    (h : Q u s) (hs : ∀ l, subscripted slice false (.ref l) (.int k t) = operate [.ref l, .int k t] (getItem (.ref l) (.int k t)) := by intro _; with_unfolding_all rfl) :
    wpAny (model prog w) A (subscriptTail value slice (.ref l) (.int k t)) Q E s := by
  subst hk
  exact tail_any hl.typeIs slot_list_getitem.lookup (wpAny_getItem_list hl (Int.natCast_nonneg _) (by omega) (by simpa using hu) h) (hs l)
end
section
variable {w : World} {G : Gd w (Kf w.params)} {z : Shared} {A : Around} {E : Value → Shared → Prop} {mu mu' : List Addr}
set_option maxHeartbeats 400000

theorem law_take_ (on : G.On z.heap) (hA : Ar 10 A) (al : Al mu z.heap) {bx : Addr} {ns : List Int} {k : Nat} (I : BoxAt mu z.heap bx ns k) (hbx : bx ∈ mu) (hoff : G.Off [bx]) (hk : k < 900) (hn : ns.length ≤ 64) {many : Int} (hm : 0 < many) {t : Tok} {Q : Value → Shared → Prop}
    (h : ∀ r t s', Go [bx] z s' → BoxAt mu s'.heap bx ns (k + 1) → 0 ≤ r → r < many → Q (.int r t) s') :
    wpAny (model PP w) A (call (.ref 263) [.ref bx, .int many t]) Q E z := by
  have he := I.there
  refine enter (n := 9) (m := fun y => if y = "many" then some (.int many t) else if y = "box" then some (.ref bx) else none) (cm := fun _ => none) on hA (by k_is) (by rfl) (by with_unfolding_all rfl) (by rfl) (by with_unfolding_all rfl) (by with_unfolding_all rfl) (by decide) (by rfl) (by rfl) (by rfl)
    [bx] mu (fun mu h => BoxAt mu h bx ns k) hoff (fun b q => by rw [List.mem_singleton.mp q]; exact hbx) al (fun _ h' k f => I.enter k f) (fun _ h h' f x k => x.kp k mem_l (offN he f)) ?_
  intro L wr mu' A s' hL hc hmu hN hA C
  have hbm := hmu _ hbx
  have hk1 : ((k : Int) + 1) = ((k + 1 : Nat) : Int) := by omega
  refine wpAny_execs_cons (wpAny_Assign_Subscript (wpAny_BinOp (Subscript_ ?_)))
  walk_at "loc"
  refine C.cInt fun _ s C => ?_
  obtain ⟨lv, t₁, hl, im⟩ := C.r.at_
  refine item_isl (i := 1) hl rfl (by decide) rfl ?_
  refine C.cInt fun _ s C => add_int ?_
  have C := C.tok (s.toks + 1)
  rw [hk1]
  walk_at "loc"
  refine C.cInt fun _ s C => ?_
  obtain ⟨lv, t₁, hl, im⟩ := C.r.at_
  refine wpAny_setItem_list hl (by decide) (by decide) (by show (1 : Int) < 2; decide) fun h₁ hl₁ sb => ?_
  have k₁ : Kp [bx] s.heap h₁ := .of_same sb (let ⟨o, e, _⟩ := hl₁; ⟨o, e⟩)
  have g₁ : Go [bx] s { s with heap := h₁ } := Go.ofH k₁
  have mb : ∀ b ∈ [bx], b ∈ mu' := fun b q => by rw [List.mem_singleton.mp q]; exact hbm
  have C := C.turnW (P := fun h => BoxAt mu' h bx ns (k + 1)) g₁ hL hc (fun b q => q) (fun b q => by rw [List.mem_singleton.mp q]; exact he) ⟨lv, _, by simpa using hl₁, im.kp k₁ mb⟩ fun h h' y k => y.kp k C.wrmu (C.offW he)
  refine wpAny_execs_cons (wpAny_If (wpAny_isTrue_Compare1 (Subscript_ ?_)))
  walk_at "loc"
  refine C.cInt fun _ s C => ?_
  obtain ⟨lv, t₁, hl, im⟩ := C.r.at_
  refine item_isl (i := 1) hl rfl (by decide) rfl (Call_ ?_)
  walk_at "blt"
  refine callWith_method1 (wpAny_items_cons (Subscript_ ?_))
  walk_at "loc"
  refine C.cInt fun _ s C => ?_
  obtain ⟨lv, t₁, hl, im⟩ := C.r.at_
  refine item_isl (i := 0) hl rfl (by decide) rfl ?_
  refine wpAny_items_nil (len_lst im (by simp [intD]; omega) fun t s g => ?_)
  have C := C.go g
  refine le_int (wpAny_truthy_bool ?_)
  by_cases q : k + 1 ≤ ns.length
  · rw [if_pos (by simp [intD]; omega)]
    refine wpAny_execs_cons (wpAny_Return_some (wpAny_BinOp (Call_ ?_)))
    walk_at "blt"
    refine callWith_method1 (wpAny_items_cons (Subscript_ (Subscript_ ?_)))
    walk_at "loc"
    refine C.cInt fun _ s C => ?_
    obtain ⟨lv, t₁, hl, im⟩ := C.r.at_
    have C := C.imm im
    refine item_isl (i := 0) hl rfl (by decide) rfl (wpAny_BinOp (Subscript_ ?_))
    walk_at "loc"
    refine C.cInt fun _ s C => ?_
    obtain ⟨lv', t₂, hl, -⟩ := C.r.1.at_
    refine item_isl (i := 1) hl rfl (by decide) rfl ?_
    refine C.cInt fun _ s C => sub_int ?_
    have C := C.tok (s.toks + 1)
    have hlt : k < ns.length := by omega
    refine item_lst (ds := intD ns) (i := k) C.r.2 (by omega) (by omega) (d := .int ns[k]) (by simp [intD, hlt]) fun u iu => ?_
    obtain ⟨tu, rfl⟩ := Imm.int_iff.mp iu
    refine wpAny_items_nil (call_abs_int fun u tk => ?_)
    have C := C.tok tk
    walk_at "loc"
    refine mod_int (by omega) ?_
    have C := C.tok (tk + 1)
    exact h _ _ _ C.go0 (C.r.1.less hmu) (Int.fmod_nonneg_of_pos _ hm) (Int.fmod_lt_of_pos _ hm)
  · rw [if_neg (by simp [intD]; omega)]
    walk_at "nil"
    refine wpAny_execs_cons (wpAny_Return_some (wpAny_BinOp (wpAny_BinOp (wpAny_BinOp (C.cInt fun _ s C => Subscript_ ?_)))))
    walk_at "loc"
    refine C.cInt fun _ s C => ?_
    obtain ⟨lv, t₁, hl, im⟩ := C.r.at_
    refine item_isl (i := 1) hl rfl (by decide) rfl (mul_int ?_)
    have C := C.tok (s.toks + 1)
    refine wpAny_BinOp (Subscript_ ?_)
    walk_at "loc"
    refine C.cInt fun _ s C => ?_
    obtain ⟨lv, t₁, hl, im⟩ := C.r.at_
    refine item_isl (i := 1) hl rfl (by decide) rfl (C.cInt fun _ s C => floordiv_int (by decide) (add_int ?_))
    have C := C.tok (s.toks + 1 + 1)
    walk_at "loc"
    refine mod_int (by omega) ?_
    have C := C.tok (s.toks + 1 + 1 + 1)
    exact h _ _ _ C.go0 (C.r.less hmu) (Int.fmod_nonneg_of_pos _ hm) (Int.fmod_lt_of_pos _ hm)
end
-- part F12
section
variable {w : World} {G : Gd w (Kf w.params)} {z : Shared} {A : Around} {E : Value → Shared → Prop} {mu mu' : List Addr}
set_option maxHeartbeats 400000

theorem within_ (on : G.On z.heap) (hA : Ar 20 A) (al : Al mu z.heap) {v u : Value} {rs os : List (Int × Int)} (hr : rs.length ≤ 60) (ho : os.length ≤ 60) (I : Imm mu z.heap (rgD rs) v) (J : Imm mu z.heap (rgD os) u)
    (hin : ∀ p ∈ rs, ∃ q ∈ os, q.1 ≤ p.1 ∧ p.2 ≤ q.2) {Q : Value → Shared → Prop}
    (h : ∀ s', Go [] z s' → Q (.bool true) s') :
    wpAny (model PP w) A (call (.ref 268) [v, u]) Q E z := by
  refine enter (n := 19) (m := fun y => if y = "others" then some (u) else if y = "ranges" then some (v) else none) (cm := fun _ => none) on hA (by k_is) (by rfl) (by with_unfolding_all rfl) (by rfl) (by with_unfolding_all rfl) (by with_unfolding_all rfl) (by decide) (by rfl) (by rfl) (by rfl)
    [] mu (fun mu h => Imm mu h (rgD rs) v ∧ Imm mu h (rgD os) u) .nil (fun _ q => nomatch q) al (fun _ h' k f => ⟨I.enter k f, J.enter k f⟩) (fun _ h h' _ x k => ⟨x.1.kp k mem_l, x.2.kp k mem_l⟩) ?_
  intro L wr mu' A s' hL hc hmu hN hA C
  have C0 := C
  refine wpAny_execs_cons (C.forList hA.hd ?_)
  walk_at "loc"
  refine ⟨_, _, _, rgL rs, C, C.r.1, fun Ia s₃ hI1 g₃ hI C₃ => ?_⟩
  have wI : ∀ b, b ∉ Ia :: mu' → b ∉ Ia :: wr := fun b n q => n ((List.mem_cons.mp q).elim (fun q => q ▸ List.mem_cons_self) fun q => List.mem_cons_of_mem _ (C.wrmu b q))
  refine ⟨_, _, fun h => Imm (Ia :: mu') h (rgD os) u, fun i m cm R => m "others" = some u ∧ R = fun h => Imm (Ia :: mu') h (rgD os) u,
    ⟨by with_unfolding_all rfl, rfl⟩, C₃.know ?_ ?_, ⟨?_, ?_, ?_⟩⟩
  · exact Imm.gen (fun b o n e => ⟨g₃.kp.all b o e, fun q => (List.mem_cons.mp q).elim (fun q => by rw [q, hI1] at e; cases e) n⟩) _ _ C.r.2
  · exact fun h h' x k => x.kp k fun b q => List.mem_cons_of_mem _ (C.wrmu b q)
  · rintro i m cm R ⟨-, rfl⟩ h h' x k
    exact x.keep fun b o n e => k b o (wI b n) e
  · rintro i v m cm R LP s hlt ⟨m1, rfl⟩ hLP C ⟨d, hd, im⟩
    simp only [rgL, List.getElem?_map, Option.map_eq_some_iff] at hd
    obtain ⟨⟨a, b⟩, hab, rfl⟩ := hd
    have hmem : (a, b) ∈ rs := List.mem_of_getElem? hab
    refine assignPair hA.hd im fun v₁ v₂ s g i₁ i₂ => ?_
    obtain ⟨t₁, rfl⟩ := Imm.int_iff.mp i₁
    obtain ⟨t₂, rfl⟩ := Imm.int_iff.mp i₂
    have C := C.go g
    refine wpAny_assign_Name (C.stc (by with_unfolding_all rfl) (fun s C => wpAny_assign_Name (C.stc (by with_unfolding_all rfl) (fun s C => ?_) (hc "high" _ (mem_of_lookup (by with_unfolding_all rfl))))) (hc "low" _ (mem_of_lookup (by with_unfolding_all rfl))))
    refine wpAny_execs_cons (wpAny_If (wpAny_isTrue_Compare1 (C.comp (cl := [("low", L + 1), ("high", L + 2)]) hA.hd (by decide) rfl (by decide) (by with_unfolding_all rfl) ?_ ?_ ?_ ?_)))
    · intro n c e
      rcases List.mem_cons.mp (mem_of_lookup e) with e | e
      · cases e; with_unfolding_all rfl
      · cases List.mem_singleton.mp e; with_unfolding_all rfl
    · simp
    · intro n c e
      rcases List.mem_cons.mp e with e | e
      · cases e; exact mem_of_lookup (by with_unfolding_all rfl)
      · cases List.mem_singleton.mp e; exact mem_of_lookup (by with_unfolding_all rfl)
    walk_at "loc"
    refine ⟨_, rgL os, _, fun d => match d with | .tup [.int x, .int y] => decide (x ≤ a) && decide (b ≤ y) | _ => false, fun d => match d with | .tup [x, y] => x | _ => .none, ⟨C, C.r.1, by simp [rgL]; omega, CompPk.ofPair hA.hd (fun _ => by with_unfolding_all rfl) (fun _ => by with_unfolding_all rfl) (by decide) (rg_tup os) ?_ ?_⟩, ?_⟩
    · intro C' mu' mC s' d₁ d₂ v₁ v₂ hd Cc e₁ i₁ e₂ i₂
      obtain ⟨⟨x, y⟩, -, e⟩ := List.mem_map.mp hd
      cases e
      obtain ⟨t₃, rfl⟩ := Imm.int_iff.mp i₁
      obtain ⟨t₄, rfl⟩ := Imm.int_iff.mp i₂
      refine wpAny_tests_one (isTrue_and (wpAny_isTrue_Compare1 (Cc.ld e₁ ?_)))
      walk_at "cell"
      refine le_int (wpAny_truthy_bool ?_)
      cases hx : decide (x ≤ a) with
      | false => rw [if_neg Bool.false_ne_true]; exact ⟨by simp [hx], Cc.go0⟩
      | true =>
        rw [if_pos rfl]
        refine isTrue_and (wpAny_isTrue_Compare1 ?_)
        walk_at "cell"
        refine Cc.ld e₂ (le_int (wpAny_truthy_bool ?_))
        cases hy : decide (b ≤ y) with
        | false => rw [if_neg Bool.false_ne_true]; exact ⟨by simp [hx, hy], Cc.go0⟩
        | true => rw [if_pos rfl]; exact isTrue_and_nil ⟨by simp [hx, hy], Cc.go0⟩
    · intro C' mu' mC s' d₁ d₂ v₁ v₂ hd _ Cc e₁ i₁ e₂ i₂
      exact Cc.ld e₁ ⟨Go.rfl', i₁⟩
    · intro acc s C
      refine List_ (wpAny_items_nil (C.newList .nil (Nat.zero_le _) fun w s C => ?_))
      refine eq_nilL (by have := hA.2.2; omega) C.r.1.2 C.r.2 (wpAny_truthy_bool ?_)
      have hne : (((rgL os).filter fun d => match d with | .tup [.int x, .int y] => decide (x ≤ a) && decide (b ≤ y) | _ => false).map fun d => match d with | .tup [x, y] => x | _ => .none).isEmpty = false := by
        obtain ⟨q, hq, h1, h2⟩ := hin _ hmem
        rw [List.isEmpty_eq_false_iff_exists_mem]
        refine ⟨_, List.mem_map.mpr ⟨.tup [.int q.1, .int q.2], List.mem_filter.mpr ⟨List.mem_map.mpr ⟨q, hq, rfl⟩, ?_⟩, rfl⟩⟩
        simp at h1 h2
        simp [h1, h2]
      rw [hne, if_neg Bool.false_ne_true]
      refine wpAny_execs_nil (wpAny_execs_nil ?_)
      exact ⟨C.mOf, _, _, ⟨by walk_at "lk", rfl⟩, C.know C.r.1.1 fun h h' y k => ⟨y.1.kp k C.wrmu, hLP _ _ _ C0.wrmu y.2 k⟩⟩
  · rintro m cm R s ⟨m1, rfl⟩ C
    exact wpAny_execs_cons (wpAny_Return_some (Constant_bool (h _ C.go0)))
end
-- part F13
structure Bk where
  known : List Int
  lost : List Int
  told : List (Int × Int)
  newest : Int
structure BkF (lo : Addr) (B : Bk) (m : Str → Option D) : Prop where
  known : m "known" = some (.lst (intD B.known))
  lost : m "lost" = some (.raw (.ref lo))
  told : m "told" = some (rgD B.told)
  newest : m "newest" = some (.int B.newest)
/-- where the ends and their books lie -/
structure Ads where
  x : Bool → Addr
  dx : Bool → Addr
  sx : Bool → Addr
  bk : Bool → Addr
  lo : Bool → Addr
  wy : Addr
def Ads.all (a : Ads) : List Addr := [a.dx false, a.dx true, a.sx false, a.sx true, a.bk false, a.bk true, a.lo false, a.lo true, a.wy]
theorem Ads.mdx (a : Ads) (i : Bool) : a.dx i ∈ a.all := by cases i <;> simp [Ads.all]
theorem Ads.msx (a : Ads) (i : Bool) : a.sx i ∈ a.all := by cases i <;> simp [Ads.all]
theorem Ads.mbk (a : Ads) (i : Bool) : a.bk i ∈ a.all := by cases i <;> simp [Ads.all]
theorem Ads.mlo (a : Ads) (i : Bool) : a.lo i ∈ a.all := by cases i <;> simp [Ads.all]
theorem Ads.mwy (a : Ads) : a.wy ∈ a.all := by simp [Ads.all]
structure Ads.Dis (a : Ads) : Prop where
  dd : ∀ i j, a.dx i = a.dx j → i = j
  ss : ∀ i j, a.sx i = a.sx j → i = j
  bb : ∀ i j, a.bk i = a.bk j → i = j
  ll : ∀ i j, a.lo i = a.lo j → i = j
  ds : ∀ i j, a.dx i ≠ a.sx j
  db : ∀ i j, a.dx i ≠ a.bk j
  dl : ∀ i j, a.dx i ≠ a.lo j
  dw : ∀ i, a.dx i ≠ a.wy
  sb : ∀ i j, a.sx i ≠ a.bk j
  sl : ∀ i j, a.sx i ≠ a.lo j
  sw : ∀ i, a.sx i ≠ a.wy
  bl : ∀ i j, a.bk i ≠ a.lo j
  bw : ∀ i, a.bk i ≠ a.wy
  lw : ∀ i, a.lo i ≠ a.wy
theorem Ads.Dis.of (a : Ads) (h : a.all.Nodup) : a.Dis := by
  simp only [Ads.all, List.nodup_cons, List.mem_cons, List.not_mem_nil, or_false, not_or] at h
  obtain ⟨⟨a1, a2, a3, a4, a5, a6, a7, a8⟩, ⟨b2, b3, b4, b5, b6, b7, b8⟩, ⟨c3, c4, c5, c6, c7, c8⟩, ⟨d4, d5, d6, d7, d8⟩, ⟨e5, e6, e7, e8⟩, ⟨f6, f7, f8⟩, ⟨g7, g8⟩, h8, -⟩ := h
  refine ⟨?_, ?_, ?_, ?_, ?_, ?_, ?_, ?_, ?_, ?_, ?_, ?_, ?_, ?_⟩ <;> intro i <;> first | (intro j; cases i <;> cases j <;> first | assumption | (intro e; rfl) | (intro e; exact absurd e (by assumption)) | (intro e; exact absurd e.symm (by assumption))) | (cases i <;> assumption)

def b2i : Bool → Int
  | false => 0
  | true => 1
def pkD (p : Bool × Int × List (Int × Int)) : D := .tup [.int (b2i p.1), .int p.2.1, rgD p.2.2]
structure Wd where
  S : Bool → Sd
  B : Bool → Bk
  way : List (Bool × Int × List (Int × Int))
def Wd.setS (W : Wd) (i : Bool) (S : Sd) : Wd := { W with S := fun j => if j = i then S else W.S j }
def Wd.setB (W : Wd) (i : Bool) (B : Bk) : Wd := { W with B := fun j => if j = i then B else W.B j }
structure WAt (w : World) (mu : List Addr) (h : Heap) (a : Ads) (W : Wd) : Prop where
  sp : ∀ i, SpAt mu h (a.x i) (a.dx i) (a.sx i) (W.S i)
  st : ∀ i, SentAt PP w mu h (a.sx i) (W.S i).sent
  bk : ∀ i, ∃ m, FldAt PP w mu h (a.bk i) m ∧ BkF (a.lo i) (W.B i) m
  lo : ∀ i, Fnd (a.lo i) mu h (intD (W.B i).lost)
  wy : Fnd a.wy mu h (W.way.map pkD)

section
variable {w : World} {mu mu' : List Addr} {h h' : Heap} {a : Ads} {W : Wd}
theorem Fnd.gen {f : Addr} {ds : List D} (x : Fnd f mu h ds) (kp : ∀ b o, b ∉ mu → h.get? b = some o → h'.get? b = some o ∧ b ∉ mu') (kf : ∀ o, h.get? f = some o → h'.get? f = some o) : Fnd f mu' h' ds :=
  let ⟨vs, p, i⟩ := x; ⟨vs, p.at kf, ImmL.gen kp _ _ i⟩
theorem Fnd.there {f : Addr} {ds : List D} (x : Fnd f mu h ds) : ∃ o, h.get? f = some o := let ⟨_, ⟨_, e⟩, _⟩ := x; ⟨_, e⟩
theorem WAt.gen (I : WAt w mu h a W) (kp : ∀ b o, b ∉ mu → h.get? b = some o → h'.get? b = some o ∧ b ∉ mu') (kd : ∀ b ∈ a.all, ∀ o, h.get? b = some o → h'.get? b = some o) : WAt w mu' h' a W where
  sp i := (I.sp i).gen kp (kd _ (a.mdx i))
  st i := (I.st i).gen kp (kd _ (a.msx i))
  bk i := let ⟨m, x, y⟩ := I.bk i; ⟨m, x.gen kp (kd _ (a.mbk i)), y⟩
  lo i := (I.lo i).gen kp (kd _ (a.mlo i))
  wy := I.wy.gen kp (kd _ a.mwy)
theorem WAt.kp (I : WAt w mu h a W) {V : List Addr} (kp : Kp V h h') (hV : ∀ b ∈ V, b ∈ mu) (hd : ∀ b ∈ a.all, b ∉ V) : WAt w mu h' a W :=
  I.gen (fun b o n e => ⟨kp.keep b o (fun q => n (hV b q)) e, n⟩) fun b q o e => kp.keep b o (hd b q) e
theorem WAt.less (I : WAt w mu h a W) (hm : ∀ b ∈ mu', b ∈ mu) : WAt w mu' h a W := I.gen (fun b o n e => ⟨e, fun q => n (hm b q)⟩) fun _ _ _ e => e
theorem WAt.there (I : WAt w mu h a W) : ∀ b ∈ a.all, ∃ o, h.get? b = some o := by
  intro b hb
  simp only [Ads.all, List.mem_cons, List.not_mem_nil, or_false] at hb
  rcases hb with rfl | rfl | rfl | rfl | rfl | rfl | rfl | rfl | rfl
  · exact (I.sp false).there
  · exact (I.sp true).there
  · exact (I.st false).there
  · exact (I.st true).there
  · exact let ⟨_, x, _⟩ := I.bk false; x.there
  · exact let ⟨_, x, _⟩ := I.bk true; x.there
  · exact (I.lo false).there
  · exact (I.lo true).there
  · exact I.wy.there
theorem WAt.enter (I : WAt w mu h a W) {V : List Addr} (kp : Kp V h h') (fr : ∀ b ∈ V, h.get? b = none) : WAt w (V ++ mu) h' a W := by
  refine I.gen (fun b o n e => ⟨kp.keep b o (fun q => by rw [fr b q] at e; cases e) e, fun q => (List.mem_append.mp q).elim (fun q => by rw [fr b q] at e; cases e) n⟩) fun b hb o e => kp.keep _ o (fun q => ?_) e
  rw [fr _ q] at e; cases e
theorem WAt.setSide (I : WAt w mu h a W) (D : a.Dis) (hm : ∀ b ∈ a.all, b ∈ mu) {i : Bool} {S : Sd} (kp : Kp [a.dx i, a.sx i] h h') (sp : SpAt mu h' (a.x i) (a.dx i) (a.sx i) S) (st : SentAt PP w mu h' (a.sx i) S.sent) : WAt w mu h' a (W.setS i S) := by
  have hV : ∀ b ∈ [a.dx i, a.sx i], b ∈ mu := fun b q => by rcases List.mem_cons.mp q with rfl | q; exact hm _ (a.mdx i); rw [List.mem_singleton.mp q]; exact hm _ (a.msx i)
  have nn : ∀ {b}, b ≠ a.dx i → b ≠ a.sx i → b ∉ [a.dx i, a.sx i] := fun n1 n2 q => by rcases List.mem_cons.mp q with q | q; exact n1 q; exact n2 (List.mem_singleton.mp q)
  refine ⟨fun j => ?_, fun j => ?_, fun j => ?_, fun j => ?_, ?_⟩
  · by_cases q : j = i
    · subst q; simpa [Wd.setS] using sp
    · simpa [Wd.setS, q] using (I.sp j).kp kp hV (nn (fun e => q (D.dd _ _ e)) (D.ds _ _))
  · by_cases q : j = i
    · subst q; simpa [Wd.setS] using st
    · simpa [Wd.setS, q] using (I.st j).kp kp hV (nn (D.ds _ _).symm (fun e => q (D.ss _ _ e)))
  · obtain ⟨m, x, y⟩ := I.bk j
    exact ⟨m, x.kp kp hV (nn (D.db _ _).symm (D.sb _ _).symm), y⟩
  · exact (I.lo j).kp kp hV (nn (D.dl _ _).symm (D.sl _ _).symm)
  · exact I.wy.kp kp hV (nn (D.dw _).symm (D.sw _).symm)
theorem WAt.setBook (I : WAt w mu h a W) (D : a.Dis) (hm : ∀ b ∈ a.all, b ∈ mu) {i : Bool} {B : Bk} {m : Str → Option Mine.D} (kp : Kp [a.bk i] h h') (F : FldAt PP w mu h' (a.bk i) m) (BF : BkF (a.lo i) B m) (hl : B.lost = (W.B i).lost) : WAt w mu h' a (W.setB i B) := by
  have hV : ∀ b ∈ [a.bk i], b ∈ mu := fun b q => by rw [List.mem_singleton.mp q]; exact hm _ (a.mbk i)
  have nn : ∀ {b}, b ≠ a.bk i → b ∉ [a.bk i] := fun n1 q => n1 (List.mem_singleton.mp q)
  refine ⟨fun j => (I.sp j).kp kp hV (nn (D.db _ _)), fun j => (I.st j).kp kp hV (nn (D.sb _ _)), fun j => ?_, fun j => ?_, I.wy.kp kp hV (nn (D.bw _).symm)⟩
  · by_cases q : j = i
    · subst q; exact ⟨m, F, by simpa [Wd.setB] using BF⟩
    · obtain ⟨m, x, y⟩ := I.bk j
      exact ⟨m, x.kp kp hV (nn (fun e => q (D.bb _ _ e))), by simpa [Wd.setB, q] using y⟩
  · have z := (I.lo j).kp kp hV (nn (D.bl _ _).symm)
    by_cases q : j = i
    · subst q; simpa [Wd.setB, hl] using z
    · simpa [Wd.setB, q] using z
theorem WAt.setLost (I : WAt w mu h a W) (D : a.Dis) (hm : ∀ b ∈ a.all, b ∈ mu) {i : Bool} {l : List Int} (kp : Kp [a.lo i] h h') (F : Fnd (a.lo i) mu h' (intD l)) : WAt w mu h' a (W.setB i { W.B i with lost := l }) := by
  have hV : ∀ b ∈ [a.lo i], b ∈ mu := fun b q => by rw [List.mem_singleton.mp q]; exact hm _ (a.mlo i)
  have nn : ∀ {b}, b ≠ a.lo i → b ∉ [a.lo i] := fun n1 q => n1 (List.mem_singleton.mp q)
  refine ⟨fun j => (I.sp j).kp kp hV (nn (D.dl _ _)), fun j => (I.st j).kp kp hV (nn (D.sl _ _)), fun j => ?_, fun j => ?_, I.wy.kp kp hV (nn (D.lw _).symm)⟩
  · obtain ⟨m, x, y⟩ := I.bk j
    refine ⟨m, x.kp kp hV (nn (D.bl _ _)), ?_⟩
    by_cases q : j = i
    · subst q; simpa [Wd.setB] using (⟨y.known, y.lost, y.told, y.newest⟩ : BkF (a.lo j) { W.B j with lost := l } m)
    · simpa [Wd.setB, q] using y
  · by_cases q : j = i
    · subst q; simpa [Wd.setB] using F
    · simpa [Wd.setB, q] using (I.lo j).kp kp hV (nn (fun e => q (D.ll _ _ e)))
theorem WAt.setWay (I : WAt w mu h a W) (D : a.Dis) (hm : ∀ b ∈ a.all, b ∈ mu) {l : List (Bool × Int × List (Int × Int))} (kp : Kp [a.wy] h h') (F : Fnd a.wy mu h' (l.map pkD)) : WAt w mu h' a { W with way := l } := by
  have hV : ∀ b ∈ [a.wy], b ∈ mu := fun b q => by rw [List.mem_singleton.mp q]; exact hm _ a.mwy
  have nn : ∀ {b}, b ≠ a.wy → b ∉ [a.wy] := fun n1 q => n1 (List.mem_singleton.mp q)
  exact ⟨fun j => (I.sp j).kp kp hV (nn (D.dw _)), fun j => (I.st j).kp kp hV (nn (D.sw _)), fun j => let ⟨m, x, y⟩ := I.bk j; ⟨m, x.kp kp hV (nn (D.bw _)), y⟩, fun j => (I.lo j).kp kp hV (nn (D.lw _)), F⟩

variable {G : Gd w (Kf w.params)} {s₀ s s' : Shared} {own wr : List Addr} {env : Env} {m cm : Str → Option Value} {P : Heap → Prop}
/-- a def of the law -/
structure LawFr (s₀ : Shared) (own wr : List Addr) (env : Env) (a : Ads) : Prop where
  hL : env.locals ∈ wr
  hc : ∀ n c, (n, c) ∈ env.cells → c ∈ wr
  ho : ∀ b ∈ a.all, b ∈ own
  he : ∀ b ∈ a.all, ∃ o, s₀.heap.get? b = some o
  D : a.Dis
theorem Std.toWr (hP : Std mu P) (C : Cx G s₀ own wr mu env m cm (fun h => WAt w mu h a W ∧ P h) s) : ∀ h h', P h → Kp wr h h' → P h' := fun h h' p k => hP _ _ (fun b o n e => k.keep b o (fun q => n (C.wrmu b q)) e) p
theorem Cx.wturn {W' : Wd} {V : List Addr} (C : Cx G s₀ own wr mu env m cm (fun h => WAt w mu h a W ∧ P h) s) (L : LawFr s₀ own wr env a) (hP : Std mu P) (g : Go V s s') (hV : ∀ b ∈ V, b ∈ a.all) (wa : WAt w mu s'.heap a W') : Cx G s₀ own wr mu env m cm (fun h => WAt w mu h a W' ∧ P h) s' :=
  C.turnW g L.hL L.hc (fun b q => L.ho b (hV b q)) (fun b q => L.he b (hV b q)) ⟨wa, hP _ _ (fun b o n e => g.kp.keep b o (fun q => n (C.ownmu b (L.ho b (hV b q)))) e) C.r.2⟩
    fun h h' y k => ⟨y.1.kp k C.wrmu fun b q => C.offW (L.he b q), hP.toWr C _ _ y.2 k⟩
theorem Cx.wmu (C : Cx G s₀ own wr mu env m cm (fun h => WAt w mu h a W ∧ P h) s) (L : LawFr s₀ own wr env a) : ∀ b ∈ a.all, b ∈ mu := fun b q => C.ownmu b (L.ho b q)
theorem Cx.side (C : Cx G s₀ own wr mu env m cm (fun h => WAt w mu h a W ∧ P h) s) (L : LawFr s₀ own wr env a) (hP : Std mu P) {i : Bool} {S : Sd} (g : Go [a.dx i, a.sx i] s s') (sp : SpAt mu s'.heap (a.x i) (a.dx i) (a.sx i) S) (st : SentAt PP w mu s'.heap (a.sx i) S.sent) : Cx G s₀ own wr mu env m cm (fun h => WAt w mu h a (W.setS i S) ∧ P h) s' :=
  C.wturn L hP g (fun b q => by rcases List.mem_cons.mp q with rfl | q; exact a.mdx i; rw [List.mem_singleton.mp q]; exact a.msx i) (C.r.1.setSide L.D (C.wmu L) g.kp sp st)
/-- only the object itself has turned, its dict of packets has not -/
theorem Cx.sideD (C : Cx G s₀ own wr mu env m cm (fun h => WAt w mu h a W ∧ P h) s) (L : LawFr s₀ own wr env a) (hP : Std mu P) {i : Bool} {S : Sd} (g : Go [a.dx i] s s') (sp : SpAt mu s'.heap (a.x i) (a.dx i) (a.sx i) S) (hs : S.sent = (W.S i).sent) : Cx G s₀ own wr mu env m cm (fun h => WAt w mu h a (W.setS i S) ∧ P h) s' :=
  C.side L hP (g.mono fun b q => by rw [List.mem_singleton.mp q]; exact List.mem_cons_self) sp (by rw [hs]; exact (C.r.1.st i).kp g.kp (fun b q => by rw [List.mem_singleton.mp q]; exact C.wmu L _ (a.mdx i)) fun q => L.D.ds _ _ (List.mem_singleton.mp q).symm)
theorem Cx.book (C : Cx G s₀ own wr mu env m cm (fun h => WAt w mu h a W ∧ P h) s) (L : LawFr s₀ own wr env a) (hP : Std mu P) {i : Bool} {B : Bk} {f : Str → Option Mine.D} (g : Go [a.bk i] s s') (F : FldAt PP w mu s'.heap (a.bk i) f) (BF : BkF (a.lo i) B f) (hl : B.lost = (W.B i).lost) : Cx G s₀ own wr mu env m cm (fun h => WAt w mu h a (W.setB i B) ∧ P h) s' :=
  C.wturn L hP g (fun b q => by rw [List.mem_singleton.mp q]; exact a.mbk i) (C.r.1.setBook L.D (C.wmu L) g.kp F BF hl)
theorem Cx.wayS (C : Cx G s₀ own wr mu env m cm (fun h => WAt w mu h a W ∧ P h) s) (L : LawFr s₀ own wr env a) (hP : Std mu P) {l : List (Bool × Int × List (Int × Int))} (g : Go [a.wy] s s') (F : Fnd a.wy mu s'.heap (l.map pkD)) : Cx G s₀ own wr mu env m cm (fun h => WAt w mu h a { W with way := l } ∧ P h) s' :=
  C.wturn L hP g (fun b q => by rw [List.mem_singleton.mp q]; exact a.mwy) (C.r.1.setWay L.D (C.wmu L) g.kp F)
end
-- part F14
def sidesD (a : Ads) : D := .lst [.raw (.ref (a.x false)), .raw (.ref (a.x true))]
def booksD (a : Ads) : D := .lst [.raw (.ref (a.bk false)), .raw (.ref (a.bk true))]
theorem BkF.putTold {lo : Addr} {B : Bk} {m : Str → Option D} (F : BkF lo B m) (r : List (Int × Int)) : BkF lo { B with told := r } (fun y => if y = "told" then some (rgD r) else m y) :=
  ⟨upd_ne (x := "known") (y := "told") (by rfl) F.known, upd_ne (x := "lost") (y := "told") (by rfl) F.lost, upd_eq, upd_ne (x := "newest") (y := "told") (by rfl) F.newest⟩
theorem Wd.S_same (W : Wd) (i : Bool) (S : Sd) : (W.setS i S).S i = S := by simp [Wd.setS]
theorem Wd.setS_setS (W : Wd) (i : Bool) (S S' : Sd) : (W.setS i S).setS i S' = W.setS i S' := by
  unfold Wd.setS
  congr 1
  funext j
  by_cases q : j = i <;> simp [q]
theorem Wd.setS_id (W : Wd) (i : Bool) : W.setS i (W.S i) = W := by
  unfold Wd.setS
  congr 1
  funext j
  by_cases q : j = i
  · rw [if_pos q, q]
  · rw [if_neg q]
def Wd.sentW (W : Wd) (i : Bool) (told : List (Int × Int)) : Wd :=
  { W.setS i { W.S i with next := (W.S i).next + 1, sent := (W.S i).sent ++ [(W.S i).next] } with way := W.way ++ [(i, (W.S i).next, told)] }
def Wd.goes (W : Wd) (i : Bool) (told : List (Int × Int)) : Wd := if told = [] then W.sentW i told else (W.sentW i told).setB i { W.B i with told := told }
section
variable {w : World} {G : Gd w (Kf w.params)} {z s : Shared} {A : Around} {E : Value → Shared → Prop} {mu mu' : List Addr} {a : Ads} {W : Wd}
set_option maxHeartbeats 400000
theorem item_two {prog : Program} {x : Bool → Addr} {i : Bool} {v : Value} {t : Tok} {value slice : Expr} {Q : Value → Shared → Prop} (im : Imm mu s.heap (.lst [.raw (.ref (x false)), .raw (.ref (x true))]) v) (h : Q (.ref (x i)) s)
    (hs : ∀ l, subscripted slice false (.ref l) (.int (b2i i) t) = operate [.ref l, .int (b2i i) t] (getItem (.ref l) (.int (b2i i) t)) := by intro _; with_unfolding_all rfl) :
    wpAny (model prog w) A (subscriptTail value slice v (.int (b2i i) t)) Q E s := by
  cases i with
  | false => exact item_lst (i := 0) im rfl (by decide) rfl (fun u iu => by rw [Imm.raw_iff] at iu; subst iu; exact h) hs
  | true => exact item_lst (i := 1) im rfl (by decide) rfl (fun u iu => by rw [Imm.raw_iff] at iu; subst iu; exact h) hs

theorem goes_ (on : G.On z.heap) (hA : Ar 60 A) (al : Al mu z.heap) (I : WAt w mu z.heap a W) (hD : a.Dis) (hmem : ∀ b ∈ a.all, b ∈ mu) (hoff : G.Off a.all) {i : Bool} {tb : Bool} {now : Int} {sv bv : Value} {ti tn : Tok}
    (Js : Imm mu z.heap (sidesD a) sv) (Jb : Imm mu z.heap (booksD a) bv) {told : List (Int × Int)} (ht : told = if tb then (W.S i).recv else [])
    (hr : (W.S i).recv.length ≤ 30) (hsl : (W.S i).sent.length ≤ 30) (hfresh : (W.S i).next ∉ (W.S i).sent) (hwl : W.way.length ≤ 100) (hbt : (W.B i).told.length ≤ 30)
    (hin : told ≠ [] → ∀ p ∈ (W.B i).told, ∃ q ∈ told, q.1 ≤ p.1 ∧ p.2 ≤ q.2) {Q : Value → Shared → Prop}
    (h : ∀ s', Go a.all z s' → WAt w mu s'.heap a (W.goes i told) → Q (.bool true) s') :
    wpAny (model PP w) A (call (.ref 275) [sv, bv, .ref a.wy, .int (b2i i) ti, .bool tb, .int now tn]) Q E z := by
  have he := I.there
  refine enter (n := 59) (m := fun y => if y = "now" then some (.int now tn) else if y = "is_told" then some (.bool tb) else if y = "at" then some (.int (b2i i) ti) else if y = "way" then some (.ref a.wy) else if y = "books" then some (bv) else if y = "sides" then some (sv) else none) (cm := fun _ => none) on hA (by k_is) (by rfl) (by with_unfolding_all rfl) (by rfl) (by with_unfolding_all rfl) (by with_unfolding_all rfl) (by decide) (by rfl) (by rfl) (by rfl)
    a.all mu (fun mu h => WAt w mu h a W ∧ (Imm mu h (sidesD a) sv ∧ Imm mu h (booksD a) bv)) hoff hmem al (fun _ h' k f => ⟨I.enter k f, Js.enter k f, Jb.enter k f⟩) (fun _ h h' f x k => ⟨x.1.kp k mem_l (fun b q => offN (he b q) f), x.2.1.kp k mem_l, x.2.2.kp k mem_l⟩) ?_
  intro L wr mu' A s' hL hc hmu hN hA C
  have L : LawFr z a.all wr C.envOf a := ⟨hL, hc, fun b q => q, he, hD⟩
  have mm := C.wmu L
  -- side, book
  refine wpAny_execs_cons (C.setPair hA.hd hL (Subscript_ ?_))
  walk_at "loc"
  walk_at "loc"
  refine item_two (x := a.x) C.r.2.1 (Subscript_ ?_)
  walk_at "loc"
  walk_at "loc"
  refine item_two (x := a.bk) C.r.2.2 ⟨_, _, _, _, C, fun s C => ?_⟩
  have C := C.know (P := fun h => WAt w mu' h a W ∧ True) ⟨C.r.1, trivial⟩ fun h h' y k => ⟨y.1.kp k C.wrmu fun b q => C.offW (he b q), trivial⟩
  -- frame
  refine wpAny_execs_cons (wpAny_Assign_Name (wpAny_mono (Q := fun v s => C.At s ∧ ((told = [] ∧ v = .none) ∨ (told ≠ [] ∧ ∃ d, Imm mu' s.heap (.tup [.str "ack", .int d, rgD told, .none]) v))) (IfExp_ (isTrue_plain ?_)) (fun v s wv => ?_) fun _ _ e => e))
  · walk_at "loc"
    refine wpAny_truthy_bool ?_
    cases tb with
    | false => rw [if_neg Bool.false_ne_true]; exact Constant_none ⟨C, .inl ⟨ht, rfl⟩⟩
    | true =>
      rw [if_pos rfl]
      have ht : told = (W.S i).recv := ht
      refine MethodCall_ ?_
      walk_at "loc"
      obtain ⟨m, IM, F⟩ := (C.r.1.sp i).at_
      refine IM.meth spOk C.X (fa := 139) (by k_is) (by k_is) (callWith_K C.X (by k_is) (wpAny_items_cons ?_))
      walk_at "loc"
      refine wpAny_items_cons (C.cInt fun _ s C => wpAny_items_nil ⟨C.X, ack_frame_ C.on (hA.le (by omega)) C.al (C.r.1.sp i) hr (fun h0 s g => ⟨C.go g, .inl ⟨by rw [ht]; exact h0, rfl⟩⟩) fun h1 v d s g im => ⟨C.go g, .inr ⟨by rw [ht]; exact h1, d, by rw [ht]; exact im⟩⟩⟩)
  obtain ⟨C, hf⟩ := wv
  have hsx : ∀ {b}, b ∈ [a.dx i] → b ∈ a.all := fun q => by rw [List.mem_singleton.mp q]; exact a.mdx i
  have hoD : G.Off [a.dx i] := fun b q => hoff b (hsx q)
  have hoDS : G.Off [a.dx i, a.sx i] := fun b q => by
    rcases List.mem_cons.mp q with rfl | q
    · exact hoff _ (a.mdx i)
    · rw [List.mem_singleton.mp q]; exact hoff _ (a.msx i)
  rcases hf with ⟨ht0, rfl⟩ | ⟨ht1, d, im⟩
  · refine C.st fun s C => ?_
    -- told
    refine wpAny_execs_cons (wpAny_Assign_Name (IfExp_ (wpAny_isTrue_Compare1 ?_)))
    walk_at "loc"
    refine Constant_none (wpAny_is_self (by rfl) (wpAny_truthy_bool ?_))
    rw [if_pos rfl]
    refine List_ (wpAny_items_nil (C.newList .nil (Nat.zero_le _) fun tv s C => ?_))
    have C := C.know (P := fun h => WAt w mu' h a W ∧ Imm mu' h (.lst []) tv) ⟨C.r.1.1, C.r.2⟩ fun h h' y k => ⟨y.1.kp k C.wrmu fun b q => C.offW (he b q), y.2.kp k C.wrmu⟩
    refine C.st fun s C => ?_
    -- number
    refine wpAny_execs_cons (wpAny_Assign_Name (MethodCall_ ?_))
    walk_at "loc"
    obtain ⟨m, IM, F⟩ := (C.r.1.sp i).at_
    refine IM.meth spOk C.X (fa := 160) (by k_is) (by k_is) (callWith_K0 C.X (by k_is) ?_)
    refine take_number_ C.on (hA.le (by omega)) C.al (C.r.1.sp i) (mm _ (a.mdx i)) hoD fun tk s g sp => ?_
    have C := C.sideD L .imm g sp rfl
    refine C.st fun s C => ?_
    -- on_sent
    refine wpAny_execs_cons (wpAny_Expr_any (MethodCall_ ?_))
    walk_at "loc"
    obtain ⟨m, IM, F⟩ := (C.r.1.sp i).at_
    refine IM.meth spOk C.X (fa := 167) (by k_is) (by k_is) (callWith_K C.X (by k_is) (wpAny_items_cons ?_))
    walk_at "loc"
    refine wpAny_items_cons ?_
    walk_at "loc"
    refine wpAny_items_cons (C.cInt fun _ s C => wpAny_items_cons (IfExp_ (wpAny_isTrue_Compare1 ?_)))
    walk_at "loc"
    refine Constant_none (wpAny_is_self (by rfl) (wpAny_truthy_bool ?_))
    rw [if_pos rfl]
    refine List_ (wpAny_items_cons (Tuple_ (wpAny_items_cons (C.cStr fun _ s C => wpAny_items_nil (C.newTuple (ds := [.str "ping"]) (.cons .str .nil) (by show 1 ≤ 1000; decide) fun pv s C => wpAny_items_nil (C.newList (ds := rowD [("ping", [])]) (.cons C.r.2 .nil) (by show 1 ≤ 1000; decide) fun lv s C => wpAny_items_nil ⟨C.X, ?_⟩))))))
    have hW := C.r.1.1.1
    have hsp := hW.sp i
    have hst := hW.st i
    rw [Wd.S_same] at hsp hst
    refine on_sent_ C.on (hA.le (by omega)) C.al hsp hst (by simpa using Nat.lt_of_le_of_lt hsl (by decide)) (mm _ (a.mdx i)) (mm _ (a.msx i)) (hD.ds _ _) hoDS hfresh (by decide) C.r.2 fun u s g sp st => ?_
    have C := (C.know (P := fun h => WAt w mu' h a _ ∧ Imm mu' h (.lst []) tv) ⟨C.r.1.1.1, C.r.1.1.2⟩ fun h h' y k => ⟨y.1.kp k C.wrmu fun b q => C.offW (he b q), y.2.kp k C.wrmu⟩).side L .imm g sp st
    rw [Wd.setS_setS] at C
    -- way.append
    refine wpAny_execs_cons (C.appendSt (by walk_at "lk") C.r.1.wy (mm _ a.mwy) (Tuple_ (wpAny_items_cons ?_)))
    walk_at "loc"
    refine wpAny_items_cons ?_
    walk_at "loc"
    refine wpAny_items_cons ?_
    walk_at "loc"
    refine wpAny_items_nil (C.newTuple (ds := [.int (b2i i), .int (W.S i).next, rgD told]) (.cons .int (.cons .int (.cons (by rw [ht0]; exact C.r.2) .nil))) (by show 3 ≤ 1000; decide) fun pv s C => ?_)
    refine ⟨_, pkD (i, (W.S i).next, told), C.r.1.1.wy, C.r.2, by simpa [Wd.setS] using Nat.le_trans hwl (by decide), fun s' g F => ?_⟩
    have C := (C.know (P := fun h => WAt w mu' h a _ ∧ True) ⟨C.r.1.1, trivial⟩ fun h h' y k => ⟨y.1.kp k C.wrmu fun b q => C.offW (he b q), trivial⟩).wayS L .true (l := W.way ++ [(i, (W.S i).next, told)]) g (by simpa [Wd.setS] using F)
    -- if frame is None
    refine wpAny_execs_cons (wpAny_If (wpAny_isTrue_Compare1 ?_))
    walk_at "loc"
    refine Constant_none (wpAny_is_self (by rfl) (wpAny_truthy_bool ?_))
    rw [if_pos rfl]
    refine wpAny_execs_cons (wpAny_Return_some (Constant_bool ?_))
    refine h _ C.go0 ?_
    have e : W.goes i told = { W.setS i { W.S i with next := (W.S i).next + 1, sent := (W.S i).sent ++ [(W.S i).next] } with way := W.way ++ [(i, (W.S i).next, told)] } := by rw [Wd.goes, if_pos ht0]; rfl
    rw [e]
    exact C.r.1.less hmu
  · obtain ⟨fa, fn, fvs, rfl, -⟩ := Imm.tup_iff.mp im
    have C := C.know (P := fun h => WAt w mu' h a W ∧ Imm mu' h (.tup [.str "ack", .int d, rgD told, .none]) (.ref fa)) ⟨C.r.1, im⟩ fun h h' y k => ⟨y.1.kp k C.wrmu fun b q => C.offW (he b q), y.2.kp k C.wrmu⟩
    refine C.st fun s C => ?_
    -- told
    refine wpAny_execs_cons (wpAny_Assign_Name (IfExp_ (wpAny_isTrue_Compare1 ?_)))
    walk_at "loc"
    refine Constant_none (wpAny_is_other (by rfl) (by simp) (wpAny_truthy_bool ?_))
    rw [if_neg Bool.false_ne_true]
    refine Subscript_ ?_
    walk_at "loc"
    refine C.cInt fun _ s C => item_tup (i := 2) C.r.2 rfl (by decide) rfl fun tv it => ?_
    have C := C.know (P := fun h => WAt w mu' h a W ∧ (Imm mu' h (.tup [.str "ack", .int d, rgD told, .none]) (.ref fa) ∧ Imm mu' h (rgD told) tv)) ⟨C.r.1, C.r.2, it⟩ fun h h' y k => ⟨y.1.kp k C.wrmu fun b q => C.offW (he b q), y.2.1.kp k C.wrmu, y.2.2.kp k C.wrmu⟩
    have hPs : Std mu' fun h => Imm mu' h (.tup [.str "ack", .int d, rgD told, .none]) (.ref fa) ∧ Imm mu' h (rgD told) tv := .and .imm .imm
    refine C.st fun s C => ?_
    -- number
    refine wpAny_execs_cons (wpAny_Assign_Name (MethodCall_ ?_))
    walk_at "loc"
    obtain ⟨m, IM, F⟩ := (C.r.1.sp i).at_
    refine IM.meth spOk C.X (fa := 160) (by k_is) (by k_is) (callWith_K0 C.X (by k_is) ?_)
    refine take_number_ C.on (hA.le (by omega)) C.al (C.r.1.sp i) (mm _ (a.mdx i)) hoD fun tk s g sp => ?_
    have C := C.sideD L hPs g sp rfl
    refine C.st fun s C => ?_
    -- on_sent
    refine wpAny_execs_cons (wpAny_Expr_any (MethodCall_ ?_))
    walk_at "loc"
    obtain ⟨m, IM, F⟩ := (C.r.1.sp i).at_
    refine IM.meth spOk C.X (fa := 167) (by k_is) (by k_is) (callWith_K C.X (by k_is) (wpAny_items_cons ?_))
    walk_at "loc"
    refine wpAny_items_cons ?_
    walk_at "loc"
    refine wpAny_items_cons (C.cInt fun _ s C => wpAny_items_cons (IfExp_ (wpAny_isTrue_Compare1 ?_)))
    walk_at "loc"
    refine Constant_none (wpAny_is_other (by rfl) (by simp) (wpAny_truthy_bool ?_))
    rw [if_neg Bool.false_ne_true]
    refine List_ (wpAny_items_cons ?_)
    walk_at "loc"
    refine wpAny_items_cons (Tuple_ (wpAny_items_cons (C.cStr fun _ s C => wpAny_items_nil (C.newTuple (ds := [.str "ping"]) (.cons .str .nil) (by show 1 ≤ 1000; decide) fun pv s C => wpAny_items_nil (C.newList (ds := rowD [("ack", [.int d, rgD told, .none]), ("ping", [])]) (.cons C.r.1.2.1 (.cons C.r.2 .nil)) (by show 2 ≤ 1000; decide) fun lv s C => wpAny_items_nil ⟨C.X, ?_⟩)))))
    have hW := C.r.1.1.1
    have hsp := hW.sp i
    have hst := hW.st i
    rw [Wd.S_same] at hsp hst
    refine on_sent_ C.on (hA.le (by omega)) C.al hsp hst (by simpa using Nat.lt_of_le_of_lt hsl (by decide)) (mm _ (a.mdx i)) (mm _ (a.msx i)) (hD.ds _ _) hoDS hfresh (by show 2 ≤ 10; decide) C.r.2 fun u s g sp st => ?_
    have C := (C.know (P := fun h => WAt w mu' h a _ ∧ (Imm mu' h (.tup [.str "ack", .int d, rgD told, .none]) (.ref fa) ∧ Imm mu' h (rgD told) tv)) ⟨C.r.1.1.1, C.r.1.1.2⟩ fun h h' y k => ⟨y.1.kp k C.wrmu fun b q => C.offW (he b q), y.2.1.kp k C.wrmu, y.2.2.kp k C.wrmu⟩).side L hPs g sp st
    rw [Wd.setS_setS] at C
    -- way.append
    refine wpAny_execs_cons (C.appendSt (by walk_at "lk") C.r.1.wy (mm _ a.mwy) (Tuple_ (wpAny_items_cons ?_)))
    walk_at "loc"
    refine wpAny_items_cons ?_
    walk_at "loc"
    refine wpAny_items_cons ?_
    walk_at "loc"
    refine wpAny_items_nil (C.newTuple (ds := [.int (b2i i), .int (W.S i).next, rgD told]) (.cons .int (.cons .int (.cons C.r.2.2 .nil))) (by show 3 ≤ 1000; decide) fun pv s C => ?_)
    refine ⟨_, pkD (i, (W.S i).next, told), C.r.1.1.wy, C.r.2, by simpa [Wd.setS] using Nat.le_trans hwl (by decide), fun s' g F => ?_⟩
    have C := (C.know (P := fun h => WAt w mu' h a _ ∧ Imm mu' h (rgD told) tv) ⟨C.r.1.1, C.r.1.2.2⟩ fun h h' y k => ⟨y.1.kp k C.wrmu fun b q => C.offW (he b q), y.2.kp k C.wrmu⟩).wayS L .imm (l := W.way ++ [(i, (W.S i).next, told)]) g (by simpa [Wd.setS] using F)
    -- if frame is None
    refine wpAny_execs_cons (wpAny_If (wpAny_isTrue_Compare1 ?_))
    walk_at "loc"
    refine Constant_none (wpAny_is_other (by rfl) (by simp) (wpAny_truthy_bool ?_))
    rw [if_neg Bool.false_ne_true]
    walk_at "nil"
    -- on_ack_sent
    refine wpAny_execs_cons (wpAny_Expr_any (MethodCall_ ?_))
    walk_at "loc"
    obtain ⟨m, IM, F⟩ := (C.r.1.sp i).at_
    refine IM.meth spOk C.X (fa := 146) (by k_is) (by k_is) (callWith_K0 C.X (by k_is) ?_)
    refine on_ack_sent_ C.on (hA.le (by omega)) C.al (C.r.1.sp i) (mm _ (a.mdx i)) hoD fun s g sp => ?_
    have C := C.sideD L .imm g sp rfl
    rw [Wd.setS_id] at C
    -- ahead, book['told'] = book['told'], told
    refine wpAny_execs_cons (C.setTwo hA.hd (Subscript_ ?_))
    walk_at "loc"
    obtain ⟨fm, FA, BF⟩ := C.r.1.bk i
    refine C.cStr fun _ s C => ?_
    obtain ⟨fm, FA, BF⟩ := C.r.1.bk i
    refine FA.get BF.told fun av s g ia => ?_
    have C := (C.go g).imm ia
    walk_at "loc"
    refine ⟨_, _, _, _, C, fun s C => wpAny_assign_Name (C.st fun s C => assignSub ?_)⟩
    walk_at "loc"
    refine C.cStr fun _ s C => ?_
    obtain ⟨fm, FA, BF⟩ := C.r.1.1.bk i
    refine FA.put (mm _ (a.mbk i)) (by rw [BF.told]; rfl) C.r.1.2 fun s g FA => ?_
    have C := (C.know (P := fun h => WAt w mu' h a _ ∧ (Imm mu' h (rgD told) tv ∧ Imm mu' h (rgD (W.B i).told) av)) ⟨C.r.1.1, C.r.1.2, C.r.2⟩ fun h h' y k => ⟨y.1.kp k C.wrmu fun b q => C.offW (he b q), y.2.1.kp k C.wrmu, y.2.2.kp k C.wrmu⟩).book L (.and .imm .imm) (B := { W.B i with told := told }) g FA (BF.putTold told) rfl
    -- return
    refine wpAny_execs_cons (wpAny_Return_some (Call_ ?_))
    walk_at "glo"
    refine callWith_K C.X (by k_is) (wpAny_items_cons ?_)
    walk_at "loc"
    refine wpAny_items_cons ?_
    walk_at "loc"
    have htl : told.length ≤ 60 := by
      have : told.length ≤ (W.S i).recv.length := by rw [ht]; split <;> simp
      omega
    refine wpAny_items_nil ⟨C.X, within_ C.on (hA.le (by omega)) C.al (Nat.le_trans hbt (by decide)) htl C.r.2.2 C.r.2.1 (hin ht1) fun s g => ?_⟩
    have C := C.go g
    refine h _ C.go0 ?_
    have e : W.goes i told = ({ W.setS i { W.S i with next := (W.S i).next + 1, sent := (W.S i).sent ++ [(W.S i).next] } with way := W.way ++ [(i, (W.S i).next, told)] } : Wd).setB i { W.B i with told := told } := by rw [Wd.goes, if_neg ht1]; rfl
    rw [e]
    exact C.r.1.less hmu
end
-- part F15
theorem sorted_eq : ∀ {l l' : List Int}, l.Perm l' → l.Pairwise (· ≤ ·) → l'.Pairwise (· ≤ ·) → l = l'
  | [], l', p, _, _ => (List.nil_perm.mp p).symm ▸ rfl
  | a :: r, [], p, _, _ => by have := p.length_eq; simp at this
  | a :: r, b :: r', p, h, h' => by
    rw [List.pairwise_cons] at h h'
    have hab : a = b := by
      have h1 : a ∈ b :: r' := p.mem_iff.mp List.mem_cons_self
      have h2 : b ∈ a :: r := p.mem_iff.mpr List.mem_cons_self
      rcases List.mem_cons.mp h1 with e | e
      · exact e
      · rcases List.mem_cons.mp h2 with e' | e'
        · exact e'.symm
        · have := h.1 _ e'; have := h'.1 _ e; omega
    subst hab
    rw [sorted_eq (List.Perm.cons_inv p) h.2 h'.2]
def takenOf (sent : List Int) (told : List (Int × Int)) : List Int := sent.filter (hasNum told)
def restOf (sent : List Int) (told : List (Int × Int)) : List Int := sent.filter fun n => !hasNum told n
theorem leftOf_taken (sent : List Int) (told : List (Int × Int)) : leftOf sent (takenOf sent told) = restOf sent told := by
  unfold leftOf restOf takenOf
  refine List.filter_congr fun a ha => ?_
  cases h : hasNum told a <;> simp [List.contains_eq_mem, ha, h]
theorem BkF.putKnown {lo : Addr} {B : Bk} {m : Str → Option D} (F : BkF lo B m) (r : List Int) : BkF lo { B with known := r } (fun y => if y = "known" then some (.lst (intD r)) else m y) :=
  ⟨upd_eq, upd_ne (x := "lost") (y := "known") (by rfl) F.lost, upd_ne (x := "told") (y := "known") (by rfl) F.told, upd_ne (x := "newest") (y := "known") (by rfl) F.newest⟩
theorem BkF.putNewest {lo : Addr} {B : Bk} {m : Str → Option D} (F : BkF lo B m) (r : Int) : BkF lo { B with newest := r } (fun y => if y = "newest" then some (.int r) else m y) :=
  ⟨upd_ne (x := "known") (y := "newest") (by rfl) F.known, upd_ne (x := "lost") (y := "newest") (by rfl) F.lost, upd_ne (x := "told") (y := "newest") (by rfl) F.told, upd_eq⟩
def Wd.recvd (W : Wd) (j : Bool) (n : Int) : Wd := W.setS j { W.S j with recv := addRange (W.S j).recv n n }
def Wd.acks (W : Wd) (j : Bool) (n : Int) (p : Int × Int) (rs : List (Int × Int)) (least : Int) : Wd :=
  (W.setS j { W.S j with recv := addRange (W.S j).recv n n, sent := restOf (W.S j).sent (p :: rs), la := maxO (W.S j).la p.2, acked := pruneR (noteF least (p :: rs) (W.S j).acked) least }).setB j
    { W.B j with known := (W.B j).known ++ takenOf (W.S j).sent (p :: rs), newest := max (W.B j).newest n }
theorem Wd.B_same (W : Wd) (i : Bool) (B : Bk) : (W.setB i B).B i = B := by simp [Wd.setB]
theorem Wd.setB_setB (W : Wd) (i : Bool) (B B' : Bk) : (W.setB i B).setB i B' = W.setB i B' := by
  unfold Wd.setB
  congr 1
  funext j
  by_cases q : j = i <;> simp [q]
theorem sub_b2i (i : Bool) : 1 - b2i i = b2i (!i) := by cases i <;> rfl
section
variable {w : World} {G : Gd w (Kf w.params)} {z s : Shared} {A : Around} {E : Value → Shared → Prop} {mu mu' : List Addr} {a : Ads} {W : Wd}
set_option maxHeartbeats 400000

theorem pkt_number {n : Int} {v : Value} {ex : Bool} {Q : Value → Shared → Prop} (X : (Kf w.params).In s.heap) (im : Imm mu s.heap (.pkt n) v) (h : ∀ t s', Go [] s s' → Q (.int n t) s') : wpAny (model PP w) A (getAttr v "number" ex) Q E s := by
  obtain ⟨p, pd, od, t, rfl, m1, m2, e1, e2, l⟩ := Imm.pkt_iff.mp im
  exact get_value X (⟨e1, rfl, rfl, e2⟩ : InstAt s.heap p (instObj 100 pd) 100 (some od)) pkOk.ga (findObj_own pkOk.hd (pkOk.no "number" (by decide)) rfl l) rfl (h _ _ Go.ofT)

set_option maxHeartbeats 4000000 in
theorem comes_ (on : G.On z.heap) (hA : Ar 60 A) (al : Al mu z.heap) (I : WAt w mu z.heap a W) (hD : a.Dis) (hmem : ∀ b ∈ a.all, b ∈ mu) (hoff : G.Off a.all) {i j : Bool} (hj : j = !i) {n now : Int} (hn0 : 0 ≤ n) {told : List (Int × Int)} {sv bv pv : Value} {tn : Tok}
    (Js : Imm mu z.heap (sidesD a) sv) (Jb : Imm mu z.heap (booksD a) bv) (Jp : Imm mu z.heap (pkD (i, n, told)) pv)
    (hr : (W.S j).recv.length < 60) (hr' : (addRange (W.S j).recv n n).length ≤ 60) (hsl : (W.S j).sent.length < 64) (hsrt : (W.S j).sent.Pairwise (· < ·)) (htl : told.length ≤ 60) (hkl : (W.B j).known.length ≤ 100)
    (hnb : ∀ least k, (noteF least (told.take k) (W.S j).acked).length ≤ 60)
    (hbey : hasNum (W.S j).recv n = false → ∀ p rs, told = p :: rs → p.2 < (W.S j).next)
    (hnew : hasNum (W.S j).recv n = false → takenOf (W.S j).sent told ≠ [] → (W.B j).newest < n) {Q : Value → Shared → Prop}
    (h0 : hasNum (W.S j).recv n = true → ∀ s', Go a.all z s' → WAt w mu s'.heap a W → Q (.bool true) s')
    (h1 : hasNum (W.S j).recv n = false → told = [] → ∀ s', Go a.all z s' → WAt w mu s'.heap a (W.recvd j n) → Q (.bool true) s')
    (h2 : hasNum (W.S j).recv n = false → ∀ p rs least, told = p :: rs → ∀ s', Go a.all z s' → WAt w mu s'.heap a (W.acks j n p rs least) → Q (.bool true) s') :
    wpAny (model PP w) A (call (.ref 280) [sv, bv, pv, .int now tn]) Q E z := by
  have he := I.there
  refine enter (n := 59) (m := fun y => if y = "now" then some (.int now tn) else if y = "packet" then some (pv) else if y = "books" then some (bv) else if y = "sides" then some (sv) else none) (cm := fun _ => none) on hA (by k_is) (by rfl) (by with_unfolding_all rfl) (by rfl) (by with_unfolding_all rfl) (by with_unfolding_all rfl) (by decide) (by rfl) (by rfl) (by rfl)
    a.all mu (fun mu h => WAt w mu h a W ∧ (Imm mu h (sidesD a) sv ∧ (Imm mu h (booksD a) bv ∧ Imm mu h (pkD (i, n, told)) pv))) hoff hmem al (fun _ h' k f => ⟨I.enter k f, Js.enter k f, Jb.enter k f, Jp.enter k f⟩) (fun _ h h' f x k => ⟨x.1.kp k mem_l (fun b q => offN (he b q) f), x.2.1.kp k mem_l, x.2.2.1.kp k mem_l, x.2.2.2.kp k mem_l⟩) ?_
  intro L wr mu' A s' hL hc hmu hN hA C
  have L : LawFr z a.all wr C.envOf a := ⟨hL, hc, fun b q => q, he, hD⟩
  have mm := C.wmu L
  have hoD : G.Off [a.dx j] := fun b q => hoff b (by rw [List.mem_singleton.mp q]; exact a.mdx j)
  have hoS : G.Off [a.sx j] := fun b q => hoff b (by rw [List.mem_singleton.mp q]; exact a.msx j)
  -- at, number, told = packet
  refine wpAny_execs_cons (Assign_Tuple ?_)
  walk_at "loc"
  refine assignTriple hA.hd C.r.2.2.2 fun v₁ v₂ tv s g i₁ i₂ i₃ => ?_
  obtain ⟨ti, rfl⟩ := Imm.int_iff.mp i₁
  obtain ⟨tnum, rfl⟩ := Imm.int_iff.mp i₂
  have C := (C.go g).imm i₃
  refine wpAny_assign_Name (C.st fun s C => wpAny_assign_Name (C.st fun s C => wpAny_assign_Name (C.st fun s C => ?_)))
  -- side, book
  refine wpAny_execs_cons (C.setPair hA.hd hL (Subscript_ ?_))
  walk_at "loc"
  refine wpAny_BinOp (C.cInt fun _ s C => ?_)
  walk_at "loc"
  refine sub_int ?_
  have C := C.tok (s.toks + 1)
  rw [sub_b2i, ← hj]
  refine item_two (x := a.x) C.r.1.2.1 (Subscript_ ?_)
  walk_at "loc"
  refine wpAny_BinOp (C.cInt fun _ s C => ?_)
  walk_at "loc"
  refine sub_int ?_
  have C := C.tok (s.toks + 1)
  rw [sub_b2i, ← hj]
  refine item_two (x := a.bk) C.r.1.2.2.1 ⟨_, _, _, _, C, fun s C => ?_⟩
  have C := C.know (P := fun h => WAt w mu' h a W ∧ Imm mu' h (rgD told) tv) ⟨C.r.1.1, C.r.2⟩ fun h h' y k => ⟨y.1.kp k C.wrmu fun b q => C.offW (he b q), y.2.kp k C.wrmu⟩
  -- is_known
  refine wpAny_execs_cons (wpAny_If (isTrue_plain (MethodCall_ ?_)))
  walk_at "loc"
  obtain ⟨m, IM, F⟩ := (C.r.1.sp j).at_
  refine IM.meth spOk C.X (fa := 125) (by k_is) (by k_is) (callWith_K C.X (by k_is) (wpAny_items_cons ?_))
  walk_at "loc"
  refine wpAny_items_nil ⟨C.X, is_known_ C.on (hA.le (by omega)) C.al (C.r.1.sp j) (by omega) hn0 fun s g => wpAny_truthy_bool ?_⟩
  have C := C.go g
  cases hk : hasNum (W.S j).recv n with
  | true =>
    rw [if_pos rfl]
    exact wpAny_execs_cons (wpAny_Return_some (Constant_bool (h0 hk _ C.go0 (C.r.1.less hmu))))
  | false =>
  rw [if_neg Bool.false_ne_true]
  walk_at "nil"
  -- on_received
  refine wpAny_execs_cons (wpAny_Expr_any (MethodCall_ ?_))
  walk_at "loc"
  obtain ⟨m, IM, F⟩ := (C.r.1.sp j).at_
  refine IM.meth spOk C.X (fa := 132) (by k_is) (by k_is) (callWith_K C.X (by k_is) (wpAny_items_cons ?_))
  walk_at "loc"
  refine wpAny_items_cons ?_
  walk_at "loc"
  refine wpAny_items_cons (Constant_bool (wpAny_items_cons (C.cInt fun _ s C => wpAny_items_nil ⟨C.X, on_received_ C.on (hA.le (by omega)) C.al (C.r.1.sp j) (mm _ (a.mdx j)) hoD hr hr' fun s g sp => ?_⟩)))
  have C := C.sideD L .imm g sp rfl
  -- if told == []
  refine wpAny_execs_cons (wpAny_If (wpAny_isTrue_Compare1 ?_))
  walk_at "loc"
  refine List_ (wpAny_items_nil (C.newList .nil (Nat.zero_le _) fun ev s C => ?_))
  refine eq_nilL (by have := hA.2.2; omega) C.r.1.2 C.r.2 (wpAny_truthy_bool ?_)
  cases told with
  | nil =>
    rw [if_pos (by rfl)]
    exact wpAny_execs_cons (wpAny_Return_some (Constant_bool (h1 hk rfl _ C.go0 (C.r.1.1.less hmu))))
  | cons p rs =>
  rw [if_neg (by simp [rgL])]
  walk_at "nil"
  have C := C.know (P := fun h => WAt w mu' h a _ ∧ Imm mu' h (rgD (p :: rs)) tv) C.r.1 fun h h' y k => ⟨y.1.kp k C.wrmu fun b q => C.offW (he b q), y.2.kp k C.wrmu⟩
  -- ahead, is_beyond
  refine wpAny_execs_cons (C.setPair hA.hd hL ?_)
  walk_at "atr"
  have hsp := C.r.1.sp j
  rw [Wd.S_same] at hsp
  obtain ⟨m, IM, F⟩ := hsp.at_
  refine C.getA spOk IM F.la fun av s hv ia C => ?_
  have C := C.know (P := fun h => WAt w mu' h a _ ∧ (Imm mu' h (rgD (p :: rs)) tv ∧ Imm mu' h (optD (W.S j).la) av)) ⟨C.r.1, C.r.2, ia⟩ fun h h' y k => ⟨y.1.kp k C.wrmu fun b q => C.offW (he b q), y.2.1.kp k C.wrmu, y.2.2.kp k C.wrmu⟩
  have hP2 : Std mu' fun h => Imm mu' h (rgD (p :: rs)) tv ∧ Imm mu' h (optD (W.S j).la) av := .and .imm .imm
  refine MethodCall_ ?_
  walk_at "loc"
  have hsp := C.r.1.sp j
  rw [Wd.S_same] at hsp
  obtain ⟨m, IM, F⟩ := hsp.at_
  refine IM.meth spOk C.X (fa := 200) (by k_is) (by k_is) (callWith_K C.X (by k_is) (wpAny_items_cons ?_))
  walk_at "loc"
  refine wpAny_items_nil ⟨C.X, is_beyond_ C.on (hA.le (by omega)) C.al hsp (by simp at htl; omega) C.r.2.1 fun s g => ?_⟩
  have hbf : decide ((W.S j).next ≤ p.2) = false := by have := hbey hk p rs rfl; simp; omega
  dsimp only
  rw [hbf]
  have C := C.go g
  refine ⟨_, _, _, _, C, fun s C => ?_⟩
  -- taken
  refine wpAny_execs_cons (C.compSt hA.hd hL (by rfl) (by with_unfolding_all rfl) (by decide) rfl (by decide) (by with_unfolding_all rfl) (fun _ _ e => e) C.apart (fun _ _ e => e) (MethodCall_ ?_))
  walk_at "loc"
  have hsp := C.r.1.sp j
  rw [Wd.S_same] at hsp
  obtain ⟨m, IM, F⟩ := hsp.at_
  refine IM.meth spOk C.X (fa := 172) (by k_is) (by k_is) (callWith_K C.X (by k_is) (wpAny_items_cons (MethodCall_ ?_)))
  walk_at "loc"
  refine IM.meth spOk C.X (fa := 179) (by k_is) (by k_is) (callWith_K C.X (by k_is) (wpAny_items_cons ?_))
  walk_at "loc"
  have hst := C.r.1.st j
  rw [Wd.S_same] at hst
  refine wpAny_items_nil ⟨C.X, acked_by_ C.on (hA.le (by omega)) C.al hsp hst hsl htl C.r.2.1 fun nv ns s g iv hp hs => ?_⟩
  have C := (C.go g).imm iv
  have hsp := C.r.1.1.sp j
  have hst := C.r.1.1.st j
  rw [Wd.S_same] at hsp hst
  have srt : (takenOf (W.S j).sent (p :: rs)).Pairwise (· < ·) := hsrt.filter _
  have nd : ns.Nodup := hp.nodup_iff.mpr (srt.imp fun h => Int.ne_of_lt h)
  refine wpAny_items_nil ⟨C.X, take_ C.on (hA.le (by omega)) C.al hsp hst hsl (mm _ (a.msx j)) hoS (hD.ds _ _) (by rw [hp.length_eq]; exact Nat.lt_of_le_of_lt (List.length_filter_le _ _) hsl) nd C.r.2 fun rv ns' s g hp' hs' ir sp st => ?_⟩
  have ens : ns' = takenOf (W.S j).sent (p :: rs) := sorted_eq (hp'.trans hp) hs' (srt.imp fun h => Int.le_of_lt h)
  subst ens
  have efl : (takenOf (W.S j).sent (p :: rs)).filter (W.S j).sent.contains = takenOf (W.S j).sent (p :: rs) := by
    rw [List.filter_eq_self]
    intro x hx
    simpa using (List.mem_filter.mp hx).1
  rw [efl] at ir
  have el : leftOf (W.S j).sent (takenOf (W.S j).sent (p :: rs)) = restOf (W.S j).sent (p :: rs) := leftOf_taken _ _
  dsimp only at sp st
  rw [el] at sp st
  have C := (C.know (P := fun h => WAt w mu' h a _ ∧ (Imm mu' h (rgD (p :: rs)) tv ∧ Imm mu' h (optD (W.S j).la) av)) ⟨C.r.1.1, C.r.1.2⟩ fun h h' y k => ⟨y.1.kp k C.wrmu fun b q => C.offW (he b q), y.2.1.kp k C.wrmu, y.2.2.kp k C.wrmu⟩).side L hP2 (g.mono fun b q => List.mem_cons_of_mem _ q) sp st
  rw [Wd.setS_setS] at C
  refine ⟨_, (takenOf (W.S j).sent (p :: rs)).map .pkt, _, fun _ => true, fun d => match d with | .pkt n => .int n | _ => .none, ⟨C, ir, by rw [List.length_map]; exact Nat.le_trans (Nat.le_of_lt (Nat.lt_of_le_of_lt (List.length_filter_le _ _) hsl)) (by decide), CompPk.ofName (fun _ => by with_unfolding_all rfl) ?_ ?_⟩, ?_⟩
  · exact fun _ _ _ _ _ _ _ _ _ _ => tests_nil
  · intro C' mu'' mC s d v hd _ Cc e im
    obtain ⟨n', -, rfl⟩ := List.mem_map.mp hd
    refine Attribute_Name_ (Cc.ld e (pkt_number Cc.X im fun t s g => ⟨g, .int⟩))
  intro kv s C
  have ek : ((((takenOf (W.S j).sent (p :: rs)).map D.pkt).filter fun _ => true).map fun d => match d with | .pkt n => D.int n | _ => .none) = intD (takenOf (W.S j).sent (p :: rs)) := by
    rw [filter_tt']; simp [intD]
  rw [ek] at C
  have C := C.know (P := fun h => WAt w mu' h a _ ∧ ((Imm mu' h (rgD (p :: rs)) tv ∧ Imm mu' h (optD (W.S j).la) av) ∧ Imm mu' h (.lst (intD (takenOf (W.S j).sent (p :: rs)))) kv)) ⟨C.r.1.1, C.r.1.2, C.r.2⟩ fun h h' y k => ⟨y.1.kp k C.wrmu fun b q => C.offW (he b q), ⟨y.2.1.1.kp k C.wrmu, y.2.1.2.kp k C.wrmu⟩, y.2.2.kp k C.wrmu⟩
  have hP3 : Std mu' fun h => (Imm mu' h (rgD (p :: rs)) tv ∧ Imm mu' h (optD (W.S j).la) av) ∧ Imm mu' h (.lst (intD (takenOf (W.S j).sent (p :: rs)))) kv := .and (.and .imm .imm) .imm
  -- is_newer
  refine wpAny_execs_cons (wpAny_Assign_Name (wpAny_Compare1 ?_))
  walk_at "loc"
  refine Subscript_ ?_
  walk_at "loc"
  refine C.cStr fun _ s C => ?_
  obtain ⟨fm, FA, BF⟩ := C.r.1.bk j
  refine FA.get BF.newest fun bv s g ib => ?_
  obtain ⟨tb, rfl⟩ := Imm.int_iff.mp ib
  have C := C.go g
  refine gt_int (C.st (v := .bool (decide ((W.B j).newest < n))) fun s C => ?_)
  -- note_largest
  refine wpAny_execs_cons (wpAny_Expr_any (MethodCall_ ?_))
  walk_at "loc"
  have hsp := C.r.1.sp j
  rw [Wd.S_same] at hsp
  obtain ⟨m, IM, F⟩ := hsp.at_
  refine IM.meth spOk C.X (fa := 207) (by k_is) (by k_is) (callWith_K C.X (by k_is) (wpAny_items_cons (Subscript_ (Subscript_ ?_))))
  walk_at "loc"
  refine C.cInt fun _ s C => item_lst (ds := rgL (p :: rs)) (i := 0) C.r.2.1.1 rfl (by decide) rfl fun u iu => ?_
  have C := C.imm iu
  refine C.cInt fun _ s C => item_tup (i := 1) C.r.2 rfl (by decide) rfl fun u iu => ?_
  obtain ⟨t₂, rfl⟩ := Imm.int_iff.mp iu
  have C := C.know (P := fun h => WAt w mu' h a _ ∧ ((Imm mu' h (rgD (p :: rs)) tv ∧ Imm mu' h (optD (W.S j).la) av) ∧ Imm mu' h (.lst (intD (takenOf (W.S j).sent (p :: rs)))) kv)) ⟨C.r.1.1, C.r.1.2⟩ fun h h' y k => ⟨y.1.kp k C.wrmu fun b q => C.offW (he b q), ⟨y.2.1.1.kp k C.wrmu, y.2.1.2.kp k C.wrmu⟩, y.2.2.kp k C.wrmu⟩
  have hsp := C.r.1.sp j
  rw [Wd.S_same] at hsp
  refine wpAny_items_nil ⟨C.X, note_largest_ C.on (hA.le (by omega)) C.al hsp (mm _ (a.mdx j)) hoD fun s g sp => ?_⟩
  have C := C.sideD L hP3 g sp (by rw [Wd.S_same])
  rw [Wd.setS_setS] at C
  -- note_ranges
  refine wpAny_execs_cons (wpAny_Expr_any (MethodCall_ ?_))
  walk_at "loc"
  have hsp := C.r.1.sp j
  rw [Wd.S_same] at hsp
  obtain ⟨m, IM, F⟩ := hsp.at_
  refine IM.meth spOk C.X (fa := 193) (by k_is) (by k_is) (callWith_K C.X (by k_is) (wpAny_items_cons ?_))
  walk_at "loc"
  have hst := C.r.1.st j
  rw [Wd.S_same] at hst
  refine wpAny_items_nil ⟨C.X, note_ranges_ C.on (hA.le (by omega)) C.al hsp hst (Nat.lt_of_le_of_lt (List.length_filter_le _ _) hsl) (mm _ (a.mdx j)) hoD htl C.r.2.1.1 hnb fun least s g sp => ?_⟩
  have C := C.sideD L hP3 g sp (by rw [Wd.S_same])
  rw [Wd.setS_setS] at C
  -- book['known'], book['newest']
  refine wpAny_execs_cons (C.setTwo hA.hd (wpAny_BinOp (Subscript_ ?_)))
  walk_at "loc"
  refine C.cStr fun _ s C => ?_
  obtain ⟨fm, FA, BF⟩ := C.r.1.bk j
  refine FA.get BF.known fun bv s g ib => ?_
  have C := (C.go g).imm ib
  walk_at "loc"
  refine add_lst C.al C.r.2 C.r.1.2.2 (by
    have h1 : (intD (takenOf (W.S j).sent (p :: rs))).length ≤ 64 := by rw [intD, List.length_map]; exact Nat.le_of_lt (Nat.lt_of_le_of_lt (List.length_filter_le _ _) hsl)
    have h2 : (intD (W.B j).known).length ≤ 100 := by rw [intD, List.length_map]; exact hkl
    exact Nat.le_trans (Nat.add_le_add h2 h1) (by decide)) fun kn s g ik => ?_
  have ik : Imm mu' s.heap (.lst (intD ((W.B j).known ++ takenOf (W.S j).sent (p :: rs)))) kn := by
    have e : intD ((W.B j).known ++ takenOf (W.S j).sent (p :: rs)) = intD (W.B j).known ++ intD (takenOf (W.S j).sent (p :: rs)) := by simp [intD]
    rw [e]; exact ik
  have C := C.go g
  have C := C.know (P := fun h => WAt w mu' h a _ ∧ (((Imm mu' h (rgD (p :: rs)) tv ∧ Imm mu' h (optD (W.S j).la) av) ∧ Imm mu' h (.lst (intD (takenOf (W.S j).sent (p :: rs)))) kv) ∧ Imm mu' h (.lst (intD ((W.B j).known ++ takenOf (W.S j).sent (p :: rs)))) kn)) ⟨C.r.1.1, C.r.1.2, ik⟩ fun h h' y k => ⟨y.1.kp k C.wrmu fun b q => C.offW (he b q), ⟨⟨y.2.1.1.1.kp k C.wrmu, y.2.1.1.2.kp k C.wrmu⟩, y.2.1.2.kp k C.wrmu⟩, y.2.2.kp k C.wrmu⟩
  have hP4 : Std mu' fun h => ((Imm mu' h (rgD (p :: rs)) tv ∧ Imm mu' h (optD (W.S j).la) av) ∧ Imm mu' h (.lst (intD (takenOf (W.S j).sent (p :: rs)))) kv) ∧ Imm mu' h (.lst (intD ((W.B j).known ++ takenOf (W.S j).sent (p :: rs)))) kn := .and (.and (.and .imm .imm) .imm) .imm
  refine Call_ ?_
  walk_at "blt"
  refine callWith_method1 (wpAny_items_cons (Subscript_ ?_))
  walk_at "loc"
  refine C.cStr fun _ s C => ?_
  obtain ⟨fm, FA, BF⟩ := C.r.1.bk j
  refine FA.get BF.newest fun bv s g ib => ?_
  obtain ⟨tb, rfl⟩ := Imm.int_iff.mp ib
  have C := C.go g
  refine wpAny_items_cons ?_
  walk_at "loc"
  refine wpAny_items_nil (max_int hA.hd fun tm s g => ?_)
  have C := C.go g
  refine ⟨_, _, _, _, C, fun s C => assignSub ?_⟩
  walk_at "loc"
  refine C.cStr fun _ s C => ?_
  obtain ⟨fm, FA, BF⟩ := C.r.1.bk j
  refine FA.put (mm _ (a.mbk j)) (by rw [BF.known]; rfl) C.r.2.2 fun s g FA => ?_
  have C := C.book L hP4 (B := { W.B j with known := (W.B j).known ++ takenOf (W.S j).sent (p :: rs) }) g FA (BF.putKnown _) rfl
  refine assignSub ?_
  walk_at "loc"
  refine C.cStr fun _ s C => ?_
  obtain ⟨fm, FA, BF⟩ := C.r.1.bk j
  rw [Wd.B_same] at BF
  refine FA.put (mm _ (a.mbk j)) (by rw [BF.newest]; rfl) (d := .int (max (W.B j).newest n)) .int fun s g FA => ?_
  have C := C.book L hP4 (B := { W.B j with known := (W.B j).known ++ takenOf (W.S j).sent (p :: rs), newest := max (W.B j).newest n }) g FA (BF.putNewest _) (by rw [Wd.B_same])
  rw [Wd.setB_setB] at C
  have fin : ∀ s, C.At s → Q (.bool true) s := fun s C => h2 hk p rs least rfl _ C.go0 (C.r.1.less hmu)
  -- if is_beyond or ..
  refine wpAny_execs_cons (wpAny_If (isTrue_or (isTrue_plain ?_)))
  walk_at "loc"
  refine wpAny_truthy_bool ?_
  rw [if_neg Bool.false_ne_true]
  refine isTrue_or (wpAny_mono (Q := fun c s => c = false ∧ C.At s) (isTrue_and (wpAny_isTrue_Compare1 ?_)) (fun c s w => ?_) fun _ _ e => e)
  · walk_at "loc"
    refine List_ (wpAny_items_nil (C.newList .nil (Nat.zero_le _) fun ev s C => ?_))
    refine ne_nilL (by have := hA.2.2; omega) C.r.1.2.1.2 C.r.2 (wpAny_truthy_bool ?_)
    have C := C.know (P := fun h => WAt w mu' h a _ ∧ (((Imm mu' h (rgD (p :: rs)) tv ∧ Imm mu' h (optD (W.S j).la) av) ∧ Imm mu' h (.lst (intD (takenOf (W.S j).sent (p :: rs)))) kv) ∧ Imm mu' h (.lst (intD ((W.B j).known ++ takenOf (W.S j).sent (p :: rs)))) kn)) C.r.1 fun h h' y k => ⟨y.1.kp k C.wrmu fun b q => C.offW (he b q), ⟨⟨y.2.1.1.1.kp k C.wrmu, y.2.1.1.2.kp k C.wrmu⟩, y.2.1.2.kp k C.wrmu⟩, y.2.2.kp k C.wrmu⟩
    by_cases htk : takenOf (W.S j).sent (p :: rs) = []
    · rw [if_neg (by rw [htk]; simp [intD])]; exact ⟨rfl, C⟩
    · rw [if_pos (by simpa [intD] using htk)]
      refine isTrue_and (isTrue_not (isTrue_plain ?_))
      walk_at "loc"
      refine wpAny_truthy_bool ?_
      rw [if_neg (by rw [decide_eq_true (hnew hk htk)]; decide)]
      exact ⟨rfl, C⟩
  obtain ⟨rfl, C⟩ := w
  rw [if_neg Bool.false_ne_true]
  refine isTrue_or_nil ?_
  rw [if_neg Bool.false_ne_true]
  walk_at "nil"
  -- return
  refine wpAny_execs_cons (wpAny_Return_some (BoolOp_or (wpAny_Compare1 ?_)))
  walk_at "loc"
  refine Constant_none (opt_is C.r.2.1.1.2 (wpAny_truthy_bool ?_))
  have hcase : (W.S j).la = none ∨ ∃ l, (W.S j).la = some l := by cases (W.S j).la <;> simp
  rcases hcase with hla | ⟨l, hla⟩
  · have e0 : (W.S j).la.isNone = true := by rw [hla]; rfl
    rw [if_pos e0]
    dsimp only
    rw [e0]
    exact fin _ C
  · rw [if_neg (by rw [hla]; simp)]
    refine BoolOp_one (wpAny_Compare1 ?_)
    walk_at "atr"
    have hsp := C.r.1.sp j
    obtain ⟨m, IM, F⟩ := hsp.at_
    have hla2 := F.la
    simp only [Wd.setB, Wd.S_same, hla, maxO] at hla2
    refine C.getA spOk IM hla2 fun v s hv im C => ?_
    obtain ⟨t₃, rfl⟩ := Imm.int_iff.mp im
    walk_at "loc"
    have ia := C.r.2.1.1.2
    rw [hla] at ia
    obtain ⟨t₄, rfl⟩ := Imm.int_iff.mp ia
    refine ge_int ?_
    have e : decide (l ≤ (if l < p.2 then p.2 else l)) = true := by split <;> simp <;> omega
    rw [e]
    exact fin _ C
end
-- part F16
/-- what _law_right asks -/
structure RightP (W : Wd) (i : Bool) : Prop where
  perm : ((W.S i).sent ++ (W.B i).known ++ (W.B i).lost).Perm ((List.range (W.S i).next.toNat).map fun (k : Nat) => (k : Int))
  next : 0 ≤ (W.S i).next ∧ (W.S i).next ≤ 50
  known : ∀ n ∈ (W.B i).known, hasNum (W.S (!i)).recv n = true
  acked : ∀ p ∈ (W.S i).acked, ∃ q ∈ (W.S (!i)).recv, q.1 ≤ p.1 ∧ p.2 ≤ q.2
  recv : ∀ p ∈ (W.S (!i)).recv, 0 ≤ p.1 ∧ p.2 ≤ (W.S i).next - 1
  la : ∀ n, (W.S i).la = some n → hasNum (W.S (!i)).recv n = true
  way : ∀ n told, (i, n, told) ∈ W.way → n ∈ (W.B i).known → ∀ o ∈ (W.S (!i)).sent, hasNum told o = false
structure RightB (W : Wd) : Prop where
  al : ∀ i, (W.S i).acked.length ≤ 60
  rl : ∀ i, (W.S i).recv.length ≤ 60
  sl : ∀ i, (W.S i).sent.length ≤ 60
  kl : ∀ i, (W.B i).known.length ≤ 60
  ll : ∀ i, (W.B i).lost.length ≤ 60
  wl : W.way.length ≤ 100
  tl : ∀ p ∈ W.way, p.2.2.length ≤ 60
section
variable {w : World} {G : Gd w (Kf w.params)} {z s : Shared} {A : Around} {E : Value → Shared → Prop} {mu mu' : List Addr} {a : Ads} {W : Wd}

theorem WAt.sides (I : WAt w mu z.heap a W) : True := trivial
set_option maxHeartbeats 4000000 in
theorem right_ (on : G.On z.heap) (hA : Ar 60 A) (hu : A.units + 1200 < cLine) (I : WAt w [] z.heap a W) (hD : a.Dis) {sv bv : Value}
    (Js : Imm [] z.heap (sidesD a) sv) (Jb : Imm [] z.heap (booksD a) bv) (hB : RightB W) (hR : ∀ i, RightP W i) {Q : Value → Shared → Prop}
    (h : ∀ s', Go [] z s' → Q (.bool true) s') :
    wpAny (model PP w) A (call (.ref 285) [sv, bv, .ref a.wy]) Q E z := by
  have he := I.there
  have al : Al [] z.heap := Al.nil
  let mu : List Addr := []
  refine enter (n := 59) (m := fun y => if y = "way" then some (.ref a.wy) else if y = "books" then some (bv) else if y = "sides" then some (sv) else none) (cm := fun _ => none) on hA (by k_is) (by rfl) (by with_unfolding_all rfl) (by rfl) (by with_unfolding_all rfl) (by with_unfolding_all rfl) (by decide) (by rfl) (by rfl) (by rfl)
    [] mu (fun mu h => WAt w mu h a W ∧ (Imm mu h (sidesD a) sv ∧ Imm mu h (booksD a) bv)) .nil (fun _ q => nomatch q) al (fun _ h' k f => ⟨I.enter k f, Js.enter k f, Jb.enter k f⟩) (fun _ h h' f x k => ⟨x.1.kp k mem_l (fun b q => offN (he b q) f), x.2.1.kp k mem_l, x.2.2.kp k mem_l⟩) ?_
  intro L wr mu' A s' hL hc hmu hN hA C
  have hw : ∀ b ∈ wr, b ∈ mu' := C.wrmu
  have C := (C.know (P := fun h => WAt w wr h a W ∧ (Imm wr h (sidesD a) sv ∧ Imm wr h (booksD a) bv)) ⟨C.r.1.less hw, C.r.2.1.less hw, C.r.2.2.less hw⟩ fun h h' y k => ⟨y.1.kp k (fun _ q => q) (fun b q => C.offW (he b q)), y.2.1.kp k fun _ q => q, y.2.2.kp k fun _ q => q⟩).muLess (nu := wr) hw (fun _ q => q) (fun _ q => nomatch q) hc
  have C0 := C
  refine wpAny_execs_cons (C.forRange hA.hd (Call_ ?_))
  walk_at "blt"
  refine callWith_type1 (wpAny_items_cons (C.cInt fun t₀ s C => wpAny_items_nil (call_range_1 ?_)))
  have C := (C.go (Go.ofH (Kp.push { cls := .type "range", data := .fields #[.int 0 s.toks, .int 2 t₀, .int 1 (s.toks + 1)] }))).tok (s.toks + 1 + 1)
  refine ⟨_, _, _, 2, _, _, _, _, C, rfl, IsRange.new _ _ _ _ _ _ _, by decide, fun Ia s₃ hI1 g₃ hI C₃ => ?_⟩
  have wI : ∀ b, b ∉ Ia :: wr → b ∉ Ia :: wr := fun b n q => n ((List.mem_cons.mp q).elim (fun q => q ▸ List.mem_cons_self) fun q => List.mem_cons_of_mem _ (C.wrmu b q))
  have aI : ∀ b ∈ a.all, b ∉ Ia :: wr := fun b q z => (List.mem_cons.mp z).elim (fun e => by obtain ⟨o, e'⟩ := C.r.1.there b q; rw [e, hI1] at e'; cases e') (C.offW (he b q))
  refine ⟨_, _, fun h => WAt w (Ia :: wr) h a W ∧ (Imm (Ia :: wr) h (sidesD a) sv ∧ Imm (Ia :: wr) h (booksD a) bv), fun i m cm R => m "sides" = some sv ∧ m "books" = some bv ∧ m "way" = some (.ref a.wy) ∧ R = fun h => WAt w (Ia :: wr) h a W ∧ (Imm (Ia :: wr) h (sidesD a) sv ∧ Imm (Ia :: wr) h (booksD a) bv),
    ⟨by with_unfolding_all rfl, by with_unfolding_all rfl, by with_unfolding_all rfl, rfl⟩, C₃.know ?_ ?_, ⟨?_, ?_, ?_⟩⟩
  · have kp : ∀ b o, b ∉ wr → (s.heap.push { cls := .type "range", data := .fields #[.int 0 s.toks, .int 2 t₀, .int 1 (s.toks + 1)] }).get? b = some o → s₃.heap.get? b = some o ∧ b ∉ Ia :: wr := fun b o n e => ⟨g₃.kp.all b o e, fun q => (List.mem_cons.mp q).elim (fun q => by rw [q, hI1] at e; cases e) n⟩
    exact ⟨C.r.1.gen kp fun b q o e => g₃.kp.all b o e, Imm.gen kp _ _ C.r.2.1, Imm.gen kp _ _ C.r.2.2⟩
  · exact fun h h' x k => ⟨x.1.kp k (fun b q => List.mem_cons_of_mem _ (C.wrmu b q)) (fun b q z => aI b q (List.mem_cons_of_mem _ z)), x.2.1.kp k fun b q => List.mem_cons_of_mem _ (C.wrmu b q), x.2.2.kp k fun b q => List.mem_cons_of_mem _ (C.wrmu b q)⟩
  · rintro i m cm R ⟨-, -, -, rfl⟩ h h' x k
    exact ⟨x.1.gen (fun b o n e => ⟨k b o (wI b n) e, n⟩) fun b q o e => k b o (aI b q) e, x.2.1.keep fun b o n e => k b o (wI b n) e, x.2.2.keep fun b o n e => k b o (wI b n) e⟩
  · rintro k v m cm R LP s hlt ⟨m1, m2, m3, rfl⟩ hLP C ⟨t, rfl⟩
    obtain ⟨i, hi⟩ : ∃ i : Bool, (k : Int) = b2i i := by
      rcases k with _ | _ | k
      · exact ⟨false, rfl⟩
      · exact ⟨true, rfl⟩
      · omega
    rw [hi]
    refine wpAny_assign_Name (C.st fun s C => ?_)
    refine wpAny_execs_cons (C.setThree hA.hd (Subscript_ ?_))
    walk_at "loc"
    walk_at "loc"
    refine item_two (x := a.x) C.r.1.2.1 (Subscript_ ?_)
    walk_at "loc"
    refine wpAny_BinOp (C.cInt fun _ s C => ?_)
    walk_at "loc"
    refine sub_int ?_
    have C := C.tok (s.toks + 1)
    rw [sub_b2i]
    refine item_two (x := a.x) C.r.1.2.1 (Subscript_ ?_)
    walk_at "loc"
    walk_at "loc"
    refine item_two (x := a.bk) C.r.1.2.2 ⟨_, _, _, _, C, fun s C => wpAny_assign_Name (C.st fun s C => wpAny_assign_Name (C.stc (by with_unfolding_all rfl) (fun s C => wpAny_assign_Name (C.st fun s C => ?_)) (hc "other" _ (mem_of_lookup (by with_unfolding_all rfl)))))⟩
    have aI' : ∀ b ∈ a.all, b ∉ Ia :: wr := aI
    -- sorted(..) != list(range(..))
    refine wpAny_execs_cons (wpAny_If (wpAny_isTrue_Compare1 (Call_ ?_)))
    walk_at "blt"
    refine callWith_method1 (wpAny_items_cons (wpAny_BinOp (wpAny_BinOp (Call_ ?_))))
    walk_at "blt"
    refine callWith_type1 (wpAny_items_cons ?_)
    walk_at "atr"
    obtain ⟨fs, IS, FS⟩ := (C.r.1.1.sp i).at_
    refine C.getA spOk IS FS.sent fun u s hv im C => ?_
    rw [Imm.raw_iff] at im; subst im
    refine wpAny_items_nil ((C.r.1.1.st i).list C.al hA.hd (Nat.le_trans (hB.sl i) (by decide)) fun u s g iu => ?_)
    have C := (C.go g).imm iu
    refine Subscript_ ?_
    walk_at "loc"
    refine C.cStr fun _ s C => ?_
    obtain ⟨fb, FB, BF⟩ := C.r.1.1.1.bk i
    refine FB.get BF.known fun kv s g ik => ?_
    have C := C.go g
    refine add_lst C.al C.r.2 ik (by simp [intD]; have := hB.sl i; have := hB.kl i; omega) fun u₂ s g iu₂ => ?_
    have C := (C.go g).imm iu₂
    refine Subscript_ ?_
    walk_at "loc"
    refine C.cStr fun _ s C => ?_
    obtain ⟨fb, FB, BF⟩ := C.r.1.1.1.1.bk i
    refine FB.get BF.lost fun lv s g il => ?_
    rw [Imm.raw_iff] at il; subst il
    have C := C.go g
    have ilo := (C.r.1.1.1.1.lo i).freeze (mu' := Ia :: wr) (fun _ q => q) (aI _ (a.mlo i))
    refine add_lst C.al C.r.2 ilo (by simp [intD]; have := hB.sl i; have := hB.kl i; have := hB.ll i; omega) fun u₃ s g iu₃ => ?_
    have C := C.go g
    have e3 : intD (W.S i).sent ++ intD (W.B i).known ++ intD (W.B i).lost = intD ((W.S i).sent ++ (W.B i).known ++ (W.B i).lost) := by simp [intD]
    rw [e3] at iu₃
    have hl3 : ((W.S i).sent ++ (W.B i).known ++ (W.B i).lost).length ≤ 50 := by rw [(hR i).perm.length_eq]; simp; have := (hR i).next; omega
    refine wpAny_items_nil (sorted_lst C.al iu₃ (by omega) fun u₄ ns s g iu₄ hp hs => ?_)
    have C := (C.go g).imm iu₄
    obtain ⟨N, hN⟩ : ∃ N : Nat, (W.S i).next = N := ⟨(W.S i).next.toNat, by have := (hR i).next.1; omega⟩
    have hN50 : N ≤ 50 := by have := (hR i).next.2; omega
    refine Call_ ?_
    walk_at "blt"
    refine callWith_type1 (wpAny_items_cons (Call_ ?_))
    walk_at "blt"
    refine callWith_type1 (wpAny_items_cons ?_)
    walk_at "atr"
    obtain ⟨fs, IS, FS⟩ := (C.r.1.1.1.1.1.sp i).at_
    refine C.getA spOk IS FS.next fun u s hv im C => ?_
    obtain ⟨tn, rfl⟩ := Imm.int_iff.mp im
    rw [hN]
    refine wpAny_items_nil (wpAny_mono (list_rangeN hA.hd C.al (by omega) fun u₅ s g iu₅ => ?_) (fun r s z => wpAny_items_nil z) fun _ _ e => e)
    have C := C.go g
    have ens : ns = (List.range N).map fun (k : Nat) => (k : Int) := by
      have hpp := hp.trans (hR i).perm
      rw [hN, Int.toNat_natCast] at hpp
      refine sorted_eq hpp hs ?_
      rw [List.pairwise_map]
      exact List.pairwise_lt_range.imp fun h => by omega
    refine ne_intL (by have := hA.2.2; omega) C.r.2 iu₅ (wpAny_truthy_bool ?_)
    rw [if_neg (by rw [ens]; simp)]
    walk_at "nil"
    have C := C.know (P := fun h => (WAt w (Ia :: wr) h a W ∧ (Imm (Ia :: wr) h (sidesD a) sv ∧ Imm (Ia :: wr) h (booksD a) bv)) ∧ LP h) C.r.1.1.1 fun h h' y k => ⟨⟨y.1.1.kp k (fun b q => List.mem_cons_of_mem _ q) (fun b q z => aI b q (List.mem_cons_of_mem _ z)), y.1.2.1.kp k (fun b q => List.mem_cons_of_mem _ q), y.1.2.2.kp k (fun b q => List.mem_cons_of_mem _ q)⟩, hLP _ _ _ (fun _ q => q) y.2 k⟩
    -- known numbers have come
    refine wpAny_execs_cons (wpAny_If (wpAny_isTrue_Compare1 (C.comp (cl := [("other", L + 1)]) hA.hd (by decide) rfl (by decide) (by with_unfolding_all rfl) ?_ ?_ ?_ (Subscript_ ?_))))
    · intro n c e
      cases List.mem_singleton.mp (mem_of_lookup e)
      with_unfolding_all rfl
    · simp
    · intro n c e
      cases List.mem_singleton.mp e
      exact mem_of_lookup (by with_unfolding_all rfl)
    walk_at "loc"
    refine C.cStr fun _ s C => ?_
    obtain ⟨fb, FB, BF⟩ := C.r.1.1.bk i
    refine FB.get BF.known fun kv s g ik => ?_
    have C := C.go g
    refine ⟨_, _, _, fun _ => false, fun d => d, ⟨C, ik, by simp [intD]; have := hB.kl i; omega, CompPk.ofName (fun _ => by with_unfolding_all rfl) ?_ ?_⟩, ?_⟩
    · intro C' mu'' mC s d v hd Cc e im
      obtain ⟨n, hn, rfl⟩ := List.mem_map.mp hd
      obtain ⟨t, rfl⟩ := Imm.int_iff.mp im
      refine wpAny_tests_one (isTrue_not (isTrue_plain (Call_ ?_)))
      walk_at "glo"
      refine callWith_K Cc.X (by k_is) (wpAny_items_cons ?_)
      walk_at "atc"
      obtain ⟨fs, IS, FS⟩ := (Cc.r.1.1.sp (!i)).at_
      refine IS.get spOk Cc.X FS.recv fun u hv im => ?_
      have Cc := Cc.tok (s.toks + 1)
      refine wpAny_items_cons (Cc.ld e (wpAny_items_nil ⟨Cc.X, ?_⟩))
      refine has_number_ Cc.on (hA.le (by omega)) Al.nil (Nat.le_trans (hB.rl _) (by decide)) (im.less fun _ q => nomatch q) fun s' g => wpAny_truthy_bool ?_
      exact ⟨by rw [(hR i).known n hn]; rfl, Cc.go0.trans g⟩
    · intro C' mu'' mC s d v hd hp
      cases hp
    intro acc s C
    refine List_ (wpAny_items_nil (C.newList .nil (Nat.zero_le _) fun u s C => ?_))
    refine ne_nilL (by have := hA.2.2; omega) C.r.1.2 C.r.2 (wpAny_truthy_bool ?_)
    rw [if_neg (by simp)]
    walk_at "nil"
    have C := C.know (P := fun h => (WAt w (Ia :: wr) h a W ∧ (Imm (Ia :: wr) h (sidesD a) sv ∧ Imm (Ia :: wr) h (booksD a) bv)) ∧ LP h) C.r.1.1 fun h h' y k => ⟨⟨y.1.1.kp k (fun b q => List.mem_cons_of_mem _ q) (fun b q z => aI b q (List.mem_cons_of_mem _ z)), y.1.2.1.kp k (fun b q => List.mem_cons_of_mem _ q), y.1.2.2.kp k (fun b q => List.mem_cons_of_mem _ q)⟩, hLP _ _ _ (fun _ q => q) y.2 k⟩
    -- within
    refine wpAny_execs_cons (wpAny_If (isTrue_or (isTrue_not (isTrue_plain (Call_ ?_)))))
    walk_at "glo"
    refine callWith_K C.X (by k_is) (wpAny_items_cons ?_)
    walk_at "atr"
    obtain ⟨fs, IS, FS⟩ := (C.r.1.1.sp i).at_
    refine C.getA spOk IS FS.acked fun u₁ s hv im C => ?_
    have C := C.imm im
    refine wpAny_items_cons ?_
    walk_at "atc"
    obtain ⟨fs, IS, FS⟩ := (C.r.1.1.1.sp (!i)).at_
    refine C.getA spOk IS FS.recv fun u₂ s hv im C => ?_
    refine wpAny_items_nil ⟨C.X, within_ C.on (hA.le (by omega)) C.al (hB.al i) (hB.rl _) C.r.2 im (hR i).acked fun s g => wpAny_truthy_bool ?_⟩
    have C := C.go g
    rw [if_neg (by decide)]
    refine isTrue_or (isTrue_not (isTrue_plain (Call_ ?_)))
    walk_at "glo"
    refine callWith_K C.X (by k_is) (wpAny_items_cons ?_)
    walk_at "atc"
    obtain ⟨fs, IS, FS⟩ := (C.r.1.1.1.sp (!i)).at_
    refine C.getA spOk IS FS.recv fun u₃ s hv im C => ?_
    have C := C.imm im
    refine wpAny_items_cons (List_ (wpAny_items_cons (Tuple_ (wpAny_items_cons (C.cInt fun _ s C => wpAny_items_cons (wpAny_BinOp ?_))))))
    walk_at "atr"
    obtain ⟨fs, IS, FS⟩ := (C.r.1.1.1.1.sp i).at_
    refine C.getA spOk IS FS.next fun u₄ s hv im C => ?_
    obtain ⟨tn, rfl⟩ := Imm.int_iff.mp im
    refine C.cInt fun _ s C => sub_int ?_
    have C := C.tok (s.toks + 1)
    refine wpAny_items_nil (C.newTuple (ds := [.int 0, .int ((W.S i).next - 1)]) (.cons .int (.cons .int .nil)) (by show 2 ≤ 1000; decide) fun pv s C => wpAny_items_nil (C.newList (ds := rgL [(0, (W.S i).next - 1)]) (.cons C.r.2 .nil) (by show 1 ≤ 1000; decide) fun lv s C => wpAny_items_nil ⟨C.X, ?_⟩))
    refine within_ C.on (hA.le (by omega)) C.al (hB.rl _) (by show 1 ≤ 60; decide) C.r.1.1.2 C.r.2 (fun p hp => ⟨(0, (W.S i).next - 1), by simp, (hR i).recv p hp⟩) fun s g => wpAny_truthy_bool ?_
    have C := C.go g
    rw [if_neg (by decide)]
    refine isTrue_or_nil ?_
    rw [if_neg (by decide)]
    walk_at "nil"
    have C := C.know (P := fun h => (WAt w (Ia :: wr) h a W ∧ (Imm (Ia :: wr) h (sidesD a) sv ∧ Imm (Ia :: wr) h (booksD a) bv)) ∧ LP h) C.r.1.1.1.1 fun h h' y k => ⟨⟨y.1.1.kp k (fun b q => List.mem_cons_of_mem _ q) (fun b q z => aI b q (List.mem_cons_of_mem _ z)), y.1.2.1.kp k (fun b q => List.mem_cons_of_mem _ q), y.1.2.2.kp k (fun b q => List.mem_cons_of_mem _ q)⟩, hLP _ _ _ (fun _ q => q) y.2 k⟩
    -- the greatest number told
    refine wpAny_execs_cons (wpAny_If (wpAny_mono (Q := fun c s => c = false ∧ C.At s) (isTrue_and (wpAny_isTrue_Compare1 ?_)) (fun c s wv => ?_) fun _ _ e => e))
    · walk_at "atr"
      obtain ⟨fs, IS, FS⟩ := (C.r.1.1.sp i).at_
      refine C.getA spOk IS FS.la fun u₁ s hv im C => ?_
      refine Constant_none (opt_isNot im (wpAny_truthy_bool ?_))
      have hcase : (W.S i).la = none ∨ ∃ l, (W.S i).la = some l := by cases (W.S i).la <;> simp
      rcases hcase with hla | ⟨l, hla⟩
      · rw [if_neg (by rw [hla]; simp)]; exact ⟨rfl, C⟩
      · rw [if_pos (by rw [hla]; rfl)]
        refine isTrue_and (isTrue_not (isTrue_plain (Call_ ?_)))
        walk_at "glo"
        refine callWith_K C.X (by k_is) (wpAny_items_cons ?_)
        walk_at "atc"
        obtain ⟨fs, IS, FS⟩ := (C.r.1.1.sp (!i)).at_
        refine C.getA spOk IS FS.recv fun u₂ s hv im C => ?_
        have C' := C.imm im
        refine wpAny_items_cons (Attribute_Name_ (C'.ld (by walk_at "lk") ?_))
        obtain ⟨fs, IS, FS⟩ := (C'.r.1.1.1.sp i).at_
        refine C'.getA spOk IS (FS.la.trans (by rw [hla])) fun u₃ s hv im C' => ?_
        obtain ⟨tn, rfl⟩ := Imm.int_iff.mp im
        refine wpAny_items_nil ⟨C'.X, has_number_ C'.on (hA.le (by omega)) C'.al (Nat.le_trans (hB.rl _) (by decide)) C'.r.2 fun s g => wpAny_truthy_bool ?_⟩
        rw [(hR i).la l hla, if_neg (by decide)]
        exact ⟨rfl, (C'.go g).know (C'.go g).r.1 C.stb⟩
    obtain ⟨rfl, C⟩ := wv
    rw [if_neg Bool.false_ne_true]
    walk_at "nil"
    -- the way
    have C1 := C
    have Ws := C.r.1.1
    have LPs := C.r.2
    have C := C.know (P := fun h => ∀ b o, b ∉ wr → s.heap.get? b = some o → h.get? b = some o) (fun b o _ e => e) fun h h' y k b o n e => k.keep b o n (y b o n e)
    refine wpAny_execs_cons (C.forList hA.hd ?_)
    walk_at "loc"
    refine ⟨_, _, _, W.way.map pkD, C, Ws.wy.freeze (fun _ q => q) (aI _ a.mwy), fun Ib s₄ hJ1 g₄ hJ C₄ => ?_⟩
    refine ⟨_, _, _, fun k' m' cm' R' => m' "sides" = some sv ∧ m' "books" = some bv ∧ m' "way" = some (.ref a.wy) ∧ m' "at" = some (.int (b2i i) t) ∧ m' "book" = some (.ref (a.bk i)) ∧ cm' "other" = some (.ref (a.x (!i))) ∧ R' = fun h => ∀ b o, b ∉ wr → s.heap.get? b = some o → h.get? b = some o,
      ⟨by walk_at "lk", by walk_at "lk", by walk_at "lk", by walk_at "lk", by walk_at "lk", by walk_at "lk", rfl⟩, C₄, ⟨?_, ?_, ?_⟩⟩
    · rintro k' m' cm' R' ⟨-, -, -, -, -, -, rfl⟩ h h' y kk b o n e
      refine kk b o (fun q => (List.mem_cons.mp q).elim (fun q => ?_) n) (y b o n e)
      rw [q, hJ1] at e; cases e
    · rintro k' v m' cm' R' LP' s' hlt' ⟨m1', m2', m3', m4', m5', c1', rfl⟩ hLP' C ⟨d, hd, im⟩
      simp only [List.getElem?_map, Option.map_eq_some_iff] at hd
      obtain ⟨⟨o, n, told⟩, hp, rfl⟩ := hd
      have hmem : (o, n, told) ∈ W.way := List.mem_of_getElem? hp
      refine assignTriple hA.hd im fun v₁ v₂ v₃ s' g i₁ i₂ i₃ => ?_
      obtain ⟨t₁, rfl⟩ := Imm.int_iff.mp i₁
      obtain ⟨t₂, rfl⟩ := Imm.int_iff.mp i₂
      have C := (C.go g).imm i₃
      refine wpAny_assign_Name (C.st fun s' C => wpAny_assign_Name (C.st fun s' C => wpAny_assign_Name (C.stc (by with_unfolding_all rfl) (fun s' C => ?_) (hc "told" _ (mem_of_lookup (by with_unfolding_all rfl))))))
      have kw : ∀ {h : Heap}, (∀ b o, b ∉ wr → s.heap.get? b = some o → h.get? b = some o) → WAt w (Ia :: wr) h a W := fun {h} y => Ws.gen (fun b o n e => ⟨y b o (fun q => n (List.mem_cons_of_mem _ q)) e, n⟩) fun b q o e => y b o (fun z => aI b q (List.mem_cons_of_mem _ z)) e
      refine wpAny_execs_cons (wpAny_If (wpAny_mono (Q := fun c s => c = false ∧ C.At s) (isTrue_and (wpAny_isTrue_Compare1 ?_)) (fun c s wv => ?_) fun _ _ e => e))
      · walk_at "loc"
        walk_at "loc"
        refine eq_int (wpAny_truthy_bool ?_)
        by_cases ho : o = i
        rotate_left
        · rw [if_neg (by simp; revert ho; cases o <;> cases i <;> simp [b2i])]; exact ⟨rfl, C⟩
        have hmem : (i, n, told) ∈ W.way := ho ▸ hmem
        rw [if_pos (by simp [ho])]
        refine isTrue_and (wpAny_isTrue_Compare1 ?_)
        walk_at "loc"
        refine Subscript_ ?_
        walk_at "loc"
        refine C.cStr fun _ s' C => ?_
        obtain ⟨fb, FB, BF⟩ := (kw C.r.1.1).bk i
        refine FB.get BF.known fun kv s' g ik => ?_
        have C := C.go g
        refine in_ints ik (wpAny_truthy_bool ?_)
        by_cases hn : n ∈ (W.B i).known
        rotate_left
        · rw [if_neg (by simpa using hn)]; exact ⟨rfl, C⟩
        rw [if_pos (by simpa using hn)]
        refine isTrue_and (wpAny_isTrue_Compare1 (C.compSent (cl := [("told", L + 2)]) hA.hd (by decide) rfl (by decide) (by with_unfolding_all rfl) ?_ ?_ ?_ ?_))
        · intro n c e
          cases List.mem_singleton.mp (mem_of_lookup e)
          with_unfolding_all rfl
        · simp
        · intro n c e
          cases List.mem_singleton.mp e
          exact mem_of_lookup (by with_unfolding_all rfl)
        walk_at "atc"
        obtain ⟨fs, IS, FS⟩ := ((kw C.r.1.1).sp (!i)).at_
        refine IS.get spOk C.X FS.sent fun u hv im => ?_
        have C := C.tok (s'.toks + 1)
        rw [Imm.raw_iff] at im; subst im
        have C₅ := C
        have T : SentAt PP w (Ib :: Ia :: wr) s'.heap (a.sx (!i)) (W.S (!i)).sent := (Ws.st (!i)).gen (fun b o n e => ⟨C.r.1.1 b o (fun q => n (List.mem_cons_of_mem _ q)) e, fun q => (List.mem_cons.mp q).elim (fun q => by rw [q, hJ1] at e; cases e) n⟩) fun o' e => C.r.1.1 _ o' (fun z => aI _ (a.msx _) (List.mem_cons_of_mem _ z)) e
        refine ⟨_, a.sx (!i), _, _, fun _ => false, fun d => d, C, rfl, T, Nat.le_trans (hB.sl _) (by decide), CompPk.ofName (fun _ => by with_unfolding_all rfl) ?_ ?_, ?_⟩
        · intro C' mu'' mC s d v hd Cc e im
          obtain ⟨n', hn', rfl⟩ := List.mem_map.mp hd
          obtain ⟨t', rfl⟩ := Imm.int_iff.mp im
          refine wpAny_tests_one (isTrue_plain (Call_ ?_))
          walk_at "glo"
          refine callWith_K Cc.X (by k_is) (wpAny_items_cons ?_)
          walk_at "cell"
          refine wpAny_items_cons (Cc.ld e (wpAny_items_nil ⟨Cc.X, ?_⟩))
          refine has_number_ Cc.on (hA.le (by omega)) Al.nil (Nat.le_trans (hB.tl _ hmem) (by decide)) (Cc.r.2.less fun _ q => nomatch q) fun s' g => wpAny_truthy_bool ?_
          exact ⟨(hR i).way n told hmem hn n' hn', Cc.go0.trans g⟩
        · intro C' mu'' mC s d v hd hp
          cases hp
        intro acc s' C
        refine List_ (wpAny_items_nil (C.newList .nil (Nat.zero_le _) fun u s' C => ?_))
        refine ne_nilL (by have := hA.2.2; omega) C.r.1.2 C.r.2 (wpAny_truthy_bool ?_)
        rw [if_neg (by simp)]
        exact ⟨rfl, C.know C.r.1.1 C₅.stb⟩
      obtain ⟨rfl, C⟩ := wv
      rw [if_neg Bool.false_ne_true]
      refine wpAny_execs_nil (wpAny_execs_nil ?_)
      exact ⟨C.mOf, C.cmOf, _, ⟨by walk_at "lk", by walk_at "lk", by walk_at "lk", by walk_at "lk", by walk_at "lk", by walk_at "lk", rfl⟩, C.know C.r.1 fun h h' y k => ⟨fun b o n e => k.keep b o n (y.1 b o n e), hLP' _ _ _ (fun b q => List.mem_cons_of_mem _ q) y.2 k⟩⟩
    · rintro m' cm' R' s' ⟨m1', m2', m3', -, -, -, rfl⟩ C
      have kp : Kp wr s.heap s'.heap := ⟨C.r, fun b q _ _ => C.al b (List.mem_cons_of_mem _ q)⟩
      refine wpAny_execs_nil ?_
      refine ⟨C.mOf, C.cmOf, _, ⟨m1', m2', m3', rfl⟩, C.know ⟨⟨Ws.kp kp (fun b q => List.mem_cons_of_mem _ q) (fun b q z => aI b q (List.mem_cons_of_mem _ z)), C1.r.1.2.1.kp kp (fun b q => List.mem_cons_of_mem _ q), C1.r.1.2.2.kp kp (fun b q => List.mem_cons_of_mem _ q)⟩, hLP _ _ _ (fun _ q => q) LPs kp⟩ C1.stb⟩
  · rintro m cm R s ⟨m1, m2, m3, rfl⟩ C
    exact wpAny_execs_cons (wpAny_Return_some (Constant_bool (h _ C.go0)))
end
end Mine

end

-- part Pl
section
set_option linter.unusedVariables false
namespace Mine

/-- descending, apart -/
structure NF (rs : List (Int × Int)) : Prop where
  le : ∀ p ∈ rs, p.1 ≤ p.2
  gap : rs.Pairwise fun p q => q.2 + 1 < p.1
theorem NF.nil : NF [] := ⟨fun _ q => (nomatch q), List.Pairwise.nil⟩
theorem NF.tail {p : Int × Int} {r : List (Int × Int)} (h : NF (p :: r)) : NF r := ⟨fun q hq => h.le q (List.mem_cons_of_mem _ hq), (List.pairwise_cons.mp h.gap).2⟩
theorem hasNum_iff {rs : List (Int × Int)} {n : Int} : hasNum rs n = true ↔ ∃ p ∈ rs, p.1 ≤ n ∧ n ≤ p.2 := by
  unfold hasNum
  rw [List.any_eq_true]
  simp
theorem hasNum_nil {n : Int} : hasNum [] n = false := rfl
theorem hasNum_cons {p : Int × Int} {r : List (Int × Int)} {n : Int} : hasNum (p :: r) n = true ↔ (p.1 ≤ n ∧ n ≤ p.2) ∨ hasNum r n = true := by
  rw [hasNum_iff, hasNum_iff]
  simp
theorem not_has {rs : List (Int × Int)} {n : Int} : hasNum rs n = false ↔ ¬hasNum rs n = true := by simp

def ins : List (Int × Int) → Int → Int → List (Int × Int)
  | [], lo, hi => [(lo, hi)]
  | p :: r, lo, hi => if p.1 > hi + 1 then p :: ins r lo hi else if p.2 < lo - 1 then (lo, hi) :: p :: r else ins r (min lo p.1) (max hi p.2)

theorem arIn : ∀ (rs : List (Int × Int)) (st : ArSt), st.isIn = true → (∀ p ∈ rs, p.1 ≤ st.hi + 1 ∧ p.2 < st.lo - 1) → rs.foldl arStep st = { st with found := st.found ++ rs }
  | [], st, _, _ => by simp
  | p :: r, st, h, hp => by
    have h1 := hp p List.mem_cons_self
    have e : arStep st p = { st with found := st.found ++ [p] } := by
      unfold arStep
      rw [if_neg (by omega), if_pos h1.2, if_pos h]
    rw [List.foldl_cons, e, arIn r { st with found := st.found ++ [p] } h fun q hq => hp q (List.mem_cons_of_mem _ hq)]
    simp
theorem arIns : ∀ (rs : List (Int × Int)) (f : List (Int × Int)) (lo hi : Int), lo ≤ hi → NF rs →
    (let st := rs.foldl arStep ⟨f, false, lo, hi⟩; if st.isIn then st.found else st.found ++ [(st.lo, st.hi)]) = f ++ ins rs lo hi
  | [], f, lo, hi, _, _ => by simp [ins]
  | p :: r, f, lo, hi, hl, hn => by
    have hp := hn.le p List.mem_cons_self
    rw [List.foldl_cons]
    unfold ins
    by_cases h1 : p.1 > hi + 1
    · have e : arStep ⟨f, false, lo, hi⟩ p = ⟨f ++ [p], false, lo, hi⟩ := by unfold arStep; dsimp only; rw [if_pos h1]
      rw [if_pos h1, e, arIns r (f ++ [p]) lo hi hl hn.tail]
      simp
    · rw [if_neg h1]
      by_cases h2 : p.2 < lo - 1
      · have e : arStep ⟨f, false, lo, hi⟩ p = ⟨f ++ [(lo, hi)] ++ [p], true, lo, hi⟩ := by unfold arStep; dsimp only; rw [if_neg h1, if_pos h2, if_neg Bool.false_ne_true]
        rw [if_pos h2, e, arIn r _ rfl fun q hq => ?_]
        · simp
        · have := (List.pairwise_cons.mp hn.gap).1 q hq
          have := hn.le q (List.mem_cons_of_mem _ hq)
          exact ⟨by dsimp only; omega, by dsimp only; omega⟩
      · have e : arStep ⟨f, false, lo, hi⟩ p = ⟨f, false, min lo p.1, max hi p.2⟩ := by unfold arStep; dsimp only; rw [if_neg h1, if_neg h2]
        rw [if_neg h2, e, arIns r f (min lo p.1) (max hi p.2) (by omega) hn.tail]
theorem addRange_eq {rs : List (Int × Int)} {lo hi : Int} (hl : lo ≤ hi) (hn : NF rs) : addRange rs lo hi = ins rs lo hi := by
  have := arIns rs [] lo hi hl hn
  simpa [addRange] using this
theorem has_ins : ∀ {rs : List (Int × Int)} {lo hi : Int} {n : Int}, lo ≤ hi → NF rs → (hasNum (ins rs lo hi) n = true ↔ hasNum rs n = true ∨ (lo ≤ n ∧ n ≤ hi))
  | [], lo, hi, n, _, _ => by simp [ins, hasNum]
  | p :: r, lo, hi, n, hl, hn => by
    have hp := hn.le p List.mem_cons_self
    unfold ins
    by_cases h1 : p.1 > hi + 1
    · rw [if_pos h1, hasNum_cons, hasNum_cons, has_ins hl hn.tail]
      constructor <;> intro h <;> rcases h with h | h <;> first | (rcases h with h | h <;> simp [h]) | simp [h]
    · rw [if_neg h1]
      by_cases h2 : p.2 < lo - 1
      · rw [if_pos h2, hasNum_cons (p := (lo, hi))]
        constructor <;> intro h <;> rcases h with h | h <;> simp [h]
      · rw [if_neg h2, has_ins (by omega) hn.tail, hasNum_cons]
        constructor
        · rintro (h | h)
          · exact .inl (.inr h)
          · by_cases q : lo ≤ n ∧ n ≤ hi
            · exact .inr q
            · exact .inl (.inl (by omega))
        · rintro ((h | h) | h)
          · exact .inr (by omega)
          · exact .inl h
          · exact .inr (by omega)
theorem ins_lt : ∀ {rs : List (Int × Int)} {lo hi M : Int}, hi < M → (∀ p ∈ rs, p.2 < M) → ∀ q ∈ ins rs lo hi, q.2 < M
  | [], lo, hi, M, h, _, q, hq => by simp [ins] at hq; subst hq; exact h
  | p :: r, lo, hi, M, h, hr, q, hq => by
    have hp := hr p List.mem_cons_self
    have hr' : ∀ p ∈ r, p.2 < M := fun p hp => hr p (List.mem_cons_of_mem _ hp)
    unfold ins at hq
    split at hq
    · rcases List.mem_cons.mp hq with rfl | hq
      · exact hp
      · exact ins_lt h hr' q hq
    · split at hq
      · rcases List.mem_cons.mp hq with rfl | hq
        · exact h
        · exact hr q hq
      · exact ins_lt (by omega) hr' q hq
theorem ins_nf : ∀ {rs : List (Int × Int)} {lo hi : Int}, lo ≤ hi → NF rs → NF (ins rs lo hi)
  | [], lo, hi, h, _ => ⟨fun q hq => by simp [ins] at hq; subst hq; exact h, by simp [ins]⟩
  | p :: r, lo, hi, h, hn => by
    have hp := hn.le p List.mem_cons_self
    have hg := (List.pairwise_cons.mp hn.gap).1
    unfold ins
    split
    · have ih := ins_nf h hn.tail
      refine ⟨fun q hq => ?_, List.pairwise_cons.mpr ⟨fun q hq => ?_, ih.gap⟩⟩
      · rcases List.mem_cons.mp hq with rfl | hq
        · exact hp
        · exact ih.le q hq
      · have := ins_lt (M := p.1 - 1) (by omega) (fun a ha => by have := hg a ha; omega) q hq
        omega
    · split
      · refine ⟨fun q hq => ?_, List.pairwise_cons.mpr ⟨fun q hq => ?_, hn.gap⟩⟩
        · rcases List.mem_cons.mp hq with rfl | hq
          · exact h
          · exact hn.le q hq
        · rcases List.mem_cons.mp hq with rfl | hq
          · dsimp only; omega
          · have := hg q hq
            dsimp only; omega
      · exact ins_nf (by omega) hn.tail
theorem NF.add {rs : List (Int × Int)} {lo hi : Int} (h : NF rs) (hl : lo ≤ hi) : NF (addRange rs lo hi) := by rw [addRange_eq hl h]; exact ins_nf hl h
theorem has_add {rs : List (Int × Int)} {lo hi n : Int} (h : NF rs) (hl : lo ≤ hi) : hasNum (addRange rs lo hi) n = true ↔ hasNum rs n = true ∨ (lo ≤ n ∧ n ≤ hi) := by rw [addRange_eq hl h]; exact has_ins hl h
theorem has_add1 {rs : List (Int × Int)} {n k : Int} (h : NF rs) : hasNum (addRange rs n n) k = true ↔ hasNum rs k = true ∨ k = n := by
  rw [has_add h (Int.le_refl _)]
  constructor <;> rintro (h | h) <;> first | exact .inl h | exact .inr (by omega)
theorem NF.len : ∀ {rs : List (Int × Int)} {a b : Int}, NF rs → a ≤ b + 1 → (∀ p ∈ rs, a ≤ p.1 ∧ p.2 < b) → 2 * (rs.length : Int) ≤ b - a + 1
  | [], a, b, _, h, _ => by simp; omega
  | p :: r, a, b, hn, h, hb => by
    have h1 := hb p List.mem_cons_self
    have hp := hn.le p List.mem_cons_self
    have hg := (List.pairwise_cons.mp hn.gap).1
    have := NF.len (a := a) (b := p.1 - 1) hn.tail (by omega) fun q hq => ⟨(hb q (List.mem_cons_of_mem _ hq)).1, by have := hg q hq; omega⟩
    simp only [List.length_cons, Int.natCast_add, Int.natCast_one]
    omega
/-- what is bounded as a set is short -/
theorem NF.short {rs : List (Int × Int)} {N : Int} (h : NF rs) (h0 : 0 ≤ N) (hb : ∀ n, hasNum rs n = true → 0 ≤ n ∧ n < N) : 2 * (rs.length : Int) ≤ N + 1 := by
  have := h.len (a := 0) (b := N) (by omega) fun p hp => by
    have hle := h.le p hp
    exact ⟨(hb p.1 (hasNum_iff.mpr ⟨p, hp, by omega, hle⟩)).1, (hb p.2 (hasNum_iff.mpr ⟨p, hp, hle, by omega⟩)).2⟩
  omega
/-- a range all of which is in a set of ranges is in one of them -/
theorem NF.one {rs : List (Int × Int)} (h : NF rs) {a : Int} : ∀ (k : Nat), (∀ n, a ≤ n → n ≤ a + k → hasNum rs n = true) → ∃ q ∈ rs, q.1 ≤ a ∧ a + k ≤ q.2
  | 0, hb => by
    obtain ⟨q, hq, h1, h2⟩ := hasNum_iff.mp (hb a (by omega) (by omega))
    exact ⟨q, hq, h1, by simpa using h2⟩
  | k + 1, hb => by
    obtain ⟨q, hq, h1, h2⟩ := NF.one h k fun n a b => hb n a (by omega)
    by_cases z : a + (k + 1 : Nat) ≤ q.2
    · exact ⟨q, hq, h1, z⟩
    · obtain ⟨q', hq', h3, h4⟩ := hasNum_iff.mp (hb (a + (k + 1 : Nat)) (by omega) (by omega))
      exfalso
      have key : ∀ {l : List (Int × Int)}, l.Pairwise (fun p q => q.2 + 1 < p.1) → q ∈ l → q' ∈ l → False := by
        intro l
        induction l with
        | nil => intro _ h; cases h
        | cons x r ih =>
          intro hp m1 m2
          rw [List.pairwise_cons] at hp
          rcases List.mem_cons.mp m1 with e1 | k1 <;> rcases List.mem_cons.mp m2 with e2 | k2
          · rw [e1] at h2 z; rw [e2] at h4; omega
          · rw [← e1] at hp; have := hp.1 _ k2; omega
          · rw [← e2] at hp; have := hp.1 _ k1; omega
          · exact ih hp.2 k1 k2
      exact key h.gap hq hq'
theorem NF.cover {rs os : List (Int × Int)} (h : NF rs) (ho : NF os) (hs : ∀ n, hasNum rs n = true → hasNum os n = true) : ∀ p ∈ rs, ∃ q ∈ os, q.1 ≤ p.1 ∧ p.2 ≤ q.2 := by
  intro p hp
  have hle := h.le p hp
  obtain ⟨q, hq, h1, h2⟩ := ho.one (a := p.1) (p.2 - p.1).toNat fun n a b => hs n (hasNum_iff.mpr ⟨p, hp, a, by omega⟩)
  exact ⟨q, hq, h1, by omega⟩
theorem NF.prune {rs : List (Int × Int)} (h : NF rs) (low : Int) : NF (pruneR rs low) := by
  unfold pruneR
  refine ⟨fun q hq => ?_, ?_⟩
  · obtain ⟨p, hp, rfl⟩ := List.mem_map.mp hq
    obtain ⟨hp, hl⟩ := List.mem_filter.mp hp
    have := h.le p hp
    simp at hl
    dsimp only; omega
  · rw [List.pairwise_map]
    refine (h.gap.filter _).imp fun {p q} z => ?_
    dsimp only; omega
theorem has_prune {rs : List (Int × Int)} {low n : Int} (hh : hasNum (pruneR rs low) n = true) : hasNum rs n = true := by
  obtain ⟨q, hq, h1, h2⟩ := hasNum_iff.mp hh
  unfold pruneR at hq
  obtain ⟨p, hp, rfl⟩ := List.mem_map.mp hq
  obtain ⟨hp, hl⟩ := List.mem_filter.mp hp
  dsimp only at h1 h2
  exact hasNum_iff.mpr ⟨p, hp, by omega, h2⟩
theorem NF.note {least : Int} : ∀ {told acked : List (Int × Int)}, NF acked → (∀ p ∈ told, p.1 ≤ p.2) → NF (noteF least told acked)
  | [], acked, h, _ => h
  | p :: r, acked, h, ht => by
    unfold noteF
    rw [List.foldl_cons]
    refine NF.note (told := r) ?_ fun q hq => ht q (List.mem_cons_of_mem _ hq)
    split
    · exact h.add (ht p List.mem_cons_self)
    · exact h
theorem has_note {least n : Int} : ∀ {told acked : List (Int × Int)}, NF acked → (∀ p ∈ told, p.1 ≤ p.2) → hasNum (noteF least told acked) n = true → hasNum acked n = true ∨ hasNum told n = true
  | [], acked, h, _, hh => .inl hh
  | p :: r, acked, h, ht, hh => by
    unfold noteF at hh
    rw [List.foldl_cons] at hh
    have hp := ht p List.mem_cons_self
    have hr : ∀ q ∈ r, q.1 ≤ q.2 := fun q hq => ht q (List.mem_cons_of_mem _ hq)
    have nf : NF (if least ≤ p.2 then addRange acked p.1 p.2 else acked) := by split; exact h.add hp; exact h
    rcases has_note (told := r) nf hr hh with z | z
    · split at z
      · rcases (has_add h hp).mp z with z | z
        · exact .inl z
        · exact .inr (hasNum_cons.mpr (.inl z))
      · exact .inl z
    · exact .inr (hasNum_cons.mpr (.inr z))
theorem has_take {told : List (Int × Int)} {k : Nat} {n : Int} (h : hasNum (told.take k) n = true) : hasNum told n = true := by
  obtain ⟨p, hp, z⟩ := hasNum_iff.mp h
  exact hasNum_iff.mpr ⟨p, List.mem_of_mem_take hp, z⟩

/-- what holds between the steps -/
structure Inv (W : Wd) (N : Nat) : Prop where
  perm : ∀ i, ((W.S i).sent ++ (W.B i).known ++ (W.B i).lost).Perm ((List.range (W.S i).next.toNat).map fun (k : Nat) => (k : Int))
  nx : ∀ i, 0 ≤ (W.S i).next ∧ (W.S i).next ≤ N
  asc : ∀ i, (W.S i).sent.Pairwise (· < ·)
  nf : ∀ i, NF (W.S i).recv
  rsub : ∀ i n, hasNum (W.S i).recv n = true → 0 ≤ n ∧ n < (W.S (!i)).next
  kn : ∀ i n, n ∈ (W.B i).known → hasNum (W.S (!i)).recv n = true
  anf : ∀ i, NF (W.S i).acked
  asub : ∀ i n, hasNum (W.S i).acked n = true → hasNum (W.S (!i)).recv n = true
  la : ∀ i n, (W.S i).la = some n → hasNum (W.S (!i)).recv n = true
  tnf : ∀ i, NF (W.B i).told
  tsub : ∀ i n, hasNum (W.B i).told n = true → hasNum (W.S i).recv n = true
  wl : W.way.length ≤ N
  wnum : ∀ i n t, (i, n, t) ∈ W.way → 0 ≤ n ∧ n < (W.S i).next
  wnf : ∀ i n t, (i, n, t) ∈ W.way → NF t
  wsub : ∀ i n t, (i, n, t) ∈ W.way → ∀ m, hasNum t m = true → hasNum (W.S i).recv m = true
  wuniq : ∀ i n t t', (i, n, t) ∈ W.way → (i, n, t') ∈ W.way → t = t'
  wmono : ∀ i n m t t', (i, n, t) ∈ W.way → (i, m, t') ∈ W.way → n < m → t' ≠ [] → ∀ k, hasNum t k = true → hasNum t' k = true
  wout : ∀ i n t, (i, n, t) ∈ W.way → hasNum (W.S (!i)).recv n = true → ∀ o ∈ (W.S (!i)).sent, hasNum t o = false
  new : ∀ i, (W.B i).newest = -1 ∨ ∃ t, (!i, (W.B i).newest, t) ∈ W.way ∧ t ≠ [] ∧ hasNum (W.S i).recv (W.B i).newest = true
  wall : ∀ i n, 0 ≤ n → n < (W.S i).next → ∃ t, (i, n, t) ∈ W.way

def Wd.init : Wd := { S := fun _ => sd0, B := fun _ => ⟨[], [], [], -1⟩, way := [] }
theorem Inv.init : Inv Wd.init 0 where
  perm i := by simp [Wd.init, sd0]
  nx i := by simp [Wd.init, sd0]
  asc i := by simp [Wd.init, sd0]
  nf i := NF.nil
  rsub i n h := by simp [Wd.init, sd0, hasNum] at h
  kn i n h := by simp [Wd.init] at h
  anf i := NF.nil
  asub i n h := by simp [Wd.init, sd0, hasNum] at h
  la i n h := by simp [Wd.init, sd0] at h
  tnf i := NF.nil
  tsub i n h := by simp [Wd.init, hasNum] at h
  wl := by simp [Wd.init]
  wnum i n t h := by simp [Wd.init] at h
  wnf i n t h := by simp [Wd.init] at h
  wsub i n t h := by simp [Wd.init] at h
  wuniq i n t t' h := by simp [Wd.init] at h
  wmono i n m t t' h := by simp [Wd.init] at h
  wout i n t h := by simp [Wd.init] at h
  new i := .inl rfl
  wall i n h h' := by simp [Wd.init, sd0] at h'; omega
theorem Inv.more {W : Wd} {N M : Nat} (I : Inv W N) (h : N ≤ M) : Inv W M := { I with nx := fun i => ⟨(I.nx i).1, by have := (I.nx i).2; omega⟩, wl := Nat.le_trans I.wl h }

section
variable {W : Wd} {N : Nat}
theorem Inv.rlen (I : Inv W N) (i : Bool) : 2 * ((W.S i).recv.length : Int) ≤ N + 1 := by
  have := (I.nf i).short (I.nx (!i)).1 (I.rsub i)
  have := (I.nx (!i)).2
  omega
theorem Inv.mem (I : Inv W N) (i : Bool) {n : Int} (h : n ∈ (W.S i).sent ∨ n ∈ (W.B i).known ∨ n ∈ (W.B i).lost) : 0 ≤ n ∧ n < (W.S i).next := by
  have hm : n ∈ (W.S i).sent ++ (W.B i).known ++ (W.B i).lost := by
    rw [List.mem_append, List.mem_append]
    rcases h with h | h | h
    · exact .inl (.inl h)
    · exact .inl (.inr h)
    · exact .inr h
  have := (I.perm i).mem_iff.mp hm
  obtain ⟨k, hk, rfl⟩ := List.mem_map.mp this
  have := List.mem_range.mp hk
  omega
theorem Inv.lens (I : Inv W N) (i : Bool) : (W.S i).sent.length + (W.B i).known.length + (W.B i).lost.length ≤ N := by
  have := (I.perm i).length_eq
  simp at this
  have := (I.nx i)
  omega
theorem Inv.alen (I : Inv W N) (i : Bool) : 2 * ((W.S i).acked.length : Int) ≤ N + 1 := by
  have := (I.anf i).short (I.nx i).1 fun n h => by
    have := I.rsub (!i) n (I.asub i n h)
    simpa using this
  have := (I.nx i).2
  omega
theorem Inv.tlen (I : Inv W N) (i : Bool) : 2 * ((W.B i).told.length : Int) ≤ N + 1 := by
  have := (I.tnf i).short (I.nx (!i)).1 fun n h => I.rsub i n (I.tsub i n h)
  have := (I.nx (!i)).2
  omega
theorem Inv.wlen (I : Inv W N) {i : Bool} {n : Int} {t : List (Int × Int)} (h : (i, n, t) ∈ W.way) : 2 * (t.length : Int) ≤ N + 1 := by
  have := (I.wnf i n t h).short (I.nx (!i)).1 fun m hm => I.rsub i m (I.wsub i n t h m hm)
  have := (I.nx (!i)).2
  omega
theorem Inv.rightP (I : Inv W N) (hN : N ≤ 50) (i : Bool) : RightP W i where
  perm := I.perm i
  next := ⟨(I.nx i).1, by have := (I.nx i).2; omega⟩
  known := I.kn i
  acked := (I.anf i).cover (I.nf (!i)) (I.asub i)
  recv := fun p hp => by
    have hle := (I.nf (!i)).le p hp
    have h1 := I.rsub (!i) p.1 (hasNum_iff.mpr ⟨p, hp, by omega, hle⟩)
    have h2 := I.rsub (!i) p.2 (hasNum_iff.mpr ⟨p, hp, hle, by omega⟩)
    rw [Bool.not_not] at h1 h2
    omega
  la := I.la i
  way := fun n told hm hk => I.wout i n told hm (I.kn i n hk)
theorem Inv.rightB (I : Inv W N) (hN : N ≤ 50) : RightB W where
  al i := by have := I.alen i; omega
  rl i := by have := I.rlen i; omega
  sl i := by have := I.lens i; omega
  kl i := by have := I.lens i; omega
  ll i := by have := I.lens i; omega
  wl := by have := I.wl; omega
  tl p hp := by obtain ⟨i, n, t⟩ := p; have := I.wlen hp; dsimp only; omega
end
end Mine
end

-- part Pm
section
set_option linter.unusedVariables false
namespace Mine
section
variable {W : Wd} {N : Nat}
theorem goes_S (i : Bool) (told : List (Int × Int)) (k : Bool) : (W.goes i told).S k = if k = i then { W.S i with next := (W.S i).next + 1, sent := (W.S i).sent ++ [(W.S i).next] } else W.S k := by
  unfold Wd.goes
  split <;> rfl
theorem goes_B (i : Bool) (told : List (Int × Int)) (k : Bool) : (W.goes i told).B k = if k = i then (if told = [] then W.B i else { W.B i with told := told }) else W.B k := by
  unfold Wd.goes
  split
  · show W.B k = _
    split
    · next h => rw [h]
    · rfl
  · show (if k = i then _ else W.B k) = _
    rfl
theorem goes_way (i : Bool) (told : List (Int × Int)) : (W.goes i told).way = W.way ++ [(i, (W.S i).next, told)] := by
  unfold Wd.goes
  split <;> rfl
theorem range_snoc {n : Int} (h : 0 ≤ n) : ((List.range (n + 1).toNat).map fun (k : Nat) => (k : Int)) = ((List.range n.toNat).map fun (k : Nat) => (k : Int)) ++ [n] := by
  have e : (n + 1).toNat = n.toNat + 1 := by omega
  rw [e, List.range_succ, List.map_append, List.map_singleton]
  congr 2
  omega

theorem Inv.goes (I : Inv W N) (i : Bool) {told : List (Int × Int)} (ht : told = [] ∨ told = (W.S i).recv) : Inv (W.goes i told) (N + 1) := by
  have hsub : ∀ m, hasNum told m = true → hasNum (W.S i).recv m = true := fun m h => by rcases ht with rfl | rfl; simp [hasNum] at h; exact h
  have hnf : NF told := by rcases ht with rfl | rfl; exact .nil; exact I.nf i
  have hrecv : ∀ k, ((W.goes i told).S k).recv = (W.S k).recv := fun k => by rw [goes_S]; split; rename_i h; rw [h]; rfl
  have hnext : ∀ k, (W.S k).next ≤ ((W.goes i told).S k).next := fun k => by rw [goes_S]; split; rename_i h; rw [h]; dsimp only; omega; exact Int.le_refl _
  have hknown : ∀ k, ((W.goes i told).B k).known = (W.B k).known := fun k => by
    rw [goes_B]; split
    · rename_i h; rw [h]; split <;> rfl
    · rfl
  have hlost : ∀ k, ((W.goes i told).B k).lost = (W.B k).lost := fun k => by
    rw [goes_B]; split
    · rename_i h; rw [h]; split <;> rfl
    · rfl
  have hnew : ∀ k, ((W.goes i told).B k).newest = (W.B k).newest := fun k => by
    rw [goes_B]; split
    · rename_i h; rw [h]; split <;> rfl
    · rfl
  have hacked : ∀ k, ((W.goes i told).S k).acked = (W.S k).acked := fun k => by rw [goes_S]; split; rename_i h; rw [h]; rfl
  have hla : ∀ k, ((W.goes i told).S k).la = (W.S k).la := fun k => by rw [goes_S]; split; rename_i h; rw [h]; rfl
  have htold : ∀ k, ((W.goes i told).B k).told = (W.B k).told ∨ (k = i ∧ ((W.goes i told).B k).told = told) := fun k => by
    rw [goes_B]; split
    · rename_i h; rw [h]; split
      · exact .inl rfl
      · exact .inr ⟨rfl, rfl⟩
    · exact .inl rfl
  have hsent : ∀ k o, o ∈ ((W.goes i told).S k).sent → o ∈ (W.S k).sent ∨ o = (W.S k).next := fun k o h => by
    rw [goes_S] at h; split at h
    · rename_i z; rw [z]; rcases List.mem_append.mp h with h | h; exact .inl h; exact .inr (List.mem_singleton.mp h)
    · exact .inl h
  have hway : ∀ j n t, (j, n, t) ∈ (W.goes i told).way → (j, n, t) ∈ W.way ∨ (j = i ∧ n = (W.S i).next ∧ t = told) := fun j n t h => by
    rw [goes_way] at h
    rcases List.mem_append.mp h with h | h
    · exact .inl h
    · have := List.mem_singleton.mp h
      simp at this; exact .inr this
  have hwayl : ∀ p, p ∈ W.way → p ∈ (W.goes i told).way := fun p h => by rw [goes_way]; exact List.mem_append.mpr (.inl h)
  refine { perm := fun k => ?_, nx := fun k => ?_, asc := fun k => ?_, nf := fun k => ?_, rsub := fun k n h => ?_, kn := fun k n h => ?_, anf := fun k => ?_, asub := fun k n h => ?_, la := fun k n h => ?_, tnf := fun k => ?_, tsub := fun k n h => ?_, wl := ?_, wnum := fun j n t h => ?_, wnf := fun j n t h => ?_, wsub := fun j n t h m hm => ?_, wuniq := fun j n t t' h h' => ?_, wmono := fun j n m t t' h h' hl hne k hk => ?_, wout := fun j n t h hr o ho => ?_, new := fun k => ?_, wall := fun j n h0 h1 => ?_ }
  · rw [hknown, hlost, goes_S]
    split
    · next h =>
      subst h
      dsimp only
      rw [range_snoc (I.nx k).1]
      refine List.Perm.trans ?_ ((I.perm k).append_right [(W.S k).next])
      simp only [List.append_assoc]
      refine List.Perm.append_left _ ?_
      refine List.perm_append_comm.trans ?_
      simp
    · exact I.perm k
  · rw [goes_S]
    have := I.nx k
    split
    · next h => subst h; dsimp only; omega
    · omega
  · rw [goes_S]
    split
    · next h =>
      subst h
      dsimp only
      rw [List.pairwise_append]
      refine ⟨I.asc k, List.pairwise_singleton _ _, fun a ha b hb => ?_⟩
      rw [List.mem_singleton.mp hb]
      exact (I.mem k (.inl ha)).2
    · exact I.asc k
  · rw [hrecv]; exact I.nf k
  · rw [hrecv] at h
    have := I.rsub k n h
    have := hnext (!k)
    omega
  · rw [hknown] at h; rw [hrecv]; exact I.kn k n h
  · rw [hacked]; exact I.anf k
  · rw [hacked] at h; rw [hrecv]; exact I.asub k n h
  · rw [hla] at h; rw [hrecv]; exact I.la k n h
  · rcases htold k with z | ⟨-, z⟩
    · rw [z]; exact I.tnf k
    · rw [z]; exact hnf
  · rw [hrecv]
    rcases htold k with z | ⟨e, z⟩
    · rw [z] at h; exact I.tsub k n h
    · rw [z] at h; subst e; exact hsub n h
  · rw [goes_way, List.length_append]
    have := I.wl
    simp; omega
  · rcases hway j n t h with h | ⟨rfl, rfl, rfl⟩
    · have := I.wnum j n t h
      have := hnext j
      omega
    · rw [goes_S, if_pos rfl]
      have := I.nx j
      dsimp only; omega
  · rcases hway j n t h with h | ⟨rfl, rfl, rfl⟩
    · exact I.wnf j n t h
    · exact hnf
  · rw [hrecv]
    rcases hway j n t h with h | ⟨rfl, rfl, rfl⟩
    · exact I.wsub j n t h m hm
    · exact hsub m hm
  · rcases hway j n t h with k₁ | ⟨e₁, e₂, e₃⟩ <;> rcases hway j n t' h' with k₂ | ⟨e₄, e₅, e₆⟩
    · exact I.wuniq j n t t' k₁ k₂
    · have := I.wnum j n t k₁
      rw [e₄] at this; omega
    · have := I.wnum j n t' k₂
      rw [e₁] at this; omega
    · rw [e₃, e₆]
  · rcases hway j n t h with k₁ | ⟨e₁, e₂, e₃⟩ <;> rcases hway j m t' h' with k₂ | ⟨e₄, e₅, e₆⟩
    · exact I.wmono j n m t t' k₁ k₂ hl hne k hk
    · have := I.wsub j n t k₁ k hk
      rw [e₄] at this
      rw [e₆] at hne ⊢
      rcases ht with z | z
      · exact absurd z hne
      · rw [z]; exact this
    · have := I.wnum j m t' k₂
      rw [e₁] at this; omega
    · omega
  · rw [hrecv] at hr
    rcases hway j n t h with h | ⟨rfl, rfl, rfl⟩
    · rcases hsent _ o ho with ho | rfl
      · exact I.wout j n t h hr o ho
      · rw [not_has]
        intro z
        have := I.rsub j _ (I.wsub j n t h _ z)
        omega
    · have := I.rsub _ _ hr
      rw [Bool.not_not] at this
      omega
  · rw [hnew, hrecv]
    rcases I.new k with z | ⟨t, m, a, b⟩
    · exact .inl z
    · exact .inr ⟨t, hwayl _ m, a, b⟩
  · by_cases e : j = i ∧ n = (W.S i).next
    · exact ⟨told, by rw [goes_way]; exact List.mem_append.mpr (.inr (by rw [e.1, e.2]; exact List.mem_singleton.mpr rfl))⟩
    · have h2 : n < (W.S j).next := by
        rw [goes_S] at h1
        split at h1
        · next z => subst z; dsimp only at h1; simp at e; omega
        · exact h1
      obtain ⟨t, ht⟩ := I.wall j n h0 h2
      exact ⟨t, hwayl _ ht⟩

theorem part_perm (l : List Int) (p : Int → Bool) : (l.filter p ++ l.filter fun x => !p x).Perm l := List.filter_append_perm p l

/-- what a packet that came makes of it -/
def Comes (W W' : Wd) (j : Bool) (n : Int) (told : List (Int × Int)) : Prop :=
  (hasNum (W.S j).recv n = true ∧ W' = W) ∨ (hasNum (W.S j).recv n = false ∧ told = [] ∧ W' = W.recvd j n) ∨ (hasNum (W.S j).recv n = false ∧ ∃ p rs least, told = p :: rs ∧ W' = W.acks j n p rs least)

/-- the two ways a new packet comes, told as one -/
structure Got (W W' : Wd) (j : Bool) (n : Int) (told : List (Int × Int)) : Prop where
  way : W'.way = W.way
  other : ∀ k, k ≠ j → W'.S k = W.S k ∧ W'.B k = W.B k
  next : (W'.S j).next = (W.S j).next
  recv : (W'.S j).recv = addRange (W.S j).recv n n
  sent : (W'.S j).sent = restOf (W.S j).sent told
  lost : (W'.B j).lost = (W.B j).lost
  told_ : (W'.B j).told = (W.B j).told
  known : (W'.B j).known = (W.B j).known ++ takenOf (W.S j).sent told
  acked : ∃ least, (W'.S j).acked = (W.S j).acked ∨ (W'.S j).acked = pruneR (noteF least told (W.S j).acked) least
  la : ∀ m, (W'.S j).la = some m → (W.S j).la = some m ∨ ∃ p ∈ told, p.2 = m
  newest : (W'.B j).newest = (W.B j).newest ∨ (told ≠ [] ∧ (W'.B j).newest = n)
theorem restOf_nil (l : List Int) : restOf l [] = l := by unfold restOf; simp [hasNum]
theorem takenOf_nil (l : List Int) : takenOf l [] = [] := by unfold takenOf; simp [hasNum]
theorem Comes.got {W' : Wd} {j : Bool} {n : Int} {told : List (Int × Int)} (C : Comes W W' j n told) : W' = W ∨ (hasNum (W.S j).recv n = false ∧ Got W W' j n told) := by
  rcases C with ⟨-, e⟩ | ⟨h, rfl, rfl⟩ | ⟨h, p, rs, least, rfl, rfl⟩
  · exact .inl e
  · refine .inr ⟨h, ?_⟩
    have eS : (W.recvd j n).S j = { W.S j with recv := addRange (W.S j).recv n n } := Wd.S_same _ _ _
    exact { way := rfl, other := fun k hk => ⟨by simp [Wd.recvd, Wd.setS, hk], rfl⟩, next := by rw [eS], recv := by rw [eS], sent := by rw [eS, restOf_nil], lost := rfl, told_ := rfl, known := by rw [takenOf_nil, List.append_nil]; rfl, acked := ⟨0, .inl (by rw [eS])⟩, la := fun m hm => .inl (by rw [eS] at hm; exact hm), newest := .inl rfl }
  · refine .inr ⟨h, ?_⟩
    have eS : (W.acks j n p rs least).S j = { W.S j with recv := addRange (W.S j).recv n n, sent := restOf (W.S j).sent (p :: rs), la := maxO (W.S j).la p.2, acked := pruneR (noteF least (p :: rs) (W.S j).acked) least } := Wd.S_same _ _ _
    have eB : (W.acks j n p rs least).B j = { W.B j with known := (W.B j).known ++ takenOf (W.S j).sent (p :: rs), newest := max (W.B j).newest n } := Wd.B_same _ _ _
    refine { way := rfl, other := fun k hk => ⟨by simp [Wd.acks, Wd.setS, Wd.setB, hk], by simp [Wd.acks, Wd.setS, Wd.setB, hk]⟩, next := by rw [eS], recv := by rw [eS], sent := by rw [eS], lost := by rw [eB], told_ := by rw [eB], known := by rw [eB], acked := ⟨least, .inr (by rw [eS])⟩, la := fun m hm => ?_, newest := ?_ }
    · rw [eS] at hm
      dsimp only [maxO] at hm
      split at hm
      · simp at hm; exact .inr ⟨p, List.mem_cons_self, hm⟩
      · next l hl =>
        simp only [Option.some.injEq] at hm
        split at hm
        · exact .inr ⟨p, List.mem_cons_self, hm⟩
        · exact .inl (by rw [hl, hm])
    · rw [eB]
      dsimp only
      by_cases q : (W.B j).newest ≤ n
      · exact .inr ⟨by simp, by omega⟩
      · exact .inl (by omega)

theorem Inv.got (I : Inv W N) {W' : Wd} {i : Bool} {n : Int} {told : List (Int × Int)} (hw : (i, n, told) ∈ W.way) (C : Got W W' (!i) n told) : Inv W' N := by
  have hni := I.wnum i n told hw
  have nfj := I.nf (!i)
  have hi : W'.S i = W.S i ∧ W'.B i = W.B i := C.other i (by cases i <;> decide)
  have hr : ∀ k m, hasNum (W'.S k).recv m = true ↔ hasNum (W.S k).recv m = true ∨ (k = !i ∧ m = n) := fun k m => by
    by_cases q : k = !i
    · subst q; rw [C.recv, has_add1 nfj]; simp
    · rw [(C.other k q).1]; simp [q]
  have hup : ∀ k m, hasNum (W.S k).recv m = true → hasNum (W'.S k).recv m = true := fun k m h => (hr k m).mpr (.inl h)
  have htn := I.wnf i n told hw
  have hts : ∀ m, hasNum told m = true → hasNum (W.S i).recv m = true := I.wsub i n told hw
  have hnx : ∀ k, (W'.S k).next = (W.S k).next := fun k => by
    by_cases q : k = !i
    · subst q; exact C.next
    · rw [(C.other k q).1]
  have hsent : ∀ k o, o ∈ (W'.S k).sent → o ∈ (W.S k).sent := fun k o h => by
    by_cases q : k = !i
    · subst q; rw [C.sent] at h; exact (List.mem_filter.mp h).1
    · rw [(C.other k q).1] at h; exact h
  refine { perm := fun k => ?_, nx := fun k => ?_, asc := fun k => ?_, nf := fun k => ?_, rsub := fun k m h => ?_, kn := fun k m h => ?_, anf := fun k => ?_, asub := fun k m h => ?_, la := fun k m h => ?_, tnf := fun k => ?_, tsub := fun k m h => ?_, wl := ?_, wnum := fun j m t h => ?_, wnf := fun j m t h => ?_, wsub := fun j m t h m hm => ?_, wuniq := fun j m t t' h h' => ?_, wmono := fun j m m' t t' h h' hl hne k hk => ?_, wout := fun j m t h hr' o ho => ?_, new := fun k => ?_, wall := fun j m h0 h1 => ?_ }
  · rw [hnx]
    by_cases q : k = !i
    · subst q
      rw [C.sent, C.known, C.lost]
      refine List.Perm.trans ?_ (I.perm (!i))
      refine List.Perm.append_right _ ?_
      refine List.Perm.trans ?_ (List.Perm.append_right _ (part_perm (W.S (!i)).sent (hasNum told)))
      show (restOf _ told ++ ((W.B (!i)).known ++ takenOf _ told)).Perm _
      unfold restOf takenOf
      refine List.perm_append_comm.trans ?_
      rw [List.append_assoc, List.append_assoc]
      refine List.perm_append_comm.trans ?_
      rw [List.append_assoc]
    · rw [(C.other k q).1, (C.other k q).2]; exact I.perm k
  · rw [hnx]; exact I.nx k
  · by_cases q : k = !i
    · subst q; rw [C.sent]; exact (I.asc _).filter _
    · rw [(C.other k q).1]; exact I.asc k
  · by_cases q : k = !i
    · subst q; rw [C.recv]; exact nfj.add (Int.le_refl _)
    · rw [(C.other k q).1]; exact I.nf k
  · rw [hnx]
    rcases (hr k m).mp h with h | ⟨rfl, rfl⟩
    · exact I.rsub k m h
    · rw [Bool.not_not]; exact hni
  · by_cases q : k = !i
    · subst q
      rw [C.known] at h
      rcases List.mem_append.mp h with h | h
      · exact hup _ _ (I.kn _ m h)
      · rw [Bool.not_not]; exact hup _ _ (hts m (List.mem_filter.mp h).2)
    · rw [(C.other k q).2] at h
      exact hup _ _ (I.kn k m h)
  · by_cases q : k = !i
    · subst q
      obtain ⟨least, e | e⟩ := C.acked
      · rw [e]; exact I.anf _
      · rw [e]; exact ((I.anf _).note htn.le).prune _
    · rw [(C.other k q).1]; exact I.anf k
  · refine hup _ _ ?_
    by_cases q : k = !i
    · subst q
      obtain ⟨least, e | e⟩ := C.acked
      · rw [e] at h; exact I.asub _ m h
      · rw [e] at h
        rcases has_note (I.anf _) htn.le (has_prune h) with z | z
        · exact I.asub _ m z
        · rw [Bool.not_not]; exact hts m z
    · rw [(C.other k q).1] at h; exact I.asub k m h
  · refine hup _ _ ?_
    by_cases q : k = !i
    · subst q
      rcases C.la m h with z | ⟨p, hp, rfl⟩
      · exact I.la _ m z
      · rw [Bool.not_not]; exact hts _ (hasNum_iff.mpr ⟨p, hp, htn.le p hp, Int.le_refl _⟩)
    · rw [(C.other k q).1] at h; exact I.la k m h
  · by_cases q : k = !i
    · subst q; rw [C.told_]; exact I.tnf _
    · rw [(C.other k q).2]; exact I.tnf k
  · refine hup _ _ ?_
    by_cases q : k = !i
    · subst q; rw [C.told_] at h; exact I.tsub _ m h
    · rw [(C.other k q).2] at h; exact I.tsub k m h
  · rw [C.way]; exact I.wl
  · rw [C.way] at h; rw [hnx]; exact I.wnum j m t h
  · rw [C.way] at h; exact I.wnf j m t h
  · rw [C.way] at h; exact hup _ _ (I.wsub j _ t h m hm)
  · rw [C.way] at h h'; exact I.wuniq j m t t' h h'
  · rw [C.way] at h h'; exact I.wmono j m m' t t' h h' hl hne k hk
  · rw [C.way] at h
    rcases (hr _ m).mp hr' with hr' | ⟨e, rfl⟩
    · exact I.wout j m t h hr' o (hsent _ o ho)
    · have e' : j = i := by cases j <;> cases i <;> simp_all
      subst e'
      rw [I.wuniq j m t told h hw]
      rw [C.sent] at ho
      have := (List.mem_filter.mp ho).2
      simpa using this
  · by_cases q : k = !i
    · subst q
      rcases C.newest with e | ⟨hne, e⟩
      · rw [e, C.way]
        rcases I.new (!i) with z | ⟨t, m, a, b⟩
        · exact .inl z
        · exact .inr ⟨t, m, a, hup _ _ b⟩
      · rw [e, C.way]
        exact .inr ⟨told, by rw [Bool.not_not]; exact hw, hne, (hr _ _).mpr (.inr ⟨rfl, rfl⟩)⟩
    · rw [(C.other k q).2, C.way]
      rcases I.new k with z | ⟨t, m, a, b⟩
      · exact .inl z
      · exact .inr ⟨t, m, a, hup _ _ b⟩
  · rw [hnx] at h1; rw [C.way]; exact I.wall j m h0 h1
theorem Inv.comes (I : Inv W N) {W' : Wd} {i : Bool} {n : Int} {told : List (Int × Int)} (hw : (i, n, told) ∈ W.way) (C : Comes W W' (!i) n told) : Inv W' N := by
  rcases C.got with rfl | ⟨-, g⟩
  · exact I
  · exact I.got hw g

/-- what comes_ asks of a packet that is on the way -/
structure CanCome (W : Wd) (j : Bool) (n : Int) (told : List (Int × Int)) : Prop where
  n0 : 0 ≤ n
  r : (W.S j).recv.length < 60
  r' : (addRange (W.S j).recv n n).length ≤ 60
  sl : (W.S j).sent.length < 64
  srt : (W.S j).sent.Pairwise (· < ·)
  tl : told.length ≤ 60
  kl : (W.B j).known.length ≤ 100
  nb : ∀ least k, (noteF least (told.take k) (W.S j).acked).length ≤ 60
  bey : hasNum (W.S j).recv n = false → ∀ p rs, told = p :: rs → p.2 < (W.S j).next
  new : hasNum (W.S j).recv n = false → takenOf (W.S j).sent told ≠ [] → (W.B j).newest < n
theorem Inv.canCome (I : Inv W N) (hN : N ≤ 50) {i : Bool} {n : Int} {told : List (Int × Int)} (hw : (i, n, told) ∈ W.way) : CanCome W (!i) n told := by
  have hni := I.wnum i n told hw
  have htn := I.wnf i n told hw
  have hts := I.wsub i n told hw
  have hnx := I.nx i
  have hnj := I.nx (!i)
  refine ⟨hni.1, ?_, ?_, ?_, I.asc _, ?_, ?_, fun least k => ?_, fun hk p rs e => ?_, fun hk ht => ?_⟩
  · have := I.rlen (!i); omega
  · have := ((I.nf (!i)).add (lo := n) (Int.le_refl n)).short hnx.1 fun m hm => by
      rcases (has_add1 (I.nf (!i))).mp hm with h | rfl
      · have := I.rsub _ m h; rw [Bool.not_not] at this; exact this
      · exact hni
    omega
  · have := I.lens (!i); omega
  · have := I.wlen hw; omega
  · have := I.lens (!i); omega
  · have hle : ∀ p ∈ told.take k, p.1 ≤ p.2 := fun p hp => htn.le p (List.mem_of_mem_take hp)
    have := ((I.anf (!i)).note (least := least) hle).short hnj.1 fun m hm => by
      rcases has_note (I.anf (!i)) hle hm with h | h
      · have := I.asub _ m h; rw [Bool.not_not] at this; exact I.rsub _ m this
      · exact I.rsub i m (hts m (has_take h))
    omega
  · subst e
    have := I.rsub i p.2 (hts _ (hasNum_iff.mpr ⟨p, List.mem_cons_self, htn.le p List.mem_cons_self, Int.le_refl _⟩))
    exact this.2
  · rcases I.new (!i) with z | ⟨t, hm, hne, hr⟩
    · rw [z]; omega
    · rw [Bool.not_not] at hm
      by_cases h : (W.B (!i)).newest < n
      · exact h
      · exfalso
        have hne' : n ≠ (W.B (!i)).newest := fun e => by rw [e, hr] at hk; cases hk
        apply ht
        unfold takenOf
        rw [List.filter_eq_nil_iff]
        intro o ho hc
        have := I.wmono i n _ told t hw hm (by omega) hne o hc
        rw [I.wout i _ t hm hr o ho] at this
        cases this

def Wd.loses (W : Wd) (i : Bool) (n : Int) : Wd := (W.setS i { W.S i with sent := leftOf (W.S i).sent [n] }).setB i { W.B i with lost := (W.B i).lost ++ [n] }
theorem Inv.loses (I : Inv W N) (i : Bool) {n : Int} (hn : n ∈ (W.S i).sent) : Inv (W.loses i n) N := by
  have eS : ∀ k, (W.loses i n).S k = if k = i then { W.S i with sent := leftOf (W.S i).sent [n] } else W.S k := fun k => rfl
  have eB : ∀ k, (W.loses i n).B k = if k = i then { W.B i with lost := (W.B i).lost ++ [n] } else W.B k := fun k => rfl
  have hrecv : ∀ k, ((W.loses i n).S k).recv = (W.S k).recv := fun k => by rw [eS]; split; rename_i h; rw [h]; rfl
  have hnext : ∀ k, ((W.loses i n).S k).next = (W.S k).next := fun k => by rw [eS]; split; rename_i h; rw [h]; rfl
  have hacked : ∀ k, ((W.loses i n).S k).acked = (W.S k).acked := fun k => by rw [eS]; split; rename_i h; rw [h]; rfl
  have hla : ∀ k, ((W.loses i n).S k).la = (W.S k).la := fun k => by rw [eS]; split; rename_i h; rw [h]; rfl
  have hknown : ∀ k, ((W.loses i n).B k).known = (W.B k).known := fun k => by rw [eB]; split; rename_i h; rw [h]; rfl
  have htold : ∀ k, ((W.loses i n).B k).told = (W.B k).told := fun k => by rw [eB]; split; rename_i h; rw [h]; rfl
  have hnew : ∀ k, ((W.loses i n).B k).newest = (W.B k).newest := fun k => by rw [eB]; split; rename_i h; rw [h]; rfl
  have hsent : ∀ k o, o ∈ ((W.loses i n).S k).sent → o ∈ (W.S k).sent := fun k o h => by
    rw [eS] at h; split at h
    · rename_i z; rw [z]; exact (List.mem_filter.mp h).1
    · exact h
  have nd : (W.S i).sent.Nodup := (I.asc i).imp fun h => Int.ne_of_lt h
  refine { perm := fun k => ?_, nx := fun k => by rw [hnext]; exact I.nx k, asc := fun k => ?_, nf := fun k => by rw [hrecv]; exact I.nf k, rsub := fun k m h => by rw [hrecv] at h; rw [hnext]; exact I.rsub k m h, kn := fun k m h => by rw [hknown] at h; rw [hrecv]; exact I.kn k m h,
           anf := fun k => by rw [hacked]; exact I.anf k, asub := fun k m h => by rw [hacked] at h; rw [hrecv]; exact I.asub k m h, la := fun k m h => by rw [hla] at h; rw [hrecv]; exact I.la k m h, tnf := fun k => by rw [htold]; exact I.tnf k, tsub := fun k m h => by rw [htold] at h; rw [hrecv]; exact I.tsub k m h,
           wl := I.wl, wnum := fun j m t h => by rw [hnext]; exact I.wnum j m t h, wnf := I.wnf, wsub := fun j m t h k hk => by rw [hrecv]; exact I.wsub j m t h k hk, wuniq := I.wuniq, wmono := I.wmono, wout := fun j m t h hr o ho => by rw [hrecv] at hr; exact I.wout j m t h hr o (hsent _ o ho), new := fun k => by rw [hnew, hrecv]; exact I.new k,
           wall := fun j m h0 h1 => by rw [hnext] at h1; exact I.wall j m h0 h1 }
  · rw [hnext, hknown, eS, eB]
    by_cases q : k = i
    · subst q
      rw [if_pos rfl, if_pos rfl]
      dsimp only
      refine List.Perm.trans ?_ (I.perm k)
      have e1 : ((W.S k).sent).Perm (n :: leftOf (W.S k).sent [n]) := by
        have h1 := List.perm_cons_erase hn
        refine h1.trans (List.Perm.cons _ ?_)
        rw [nd.erase_eq_filter]
        refine List.Perm.of_eq (List.filter_congr fun a _ => ?_)
        by_cases z : a = n <;> simp [List.contains_eq_mem, bne, z]
      refine List.Perm.trans ?_ (((e1.append_right _).append_right _).symm)
      rw [← List.append_assoc]
      refine List.perm_append_comm.trans ?_
      simp
    · rw [if_neg q, if_neg q]; exact I.perm k
  · rw [eS]
    split
    · next h => subst h; exact (I.asc k).filter _
    · exact I.asc k
end
end Mine
end

-- part Pn
section
set_option linter.unusedVariables false
namespace Mine
section
variable {W W' : Wd} {N : Nat}
theorem goes_recv (i : Bool) (told : List (Int × Int)) (k : Bool) : ((W.goes i told).S k).recv = (W.S k).recv := by rw [goes_S]; split; rename_i h; rw [h]; rfl
theorem Comes.way {j : Bool} {n : Int} {told : List (Int × Int)} (C : Comes W W' j n told) : W'.way = W.way := by
  rcases C.got with rfl | ⟨-, g⟩
  · rfl
  · exact g.way
theorem Comes.mono (I : Inv W N) {j : Bool} {n : Int} {told : List (Int × Int)} (C : Comes W W' j n told) {k : Bool} {m : Int} (h : hasNum (W.S k).recv m = true) : hasNum (W'.S k).recv m = true := by
  rcases C.got with rfl | ⟨-, g⟩
  · exact h
  · by_cases q : k = j
    · subst q; rw [g.recv, has_add1 (I.nf k)]; exact .inl h
    · rw [(g.other k q).1]; exact h
theorem Comes.has (I : Inv W N) {j : Bool} {n : Int} {told : List (Int × Int)} (C : Comes W W' j n told) : hasNum (W'.S j).recv n = true := by
  have z : hasNum (W.S j).recv n = true ∨ hasNum (W.S j).recv n = false := by cases hasNum (W.S j).recv n <;> simp
  rcases C.got with rfl | ⟨-, g⟩
  · rcases C with ⟨h, -⟩ | ⟨h, e, e'⟩ | ⟨h, p, rs, l, e, e'⟩
    · exact h
    · rw [e']; show hasNum ((W'.setS j _).S j).recv n = true
      rw [Wd.S_same, has_add1 (I.nf j)]; exact .inr rfl
    · rw [e']
      show hasNum ((W'.setS j _).S j).recv n = true
      rw [Wd.S_same, has_add1 (I.nf j)]; exact .inr rfl
  · rw [g.recv, has_add1 (I.nf j)]; exact .inr rfl
def AllCome (W : Wd) (i : Bool) : Prop := ∀ n, 0 ≤ n → n < (W.S i).next → hasNum (W.S (!i)).recv n = true
theorem Inv.allCome (I : Inv W N) (h : ∀ i n t, (i, n, t) ∈ W.way → hasNum (W.S (!i)).recv n = true) (i : Bool) : AllCome W i := fun n h0 h1 => by
  obtain ⟨t, ht⟩ := I.wall i n h0 h1
  exact h i n t ht
structure Last (W W' : Wd) (i : Bool) : Prop where
  mine : AllCome W' i
  theirs : AllCome W' (!i)
  empty : (W'.S (!i)).sent = []
  sent : (W'.S i).sent = (W.S i).sent ++ [(W.S i).next]
  next : (W'.S i).next = (W.S i).next + 1
theorem Inv.last (I : Inv W N) (i : Bool) (h0 : AllCome W i) (h1 : AllCome W (!i)) (C : Comes (W.goes i (W.S i).recv) W' (!i) (W.S i).next (W.S i).recv) : Last W W' i := by
  have J := I.goes i (.inr rfl)
  have hne : i ≠ !i := by cases i <;> decide
  have hne' : (!i) ≠ i := Ne.symm hne
  have eo : ((W.goes i (W.S i).recv).S (!i)) = W.S (!i) := by rw [goes_S, if_neg hne']
  have es : ((W.goes i (W.S i).recv).S i) = { W.S i with next := (W.S i).next + 1, sent := (W.S i).sent ++ [(W.S i).next] } := by rw [goes_S, if_pos rfl]
  have hno : hasNum ((W.goes i (W.S i).recv).S (!i)).recv (W.S i).next = false := by
    rw [not_has, eo]
    intro z
    have := I.rsub _ _ z
    rw [Bool.not_not] at this
    omega
  have hr : ∀ m, hasNum (W.S (!i)).recv m = true → hasNum (W'.S (!i)).recv m = true := fun m h => C.mono J (by rw [eo]; exact h)
  have hh := C.has J
  have g : Got (W.goes i (W.S i).recv) W' (!i) (W.S i).next (W.S i).recv := by
    rcases C.got with rfl | ⟨-, g⟩
    · rw [hh] at hno; cases hno
    · exact g
  have ei : W'.S i = { W.S i with next := (W.S i).next + 1, sent := (W.S i).sent ++ [(W.S i).next] } := (g.other i hne).1.trans es
  refine ⟨fun n a b => ?_, fun n a b => ?_, ?_, by rw [ei], by rw [ei]⟩
  · rw [ei] at b
    dsimp only at b
    by_cases q : n = (W.S i).next
    · rw [q]; exact hh
    · exact hr n (h0 n a (by omega))
  · rw [g.next, eo] at b
    rw [Bool.not_not, ei]
    have := h1 n a b
    rw [Bool.not_not] at this
    exact this
  · rw [g.sent, eo]
    unfold restOf
    rw [List.filter_eq_nil_iff]
    intro o ho
    have := I.mem (!i) (.inl ho)
    have := h1 o this.1 this.2
    rw [Bool.not_not] at this
    simp [this]
end
end Mine
end

section
open PySem PySem.W PyProof.Rows PySem.Calls
set_option maxRecDepth 100000
set_option linter.unusedVariables false
namespace Mine
theorem fillF17 : (PySem.Challenge.rw_sj0112_01 = PySem.Challenge.rw_sj0112_01) ∧ (Kf = Kf) := by k_fill; exact ⟨rfl, rfl⟩
local macro_rules | `(tactic| walk_at "lk") => `(tactic| first | assumption | exact upd_eq | exact if_pos rfl | (refine upd_ne (by rfl) ?_; walk_at "lk") | (refine (if_neg (of_decide_eq_false (by rfl))).trans ?_; walk_at "lk"))
local macro_rules | `(tactic| walk_at "nil") => `(tactic| repeat (with_reducible refine wpAny_execs_nil ?_))
local macro_rules | `(tactic| walk_at "loc") => `(tactic| (refine' Cx.ld ?C ?v ?_; (case C => assumption); (case v => first | with_unfolding_all rfl | walk_at "lk")))
local macro_rules | `(tactic| walk_at "cell") => `(tactic| (refine' Cx.ldc ?C ?c ?v ?_; (case C => assumption); (case c => with_unfolding_all rfl); (case v => first | with_unfolding_all rfl | walk_at "lk")))
local macro_rules | `(tactic| walk_at "glo") => `(tactic| (refine' Cx.ldg ?C ?e ?_; (case C => assumption); (case e => k_is)))
local macro_rules | `(tactic| walk_at "blt") => `(tactic| (refine' Cx.ldb ?C ?e ?v ?_; (case C => assumption); (case e => k_is); (case v => boot_fast)))

local macro_rules | `(tactic| walk_at "atr") => `(tactic| (refine Attribute_Name_ ?_; walk_at "loc"))
local macro_rules | `(tactic| walk_at "atc") => `(tactic| (refine Attribute_Name_ ?_; walk_at "cell"))
-- part F17
/-- what the law's frame holds between its steps -/
structure LawAt (w : World) (mu : List Addr) (h : Heap) (a : Ads) (bx : Addr) (W : Wd) (ns : List Int) (k : Nat) (sv bv : Value) : Prop where
  wa : WAt w mu h a W
  bx : BoxAt mu h bx ns k
  sd : Imm mu h (sidesD a) sv
  bd : Imm mu h (booksD a) bv
section
variable {w : World} {G : Gd w (Kf w.params)} {s₀ s s' : Shared} {A : Around} {E : Value → Shared → Prop} {wr mu mu' : List Addr} {env : Env} {m cm : Str → Option Value} {P : Heap → Prop} {a : Ads} {bx : Addr} {W W' : Wd} {ns : List Int} {k k' N : Nat} {sv bv : Value} {h h' : Heap}
theorem LawAt.gen (I : LawAt w mu h a bx W ns k sv bv) (kp : ∀ b o, b ∉ mu → h.get? b = some o → h'.get? b = some o ∧ b ∉ mu') (kd : ∀ b ∈ bx :: a.all, ∀ o, h.get? b = some o → h'.get? b = some o) : LawAt w mu' h' a bx W ns k sv bv :=
  ⟨I.wa.gen kp fun b q => kd b (List.mem_cons_of_mem _ q), I.bx.gen kp (kd _ List.mem_cons_self), Imm.gen kp _ _ I.sd, Imm.gen kp _ _ I.bd⟩
theorem LawAt.kp (I : LawAt w mu h a bx W ns k sv bv) {V : List Addr} (kp : Kp V h h') (hV : ∀ b ∈ V, b ∈ mu) (hd : ∀ b ∈ bx :: a.all, b ∉ V) : LawAt w mu h' a bx W ns k sv bv :=
  I.gen (fun b o n e => ⟨kp.keep b o (fun q => n (hV b q)) e, n⟩) fun b q o e => kp.keep b o (hd b q) e
theorem LawAt.more (I : LawAt w mu h a bx W ns k sv bv) {J : Addr} (f : h.get? J = none) : LawAt w (J :: mu) h a bx W ns k sv bv :=
  I.gen (fun b o n e => ⟨e, fun q => (List.mem_cons.mp q).elim (fun q => by rw [q, f] at e; cases e) n⟩) fun _ _ _ e => e
theorem LawAt.less (I : LawAt w mu h a bx W ns k sv bv) (hm : ∀ b ∈ mu', b ∈ mu) : LawAt w mu' h a bx W ns k sv bv := I.gen (fun b o n e => ⟨e, fun q => n (hm b q)⟩) fun _ _ _ e => e
/-- the frame of the law -/
structure TopF (s₀ : Shared) (wr mu : List Addr) (env : Env) (a : Ads) (bx : Addr) : Prop where
  hL : env.locals ∈ wr
  noc : env.cells = []
  wrL : ∀ b ∈ wr, b = env.locals
  new : ∀ b ∈ bx :: a.all, s₀.heap.get? b = none
  nL : env.locals ∉ bx :: a.all
  D : a.Dis
  nbx : bx ∉ a.all
  inmu : ∀ b ∈ bx :: a.all, b ∈ mu
theorem TopF.more (T : TopF s₀ wr mu env a bx) {J : Addr} : TopF s₀ wr (J :: mu) env a bx := { T with inmu := fun b q => List.mem_cons_of_mem _ (T.inmu b q) }
theorem TopF.wrO (T : TopF s₀ wr mu env a bx) : ∀ b ∈ bx :: a.all, b ∉ wr := fun b q z => T.nL (T.wrL b z ▸ q)
theorem TopF.inA (T : TopF s₀ wr mu env a bx) : ∀ b ∈ a.all, b ∈ mu := fun b q => T.inmu b (List.mem_cons_of_mem _ q)
abbrev LR (w : World) (mu : List Addr) (a : Ads) (bx : Addr) (W : Wd) (ns : List Int) (k : Nat) (sv bv : Value) (P : Heap → Prop) : Heap → Prop := fun h => LawAt w mu h a bx W ns k sv bv ∧ P h
theorem Cx.offA (C : Cx G s₀ [] wr mu env m cm (LR w mu a bx W ns k sv bv P) s) (T : TopF s₀ wr mu env a bx) : G.Off a.all := fun b q => C.on0.off (T.new b (List.mem_cons_of_mem _ q))
theorem Cx.offB (C : Cx G s₀ [] wr mu env m cm (LR w mu a bx W ns k sv bv P) s) (T : TopF s₀ wr mu env a bx) : G.Off [bx] := fun b q => C.on0.off (T.new b (by rw [List.mem_singleton.mp q]; exact List.mem_cons_self))
theorem LR.stb (T : TopF s₀ wr mu env a bx) (hP : Stw (bx :: a.all) wr P) (hw : ∀ b ∈ wr, b ∈ mu) : ∀ h h', LR w mu a bx W ns k sv bv P h → Kp wr h h' → LR w mu a bx W ns k sv bv P h' := fun h h' x kp => ⟨x.1.kp kp hw T.wrO, hP.stb _ _ x.2 kp⟩
theorem Cx.lturn (C : Cx G s₀ [] wr mu env m cm (LR w mu a bx W ns k sv bv P) s) (T : TopF s₀ wr mu env a bx) (hP : Stw (bx :: a.all) wr P) {V : List Addr} (g : Go V s s') (hV : ∀ b ∈ V, b ∈ bx :: a.all) (l : LawAt w mu s'.heap a bx W' ns k' sv bv) : Cx G s₀ [] wr mu env m cm (LR w mu a bx W' ns k' sv bv P) s' :=
  C.turnN g (fun b q => T.new b (hV b q)) (fun q => T.nL (hV _ q)) (fun n c q => by rw [T.noc] at q; cases q) ⟨l, hP _ _ _ (fun b q => .inl (hV b q)) C.r.2 g.kp⟩ (LR.stb T hP C.wrmu)
/-- the ends, the books, the way have turned -/
theorem Cx.lworld (C : Cx G s₀ [] wr mu env m cm (LR w mu a bx W ns k sv bv P) s) (T : TopF s₀ wr mu env a bx) (hP : Stw (bx :: a.all) wr P) {V : List Addr} (g : Go V s s') (hV : ∀ b ∈ V, b ∈ a.all) (wa : WAt w mu s'.heap a W') : Cx G s₀ [] wr mu env m cm (LR w mu a bx W' ns k sv bv P) s' :=
  have hm : ∀ b ∈ V, b ∈ mu := fun b q => T.inA b (hV b q)
  C.lturn T hP g (fun b q => List.mem_cons_of_mem _ (hV b q)) ⟨wa, C.r.1.bx.kp g.kp hm fun q => T.nbx (hV _ q), C.r.1.sd.kp g.kp hm, C.r.1.bd.kp g.kp hm⟩
theorem Stw.imm (T : TopF s₀ wr mu env a bx) (hw : ∀ b ∈ wr, b ∈ mu) {d : D} {v : Value} : Stw (bx :: a.all) wr fun h => Imm mu h d v := fun V h h' hV x kp => x.kp kp fun b q => (hV b q).elim (T.inmu b) (hw b)
theorem Stw.true {own wr : List Addr} : Stw own wr fun _ => True := fun _ _ _ _ _ _ => trivial

set_option maxHeartbeats 400000
/-- a number is drawn -/
theorem Cx.ltake (C : Cx G s₀ [] wr mu env m cm (LR w mu a bx W ns k sv bv P) s) (T : TopF s₀ wr mu env a bx) (hP : Stw (bx :: a.all) wr P) (hA : Ar 10 A) (hk : k < 900) (hn : ns.length ≤ 64) {many : Int} (hm : 0 < many) {t : Tok} {Q : Value → Shared → Prop}
    (h : ∀ r t s', 0 ≤ r → r < many → Cx G s₀ [] wr mu env m cm (LR w mu a bx W ns (k + 1) sv bv P) s' → Q (.int r t) s') : wpAny (model PP w) A (call (.ref 263) [.ref bx, .int many t]) Q E s := by
  refine law_take_ C.on hA C.al C.r.1.bx (T.inmu _ List.mem_cons_self) (C.offB T) hk hn hm fun r t s' g b h0 h1 => h r t s' h0 h1 ?_
  have hV : ∀ b ∈ [bx], b ∈ bx :: a.all := fun b q => by rw [List.mem_singleton.mp q]; exact List.mem_cons_self
  have hm : ∀ b ∈ [bx], b ∈ mu := fun b q => T.inmu b (hV b q)
  exact C.lturn T hP g hV ⟨C.r.1.wa.kp g.kp hm fun b q z => T.nbx (List.mem_singleton.mp z ▸ q), b, C.r.1.sd.kp g.kp hm, C.r.1.bd.kp g.kp hm⟩
theorem Cx.lgoes (C : Cx G s₀ [] wr mu env m cm (LR w mu a bx W ns k sv bv P) s) (T : TopF s₀ wr mu env a bx) (hP : Stw (bx :: a.all) wr P) (hA : Ar 60 A) (I : Inv W N) (hN : N ≤ 25) {i tb : Bool} {now : Int} {ti tn : Tok} {Q : Value → Shared → Prop}
    (h : ∀ s', Cx G s₀ [] wr mu env m cm (LR w mu a bx (W.goes i (if tb then (W.S i).recv else [])) ns k sv bv P) s' → Q (.bool true) s') : wpAny (model PP w) A (call (.ref 275) [sv, bv, .ref a.wy, .int (b2i i) ti, .bool tb, .int now tn]) Q E s := by
  have h1 := I.rlen i
  have h2 := I.lens i
  have h3 := I.wl
  have h4 := I.tlen i
  refine goes_ C.on hA C.al C.r.1.wa T.D T.inA (C.offA T) C.r.1.sd C.r.1.bd rfl (by omega) (by omega) (fun q => ?_) (by omega) (by omega) (fun hne => ?_) fun s' g wa => h s' (C.lworld T hP g (fun b q => q) wa)
  · have := I.mem i (.inl q); omega
  · cases tb with
    | false => exact absurd rfl hne
    | true => exact (I.tnf i).cover (I.nf i) (I.tsub i)
theorem Cx.lcomes (C : Cx G s₀ [] wr mu env m cm (LR w mu a bx W ns k sv bv P) s) (T : TopF s₀ wr mu env a bx) (hP : Stw (bx :: a.all) wr P) (hA : Ar 60 A) (I : Inv W N) (hN : N ≤ 25) {i : Bool} {n now : Int} {told : List (Int × Int)} (hw : (i, n, told) ∈ W.way) {pv : Value} {tn : Tok} (im : Imm mu s.heap (pkD (i, n, told)) pv) {Q : Value → Shared → Prop}
    (h : ∀ W' s', Comes W W' (!i) n told → Cx G s₀ [] wr mu env m cm (LR w mu a bx W' ns k sv bv P) s' → Q (.bool true) s') : wpAny (model PP w) A (call (.ref 280) [sv, bv, pv, .int now tn]) Q E s := by
  have c := I.canCome (by omega) hw
  exact comes_ C.on hA C.al C.r.1.wa T.D T.inA (C.offA T) (i := i) rfl c.n0 C.r.1.sd C.r.1.bd im c.r c.r' c.sl c.srt c.tl c.kl c.nb c.bey c.new
    (fun e s' g wa => h _ s' (.inl ⟨e, rfl⟩) (C.lworld T hP g (fun b q => q) wa))
    (fun e e' s' g wa => h _ s' (.inr (.inl ⟨e, e', rfl⟩)) (C.lworld T hP g (fun b q => q) wa))
    (fun e p rs l e' s' g wa => h _ s' (.inr (.inr ⟨e, p, rs, l, e', rfl⟩)) (C.lworld T hP g (fun b q => q) wa))
theorem Cx.lright (C : Cx G s₀ [] wr mu env m cm (LR w mu a bx W ns k sv bv P) s) (T : TopF s₀ wr mu env a bx) (hA : Ar 60 A) (hu : A.units + 1200 < cLine) (I : Inv W N) (hN : N ≤ 25) {Q : Value → Shared → Prop}
    (h : ∀ s', Cx G s₀ [] wr mu env m cm (LR w mu a bx W ns k sv bv P) s' → Q (.bool true) s') : wpAny (model PP w) A (call (.ref 285) [sv, bv, .ref a.wy]) Q E s :=
  right_ C.on hA hu (C.r.1.wa.less fun _ q => nomatch q) T.D (C.r.1.sd.less fun _ q => nomatch q) (C.r.1.bd.less fun _ q => nomatch q) (I.rightB (by omega)) (fun i => I.rightP (by omega) i) fun s' g => h s' (C.go g)

/-- a list that is being filled is read -/
theorem Fnd.len {f : Addr} {ds : List D} (x : Fnd f mu s.heap ds) (hs : ds.length ≤ 1000) {prog : Program} {Q : Value → Shared → Prop} (h : ∀ t s', Go [] s s' → Q (.int ds.length t) s') : wpAny (model prog w) A (call (.builtin "len") [.ref f]) Q E s := by
  obtain ⟨vs, ⟨n, e⟩, il⟩ := x
  have el := il.length
  refine call_len_list (l := f) (items := vs.toArray) ⟨_, e, rfl, n, rfl⟩ (by rw [List.size_toArray]; omega) ?_
  rw [List.size_toArray, el]
  exact h _ _ Go.ofT
theorem Fnd.item {f : Addr} {ds : List D} (x : Fnd f mu s.heap ds) {prog : Program} {k : Int} {t : Tok} {i : Nat} {d : D} {value slice : Expr} {Q : Value → Shared → Prop} (hk : k = (i : Int)) (hi : i < 1000) (hd : ds[i]? = some d) (h : ∀ u, Imm mu s.heap d u → Q u s)
    (hs : ∀ l, subscripted slice false (.ref l) (.int k t) = operate [.ref l, .int k t] (getItem (.ref l) (.int k t)) := by intro _; with_unfolding_all rfl) : wpAny (model prog w) A (subscriptTail value slice (.ref f) (.int k t)) Q E s := by
  obtain ⟨vs, ⟨n, e⟩, il⟩ := x
  obtain ⟨u, hu, iu⟩ := il.get hd
  exact item_isl (items := vs.toArray) ⟨_, e, rfl, n, rfl⟩ hk hi (by simpa using hu) (h u iu) hs
theorem Fnd.last {f : Addr} {ds : List D} {d : D} (x : Fnd f mu s.heap (ds ++ [d])) {prog : Program} {k : Int} {t : Tok} {value slice : Expr} {Q : Value → Shared → Prop} (hk : k = -1) (h : ∀ u, Imm mu s.heap d u → Q u s)
    (hs : ∀ l, subscripted slice false (.ref l) (.int k t) = operate [.ref l, .int k t] (getItem (.ref l) (.int k t)) := by intro _; with_unfolding_all rfl) : wpAny (model prog w) A (subscriptTail value slice (.ref f) (.int k t)) Q E s := by
  obtain ⟨vs, ⟨n, e⟩, il⟩ := x
  obtain ⟨u, hu, iu⟩ := il.get (i := ds.length) (d := d) (by simp)
  have el := il.length
  have hl : s.heap.IsList f vs.toArray := ⟨_, e, rfl, n, rfl⟩
  subst hk
  rw [List.length_append, List.length_singleton] at el
  refine tail_any hl.typeIs slot_list_getitem.lookup (wpAny_getItem_list_neg hl (by decide) (by rw [List.size_toArray]; omega) (by decide) (x := u) ?_ (h u iu)) (hs f)
  rw [List.size_toArray, show ((-1 : Int) + (vs.length : Int)).toNat = ds.length by omega]
  simpa using hu
theorem Fnd.neNil {f : Addr} {ds : List D} (x : Fnd f mu s.heap ds) {prog : Program} {u : Value} {Q : Value → Shared → Prop} (hA : A.units < cLine) (y : Imm mu' s.heap (.lst []) u) (h : Q (.bool (!ds.isEmpty)) s) : wpAny (model prog w) A (compareOp .NotEq (.ref f) u) Q E s := by
  obtain ⟨vs, ⟨n, e⟩, il⟩ := x
  obtain ⟨b, us, rfl, _, hb, iu, _⟩ := lst_at y
  rw [ImmL.nil_iff.mp iu] at hb
  have e' : vs.isEmpty = ds.isEmpty := by have := il.length; cases vs <;> cases ds <;> simp_all
  exact ne_isnil hA ⟨_, e, rfl, n, rfl⟩ hb (e' ▸ h)
theorem mod2 {r : Int} : ∃ i : Bool, Int.fmod r 2 = b2i i := by
  have h0 := Int.fmod_nonneg_of_pos r (b := 2) (by decide)
  have h1 := Int.fmod_lt_of_pos r (b := 2) (by decide)
  by_cases q : Int.fmod r 2 = 0
  · exact ⟨false, q⟩
  · exact ⟨true, by show _ = (1 : Int); omega⟩
end
noncomputable def lawStmts : List Stmt × Scope := match PySem.Challenge.pw_sj0112_01.main.body.getLast? with
  | some (.FunctionDef _ _ b _ _ _ sc _ _ _) => (b, sc)
  | _ => ([], default)
-- part F18
section
variable {w : World} {G : Gd w (Kf w.params)} {s₀ s : Shared} {A : Around} {wr mu : List Addr} {L f : Addr} {cdv : Value} {m cm : Str → Option Value} {a : Ads} {bx : Addr} {ns : List Int} {sv bv : Value}
noncomputable abbrev lawEnv (L f : Addr) (cdv : Value) : Env := envOf "law" lawStmts.2 L f cdv
/-- the law's names -/
structure LawM (m : Str → Option Value) (a : Ads) (bx : Addr) (sv bv : Value) : Prop where
  box : m "box" = some (.ref bx)
  way : m "way" = some (.ref a.wy)
  sides : m "sides" = some sv
  books : m "books" = some bv
set_option maxHeartbeats 4000000 in
theorem lawA (hA : Ar 70 A) (hu : A.units + 1300 < cLine) (C : Cx G s₀ [] wr mu (lawEnv L f cdv) m cm (LR w mu a bx Wd.init ns 0 sv bv (fun _ => True)) s) (T : TopF s₀ wr mu (lawEnv L f cdv) a bx) (hn : ns.length ≤ 64) (M : LawM m a bx sv bv) {Q : Flow → Shared → Prop} {E : Value → Shared → Prop}
    (h : ∀ W N k m cm s', N ≤ 11 → Inv W N → LawM m a bx sv bv → Cx G s₀ [] wr mu (lawEnv L f cdv) m cm (LR w mu a bx W ns k sv bv (fun _ => True)) s' → wpAny (model PP w) A (execs (lawStmts.1.drop 4) (lawEnv L f cdv)) Q E s') :
    wpAny (model PP w) A (execs (lawStmts.1.drop 3) (lawEnv L f cdv)) Q E s := by
  obtain ⟨m1, m2, m3, m4⟩ := M
  refine wpAny_execs_cons (C.forRange hA.hd (Call_ ?_))
  walk_at "blt"
  refine callWith_type1 (wpAny_items_cons (wpAny_BinOp (C.cInt fun t₀ s C => Call_ ?_)))
  walk_at "glo"
  refine callWith_K C.X (by k_is) (wpAny_items_cons ?_)
  walk_at "loc"
  refine wpAny_items_cons (C.cInt fun _ s C => wpAny_items_nil ⟨C.X, C.ltake T Stw.true (hA.le (by omega)) (by decide) hn (by decide) fun r t₁ s r0 r1 C => add_int ?_⟩)
  have C := C.tok (s.toks + 1)
  have C0 := C
  generalize s.toks = t₂ at C ⊢
  obtain ⟨n, hn'⟩ : ∃ n : Nat, 4 + r = n := ⟨(4 + r).toNat, by omega⟩
  have hn11 : n ≤ 11 := by omega
  rw [hn']
  refine wpAny_items_nil (call_range_1 ?_)
  have C := C.go (Go.ofH (Kp.push { cls := .type "range", data := .fields #[.int 0 (t₂ + 1), .int n t₂, .int 1 (t₂ + 1 + 1)] }))
  have C := C.tok (t₂ + 1 + 1 + 1)
  refine ⟨_, _, _, n, _, _, _, _, C, rfl, IsRange.new _ _ _ _ _ _ _, by omega, fun Ia s₃ hI1 g₃ hI C₃ => ?_⟩
  have aI : ∀ b ∈ bx :: a.all, b ≠ Ia := fun b q z => by
    have e : ∃ o, s.heap.get? b = some o := by
      rcases List.mem_cons.mp q with rfl | q
      · exact C0.r.1.bx.there
      · exact C0.r.1.wa.there b q
    obtain ⟨o, e⟩ := e
    rw [z] at e
    have := Kp.push (W := []) { cls := .type "range", data := .fields #[.int 0 (t₂ + 1), .int n t₂, .int 1 (t₂ + 1 + 1)] } |>.all _ _ e
    rw [hI1] at this; cases this
  have wI : ∀ b, b ∉ Ia :: mu → b ∉ Ia :: wr := fun b n q => n ((List.mem_cons.mp q).elim (fun q => q ▸ List.mem_cons_self) fun q => List.mem_cons_of_mem _ (C0.wrmu b q))
  have aW : ∀ b ∈ bx :: a.all, b ∉ Ia :: wr := fun b q z => (List.mem_cons.mp z).elim (aI b q) (T.wrO b q)
  have T' : TopF s₀ wr (Ia :: mu) (lawEnv L f cdv) a bx := T.more
  refine ⟨_, _, _, fun i m cm R => ∃ W k, Inv W i ∧ k ≤ 1 + 2 * i ∧ LawM m a bx sv bv ∧ R = fun h => LawAt w (Ia :: mu) h a bx W ns k sv bv,
    ⟨Wd.init, 1, Inv.init, by omega, ⟨m1, m2, m3, m4⟩, rfl⟩, C₃.know ?_ ?_, ⟨?_, ?_, ?_⟩⟩
  · exact (C.r.1.more hI1).kp g₃.kp (fun _ q => nomatch q) fun _ _ q => nomatch q
  · exact fun h h' x k => x.kp k (fun b q => List.mem_cons_of_mem _ (C0.wrmu b q)) T.wrO
  · rintro i m cm R ⟨W, k, -, -, -, rfl⟩ h h' x kk
    exact x.gen (fun b o n e => ⟨kk b o (wI b n) e, n⟩) fun b q o e => kk b o (aW b q) e
  · rintro i v m cm R LP s hlt ⟨W, k, I, hk, ⟨m1, m2, m3, m4⟩, rfl⟩ hLP C ⟨t, rfl⟩
    have hP : Stw (bx :: a.all) wr LP := fun V h h' hV x kp => hLP V h h' (fun b q => (hV b q).elim (T.inmu b) (C0.wrmu b)) x kp
    refine wpAny_assign_Name (C.st (fun s C => ?_) T.hL)
    -- form, more
    refine wpAny_execs_cons (C.setPair hA.hd T.hL (Call_ ?_))
    walk_at "glo"
    refine callWith_K C.X (by k_is) (wpAny_items_cons ?_)
    walk_at "loc"
    refine wpAny_items_cons (C.cInt fun _ s C => wpAny_items_nil ⟨C.X, C.ltake T' hP (hA.le (by omega)) (by omega) hn (by decide) fun r t₁ s r0 r1 C => Call_ ?_⟩)
    walk_at "glo"
    refine callWith_K C.X (by k_is) (wpAny_items_cons ?_)
    walk_at "loc"
    refine wpAny_items_cons (C.cInt fun _ s C => wpAny_items_nil ⟨C.X, C.ltake T' hP (hA.le (by omega)) (by omega) hn (by decide) fun r' t₂ s r0' r1' C => ?_⟩)
    refine ⟨_, _, _, _, C, fun s C => ?_⟩
    -- is_right = True
    refine wpAny_execs_cons (wpAny_Assign_Name (Constant_bool (C.st (v := .bool true) (fun s C => ?_) T.hL)))
    refine wpAny_execs_cons (wpAny_mono (Q := fun fl s' => fl = .next ∧ ∃ W' m' cm', Inv W' (i + 1) ∧ LawM m' a bx sv bv ∧ m' "is_right" = some (.bool true) ∧ Cx G s₀ [] wr (Ia :: mu) (lawEnv L f cdv) m' cm' (LR w (Ia :: mu) a bx W' ns (k + 1 + 1) sv bv LP) s') (wpAny_If (wpAny_isTrue_Compare1 ?_)) (fun fl s z => ?_) fun _ _ e => e)
    · walk_at "loc"
      refine C.cInt fun _ s C => lt_int (wpAny_truthy_bool ?_)
      by_cases q4 : r < 4
      · rw [if_pos (by simpa using q4)]
        -- goes
        refine wpAny_execs_cons (wpAny_Assign_Name (Call_ ?_))
        walk_at "glo"
        refine callWith_K C.X (by k_is) (wpAny_items_cons ?_)
        walk_at "loc"
        refine wpAny_items_cons ?_
        walk_at "loc"
        refine wpAny_items_cons ?_
        walk_at "loc"
        refine wpAny_items_cons (wpAny_BinOp ?_)
        walk_at "loc"
        refine C.cInt fun _ s C => mod_int (by decide) ?_
        obtain ⟨j, hj⟩ := mod2 (r := r)
        rw [hj]
        have C := C.tok (s.toks + 1)
        refine wpAny_items_cons (wpAny_Compare1 ?_)
        walk_at "loc"
        refine C.cInt fun _ s C => gt_int (wpAny_items_cons ?_)
        walk_at "loc"
        refine wpAny_items_nil ⟨C.X, C.lgoes T' hP (hA.le (by omega)) I (by omega) fun s C => ?_⟩
        refine C.st (fun s C => ?_) T.hL
        refine wpAny_execs_nil ⟨rfl, _, _, _, I.goes j ?_, ⟨by walk_at "lk", by walk_at "lk", by walk_at "lk", by walk_at "lk"⟩, by walk_at "lk", C⟩
        split
        · exact .inr rfl
        · exact .inl rfl
      · rw [if_neg (by simpa using q4)]
        refine wpAny_execs_cons (wpAny_If (wpAny_mono (Q := fun c s => (c = true → W.way ≠ []) ∧ C.At s) (isTrue_and (wpAny_isTrue_Compare1 ?_)) (fun c s z => ?_) fun _ _ e => e))
        · walk_at "loc"
          refine C.cInt fun _ s C => lt_int (wpAny_truthy_bool ?_)
          by_cases q7 : r < 7
          · rw [if_pos (by simpa using q7)]
            refine isTrue_and (wpAny_isTrue_Compare1 ?_)
            walk_at "loc"
            refine List_ (wpAny_items_nil (C.newList .nil (Nat.zero_le _) fun u s C => ?_))
            refine Fnd.neNil C.r.1.1.wa.wy (by have := hA.2.2; omega) C.r.2 (wpAny_truthy_bool ?_)
            have C := C.know C.r.1 (LR.stb T' hP C.wrmu)
            by_cases hw : W.way = []
            · rw [if_neg (by rw [hw]; simp)]
              exact ⟨(fun z => by cases z), C⟩
            · rw [if_pos (by simpa using hw)]
              exact isTrue_and_nil ⟨fun _ => hw, C⟩
          · rw [if_neg (by simpa using q7)]
            exact ⟨(fun z => by cases z), C⟩
        obtain ⟨hw, C⟩ := z
        cases c with
        | true =>
          rw [if_pos rfl]
          have hw := hw rfl
          refine wpAny_execs_cons (wpAny_Assign_Name (Call_ ?_))
          walk_at "glo"
          refine callWith_K C.X (by k_is) (wpAny_items_cons ?_)
          walk_at "loc"
          refine wpAny_items_cons ?_
          walk_at "loc"
          refine wpAny_items_cons (Subscript_ ?_)
          walk_at "loc"
          refine wpAny_BinOp ?_
          walk_at "loc"
          refine Call_ ?_
          walk_at "blt"
          refine callWith_method1 (wpAny_items_cons ?_)
          walk_at "loc"
          have hlen : (W.way.map pkD).length ≤ 1000 := by rw [List.length_map]; have := I.wl; omega
          have hpos : 0 < W.way.length := List.length_pos_iff.mpr hw
          refine wpAny_items_nil (Fnd.len C.r.1.wa.wy hlen fun t₃ s g => ?_)
          have C := C.go g
          rw [List.length_map]
          refine mod_int (by omega) ?_
          have C := C.tok (s.toks + 1)
          have k0 := Int.fmod_nonneg_of_pos r' (b := (W.way.length : Int)) (by omega)
          have k1 := Int.fmod_lt_of_pos r' (b := (W.way.length : Int)) (by omega)
          obtain ⟨j, hj⟩ : ∃ j : Nat, Int.fmod r' (W.way.length : Int) = j := ⟨(Int.fmod r' (W.way.length : Int)).toNat, by omega⟩
          have hjl : j < W.way.length := by omega
          refine Fnd.item C.r.1.wa.wy (i := j) (d := pkD W.way[j]) hj (by have := I.wl; omega) (by simp [hjl]) fun pv iu => ?_
          have hm : W.way[j] ∈ W.way := List.getElem_mem hjl
          generalize W.way[j] = p at hm iu
          obtain ⟨o, n', told⟩ := p
          refine wpAny_items_cons ?_
          walk_at "loc"
          refine wpAny_items_nil ⟨C.X, C.lcomes T' hP (hA.le (by omega)) I (by omega) hm iu fun W' s hc C => ?_⟩
          refine C.st (fun s C => ?_) T.hL
          exact wpAny_execs_nil (wpAny_execs_nil ⟨rfl, _, _, _, (I.comes hm hc).more (by omega), ⟨by walk_at "lk", by walk_at "lk", by walk_at "lk", by walk_at "lk"⟩, by walk_at "lk", C⟩)
        | false =>
          rw [if_neg Bool.false_ne_true]
          have stay : ∀ s, C.At s → wpAny (model PP w) A (execs [] (lawEnv L f cdv)) (fun fl s' => fl = .next ∧ ∃ W' m' cm', Inv W' (i + 1) ∧ LawM m' a bx sv bv ∧ m' "is_right" = some (.bool true) ∧ Cx G s₀ [] wr (Ia :: mu) (lawEnv L f cdv) m' cm' (LR w (Ia :: mu) a bx W' ns (k + 1 + 1) sv bv LP) s') (fun _ _ => False) s := fun s C =>
            wpAny_execs_nil ⟨rfl, _, _, _, I.more (by omega), ⟨by walk_at "lk", by walk_at "lk", by walk_at "lk", by walk_at "lk"⟩, by walk_at "lk", C⟩
          obtain ⟨j, hj⟩ := mod2 (r := r')
          refine wpAny_execs_cons (wpAny_If (wpAny_mono (Q := fun c s => (c = true → (W.S j).sent ≠ []) ∧ C.At s) (isTrue_and (wpAny_isTrue_Compare1 ?_)) (fun c s z => ?_) fun _ _ e => e))
          · walk_at "loc"
            refine C.cInt fun _ s C => eq_int (wpAny_truthy_bool ?_)
            by_cases q7 : r = 7
            · rw [if_pos (by simpa using q7)]
              refine isTrue_and (wpAny_isTrue_Compare1 (Call_ ?_))
              walk_at "blt"
              refine callWith_method1 (wpAny_items_cons (Attribute_any_ (Subscript_ ?_)))
              walk_at "loc"
              refine wpAny_BinOp ?_
              walk_at "loc"
              refine C.cInt fun _ s C => mod_int (by decide) ?_
              rw [hj]
              have C := C.tok (s.toks + 1)
              refine item_two (x := a.x) C.r.1.sd ?_
              obtain ⟨fs, IS, FS⟩ := (C.r.1.wa.sp j).at_
              refine C.getA spOk IS FS.sent fun u s hv im C => ?_
              rw [Imm.raw_iff] at im; subst im
              refine wpAny_items_nil ((C.r.1.wa.st j).len (by have := I.lens j; omega) fun t₃ s g => ?_)
              have C := C.go g
              refine C.cInt fun _ s C => gt_int (wpAny_truthy_bool ?_)
              by_cases hs : (W.S j).sent = []
              · rw [if_neg (by rw [hs]; simp)]
                exact ⟨(fun z => by cases z), C⟩
              · rw [if_pos (by have := List.length_pos_iff.mpr hs; simp; omega)]
                exact isTrue_and_nil ⟨fun _ => hs, C⟩
            · rw [if_neg (by simpa using q7)]
              exact ⟨(fun z => by cases z), C⟩
          obtain ⟨hs, C⟩ := z
          cases c with
          | false =>
            rw [if_neg Bool.false_ne_true]
            exact wpAny_execs_nil (wpAny_execs_nil (stay s C))
          | true =>
            rw [if_pos rfl]
            have hs := hs rfl
            -- kept
            refine wpAny_execs_cons (wpAny_Assign_Name (Call_ ?_))
            walk_at "blt"
            refine callWith_method1 (wpAny_items_cons (Attribute_any_ (Subscript_ ?_)))
            walk_at "loc"
            refine wpAny_BinOp ?_
            walk_at "loc"
            refine C.cInt fun _ s C => mod_int (by decide) ?_
            rw [hj]
            have C := C.tok (s.toks + 1)
            refine item_two (x := a.x) C.r.1.sd ?_
            obtain ⟨fs, IS, FS⟩ := (C.r.1.wa.sp j).at_
            refine C.getA spOk IS FS.sent fun u s hv im C => ?_
            rw [Imm.raw_iff] at im; subst im
            refine wpAny_items_nil ((C.r.1.wa.st j).sorted C.al hA.hd (by have := I.lens j; omega) fun kv kept s g ik hp hsrt => ?_)
            have C := C.go g
            have hP1 := hP.and (Stw.imm T' C.wrmu (d := .lst (intD kept)) (v := kv))
            have C := C.know (P := LR w (Ia :: mu) a bx W ns (k + 1 + 1) sv bv fun h => LP h ∧ Imm (Ia :: mu) h (.lst (intD kept)) kv) ⟨C.r.1, C.r.2, ik⟩ (LR.stb T' hP1 C.wrmu)
            refine C.st (fun s C => ?_) T.hL
            have hkl : kept.length = (W.S j).sent.length := hp.length_eq
            have hkpos : 0 < kept.length := by rw [hkl]; exact List.length_pos_iff.mpr hs
            have hkle : kept.length ≤ 25 := by rw [hkl]; have := I.lens j; omega
            -- lost
            refine wpAny_execs_cons (wpAny_Assign_Name (MethodCall_ (Subscript_ ?_)))
            walk_at "loc"
            refine wpAny_BinOp ?_
            walk_at "loc"
            refine C.cInt fun _ s C => mod_int (by decide) ?_
            rw [hj]
            have C := C.tok (s.toks + 1)
            refine item_two (x := a.x) C.r.1.sd ?_
            obtain ⟨fs, IS, FS⟩ := (C.r.1.wa.sp j).at_
            refine IS.meth spOk C.X (fa := 172) (by k_is) (by k_is) (callWith_K C.X (by k_is) (wpAny_items_cons (List_ (wpAny_items_cons (Subscript_ ?_)))))
            walk_at "loc"
            refine wpAny_BinOp (wpAny_BinOp ?_)
            walk_at "loc"
            refine C.cInt fun _ s C => floordiv_int (by decide) (Call_ ?_)
            have C := C.tok (s.toks + 1)
            walk_at "blt"
            refine callWith_method1 (wpAny_items_cons ?_)
            walk_at "loc"
            refine wpAny_items_nil (len_lst C.r.2.2 (by rw [intD, List.length_map]; omega) fun t₃ s g => ?_)
            have C := C.go g
            rw [intD, List.length_map]
            refine mod_int (by omega) ?_
            have C := C.tok (s.toks + 1)
            have k0 := Int.fmod_nonneg_of_pos (Int.fdiv r' 2) (b := (kept.length : Int)) (by omega)
            have k1 := Int.fmod_lt_of_pos (Int.fdiv r' 2) (b := (kept.length : Int)) (by omega)
            obtain ⟨jj, hjj⟩ : ∃ jj : Nat, Int.fmod (Int.fdiv r' 2) (kept.length : Int) = jj := ⟨(Int.fmod (Int.fdiv r' 2) (kept.length : Int)).toNat, by omega⟩
            have hjl : jj < kept.length := by omega
            have hmem : kept[jj] ∈ (W.S j).sent := hp.mem_iff.mp (List.getElem_mem hjl)
            refine item_lst (ds := intD kept) (i := jj) (d := .int kept[jj]) C.r.2.2 hjj (by omega) (by simp [intD, hjl]) fun u iu => ?_
            generalize kept[jj] = n at hmem iu
            refine wpAny_items_nil (C.newList (ds := intD [n]) (.cons iu .nil) (by show 1 ≤ 1000; decide) fun lv s C => wpAny_items_nil ⟨C.X, ?_⟩)
            refine take_ C.on (hA.le (by omega)) C.al (C.r.1.1.wa.sp j) (C.r.1.1.wa.st j) (by have := I.lens j; omega) (T'.inA _ (a.msx j)) (fun b q => C.on0.off (T.new b (List.mem_cons_of_mem _ (by rw [List.mem_singleton.mp q]; exact a.msx j)))) (T.D.ds _ _) (ns := [n]) (by show 1 < 64; decide) (List.nodup_cons.mpr ⟨List.not_mem_nil, List.nodup_nil⟩) C.r.2 fun rv ns' s g hp' hs' ir sp st => ?_
            have ens : ns' = [n] := List.perm_singleton.mp hp'
            subst ens
            have efl : [n].filter (W.S j).sent.contains = [n] := by simp [hmem]
            rw [efl] at ir
            have C := (C.know (P := LR w (Ia :: mu) a bx W ns (k + 1 + 1) sv bv fun h => LP h ∧ Imm (Ia :: mu) h (.lst (intD kept)) kv) C.r.1 (LR.stb T' hP1 C.wrmu)).lworld T' hP1 (W' := W.setS j { W.S j with sent := leftOf (W.S j).sent [n] }) g (fun b q => by rw [List.mem_singleton.mp q]; exact a.msx j)
              (C.r.1.1.wa.setSide T.D T'.inA (g.kp.mono fun b q => List.mem_cons_of_mem _ q) sp st)
            have hP2 := hP.and (Stw.imm T' C.wrmu (d := .lst [.pkt n]) (v := rv))
            have C := C.know (P := LR w (Ia :: mu) a bx (W.setS j { W.S j with sent := leftOf (W.S j).sent [n] }) ns (k + 1 + 1) sv bv fun h => LP h ∧ Imm (Ia :: mu) h (.lst [.pkt n]) rv) ⟨C.r.1, C.r.2.1, ir⟩ (LR.stb T' hP2 C.wrmu)
            refine C.st (fun s C => ?_) T.hL
            -- append
            refine wpAny_execs_cons (wpAny_Expr_any (MethodCall_ (Subscript_ (Subscript_ ?_))))
            walk_at "loc"
            refine wpAny_BinOp ?_
            walk_at "loc"
            refine C.cInt fun _ s C => mod_int (by decide) ?_
            rw [hj]
            have C := C.tok (s.toks + 1)
            refine item_two (x := a.bk) C.r.1.bd (C.cStr fun _ s C => ?_)
            obtain ⟨fb, FB, BF⟩ := C.r.1.wa.bk j
            refine FB.get BF.lost fun lv s g il => ?_
            rw [Imm.raw_iff] at il; subst il
            have C := C.go g
            refine Fnd.meth (C.r.1.wa.lo j) (callWith_method1 (wpAny_items_cons (Attribute_any_ (Subscript_ ?_))))
            walk_at "loc"
            refine C.cInt fun _ s C => item_lst (ds := [.pkt n]) (i := 0) C.r.2.2 rfl (by decide) rfl fun u iu => pkt_number C.X iu fun t₄ s g => wpAny_items_nil ?_
            have C := C.go g
            have FL := C.r.1.wa.lo j
            refine Fnd.append FL (d := .int n) .int (T'.inA _ (a.mlo j)) (by have := I.lens j; rw [intD, List.length_map]; show (W.B j).lost.length ≤ 1000; omega) fun s g F => ?_
            have C := C.lworld T' hP2 (W' := W.loses j n) g (fun b q => by rw [List.mem_singleton.mp q]; exact a.mlo j)
              (C.r.1.wa.setLost T.D T'.inA (l := (W.B j).lost ++ [n]) g.kp (by simpa [intD, Wd.setS] using F))
            have C := C.know (P := LR w (Ia :: mu) a bx (W.loses j n) ns (k + 1 + 1) sv bv LP) ⟨C.r.1, C.r.2.1⟩ (LR.stb T' hP C.wrmu)
            exact wpAny_execs_nil (wpAny_execs_nil (wpAny_execs_nil ⟨rfl, _, _, _, (I.loses j hmem).more (by omega), ⟨by walk_at "lk", by walk_at "lk", by walk_at "lk", by walk_at "lk"⟩, by walk_at "lk", C⟩))
    · obtain ⟨rfl, W', m', cm', I', ⟨m1, m2, m3, m4⟩, m5, C⟩ := z
      -- if not is_right or not _law_right(..)
      refine wpAny_execs_cons (wpAny_If (isTrue_or (isTrue_not (isTrue_plain ?_))))
      walk_at "loc"
      refine wpAny_truthy_bool ?_
      rw [if_neg (by decide)]
      refine isTrue_or (isTrue_not (isTrue_plain (Call_ ?_)))
      walk_at "glo"
      refine callWith_K C.X (by k_is) (wpAny_items_cons ?_)
      walk_at "loc"
      refine wpAny_items_cons ?_
      walk_at "loc"
      refine wpAny_items_cons ?_
      walk_at "loc"
      refine wpAny_items_nil ⟨C.X, C.lright T' (hA.le (by omega)) (by omega) I' (by omega) fun s C => wpAny_truthy_bool ?_⟩
      rw [if_neg (by decide)]
      refine isTrue_or_nil ?_
      rw [if_neg (by decide)]
      refine wpAny_execs_nil (wpAny_execs_nil ?_)
      exact ⟨m', cm', _, ⟨W', k + 1 + 1, I', by omega, ⟨m1, m2, m3, m4⟩, rfl⟩, C⟩
  · rintro m cm R s ⟨W, k, I, hk, M, rfl⟩ C
    exact h W n k m cm s hn11 I M (C.know ⟨C.r.less fun b q => List.mem_cons_of_mem _ q, trivial⟩ (LR.stb T Stw.true C.wrmu))
end
-- part F19
section
variable {prog : Program} {w : World} {K : Frag} {G : Gd w K} {s₀ s : Shared} {own wr mu : List Addr} {env : Env} {m cm : Str → Option Value} {R : Heap → Prop} {A : Around} {E : Value → Shared → Prop}
/-- e[::-1] -/
theorem Cx.sliceRev (_C : Cx G s₀ own wr mu env m cm R s) {value st : Expr} {p pos : Pos} {Q : Value → Shared → Prop}
    (h : wpAny (model prog w) A (eval value env) (fun o s₁ => wpAny (model prog w) A (eval st env) (fun vs s₂ => ∃ (f : Addr) (ds : List D) (t : Tok) (R : Heap → Prop), Cx G s₀ own wr mu env m cm R s₂ ∧ o = .ref f ∧ vs = .int (-1) t ∧ Fnd f mu s₂.heap ds ∧ ds.length ≤ 1000 ∧
      ∀ u s', Cx G s₀ own wr mu env m cm (fun h => R h ∧ Imm mu h (.lst ds.reverse) u) s' → Q u s') E s₁) E s)
    (ht : ∀ o r, letTemporaryGo value o r = pure () := by intro _ _; rfl) :
    wpAny (model prog w) A (eval (.Subscript value (.Slice none none (some st) p) pos) env) Q E s := by
  refine wpAny_Subscript_Slice_step (T := "list") list_getitem_lookup (wpAny_mono h (fun o s₁ h₁ => wpAny_Slice (wpAny_pure (wpAny_pure (wpAny_mono h₁ (fun vs s₂ z => ?_) fun _ _ e => e)))) fun _ _ e => e) ht
  obtain ⟨f, ds, t, R, C, rfl, rfl, ⟨vl, ⟨n, e⟩, il⟩, hl, hQ⟩ := z
  have el := il.length
  have L : s₂.heap.IsList f vl.toArray := ⟨_, e, rfl, n, rfl⟩
  have k1 : Kp [] s₂.heap (s₂.heap.push { cls := .type "slice", data := .fields #[.none, .none, .int (-1) t] }) := Kp.push _
  refine ⟨(L.push _).typeIs, wpAny_getItem_list_slice (L.push _) (Heap.IsSliceOf.new ..) .none .none (.int _ _) (by decide) ?_ (by rw [List.size_toArray, sizeLine_eq]; omega)⟩
  rw [krv_pick, List.toList_toArray]
  have C1 := C.go (Go.ofH k1)
  have z := C1.go (Go.ofH (Kp.push { cls := .type "list", data := .seq vl.reverse.toArray }))
  exact hQ _ _ (z.imm (imm_lst C1.al (il.reverse.kp k1 fun _ q => nomatch q)))
end
section
variable {w : World} {G : Gd w (Kf w.params)} {s₀ s : Shared} {A : Around} {wr mu : List Addr} {L f : Addr} {cdv : Value} {m cm : Str → Option Value} {a : Ads} {bx : Addr} {ns : List Int} {sv bv : Value}
set_option maxHeartbeats 4000000 in
theorem lawB (hA : Ar 70 A) (hu : A.units + 1300 < cLine) {W : Wd} {N k : Nat} (hN : N ≤ 20) (I : Inv W N) (C : Cx G s₀ [] wr mu (lawEnv L f cdv) m cm (LR w mu a bx W ns k sv bv (fun _ => True)) s) (T : TopF s₀ wr mu (lawEnv L f cdv) a bx) (M : LawM m a bx sv bv) {Q : Flow → Shared → Prop} {E : Value → Shared → Prop}
    (h : ∀ W m cm s', Inv W N → (∀ i n t, (i, n, t) ∈ W.way → hasNum (W.S (!i)).recv n = true) → LawM m a bx sv bv → Cx G s₀ [] wr mu (lawEnv L f cdv) m cm (LR w mu a bx W ns k sv bv (fun _ => True)) s' → wpAny (model PP w) A (execs (lawStmts.1.drop 5) (lawEnv L f cdv)) Q E s') :
    wpAny (model PP w) A (execs (lawStmts.1.drop 4) (lawEnv L f cdv)) Q E s := by
  obtain ⟨m1, m2, m3, m4⟩ := M
  refine wpAny_execs_cons (C.forList hA.hd (C.sliceRev ?_))
  walk_at "loc"
  refine UnaryOp_ (C.cInt fun t₀ s C => neg_int ?_)
  have C := C.tok (s.toks + 1)
  have hwl := I.wl
  refine ⟨_, _, _, _, C, rfl, rfl, C.r.1.wa.wy, by rw [List.length_map]; omega, fun u s C => ?_⟩
  have C0 := C
  refine ⟨_, _, _, _, C, C.r.2, fun Ia s₃ hI1 g₃ hI C₃ => ?_⟩
  have aI : ∀ b ∈ bx :: a.all, b ≠ Ia := fun b q z => by
    have e : ∃ o, s.heap.get? b = some o := by
      rcases List.mem_cons.mp q with rfl | q
      · exact C0.r.1.1.bx.there
      · exact C0.r.1.1.wa.there b q
    obtain ⟨o, e⟩ := e
    rw [z, hI1] at e; cases e
  have wI : ∀ b, b ∉ Ia :: mu → b ∉ Ia :: wr := fun b n q => n ((List.mem_cons.mp q).elim (fun q => q ▸ List.mem_cons_self) fun q => List.mem_cons_of_mem _ (C0.wrmu b q))
  have aW : ∀ b ∈ bx :: a.all, b ∉ Ia :: wr := fun b q z => (List.mem_cons.mp z).elim (aI b q) (T.wrO b q)
  have T' : TopF s₀ wr (Ia :: mu) (lawEnv L f cdv) a bx := T.more
  refine ⟨_, _, _, fun i m cm R => ∃ W', Inv W' N ∧ W'.way = W.way ∧ (∀ p ∈ W.way.reverse.take i, hasNum (W'.S (!p.1)).recv p.2.1 = true) ∧ LawM m a bx sv bv ∧ R = fun h => LawAt w (Ia :: mu) h a bx W' ns k sv bv,
    ⟨W, I, rfl, (by simp), ⟨m1, m2, m3, m4⟩, rfl⟩, C₃.know ?_ ?_, ⟨?_, ?_, ?_⟩⟩
  · exact (C.r.1.1.more hI1).kp g₃.kp (fun _ q => nomatch q) fun _ _ q => nomatch q
  · exact fun h h' x k => x.kp k (fun b q => List.mem_cons_of_mem _ (C0.wrmu b q)) T.wrO
  · rintro i m cm R ⟨W', -, -, -, -, rfl⟩ h h' x kk
    exact x.gen (fun b o n e => ⟨kk b o (wI b n) e, n⟩) fun b q o e => kk b o (aW b q) e
  · rintro i v m cm R LP s hlt ⟨W', I', hway, hcome, ⟨m1, m2, m3, m4⟩, rfl⟩ hLP C ⟨d, hd, im⟩
    have hP : Stw (bx :: a.all) wr LP := fun V h h' hV x kp => hLP V h h' (fun b q => (hV b q).elim (T.inmu b) (C0.wrmu b)) x kp
    rw [← List.map_reverse] at hd
    simp only [List.getElem?_map, Option.map_eq_some_iff] at hd
    obtain ⟨⟨o, n, told⟩, hp, rfl⟩ := hd
    have hm : (o, n, told) ∈ W'.way := by rw [hway]; exact List.mem_reverse.mp (List.mem_of_getElem? hp)
    have hP1 := hP.and (Stw.imm T' C.wrmu (d := pkD (o, n, told)) (v := v))
    have C := C.know (P := LR w (Ia :: mu) a bx W' ns k sv bv fun h => LP h ∧ Imm (Ia :: mu) h (pkD (o, n, told)) v) ⟨C.r.1, C.r.2, im⟩ (LR.stb T' hP1 C.wrmu)
    refine wpAny_assign_Name (C.st (fun s C => ?_) T.hL)
    refine wpAny_execs_cons (wpAny_If (isTrue_or (isTrue_not (isTrue_plain (Call_ ?_)))))
    walk_at "glo"
    refine callWith_K C.X (by k_is) (wpAny_items_cons ?_)
    walk_at "loc"
    refine wpAny_items_cons ?_
    walk_at "loc"
    refine wpAny_items_cons ?_
    walk_at "loc"
    refine wpAny_items_cons (C.cInt fun _ s C => wpAny_items_nil ⟨C.X, C.lcomes T' hP1 (hA.le (by omega)) I' (by omega) hm C.r.2.2 fun W'' s hc C => wpAny_truthy_bool ?_⟩)
    have C := C.know (P := LR w (Ia :: mu) a bx W'' ns k sv bv LP) ⟨C.r.1, C.r.2.1⟩ (LR.stb T' hP C.wrmu)
    have I'' := I'.comes hm hc
    rw [if_neg (by decide)]
    refine isTrue_or (isTrue_not (isTrue_plain (Call_ ?_)))
    walk_at "glo"
    refine callWith_K C.X (by k_is) (wpAny_items_cons ?_)
    walk_at "loc"
    refine wpAny_items_cons ?_
    walk_at "loc"
    refine wpAny_items_cons ?_
    walk_at "loc"
    refine wpAny_items_nil ⟨C.X, C.lright T' (hA.le (by omega)) (by omega) I'' (by omega) fun s C => wpAny_truthy_bool ?_⟩
    rw [if_neg (by decide)]
    refine isTrue_or_nil ?_
    rw [if_neg (by decide)]
    refine wpAny_execs_nil (wpAny_execs_nil ?_)
    refine ⟨C.mOf, C.cmOf, _, ⟨W'', I'', hc.way.trans hway, fun p hp' => ?_, ⟨by walk_at "lk", by walk_at "lk", by walk_at "lk", by walk_at "lk"⟩, rfl⟩, C⟩
    rw [List.take_add_one, hp] at hp'
    rcases List.mem_append.mp hp' with hp' | hp'
    · exact hc.mono I' (hcome p hp')
    · have e : p = (o, n, told) := by simpa using hp'
      rw [e]
      exact hc.has I'
  · rintro m cm R s ⟨W', I', hway, hcome, M, rfl⟩ C
    refine h W' m cm s I' (fun i n t hm => ?_) M (C.know ⟨C.r.less fun b q => List.mem_cons_of_mem _ q, trivial⟩ (LR.stb T Stw.true C.wrmu))
    refine hcome (i, n, t) ?_
    rw [List.take_of_length_le (by simp)]
    exact List.mem_reverse.mpr (hway ▸ hm)
end
-- part F20
structure Fin3 (W : Wd) (k : Nat) : Prop where
  come : ∀ i, AllCome W i
  one : k = 1 → (W.S true).sent = []
  two : k = 2 → (W.S false).sent = [] ∧ (W.S true).sent = [(W.S true).next - 1]
  three : k = 3 → (W.S true).sent = [] ∧ (W.S false).sent = [(W.S false).next - 1]
theorem Fin3.step {W W' : Wd} {k : Nat} {i : Bool} (F : Fin3 W k) (hk : k < 3) (hi : Int.fmod (k : Int) 2 = b2i i) (L : Last W W' i) : Fin3 W' (k + 1) := by
  have hc : ∀ j, AllCome W' j := fun j => by
    by_cases q : j = i
    · rw [q]; exact L.mine
    · have : j = !i := by cases i <;> cases j <;> simp_all
      rw [this]; exact L.theirs
  have h3 : k = 0 ∨ k = 1 ∨ k = 2 := by omega
  rcases h3 with rfl | rfl | rfl
  · have : i = false := by cases i with | false => rfl | true => exact absurd hi (by decide)
    subst this
    exact ⟨hc, fun _ => L.empty, fun h => by omega, fun h => by omega⟩
  · have : i = true := by cases i with | true => rfl | false => exact absurd hi (by decide)
    subst this
    refine ⟨hc, fun h => by omega, fun _ => ⟨L.empty, ?_⟩, fun h => by omega⟩
    rw [L.sent, F.one rfl, L.next]
    simp
  · have : i = false := by cases i with | false => rfl | true => exact absurd hi (by decide)
    subst this
    refine ⟨hc, fun h => by omega, fun h => by omega, fun _ => ⟨L.empty, ?_⟩⟩
    rw [L.sent, (F.two rfl).1, L.next]
    simp
section
variable {w : World} {G : Gd w (Kf w.params)} {s₀ s : Shared} {A : Around} {wr mu : List Addr} {L f : Addr} {cdv : Value} {m cm : Str → Option Value} {a : Ads} {bx : Addr} {ns : List Int} {sv bv : Value}
set_option maxHeartbeats 4000000 in
theorem lawC (hA : Ar 70 A) (hu : A.units + 1300 < cLine) {W : Wd} {N k : Nat} (hN : N ≤ 20) (I : Inv W N) (hall : ∀ i n t, (i, n, t) ∈ W.way → hasNum (W.S (!i)).recv n = true) (C : Cx G s₀ [] wr mu (lawEnv L f cdv) m cm (LR w mu a bx W ns k sv bv (fun _ => True)) s) (T : TopF s₀ wr mu (lawEnv L f cdv) a bx) (M : LawM m a bx sv bv) {Q : Flow → Shared → Prop} {E : Value → Shared → Prop}
    (h : ∀ s', Go [] s₀ s' → Q (.ret (.bool true)) s') :
    wpAny (model PP w) A (execs (lawStmts.1.drop 5) (lawEnv L f cdv)) Q E s := by
  obtain ⟨m1, m2, m3, m4⟩ := M
  refine wpAny_execs_cons (C.forRange hA.hd (Call_ ?_))
  walk_at "blt"
  refine callWith_type1 (wpAny_items_cons (C.cInt fun t₀ s C => wpAny_items_nil (call_range_1 ?_)))
  have C0 := C
  have C := (C.go (Go.ofH (Kp.push { cls := .type "range", data := .fields #[.int 0 s.toks, .int 3 t₀, .int 1 (s.toks + 1)] }))).tok (s.toks + 1 + 1)
  refine ⟨_, _, _, 3, _, _, _, _, C, rfl, IsRange.new _ _ _ _ _ _ _, by decide, fun Ia s₃ hI1 g₃ hI C₃ => ?_⟩
  have aI : ∀ b ∈ bx :: a.all, b ≠ Ia := fun b q z => by
    have e : ∃ o, s.heap.get? b = some o := by
      rcases List.mem_cons.mp q with rfl | q
      · exact C0.r.1.bx.there
      · exact C0.r.1.wa.there b q
    obtain ⟨o, e⟩ := e
    rw [z] at e
    have := Kp.push (W := []) { cls := .type "range", data := .fields #[.int 0 s.toks, .int 3 t₀, .int 1 (s.toks + 1)] } |>.all _ _ e
    rw [hI1] at this; cases this
  have wI : ∀ b, b ∉ Ia :: mu → b ∉ Ia :: wr := fun b n q => n ((List.mem_cons.mp q).elim (fun q => q ▸ List.mem_cons_self) fun q => List.mem_cons_of_mem _ (C0.wrmu b q))
  have aW : ∀ b ∈ bx :: a.all, b ∉ Ia :: wr := fun b q z => (List.mem_cons.mp z).elim (aI b q) (T.wrO b q)
  have T' : TopF s₀ wr (Ia :: mu) (lawEnv L f cdv) a bx := T.more
  refine ⟨_, _, _, fun i m cm R => ∃ W', Inv W' (N + i) ∧ Fin3 W' i ∧ LawM m a bx sv bv ∧ R = fun h => LawAt w (Ia :: mu) h a bx W' ns k sv bv,
    ⟨W, I, ⟨I.allCome hall, (fun h => by omega), (fun h => by omega), (fun h => by omega)⟩, ⟨m1, m2, m3, m4⟩, rfl⟩, C₃.know ?_ ?_, ⟨?_, ?_, ?_⟩⟩
  · exact (C.r.1.more hI1).kp g₃.kp (fun _ q => nomatch q) fun _ _ q => nomatch q
  · exact fun h h' x k => x.kp k (fun b q => List.mem_cons_of_mem _ (C0.wrmu b q)) T.wrO
  · rintro i m cm R ⟨W', -, -, -, rfl⟩ h h' x kk
    exact x.gen (fun b o n e => ⟨kk b o (wI b n) e, n⟩) fun b q o e => kk b o (aW b q) e
  · rintro i v m cm R LP s hlt ⟨W', I', F, ⟨m1, m2, m3, m4⟩, rfl⟩ hLP C ⟨t, rfl⟩
    have hP : Stw (bx :: a.all) wr LP := fun V h h' hV x kp => hLP V h h' (fun b q => (hV b q).elim (T.inmu b) (C0.wrmu b)) x kp
    obtain ⟨j, hj⟩ := mod2 (r := (i : Int))
    refine wpAny_assign_Name (C.st (fun s C => ?_) T.hL)
    -- goes
    refine wpAny_execs_cons (wpAny_If (isTrue_not (isTrue_plain (Call_ ?_))))
    walk_at "glo"
    refine callWith_K C.X (by k_is) (wpAny_items_cons ?_)
    walk_at "loc"
    refine wpAny_items_cons ?_
    walk_at "loc"
    refine wpAny_items_cons ?_
    walk_at "loc"
    refine wpAny_items_cons (wpAny_BinOp ?_)
    walk_at "loc"
    refine C.cInt fun _ s C => mod_int (by decide) ?_
    rw [hj]
    have C := C.tok (s.toks + 1)
    refine wpAny_items_cons (Constant_bool (wpAny_items_cons (wpAny_BinOp (C.cInt fun _ s C => ?_))))
    walk_at "loc"
    refine add_int ?_
    have C := C.tok (s.toks + 1)
    refine wpAny_items_nil ⟨C.X, C.lgoes T' hP (hA.le (by omega)) I' (by omega) fun s C => wpAny_truthy_bool ?_⟩
    rw [if_pos rfl] at C
    rw [if_neg (by decide)]
    walk_at "nil"
    have I1 := I'.goes j (told := (W'.S j).recv) (.inr rfl)
    have hway := goes_way (W := W') j (W'.S j).recv
    have hm : (j, (W'.S j).next, (W'.S j).recv) ∈ (W'.goes j (W'.S j).recv).way := by rw [hway]; exact List.mem_append.mpr (.inr (List.mem_singleton.mpr rfl))
    -- comes
    refine wpAny_execs_cons (wpAny_If (isTrue_or (isTrue_not (isTrue_plain (Call_ ?_)))))
    walk_at "glo"
    refine callWith_K C.X (by k_is) (wpAny_items_cons ?_)
    walk_at "loc"
    refine wpAny_items_cons ?_
    walk_at "loc"
    refine wpAny_items_cons (Subscript_ ?_)
    walk_at "loc"
    refine UnaryOp_ (C.cInt fun t₀ s C => neg_int ?_)
    have C := C.tok (s.toks + 1)
    have FW := C.r.1.wa.wy
    rw [hway, List.map_append, List.map_singleton] at FW
    refine FW.last rfl fun pv ip => ?_
    have hP1 := hP.and (Stw.imm T' C.wrmu (d := pkD (j, (W'.S j).next, (W'.S j).recv)) (v := pv))
    have C := C.know (P := LR w (Ia :: mu) a bx (W'.goes j (W'.S j).recv) ns k sv bv fun h => LP h ∧ Imm (Ia :: mu) h (pkD (j, (W'.S j).next, (W'.S j).recv)) pv) ⟨C.r.1, C.r.2, ip⟩ (LR.stb T' hP1 C.wrmu)
    refine wpAny_items_cons (wpAny_BinOp (C.cInt fun _ s C => ?_))
    walk_at "loc"
    refine add_int ?_
    have C := C.tok (s.toks + 1)
    refine wpAny_items_nil ⟨C.X, C.lcomes T' hP1 (hA.le (by omega)) I1 (by omega) hm C.r.2.2 fun W'' s hc C => wpAny_truthy_bool ?_⟩
    have C := C.know (P := LR w (Ia :: mu) a bx W'' ns k sv bv LP) ⟨C.r.1, C.r.2.1⟩ (LR.stb T' hP C.wrmu)
    have I'' := I1.comes hm hc
    have F' := F.step hlt hj (I'.last j (F.come j) (F.come (!j)) hc)
    rw [if_neg (by decide)]
    refine isTrue_or (isTrue_not (isTrue_plain (Call_ ?_)))
    walk_at "glo"
    refine callWith_K C.X (by k_is) (wpAny_items_cons ?_)
    walk_at "loc"
    refine wpAny_items_cons ?_
    walk_at "loc"
    refine wpAny_items_cons ?_
    walk_at "loc"
    refine wpAny_items_nil ⟨C.X, C.lright T' (hA.le (by omega)) (by omega) I'' (by omega) fun s C => wpAny_truthy_bool ?_⟩
    rw [if_neg (by decide)]
    refine isTrue_or_nil ?_
    rw [if_neg (by decide)]
    refine wpAny_execs_nil (wpAny_execs_nil ?_)
    exact ⟨C.mOf, C.cmOf, _, ⟨W'', I'', F', ⟨by walk_at "lk", by walk_at "lk", by walk_at "lk", by walk_at "lk"⟩, rfl⟩, C⟩
  · rintro m cm R s ⟨W', I', F, ⟨m1, m2, m3, m4⟩, rfl⟩ C
    have C := C.know (P := LR w mu a bx W' ns k sv bv (fun _ => True)) ⟨C.r.less fun b q => List.mem_cons_of_mem _ q, trivial⟩ (LR.stb T Stw.true C.wrmu)
    obtain ⟨f1, f2⟩ := F.three rfl
    refine wpAny_execs_cons (wpAny_Return_some (BoolOp_and (wpAny_Compare1 (Call_ ?_))))
    walk_at "blt"
    refine callWith_type1 (wpAny_items_cons (Attribute_any_ (Subscript_ ?_)))
    walk_at "loc"
    refine C.cInt fun _ s C => item_two (x := a.x) (i := true) C.r.1.sd ?_
    obtain ⟨fs, IS, FS⟩ := (C.r.1.wa.sp true).at_
    refine C.getA spOk IS FS.sent fun u s hv im C => ?_
    rw [Imm.raw_iff] at im; subst im
    refine wpAny_items_nil ((C.r.1.wa.st true).list C.al hA.hd (by rw [f1]; decide) fun u s g iu => ?_)
    have C := (C.go g).imm iu
    refine List_ (wpAny_items_nil (C.newList (ds := intD []) .nil (Nat.zero_le _) fun u₂ s C => ?_))
    refine eq_intL (by have := hA.2.2; omega) C.r.1.2 C.r.2 (wpAny_truthy_bool ?_)
    rw [if_pos (by rw [f1]; rfl)]
    have C := C.know C.r.1.1 (LR.stb T Stw.true C.wrmu)
    refine BoolOp_one (wpAny_Compare1 (Call_ ?_))
    walk_at "blt"
    refine callWith_type1 (wpAny_items_cons (Attribute_any_ (Subscript_ ?_)))
    walk_at "loc"
    refine C.cInt fun _ s C => item_two (x := a.x) (i := false) C.r.1.sd ?_
    obtain ⟨fs, IS, FS⟩ := (C.r.1.wa.sp false).at_
    refine C.getA spOk IS FS.sent fun u s hv im C => ?_
    rw [Imm.raw_iff] at im; subst im
    refine wpAny_items_nil ((C.r.1.wa.st false).list C.al hA.hd (by rw [f2]; show 1 ≤ 1000; decide) fun u s g iu => ?_)
    have C := (C.go g).imm iu
    refine List_ (wpAny_items_cons (wpAny_BinOp (Attribute_any_ (Subscript_ ?_))))
    walk_at "loc"
    refine C.cInt fun _ s C => item_two (x := a.x) (i := false) C.r.1.1.sd ?_
    obtain ⟨fs, IS, FS⟩ := (C.r.1.1.wa.sp false).at_
    refine C.getA spOk IS FS.next fun u₃ s hv im C => ?_
    obtain ⟨tn, rfl⟩ := Imm.int_iff.mp im
    refine C.cInt fun _ s C => sub_int ?_
    have C := C.tok (s.toks + 1)
    refine wpAny_items_nil (C.newList (ds := intD [(W'.S false).next - 1]) (.cons .int .nil) (by show 1 ≤ 1000; decide) fun u₄ s C => ?_)
    refine eq_intL (by have := hA.2.2; omega) C.r.1.2 C.r.2 ?_
    rw [f2, decide_eq_true rfl]
    exact h _ C.go0
end
-- part F21
section
variable {prog : Program} {w : World} {K : Frag} {G : Gd w K} {s₀ s s' : Shared} {own wr mu mu' : List Addr} {env : Env} {m cm : Str → Option Value} {R : Heap → Prop} {A : Around} {E : Value → Shared → Prop} {h h' : Heap}
/-- from here on anew -/
theorem Cx.root (C : Cx G s₀ [] [] mu env m cm R s) : Cx G s [] [] mu env m cm R s :=
  { C with on0 := C.on, ownOff := .nil, wrNew := fun _ q => (nomatch q), same := ⟨_, _, rfl⟩, kp := Kp.rfl' }
theorem Cx.none0 (C : Cx G s₀ own wr mu env m cm R s) {b : Addr} (e : s.heap.get? b = none) : s₀.heap.get? b = none := by
  cases q : s₀.heap.get? b with
  | none => rfl
  | some o => obtain ⟨o', e'⟩ := C.kp.there ⟨o, q⟩; rw [e] at e'; cases e'
theorem Cx.newBox (C : Cx G s₀ own wr mu env m cm R s) {lv : Value} {t : Tok} {ns : List Int} {Q : Value → Shared → Prop} (il : Imm mu s.heap (.lst (intD ns)) lv)
    (h : ∀ bx s', s.heap.get? bx = none → bx ∉ mu → Go [] s s' → BoxAt (bx :: mu) s'.heap bx ns 0 → Cx G s₀ own wr (bx :: mu) env m cm R s' → Q (.ref bx) s') : wpAny (model prog w) A (PySem.newList [lv, .int 0 t]) Q E s := by
  refine wpAny_newObj_type (h _ _ (size_none _) C.al.new (Go.ofH (Kp.push _)) ⟨lv, t, ⟨_, Heap.get?_push_size _ rfl, rfl, _, rfl⟩, ?_⟩ ((C.go (Go.ofH (Kp.push _))).muMore ⟨_, Heap.get?_push_size _ rfl⟩)) (by show 2 ≤ sizeLine; rw [sizeLine_eq]; decide)
  exact Imm.gen (fun b o n e => ⟨Heap.get?_push_of_some _ e, fun q => (List.mem_cons.mp q).elim (fun q => by rw [q, size_none] at e; cases e) n⟩) _ _ il
end
section
variable {w : World} {G : Gd w (Kf w.params)} {s₀ s s' : Shared} {own wr mu mu' : List Addr} {env : Env} {m cm : Str → Option Value} {R : Heap → Prop} {A : Around} {E : Value → Shared → Prop} {h h' : Heap}
set_option maxHeartbeats 400000
/-- an end is made -/
theorem Cx.newSpace (C : Cx G s₀ own wr mu env m cm R s) (hA : Ar 31 A) {t : Tok} {Q : Value → Shared → Prop}
    (h : ∀ x dx sx s', s.heap.get? x = none → s.heap.get? dx = none → s.heap.get? sx = none → dx ∉ mu → sx ∉ mu → sx ≠ dx → Go [] s s' → SpAt (sx :: dx :: mu) s'.heap x dx sx sd0 → SentAt PP w (sx :: dx :: mu) s'.heap sx [] → Cx G s₀ own wr (sx :: dx :: mu) env m cm R s' → Q (.ref x) s') :
    wpAny (model PP w) A (call (.ref 245) [.str "application" t]) Q E s := by
  refine makeI (nms := spNms) C.X hA C.al (by k_is) (by k_is) (by k_is) fun A₁ x dx s₁ hA₁ g dx0 x0 xm dxm hne I => ?_
  have C1 := (C.go g).muMore (a := dx) (let ⟨o, e⟩ := I.there; ⟨o, e⟩)
  refine sp_init_ C1.on hA₁ C1.al I List.mem_cons_self (fun b q => by rw [List.mem_singleton.mp q]; exact C.on.off dx0) fun sx s₂ g₂ sx0 hsd sp st => ⟨rfl, ?_⟩
  have gg : Go [] s s₂ := Go.made g g₂ fun b q => by rw [List.mem_singleton.mp q]; exact dx0
  have sxs : s.heap.get? sx = none := by
    cases q : s.heap.get? sx with
    | none => rfl
    | some o => rw [g.kp.all _ _ q] at sx0; cases sx0
  refine h x dx sx s₂ x0 dx0 sxs dxm (C.al.notin sxs) hsd gg sp st ?_
  have C2 := (C.go gg).muMoreL (V := [sx, dx]) fun b q => by
    rcases List.mem_cons.mp q with rfl | q
    · exact st.there
    · rw [List.mem_singleton.mp q]; exact sp.there
  exact C2

def bk0 : Bk := ⟨[], [], [], -1⟩
/-- a new book -/
structure BkNew (w : World) (H : Heap) (mu nu : List Addr) (h : Heap) (p : Addr × Addr) : Prop where
  m1 : p.1 ∉ mu
  m2 : p.2 ∉ mu
  n1 : H.get? p.1 = none
  n2 : H.get? p.2 = none
  bk : ∃ m, FldAt PP w nu h p.1 m ∧ BkF p.2 bk0 m
  lo : Fnd p.2 nu h []
theorem BkNew.gen {H : Heap} {nu nu' : List Addr} {p : Addr × Addr} (I : BkNew w H mu nu h p) (kp : ∀ b o, b ∉ nu → h.get? b = some o → h'.get? b = some o ∧ b ∉ nu') (k1 : ∀ o, h.get? p.1 = some o → h'.get? p.1 = some o) (k2 : ∀ o, h.get? p.2 = some o → h'.get? p.2 = some o) (hm : ∀ b ∈ mu', b ∈ mu) : BkNew w H mu' nu' h' p :=
  ⟨fun q => I.m1 (hm _ q), fun q => I.m2 (hm _ q), I.n1, I.n2, let ⟨m, F, B⟩ := I.bk; ⟨m, F.gen kp k1, B⟩, I.lo.gen kp k2⟩
abbrev flat (bs : List (Addr × Addr)) : List Addr := bs.flatMap fun p => [p.1, p.2]
/-- what is known of the books made so far -/
def BkJ (w : World) (H : Heap) (mu : List Addr) (i : Nat) (vs : List Value) (h : Heap) : Prop :=
  ∃ bs : List (Addr × Addr), vs = bs.map (fun p => .ref p.1) ∧ bs.length = i ∧ (flat bs).Nodup ∧ ∀ p ∈ bs, BkNew w H mu (flat bs ++ mu) h p
theorem BkJ.stb {H : Heap} {i : Nat} {vs : List Value} (J : BkJ w H mu i vs h) (kp : ∀ b o, b ∉ mu → h.get? b = some o → h'.get? b = some o) : BkJ w H mu i vs h' := by
  obtain ⟨bs, e1, e2, e3, e4⟩ := J
  exact ⟨bs, e1, e2, e3, fun p hp => (e4 p hp).gen (fun b o n e => ⟨kp b o (fun q => n (List.mem_append.mpr (.inr q))) e, n⟩) (fun o e => kp _ o (e4 p hp).m1 e) (fun o e => kp _ o (e4 p hp).m2 e) fun _ q => q⟩
theorem BkJ.less {H : Heap} {i : Nat} {vs : List Value} (J : BkJ w H mu i vs h) (hm : ∀ b ∈ mu', b ∈ mu) : BkJ w H mu' i vs h := by
  obtain ⟨bs, e1, e2, e3, e4⟩ := J
  exact ⟨bs, e1, e2, e3, fun p hp => (e4 p hp).gen (fun b o n e => ⟨e, fun q => n ((List.mem_append.mp q).elim (fun q => List.mem_append.mpr (.inl q)) fun q => List.mem_append.mpr (.inr (hm b q)))⟩) (fun o e => e) (fun o e => e) hm⟩

theorem bookElt {H : Heap} {keys : List (Option Expr)} {values : List Expr} {pos : Pos} {i : Nat} {vs : List Value} {p1 p2 p3 p4 p5 p6 p7 p8 p9 : Pos} {c1 c2 c3 c4 c5 : Nat}
    (hk : keys = [some (.Constant (.str "known") c1 p1), some (.Constant (.str "lost") c2 p2), some (.Constant (.str "told") c3 p3), some (.Constant (.str "newest") c4 p4)])
    (hv : values = [.List [] p5, .List [] p6, .List [] p7, .UnaryOp .USub (.Constant (.int 1) c5 p8) p9])
    (C : Cx G s [] [] mu env m cm R s) (hH : ∀ b, b ∉ mu → s.heap.get? b = none → H.get? b = none) (J : BkJ w H mu i vs s.heap) :
    wpAny (model PP w) A (eval (.Dict keys values pos) env) (fun y s' => Go [] s s' ∧ BkJ w H mu (i + 1) (vs ++ [y]) s'.heap) E s := by
  subst hk; subst hv
  obtain ⟨bs, e1, e2, e3, e4⟩ := J
  have old : ∀ p ∈ bs, (∃ o, s.heap.get? p.1 = some o) ∧ ∃ o, s.heap.get? p.2 = some o := fun p hp => ⟨let ⟨_, F, _⟩ := (e4 p hp).bk; F.there, (e4 p hp).lo.there⟩
  have olds : ∀ x ∈ flat bs, ∃ o, s.heap.get? x = some o := fun x hx => by
    obtain ⟨p, hp, hx⟩ := List.mem_flatMap.mp hx
    rcases List.mem_cons.mp hx with rfl | hx
    · exact (old p hp).1
    · rw [List.mem_singleton.mp hx]; exact (old p hp).2
  refine wpAny_Dict_walk (prog := PP) (w := w) (K := Str) (knd := strKind PP w) ?_ ?_ ?_ ?_ ?_
  · rfl
  · rfl
  · exact List.cons_ne_nil _ _
  · exact Nat.le_of_ble_eq_true rfl
  have b0 : s.heap.get? s.heap.objs.size = none := size_none _
  have d0 : ({ s with heap := s.heap.push { cls := .type "dict", data := .dict #[] } } : Shared).heap.DictOf (strKind PP w) s.heap.objs.size [] := Heap.DictOf.new _
  have g0 : Go [] s { s with heap := s.heap.push { cls := .type "dict", data := .dict #[] } } := Go.ofH (Kp.push _)
  have hbm := C.al.new
  have hbn := hH _ C.al.new b0
  have C1 := ((C.go g0).root).muMoreL (V := flat bs) fun x hx => let ⟨o, e⟩ := olds x hx; ⟨o, g0.kp.all _ _ e⟩
  generalize ({ s with heap := s.heap.push { cls := .type "dict", data := .dict #[] } } : Shared) = s1 at g0 d0 C1 ⊢
  generalize s.heap.objs.size = b at b0 d0 hbm hbn ⊢
  have bthere : ∃ o, s1.heap.get? b = some o := let ⟨o, _, _, e, _⟩ := d0; ⟨o, e⟩
  have C1 := C1.muMore bthere
  have hnu : ∀ x, x ∈ flat bs ++ mu → x ∈ flat bs ++ mu := fun _ q => q
  generalize hgn : flat bs ++ mu = nu at C1 e4 hnu
  refine pairTrees_cons_walk (C1.cStr fun t1 s2 C2 => List_ (wpAny_items_nil (C2.newList (ds := []) .nil (Nat.zero_le _) fun v1 s3 C3 => ?_)))
  refine pairTrees_cons_walk (C3.cStr fun t2 s4 C4 => C4.newFnd fun f s5 f0 f0' fm g F C5 => ?_)
  have hfb : f ≠ b := fun q => by
    obtain ⟨o, e⟩ := bthere
    have := C4.go0.kp.all _ _ e
    rw [← q, f0] at this; cases this
  have hfs : s.heap.get? f = none := by
    cases q : s.heap.get? f with
    | none => rfl
    | some o => rw [g0.kp.all _ _ q] at f0'; cases f0'
  have hfm : f ∉ mu := fun q => fm (List.mem_cons_of_mem _ (hgn ▸ List.mem_append.mpr (.inr q)))
  have hfn := hH f hfm hfs
  have C5 := C5.know (P := fun h => Imm (f :: b :: nu) h (.lst []) v1 ∧ Fnd f (f :: b :: nu) h []) ⟨C4.r.2.enter (W := [f]) g.kp.any (fun x q => by rw [List.mem_singleton.mp q]; exact f0), F⟩ fun h h' y k => ⟨y.1.kp k fun _ q => (nomatch q), y.2.kp k (fun _ q => (nomatch q)) fun q => (nomatch q)⟩
  refine pairTrees_cons_walk (C5.cStr fun t3 s6 C6 => List_ (wpAny_items_nil (C6.newList (ds := []) .nil (Nat.zero_le _) fun v3 s7 C7 => ?_)))
  refine pairTrees_cons_walk (C7.cStr fun t4 s8 C8 => UnaryOp_ (C8.cInt fun t5 s9 C9 => neg_int ?_))
  have C9 := C9.tok (s9.toks + 1)
  refine pairTrees_nil_walk (display_done_str (by rfl) (by show (["known", "lost", "told", "newest"] : List Str).Nodup; decide) (d0.at fun o e => C9.go0.kp.all _ _ e) fun h' hm hs => ?_)
  have hk9 : ∀ x o, s.heap.get? x = some o → h'.get? x = some o := fun x o e => (hs.2 x fun q => by rw [q, b0] at e; cases e).trans (C9.go0.kp.all _ _ (g0.kp.all _ _ e))
  refine ⟨⟨SameS.trans g0.same (SameS.trans C9.go0.same ⟨h', _, rfl⟩), .nil hk9⟩, ?_⟩
  have efl : flat (bs ++ [(b, f)]) = flat bs ++ [b, f] := by simp [flat]
  have m5 : ∀ x, x ∈ flat (bs ++ [(b, f)]) ++ mu → x ∈ f :: b :: nu := fun x q => by
    rw [efl, List.append_assoc] at q
    rw [← hgn]
    rcases List.mem_append.mp q with q | q
    · exact List.mem_cons_of_mem _ (List.mem_cons_of_mem _ (List.mem_append.mpr (.inl q)))
    · rcases List.mem_cons.mp q with rfl | q
      · exact List.mem_cons_of_mem _ List.mem_cons_self
      · rcases List.mem_cons.mp q with rfl | q
        · exact List.mem_cons_self
        · exact List.mem_cons_of_mem _ (List.mem_cons_of_mem _ (List.mem_append.mpr (.inr q)))
  refine ⟨bs ++ [(b, f)], by rw [e1]; simp, by simp [e2], ?_, fun p hp => ?_⟩
  · rw [efl, List.nodup_append]
    refine ⟨e3, by simp [Ne.symm hfb], fun x hx y hy => ?_⟩
    obtain ⟨o, e⟩ := olds x hx
    have hy : y = b ∨ y = f := by simpa using hy
    rintro rfl
    rcases hy with rfl | rfl
    · rw [b0] at e; cases e
    · rw [hfs] at e; cases e
  · rcases List.mem_append.mp hp with hp | hp
    · refine (e4 p hp).gen (fun x o n e => ⟨hk9 x o e, fun q => ?_⟩) (fun o e => hk9 _ o e) (fun o e => hk9 _ o e) fun _ q => q
      have q := m5 x q
      rcases List.mem_cons.mp q with rfl | q
      · rw [hfs] at e; cases e
      · rcases List.mem_cons.mp q with rfl | q
        · rw [b0] at e; cases e
        · exact n q
    · rw [List.mem_singleton.mp hp]
      have kk : ∀ x o, x ∉ f :: b :: nu → s9.heap.get? x = some o → h'.get? x = some o := fun x o n e => (hs.2 x fun q => n (by rw [q]; exact List.mem_cons_of_mem _ List.mem_cons_self)).trans e
      have kI : ∀ {d : D} {v : Value}, Imm (f :: b :: nu) s9.heap d v → Imm (flat (bs ++ [(b, f)]) ++ mu) h' d v := fun i => (i.keep kk).less m5
      refine ⟨hbm, hfm, hbn, hfn, ⟨fun y => if y = "known" then some (.lst []) else if y = "lost" then some (.raw (.ref f)) else if y = "told" then some (.lst []) else if y = "newest" then some (.int (-1)) else none, ⟨_, hm, by show 4 ≤ 10; decide, fun name d e => ?_⟩, ⟨?_, ?_, ?_, ?_⟩⟩, ?_⟩
      · by_cases q1 : name = "known"
        · rw [if_pos q1] at e; cases e
          exact ⟨v1, by subst q1; rfl, kI C9.r.1.1⟩
        · rw [if_neg q1] at e
          by_cases q2 : name = "lost"
          · rw [if_pos q2] at e; cases e
            exact ⟨.ref f, by subst q2; rfl, .raw⟩
          · rw [if_neg q2] at e
            by_cases q3 : name = "told"
            · rw [if_pos q3] at e; cases e
              exact ⟨v3, by subst q3; rfl, kI C9.r.2⟩
            · rw [if_neg q3] at e
              by_cases q4 : name = "newest"
              · rw [if_pos q4] at e; cases e
                exact ⟨_, by subst q4; rfl, .int⟩
              · rw [if_neg q4] at e; cases e
      · rfl
      · rfl
      · rfl
      · rfl
      · obtain ⟨vs, p, i⟩ := C9.r.1.2
        exact ⟨vs, p.at fun o e => (hs.2 f hfb).trans e, (ImmL.gen (fun x o n e => ⟨kk x o n e, fun q => n (m5 x q)⟩) _ _ i)⟩

/-- the comprehension of the books -/
theorem bookPk {H : Heap} {scope : Scope} {cl : List (Str × Addr)} {n : Nat} {keys : List (Option Expr)} {values : List Expr} {pos : Pos} {p1 p2 p3 p4 p5 p6 p7 p8 p9 : Pos} {c1 c2 c3 c4 c5 : Nat}
    (hk : keys = [some (.Constant (.str "known") c1 p1), some (.Constant (.str "lost") c2 p2), some (.Constant (.str "told") c3 p3), some (.Constant (.str "newest") c4 p4)])
    (hv : values = [.List [] p5, .List [] p6, .List [] p7, .UnaryOp .USub (.Constant (.int 1) c5 p8) p9])
    (hR : ∀ h, R h → ∀ b, h.get? b = none → H.get? b = none) : CompPkV PP A G s mu env cm R scope cl (.Dict keys values pos) n (BkJ w H) where
  jin mu' h := ⟨[], rfl, rfl, List.nodup_nil, fun _ q => nomatch q⟩
  jstb mu' i vs h h' J k := J.stb k
  jless mu' i vs h hm J := J.less hm
  jlen mu' i vs h J := by obtain ⟨bs, e1, e2, -⟩ := J; rw [e1, List.length_map, e2]
  jnew _ _ _ _ _ := trivial
  elt C mu' mC s' i vs hi Cc J := bookElt hk hv Cc (fun b _ e => hR _ Cc.r b e) J

/-- what keeps while what may turn turns but for its own things -/
def Kpt (own : List Addr) (P : List Addr → Heap → Prop) : Prop := ∀ mu mu' h h', (∀ b o, b ∉ mu → h.get? b = some o → h'.get? b = some o ∧ b ∉ mu') → (∀ b ∈ own, ∀ o, h.get? b = some o → h'.get? b = some o) → P mu h → P mu' h'
theorem Kpt.and {o o' : List Addr} {P P' : List Addr → Heap → Prop} (a : Kpt o P) (b : Kpt o' P') : Kpt (o ++ o') fun mu h => P mu h ∧ P' mu h := fun mu mu' h h' k kd x =>
  ⟨a mu mu' h h' k (fun b q => kd b (List.mem_append.mpr (.inl q))) x.1, b mu mu' h h' k (fun b q => kd b (List.mem_append.mpr (.inr q))) x.2⟩
theorem Kpt.box {bx : Addr} {ns : List Int} {k : Nat} : Kpt [bx] fun mu h => BoxAt mu h bx ns k := fun _ _ _ _ k kd x => x.gen k (kd _ (List.mem_singleton.mpr rfl))
theorem Kpt.fnd {f : Addr} {ds : List D} : Kpt [f] fun mu h => Fnd f mu h ds := fun _ _ _ _ k kd x => x.gen k (kd _ (List.mem_singleton.mpr rfl))
theorem Kpt.sp {x dx sx : Addr} {S : Sd} : Kpt [dx] fun mu h => SpAt mu h x dx sx S := fun _ _ _ _ k kd x => x.gen k (kd _ (List.mem_singleton.mpr rfl))
theorem Kpt.st {sx : Addr} {l : List Int} : Kpt [sx] fun mu h => SentAt PP w mu h sx l := fun _ _ _ _ k kd x => x.gen k (kd _ (List.mem_singleton.mpr rfl))
theorem Kpt.imm {d : D} {v : Value} : Kpt [] fun mu h => Imm mu h d v := fun _ _ _ _ k _ x => Imm.gen k _ _ x
theorem Kpt.stb {o : List Addr} {P : List Addr → Heap → Prop} (k : Kpt o P) (hw : ∀ b ∈ wr, b ∈ mu) (ho : ∀ b ∈ o, b ∉ wr) : ∀ h h', P mu h → Kp wr h h' → P mu h' := fun h h' x kp =>
  k mu mu h h' (fun b o n e => ⟨kp.keep b o (fun q => n (hw b q)) e, n⟩) (fun b q o e => kp.keep b o (ho b q) e) x
theorem Kpt.grow {o : List Addr} {P : List Addr → Heap → Prop} (k : Kpt o P) (W : List Addr) (g : Go [] s s') (fr : ∀ b ∈ W, s.heap.get? b = none) (x : P mu s.heap) : P (W ++ mu) s'.heap :=
  k mu (W ++ mu) _ _ (fun b o n e => ⟨g.kp.all b o e, fun q => (List.mem_append.mp q).elim (fun q => by rw [fr b q] at e; cases e) n⟩) (fun b _ o e => g.kp.all b o e) x
end
-- part F22
section
variable {prog : Program} {w : World} {K : Frag} {G : Gd w K} {s₀ s : Shared} {own wr mu : List Addr} {env : Env} {m cm : Str → Option Value} {R : Heap → Prop} {A : Around} {E : Value → Shared → Prop}
/-- e[:k] of a list that stood before -/
theorem Cx.sliceToL (_C : Cx G s₀ own wr mu env m cm R s) {value upper : Expr} {p pos : Pos} {Q : Value → Shared → Prop}
    (h : wpAny (model prog w) A (eval value env) (fun o s₁ => wpAny (model prog w) A (eval upper env) (fun vu s₂ => ∃ (l : Addr) (vs : List Value) (ds : List D) (k : Nat) (t : Tok) (R : Heap → Prop), Cx G s₀ own wr mu env m cm R s₂ ∧ vu = .int k t ∧ o = .ref l ∧ s₂.heap.IsList l vs.toArray ∧ ImmL mu s₂.heap ds vs ∧ ds.length ≤ 1000 ∧
      ∀ u s', Cx G s₀ own wr mu env m cm (fun h => R h ∧ Imm mu h (.lst (ds.take k)) u) s' → Q u s') E s₁) E s)
    (ht : ∀ o r, letTemporaryGo value o r = pure () := by intro _ _; rfl) :
    wpAny (model prog w) A (eval (.Subscript value (.Slice none (some upper) none p) pos) env) Q E s := by
  refine wpAny_Subscript_list_slice (wpAny_mono h (fun o s₁ h₁ => wpAny_pure (wpAny_mono h₁ (fun vu s₂ z => ?_) fun _ _ z => z)) fun _ _ z => z) ht
  obtain ⟨l, vs, ds, k, t, R, C, rfl, rfl, hls, il, hl, hQ⟩ := z
  have el := il.length
  refine ⟨l, vs.toArray, none, some (k : Int), rfl, hls, by rw [List.size_toArray, sizeLine_eq]; omega, .none, .int _ _, ?_⟩
  rw [slicePick_upto', List.toList_toArray]
  have k1 : Kp [] s₂.heap (s₂.heap.push { cls := .type "slice", data := .fields #[.none, .int k t, .none] }) := Kp.push _
  have C1 := C.go (Go.ofH k1)
  have z := C1.go (Go.ofH (Kp.push { cls := .type "list", data := .seq (vs.take k).toArray }))
  have e : (s₂.heap.push { cls := .type "slice", data := .fields #[.none, .int k t, .none] }).objs.size = s₂.heap.objs.size + 1 := Heap.size_push ..
  have im1 := imm_lst C1.al ((il.take (n := k)).kp k1 fun _ q => nomatch q)
  dsimp only at im1
  rw [e] at im1
  exact hQ _ _ (z.imm im1)
end
section
variable {w : World} {G : Gd w (Kf w.params)} {z s : Shared} {A : Around} {L f : Addr} {cdv : Value} {m cm : Str → Option Value}
set_option maxHeartbeats 4000000 in
theorem lawD (hA : Ar 75 A) (hu : A.units + 1400 < cLine) {script : List Int} {l : Addr} {vs : List Value} (hI : IntsAre vs script) (C : Cx G z [] [L] [L] (lawEnv L f cdv) m cm (fun h => h.IsList l vs.toArray) s) (hm : m "script" = some (.ref l)) (hl : script.length ≤ 63)
    {Q : Flow → Shared → Prop} {E : Value → Shared → Prop} (h : ∀ s', Go [] z s' → Q (.ret (.bool true)) s') : wpAny (model PP w) A (execs lawStmts.1 (lawEnv L f cdv)) Q E s := by
  have hL : (lawEnv L f cdv).locals ∈ [L] := List.mem_singleton.mpr rfl
  -- box, way
  refine wpAny_execs_cons (C.setPair hA.hd hL (List_ (wpAny_items_cons (Call_ ?_))))
  walk_at "blt"
  refine callWith_type1 (wpAny_items_cons (C.sliceToL ?_))
  walk_at "loc"
  refine C.cInt fun t1 s C => ⟨l, vs, intD script, 24, t1, _, C, rfl, rfl, C.r, ImmL.ints_of hI, by simp [intD]; omega, fun u s C => ?_⟩
  refine wpAny_items_nil (list_lst C.al C.r.2 (by simp [intD]; omega) fun lv s g il => ?_)
  have etk : (intD script).take 24 = intD (script.take 24) := by simp [intD, List.map_take]
  rw [etk] at il
  have hns : (script.take 24).length ≤ 64 := by rw [List.length_take]; omega
  generalize script.take 24 = ns at il hns
  have C := (C.go g).know (P := fun h => Imm [L] h (.lst (intD ns)) lv) il fun h h' y k => y.kp k fun _ q => q
  refine wpAny_items_cons (C.cInt fun t2 s C => wpAny_items_nil (C.newBox (ns := ns) C.r fun bx s₁ bx0 bxm g B C₁ => ?_))
  have zbx := C.none0 bx0
  refine C₁.newFnd fun wy s₂ wy0 zwy wym g₂ F C₂ => ?_
  have K2 : Kpt [bx, wy] fun mu h => BoxAt mu h bx ns 0 ∧ Fnd wy mu h [] := Kpt.and .box .fnd
  have C₂ := C₂.know (P := fun h => BoxAt [wy, bx, L] h bx ns 0 ∧ Fnd wy [wy, bx, L] h []) ⟨Kpt.box.grow [wy] g₂ (fun b q => by rw [List.mem_singleton.mp q]; exact wy0) B, F⟩
    (K2.stb C₂.wrmu fun b q z => by
      rw [List.mem_singleton.mp z] at q
      rcases List.mem_cons.mp q with q | q
      · exact bxm (by rw [q]; exact List.mem_cons_self)
      · exact wym (by rw [List.mem_singleton.mp q]; exact List.mem_cons_of_mem _ List.mem_cons_self))
  refine ⟨_, _, _, _, C₂, fun s C => ?_⟩
  -- sides
  refine wpAny_execs_cons (wpAny_Assign_Name (List_ (wpAny_items_cons (Call_ ?_))))
  walk_at "glo"
  refine callWith_K C.X (by k_is) (wpAny_items_cons (C.cStr fun t s C => wpAny_items_nil ⟨C.X, C.newSpace (hA.le (by omega)) fun x0 d0 e0 s₃ _ d00 e00 d0m e0m ed0 g₃ sp0 st0 C₃ => ?_⟩))
  have bxL : bx ≠ L := fun q => bxm (by rw [q]; exact List.mem_cons_self)
  have wyL : wy ≠ L := fun q => wym (by rw [q]; simp)
  have d0L : d0 ≠ L := fun q => d0m (by rw [q]; simp)
  have e0L : e0 ≠ L := fun q => e0m (by rw [q]; simp)
  have zd0 := C.none0 d00
  have ze0 := C.none0 e00
  have K3 : Kpt ([bx, wy] ++ ([d0] ++ [e0])) fun mu h => (BoxAt mu h bx ns 0 ∧ Fnd wy mu h []) ∧ (SpAt mu h x0 d0 e0 sd0 ∧ SentAt PP w mu h e0 []) := K2.and (Kpt.and .sp .st)
  have C₃ := C₃.know (P := fun h => (BoxAt [e0, d0, wy, bx, L] h bx ns 0 ∧ Fnd wy [e0, d0, wy, bx, L] h []) ∧ (SpAt [e0, d0, wy, bx, L] h x0 d0 e0 sd0 ∧ SentAt PP w [e0, d0, wy, bx, L] h e0 []))
    ⟨K2.grow [e0, d0] g₃ (fun b q => by rcases List.mem_cons.mp q with rfl | q; exact e00; rw [List.mem_singleton.mp q]; exact d00) C.r, sp0, st0⟩
    (K3.stb C₃.wrmu fun b q z => by
      have q : b = bx ∨ b = wy ∨ b = d0 ∨ b = e0 := by simpa using q
      have z := List.mem_singleton.mp z
      rcases q with rfl | rfl | rfl | rfl
      · exact bxL z
      · exact wyL z
      · exact d0L z
      · exact e0L z)
  refine wpAny_items_cons (Call_ ?_)
  walk_at "glo"
  refine callWith_K C₃.X (by k_is) (wpAny_items_cons (C₃.cStr fun t s C => wpAny_items_nil ⟨C.X, C.newSpace (hA.le (by omega)) fun x1 d1 e1 s₄ _ d10 e10 d1m e1m ed1 g₄ sp1 st1 C₄ => ?_⟩))
  have d1L : d1 ≠ L := fun q => d1m (by rw [q]; simp)
  have e1L : e1 ≠ L := fun q => e1m (by rw [q]; simp)
  have zd1 := C.none0 d10
  have ze1 := C.none0 e10
  have K4 : Kpt (([bx, wy] ++ ([d0] ++ [e0])) ++ ([d1] ++ [e1])) fun mu h => ((BoxAt mu h bx ns 0 ∧ Fnd wy mu h []) ∧ (SpAt mu h x0 d0 e0 sd0 ∧ SentAt PP w mu h e0 [])) ∧ (SpAt mu h x1 d1 e1 sd0 ∧ SentAt PP w mu h e1 []) := K3.and (Kpt.and .sp .st)
  have o4 : ∀ b ∈ ([bx, wy] ++ ([d0] ++ [e0])) ++ ([d1] ++ [e1]), b ∉ [L] := fun b q z => by
    have q : b = bx ∨ b = wy ∨ b = d0 ∨ b = e0 ∨ b = d1 ∨ b = e1 := by simpa using q
    have z := List.mem_singleton.mp z
    rcases q with rfl | rfl | rfl | rfl | rfl | rfl
    · exact bxL z
    · exact wyL z
    · exact d0L z
    · exact e0L z
    · exact d1L z
    · exact e1L z
  have C₄ := C₄.know (P := fun h => ((BoxAt [e1, d1, e0, d0, wy, bx, L] h bx ns 0 ∧ Fnd wy [e1, d1, e0, d0, wy, bx, L] h []) ∧ (SpAt [e1, d1, e0, d0, wy, bx, L] h x0 d0 e0 sd0 ∧ SentAt PP w [e1, d1, e0, d0, wy, bx, L] h e0 [])) ∧ (SpAt [e1, d1, e0, d0, wy, bx, L] h x1 d1 e1 sd0 ∧ SentAt PP w [e1, d1, e0, d0, wy, bx, L] h e1 []))
    ⟨K3.grow [e1, d1] g₄ (fun b q => by rcases List.mem_cons.mp q with rfl | q; exact e10; rw [List.mem_singleton.mp q]; exact d10) C.r, sp1, st1⟩ (K4.stb C₄.wrmu o4)
  refine wpAny_items_nil (C₄.newList (ds := [.raw (.ref x0), .raw (.ref x1)]) (.cons .raw (.cons .raw .nil)) (by show 2 ≤ 1000; decide) fun sv s C => C.st (fun s C => ?_) hL)
  -- books
  refine wpAny_execs_cons (C.compStV hA.hd hL (by rfl) (by with_unfolding_all rfl) (by decide) rfl (by decide) (by with_unfolding_all rfl) (fun _ _ e => e) C.apart (fun _ _ e => e) (fun _ => by with_unfolding_all rfl) ?_)
  walk_at "loc"
  have I5 := C.r
  have C5 := C
  have Lth : ∃ o, s.heap.get? L = some o := C.al L (by simp)
  have C := C.know (P := fun h => (∀ b o, b ∉ [L] → s.heap.get? b = some o → h.get? b = some o) ∧ ∃ o, h.get? L = some o) ⟨fun b o _ e => e, Lth⟩ fun h h' y k => ⟨fun b o n e => k.keep b o n (y.1 b o n e), k.there y.2⟩
  refine ⟨_, [.raw (.ref x0), .raw (.ref x1)], BkJ w s.heap, C, I5.2, by show 2 ≤ 1000; decide, bookPk rfl rfl fun h y b e => ?_, fun D vs s' g D0 J pl C' => ?_⟩
  · cases q : s.heap.get? b with
    | none => rfl
    | some o =>
      by_cases z : b = L
      · obtain ⟨o', e'⟩ := y.2
        rw [z, e'] at e; cases e
      · have := y.1 b o (fun y => z (List.mem_singleton.mp y)) q
        rw [e] at this; cases this
  obtain ⟨bs, q1, q2, q3, q4⟩ := J
  obtain ⟨b0, l0, b1, l1, rfl⟩ : ∃ b0 l0 b1 l1, bs = [(b0, l0), (b1, l1)] := by
    rcases bs with _ | ⟨⟨b0, l0⟩, _ | ⟨⟨b1, l1⟩, _ | ⟨p, r⟩⟩⟩
    · cases q2
    · cases q2
    · exact ⟨b0, l0, b1, l1, rfl⟩
    · cases q2
  have N0 := q4 (b0, l0) (by simp)
  have N1 := q4 (b1, l1) (by simp)
  have enu : flat [(b0, l0), (b1, l1)] = [b0, l0, b1, l1] := rfl
  rw [enu] at N0 N1 q3
  have hnew : ∀ b ∈ [b0, l0, b1, l1], s.heap.get? b = none := fun b q => by
    have q : b = b0 ∨ b = l0 ∨ b = b1 ∨ b = l1 := by simpa using q
    rcases q with rfl | rfl | rfl | rfl
    · exact N0.n1
    · exact N0.n2
    · exact N1.n1
    · exact N1.n2
  have hth : ∀ b ∈ [b0, l0, b1, l1], ∃ o, s'.heap.get? b = some o := fun b q => by
    have q : b = b0 ∨ b = l0 ∨ b = b1 ∨ b = l1 := by simpa using q
    rcases q with rfl | rfl | rfl | rfl
    · exact let ⟨_, F, _⟩ := N0.bk; F.there
    · exact N0.lo.there
    · exact let ⟨_, F, _⟩ := N1.bk; F.there
    · exact N1.lo.there
  have C6 := C'.muMoreL hth
  have P4 := K4 _ ([b0, l0, b1, l1] ++ [e1, d1, e0, d0, wy, bx, L]) s.heap s'.heap (fun b o n e => ⟨g.kp.keep b o (fun q => n (C5.wrmu b q)) e, fun q => (List.mem_append.mp q).elim (fun q => by rw [hnew b q] at e; cases e) n⟩) (fun b q o e => g.kp.keep b o (o4 b q) e) I5.1
  have Isv := Kpt.imm _ ([b0, l0, b1, l1] ++ [e1, d1, e0, d0, wy, bx, L]) s.heap s'.heap (fun b o n e => ⟨g.kp.keep b o (fun q => n (C5.wrmu b q)) e, fun q => (List.mem_append.mp q).elim (fun q => by rw [hnew b q] at e; cases e) n⟩) (fun _ q => nomatch q) I5.2
  clear K2 K3 K4 o4
  have hDmu : D ∉ [e1, d1, e0, d0, wy, bx, L] := C5.al.notin D0
  obtain ⟨nD, enD⟩ := pl
  have hDb : ∀ {b : Addr}, (∃ m, FldAt PP w ([b0, l0, b1, l1] ++ [e1, d1, e0, d0, wy, bx, L]) s'.heap b m ∧ True) → D ≠ b := fun {b} ⟨m, F, _⟩ q => by
    obtain ⟨kvs, d, -⟩ := F.at_
    obtain ⟨o, e, hc⟩ := d.typeIs
    rw [← q, enD] at e
    cases e
    exact absurd hc (by simp)
  have hDl : ∀ {b : Addr}, Fnd b ([b0, l0, b1, l1] ++ [e1, d1, e0, d0, wy, bx, L]) s'.heap [] → D ≠ b := fun {b} ⟨us, ⟨n, e⟩, il⟩ q => by
    rw [ImmL.nil_iff.mp il, ← q, enD] at e
    rw [q1] at e
    simp at e
  have hD : D ∉ [b0, l0, b1, l1] ++ [e1, d1, e0, d0, wy, bx, L] := fun q => by
    rcases List.mem_append.mp q with q | q
    · have q : D = b0 ∨ D = l0 ∨ D = b1 ∨ D = l1 := by simpa using q
      rcases q with q | q | q | q
      · exact hDb (let ⟨m, F, _⟩ := N0.bk; ⟨m, F, trivial⟩) q
      · exact hDl N0.lo q
      · exact hDb (let ⟨m, F, _⟩ := N1.bk; ⟨m, F, trivial⟩) q
      · exact hDl N1.lo q
    · exact hDmu q
  let a : Ads := ⟨fun i => cond i x1 x0, fun i => cond i d1 d0, fun i => cond i e1 e0, fun i => cond i b1 b0, fun i => cond i l1 l0, wy⟩
  have ha : bx :: a.all = [bx, d0, d1, e0, e1, b0, b1, l0, l1, wy] := rfl
  have wa : WAt w ([b0, l0, b1, l1] ++ [e1, d1, e0, d0, wy, bx, L]) s'.heap a Wd.init :=
    ⟨fun i => by cases i; exact P4.1.2.1; exact P4.2.1, fun i => by cases i; exact P4.1.2.2; exact P4.2.2, fun i => by cases i; exact N0.bk; exact N1.bk, fun i => by cases i; exact N0.lo; exact N1.lo, P4.1.1.2⟩
  have Ibv : Imm ([b0, l0, b1, l1] ++ [e1, d1, e0, d0, wy, bx, L]) s'.heap (booksD a) (.ref D) := Imm.lst_iff.mpr ⟨D, nD, vs, rfl, hD, enD, by rw [q1]; exact .cons .raw (.cons .raw .nil)⟩
  have mb0 := N0.m1
  have ml0 := N0.m2
  have mb1 := N1.m1
  have ml1 := N1.m2
  simp only [List.mem_cons, List.not_mem_nil, or_false, not_or, List.nodup_cons, not_false_eq_true, List.nodup_nil, and_true] at mb0 ml0 mb1 ml1 d1m e1m d0m e0m wym bxm q3
  obtain ⟨mb0a, mb0b, mb0c, mb0d, mb0e, mb0f, mb0g⟩ := mb0
  obtain ⟨ml0a, ml0b, ml0c, ml0d, ml0e, ml0f, ml0g⟩ := ml0
  obtain ⟨mb1a, mb1b, mb1c, mb1d, mb1e, mb1f, mb1g⟩ := mb1
  obtain ⟨ml1a, ml1b, ml1c, ml1d, ml1e, ml1f, ml1g⟩ := ml1
  obtain ⟨d1a, d1b, d1c, d1d, d1e⟩ := d1m
  obtain ⟨e1a, e1b, e1c, e1d, e1e⟩ := e1m
  obtain ⟨d0a, d0b, d0c⟩ := d0m
  obtain ⟨e0a, e0b, e0c⟩ := e0m
  obtain ⟨wya, wyb⟩ := wym
  obtain ⟨⟨q3a, q3b, q3c⟩, ⟨q3d, q3e⟩, q3f⟩ := q3
  have nd : (bx :: a.all).Nodup := by
    rw [ha]
    simp only [List.mem_cons, List.not_mem_nil, or_false, not_or, List.nodup_cons, not_false_eq_true, List.nodup_nil, and_true]
    refine ⟨⟨?_, ?_, ?_, ?_, ?_, ?_, ?_, ?_, ?_⟩, ⟨?_, ?_, ?_, ?_, ?_, ?_, ?_, ?_⟩, ⟨?_, ?_, ?_, ?_, ?_, ?_, ?_⟩, ⟨?_, ?_, ?_, ?_, ?_, ?_⟩, ⟨?_, ?_, ?_, ?_, ?_⟩, ⟨?_, ?_, ?_, ?_⟩, ⟨?_, ?_, ?_⟩, ⟨?_, ?_⟩, ?_⟩ <;> first | assumption | (intro e; exact absurd e.symm (by assumption))
  rw [List.nodup_cons] at nd
  have T : TopF z [L] ([b0, l0, b1, l1] ++ [e1, d1, e0, d0, wy, bx, L]) (lawEnv L f cdv) a bx :=
    { hL := hL, noc := rfl, wrL := fun b q => List.mem_singleton.mp q
      new := fun b q => by
        rw [ha] at q
        have q : b = bx ∨ b = d0 ∨ b = d1 ∨ b = e0 ∨ b = e1 ∨ b = b0 ∨ b = b1 ∨ b = l0 ∨ b = l1 ∨ b = wy := by simpa using q
        rcases q with rfl | rfl | rfl | rfl | rfl | rfl | rfl | rfl | rfl | rfl
        · exact zbx
        · exact zd0
        · exact zd1
        · exact ze0
        · exact ze1
        · exact C5.none0 N0.n1
        · exact C5.none0 N1.n1
        · exact C5.none0 N0.n2
        · exact C5.none0 N1.n2
        · exact zwy
      nL := fun q => by
        change L ∈ _ at q
        rw [ha] at q
        have q : L = bx ∨ L = d0 ∨ L = d1 ∨ L = e0 ∨ L = e1 ∨ L = b0 ∨ L = b1 ∨ L = l0 ∨ L = l1 ∨ L = wy := by simpa using q
        rcases q with q | q | q | q | q | q | q | q | q | q <;> exact absurd q.symm (by assumption)
      D := Ads.Dis.of a nd.2
      nbx := nd.1
      inmu := fun b q => by
        rw [ha] at q
        have q : b = bx ∨ b = d0 ∨ b = d1 ∨ b = e0 ∨ b = e1 ∨ b = b0 ∨ b = b1 ∨ b = l0 ∨ b = l1 ∨ b = wy := by simpa using q
        rcases q with rfl | rfl | rfl | rfl | rfl | rfl | rfl | rfl | rfl | rfl <;> simp }
  have C7 := C6.know (P := LR w ([b0, l0, b1, l1] ++ [e1, d1, e0, d0, wy, bx, L]) a bx Wd.init ns 0 sv (.ref D) (fun _ => True)) ⟨⟨wa, P4.1.1.1, Isv, Ibv⟩, trivial⟩ (LR.stb T Stw.true C6.wrmu)
  have M : LawM C7.mOf a bx sv (.ref D) := ⟨by walk_at "lk", by walk_at "lk", by walk_at "lk", by walk_at "lk"⟩
  exact lawA (hA.le (by omega)) (by omega) C7 T hns M fun W N k m cm s hN I M C => lawB (hA.le (by omega)) (by omega) (by omega) I C T M fun W m cm s I hall M C => lawC (hA.le (by omega)) (by omega) (by omega) I hall C T M h
end
-- part F23
theorem lawTop {w : World} {s₁ : Shared} {mg mb m : Str → Option Value} (KX : (Kf w.params).In s₁.heap) (g : s₁.heap.Ns mainGlobals mg) (b : s₁.heap.Ns builtinsNs mb) (nolimit : s₁.heap.NoLimit) (builtins : ∀ x : Str, x ≠ "__name__" → mb x = bootBuiltins x)
    {f : Addr} {cdv : Value} {l : Addr} {vs : List Value} {script : List Int} {h₁ : Heap} {tk : Nat} (F : Fr s₁.heap s₁.heap.objs.size h₁ m) (hm : m "script" = some (.ref l)) (hL : s₁.heap.IsList l vs.toArray) (hI : IntsAre vs script) (hl : script.length ≤ 63) {A : Around} (hA : Ar 75 A) (hu : A.units + 1400 < cLine) :
    wpAny (model PP w) A (execs lawStmts.1 (lawEnv s₁.heap.objs.size f cdv)) (fun fl s' => fl = .ret (.bool true) ∧ Go [] s₁ s') (fun _ _ => False) { s₁ with heap := h₁, toks := tk } := by
  have hne : l ≠ s₁.heap.objs.size := Nat.ne_of_lt (let ⟨_, e, _⟩ := hL; Heap.lt_size e)
  have C : Cx (⟨s₁.heap, mg, mb, KX, g, b, nolimit, builtins⟩ : Gd w (Kf w.params)) s₁ [] [s₁.heap.objs.size] [s₁.heap.objs.size] (lawEnv s₁.heap.objs.size f cdv) m (fun _ => none) (fun h => h.IsList l vs.toArray) { s₁ with heap := h₁, toks := tk } :=
    { ok := ⟨by with_unfolding_all rfl, rfl, rfl⟩, on0 := fun _ _ e => e, ownOff := .nil
      wrNew := fun b q => by rw [List.mem_singleton.mp q]; exact size_none _
      wrmu := fun _ q => q, ownmu := fun _ q => (nomatch q)
      same := ⟨_, _, rfl⟩, kp := .nil F.keep, ns := F.ns
      cells := fun n c e => by cases e
      apart := List.Pairwise.nil, cne := fun _ _ q => (nomatch q), cmu := fun _ _ q => (nomatch q)
      al := fun b q => by rw [List.mem_singleton.mp q]; exact let ⟨o, _, _, e, _⟩ := F.ns; ⟨o, e⟩
      r := let ⟨o, e, r⟩ := hL; ⟨o, F.keep _ _ e, r⟩
      stb := fun h h' x k => let ⟨o, e, r⟩ := x; ⟨o, k.keep _ _ (fun q => hne (List.mem_singleton.mp q)) e, r⟩ }
  exact lawD hA hu hI C hm hl fun s' g => ⟨rfl, g⟩
end Mine
set_option maxHeartbeats 8000000 in
theorem PySem.Challenge.cw_sj0112_01_holds : PySem.Challenge.rw_sj0112_01.Holds := by
  refine holds_law Mine.said_ fun said => ?_
  refine holds_open (q := Mine.vw) (loose := Mine.lo) (Xt := fun s => xlAt Mine.vw [] s && recOk (RowW.records PySem.Challenge.rw_sj0112_01.row.toRowW) s) (XP := XL Mine.vw []) (Yf := Hook.obs Mine.hook) (Ya := Hook.val Mine.hook) (YP := Hook.says Mine.hook) (N := 3426) Mine.left_ (Hook.of Mine.hook) (Hook.keeps Mine.hook) (fun s e => xl_of s (Bool.and_eq_true_iff.mp e).1) XL.keeps (by rfl) (by rfl) (by rfl) (fun s e => recFacts_of (Bool.and_eq_true_iff.mp e).2) (by rfl) (by first | assumption | decide +kernel) (by decide +kernel) ⟨rfl, rfl, rfl, rfl, rfl, by decide +kernel⟩ ?_ ?_
  · w_witness2
  k_fill
  intro w s₀ s₁ mg mb G Y fa o pm cd doc dV kV ho hd hcd hD hmg hg args vals as hpre hlay hrd hwl hlo
  have KX := kIn_of Y
  refine Ground.open G ?_
  intro T B D TE TW
  clear D
  have TA := at_of_top T
  clear hmg
  wrow_args hpre hlay hrd hwl hlo
  refine enter_call ?_
  w_top on
  refine codeAny_mono ?_ (fun _ _ g => GoodW.toG g)
  have K0 := below_caller (Top.heap T)
  w_call any ho hd hcd hD T F
  clear hd TA
  k_drop
  refine' wpAny_mono (Mine.lawTop ?zq1 ?zq2 ?zq3 ?zq4 ?zq5 ?zq6 ?zq7 ?zq8 ?zq9 ?zqa ?zqb ?zqc) (fun fl s' z => ?zqd) (fun _ _ z => z.elim)
  case zq1 => assumption
  case zq2 => exact Top.g (by assumption)
  case zq3 => exact Top.b (by assumption)
  case zq4 => exact Top.nolimit (by assumption)
  case zq5 => exact Top.builtins (by assumption)
  case zq6 => assumption
  case zq7 => rfl
  case zq8 => assumption
  case zq9 => assumption
  case zqa => omega
  case zqb => exact ⟨rfl, by show callerA.depth + 1 + 75 < recursionLimit; decide, by show callerA.units + 3 + 16 * 75 < cLine; decide⟩
  case zqc => show callerA.units + 3 + 1400 < cLine; decide
  case zqd =>
    obtain ⟨rfl, ⟨h', tk', rfl⟩, k⟩ := z
    refine ⟨.inl ⟨.bool true, .bool true, [], rfl, raisesW_false ?_, .bool true, ?_, ?_⟩, k.all, rfl, by assumption⟩
    · wrow_none_raised
    · kc_post
    · exact unshared_nil
end
