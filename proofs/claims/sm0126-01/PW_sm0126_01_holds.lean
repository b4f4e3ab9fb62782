import PyProof.Rows.All
import Wide.All
import OpenK.AllK
import Wide.FinOn
import Lean
import PySem.Challenge.RW_sm0126_01
set_option Elab.async false
set_option compiler.extract_closed false
set_option linter.unusedVariables false
set_option linter.unusedSimpArgs false

section
set_option maxRecDepth 100000
set_option genSizeOf false
namespace Mine
open PySem PySem.W PySem.Calls PyProof.Rows PySem.Spec

/-! abstract values and objects -/
inductive V where
  | none | bool (b : Bool) | int (i : Int) | str (s : Str) | ref (a : Addr) | bi (id : String) | ty (n : String)

noncomputable def RV : V → Value → Prop
  | .none, v => v = .none
  | .bool b, v => v = .bool b
  | .int i, v => ∃ t, v = .int i t
  | .str x, v => ∃ t, v = .str x t
  | .ref a, v => v = .ref a
  | .bi id, v => v = .builtin id
  | .ty n, v => v = .type n

theorem RV.int (i : Int) (t : Tok) : RV (.int i) (.int i t) := ⟨t, rfl⟩
theorem RV.str (x : Str) (t : Tok) : RV (.str x) (.str x t) := ⟨t, rfl⟩

inductive All2 {α β : Type} (R : α → β → Prop) : List α → List β → Prop
  | nil : All2 R [] []
  | cons {a b l l'} : R a b → All2 R l l' → All2 R (a :: l) (b :: l')

theorem All2.length {α β : Type} {R : α → β → Prop} {l : List α} {l' : List β} (h : All2 R l l') : l.length = l'.length := by
  induction h with
  | nil => rfl
  | cons _ _ ih => simp [ih]
theorem All2.get {α β : Type} {R : α → β → Prop} {l : List α} {l' : List β} (h : All2 R l l') {i : Nat} {a : α} (e : l[i]? = some a) : ∃ b, l'[i]? = some b ∧ R a b := by
  induction h generalizing i with
  | nil => cases e
  | cons r _ ih =>
    cases i with
    | zero => cases e; exact ⟨_, rfl, r⟩
    | succ i => exact ih (by simpa using e)
theorem All2.get' {α β : Type} {R : α → β → Prop} {l : List α} {l' : List β} (h : All2 R l l') {i : Nat} {b : β} (e : l'[i]? = some b) : ∃ a, l[i]? = some a ∧ R a b := by
  induction h generalizing i with
  | nil => cases e
  | cons r _ ih =>
    cases i with
    | zero => cases e; exact ⟨_, rfl, r⟩
    | succ i => exact ih (by simpa using e)
theorem All2.set {α β : Type} {R : α → β → Prop} {l : List α} {l' : List β} (h : All2 R l l') {i : Nat} {a : α} {b : β} (r : R a b) : All2 R (l.set i a) (l'.set i b) := by
  induction h generalizing i with
  | nil => exact .nil
  | cons r' h' ih =>
    cases i with
    | zero => exact .cons r h'
    | succ i => exact .cons r' ih
theorem All2.append {α β : Type} {R : α → β → Prop} {l₁ l₂ : List α} {l₁' l₂' : List β} (h : All2 R l₁ l₁') (h' : All2 R l₂ l₂') : All2 R (l₁ ++ l₂) (l₁' ++ l₂') := by
  induction h with
  | nil => exact h'
  | cons r _ ih => exact .cons r ih
theorem All2.take {α β : Type} {R : α → β → Prop} {l : List α} {l' : List β} (h : All2 R l l') (n : Nat) : All2 R (l.take n) (l'.take n) := by
  induction h generalizing n with
  | nil => simp; exact .nil
  | cons r _ ih => cases n with
    | zero => exact .nil
    | succ n => exact .cons r (ih n)
theorem All2.drop {α β : Type} {R : α → β → Prop} {l : List α} {l' : List β} (h : All2 R l l') (n : Nat) : All2 R (l.drop n) (l'.drop n) := by
  induction h generalizing n with
  | nil => simp; exact .nil
  | cons r h' ih => cases n with
    | zero => exact .cons r h'
    | succ n => exact ih n

inductive O where
  | list (vs : List V) | tup (vs : List V) | inst (C dx : Addr) | flds (fs : List (Str × V))

noncomputable def RE (p : Str × V) (e : DictEntry) : Prop := (∃ t, e.key = .str p.1 t) ∧ RV p.2 e.val

noncomputable def At (h : Heap) (a : Addr) : O → Prop
  | .list vs => ∃ (its : List Value) (n : Nat), h.get? a = some (listOf its.toArray n) ∧ All2 RV vs its
  | .tup vs => ∃ its : List Value, IsTup h a its.toArray ∧ All2 RV vs its
  | .inst C dx => h.get? a = some (instObj C dx)
  | .flds fs => ∃ es n, h.get? a = some (dictOf es n) ∧ All2 RE fs es ∧ (fs.map (·.1)).Nodup

theorem At.some {h : Heap} {a : Addr} {o : O} (x : At h a o) : ∃ ob, h.get? a = some ob := by
  cases o with
  | list => obtain ⟨_, _, ho, _⟩ := x; exact ⟨_, ho⟩
  | tup => obtain ⟨_, ⟨o, ho, _⟩, _⟩ := x; exact ⟨o, ho⟩
  | inst => exact ⟨_, x⟩
  | flds => obtain ⟨_, _, ho, _⟩ := x; exact ⟨_, ho⟩
theorem At.keep {h h' : Heap} {a : Addr} {o : O} (x : At h a o) (k : ∀ ob, h.get? a = Option.some ob → h'.get? a = Option.some ob) : At h' a o := by
  cases o with
  | list => obtain ⟨its, n, ho, q⟩ := x; exact ⟨its, n, k _ ho, q⟩
  | tup => obtain ⟨its, ⟨o, ho, r⟩, q⟩ := x; exact ⟨its, ⟨o, k _ ho, r⟩, q⟩
  | inst => exact k _ x
  | flds => obtain ⟨es, n, ho, q⟩ := x; exact ⟨es, n, k _ ho, q⟩

noncomputable abbrev Led := List (Addr × O)

structure Own (g h : Heap) (S : Led) : Prop where
  keep : ∀ b o, g.get? b = Option.some o → h.get? b = Option.some o
  at_ : ∀ p ∈ S, At h p.1 p.2
  off : ∀ p ∈ S, g.get? p.1 = Option.none
  nodup : (S.map (·.1)).Nodup

/-! the top's constants -/
set_option genInjectivity false
structure TC where
  prog : Program
  w : World
  K : Frag
  p : Program
  loose : List Str
  mg : Str → Option Value
  mb : Str → Option Value
  os : OsState

structure TC.B (T : TC) (g : Heap) : Prop where
  k : T.K.In g
  t : TopRead T.p T.loose T.mg T.mb g

theorem TC.B.keeps {T : TC} {g h : Heap} (x : T.B g) (k : ∀ b o, g.get? b = Option.some o → h.get? b = Option.some o) : T.B h :=
  ⟨fun a o e => k a o (x.k a o e), x.t.keeps k⟩

/-- a frame: its names' home; how many calls deep it may go -/
structure Cx where
  env : Env
  n : Nat
  fn : Bool
structure Cx.Ok (c : Cx) : Prop where
  apart : c.env.cells.Pairwise fun x y => x.2 ≠ y.2
  kind : c.env.scope.kind = .function
  glob : c.env.globals = mainGlobals
  bins : c.env.builtins = builtinsNs

/-- what stands around it: what must stay as it is (g), the top (b) -/
structure Fx where
  A : Around
  g : Heap
  b : Heap
structure Fx.Ok (T : TC) (c : Cx) (y : Fx) : Prop where
  hand : y.A.handled = Option.none
  depth : y.A.depth + c.n < recursionLimit
  units : y.A.units + 8 * c.n + 100 < cLine
  base : T.B y.b
  sub : ∀ a o, y.b.get? a = Option.some o → y.g.get? a = Option.some o
  low : y.b.objs.size ≤ c.env.locals
  offL : y.g.get? c.env.locals = Option.none
  mine : c.fn = true → ∀ q ∈ c.env.cells, y.g.get? q.2 = Option.none

/-- the abstract locals: names and values, the names all different -/
noncomputable abbrev Loc := List (Str × V)

noncomputable def NameAt (env : Env) (m : Str → Option Value) (h : Heap) (x : Str) (v : V) : Prop :=
  (env.kindOf x = Option.some .local ∧ ∃ v', m x = Option.some v' ∧ RV v v') ∨
  (env.kindOf x = Option.some .cell ∧ ∃ cc v', env.cells.lookup x = Option.some cc ∧ h.IsCell cc (Option.some v') ∧ RV v v')

structure St (T : TC) (c : Cx) (y : Fx) (r : Loc) (S : Led) (s : Shared) : Prop where
  gens : s.gens = #[]
  os : s.os = T.os
  own : Own y.g s.heap S
  fr : ∃ m, s.heap.Ns c.env.locals m ∧ ∀ q ∈ r, NameAt c.env m s.heap q.1 q.2
  keys : (r.map (·.1)).Nodup
  notL : ∀ p ∈ S, p.1 ≠ c.env.locals
  cells : ∀ q ∈ c.env.cells, ((∀ p ∈ S, p.1 ≠ q.2) ∧ q.2 ≠ c.env.locals) ∧ ∃ v, s.heap.IsCell q.2 v

theorem St.frame {T : TC} {c : Cx} {y : Fx} {r : Loc} {S : Led} {s : Shared} (X : St T c y r S s) (oy : y.Ok T c) : ∃ m, Fr y.b c.env.locals s.heap m ∧ ∀ q ∈ r, NameAt c.env m s.heap q.1 q.2 := by
  obtain ⟨m, ns, nm⟩ := X.fr
  exact ⟨m, ⟨ns, fun b o e => X.own.keep b o (oy.sub b o e), oy.low⟩, nm⟩

noncomputable abbrev NoE : Value → Shared → Prop := fun _ _ => False

theorem IsCell.keep {h h' : Heap} {cc : Addr} {v : Option Value} (x : h.IsCell cc v) (k : ∀ o, h.get? cc = Option.some o → h'.get? cc = Option.some o) : h'.IsCell cc v := by
  obtain ⟨o, ho, hd⟩ := x
  exact ⟨o, k o ho, hd⟩
theorem mem_of_lookup {α : Type} : ∀ {l : List (Str × α)} {x : Str} {a : α}, l.lookup x = Option.some a → (x, a) ∈ l
  | [], _, _, e => by cases e
  | (y, b) :: r, x, a, e => by
    rw [List.lookup_cons] at e
    cases hb : x == y with
    | true => rw [hb] at e; cases e; rw [eq_of_beq hb]; exact .head _
    | false => rw [hb] at e; exact .tail _ (mem_of_lookup e)
theorem NameAt.keep {env : Env} {m : Str → Option Value} {h h' : Heap} {x : Str} {v : V} (a : NameAt env m h x v) (k : ∀ q ∈ env.cells, ∀ o, h.get? q.2 = Option.some o → h'.get? q.2 = Option.some o) : NameAt env m h' x v := by
  rcases a with a | ⟨a, cc, v', b, d, e⟩
  · exact .inl a
  · exact .inr ⟨a, cc, v', b, IsCell.keep d (k _ (mem_of_lookup b)), e⟩

/-- the ledger with one object changed, by its place -/
inductive Chg (a : Addr) (o o' : O) : Led → Led → Prop
  | head {S} : Chg a o o' ((a, o) :: S) ((a, o') :: S)
  | tail {p S S'} : Chg a o o' S S' → Chg a o o' (p :: S) (p :: S')
theorem Chg.mem {a : Addr} {o o' : O} {S S' : Led} (h : Chg a o o' S S') : (a, o) ∈ S := by
  induction h with
  | head => exact .head _
  | tail _ ih => exact .tail _ ih
theorem Chg.mem' {a : Addr} {o o' : O} {S S' : Led} (h : Chg a o o' S S') : (a, o') ∈ S' := by
  induction h with
  | head => exact .head _
  | tail _ ih => exact .tail _ ih
theorem Chg.keys {a : Addr} {o o' : O} {S S' : Led} (h : Chg a o o' S S') : S'.map (·.1) = S.map (·.1) := by
  induction h with
  | head => rfl
  | tail _ ih => simp [ih]
theorem Chg.all {a : Addr} {o o' : O} {S S' : Led} (h : Chg a o o' S S') (nd : (S.map (·.1)).Nodup) : ∀ p ∈ S', p = (a, o') ∨ (p ∈ S ∧ p.1 ≠ a) := by
  induction h with
  | head =>
    intro p hp
    rw [List.map_cons, List.nodup_cons] at nd
    rcases List.mem_cons.mp hp with rfl | hp
    · exact .inl rfl
    · exact .inr ⟨.tail _ hp, fun e => nd.1 (List.mem_map.mpr ⟨p, hp, e⟩)⟩
  | @tail q S S' h ih =>
    intro p hp
    rw [List.map_cons, List.nodup_cons] at nd
    rcases List.mem_cons.mp hp with rfl | hp
    · exact .inr ⟨.head _, fun e => nd.1 (List.mem_map.mpr ⟨_, h.mem, e.symm⟩)⟩
    · exact (ih nd.2 p hp).imp id fun z => ⟨.tail _ z.1, z.2⟩

theorem nodup_inj {α : Type} {l : List α} (nd : l.Nodup) {i j : Nat} (hi : i < l.length) (hj : j < l.length) (e : l[i] = l[j]) : i = j := by
  have P := List.pairwise_iff_getElem.mp nd
  rcases Nat.lt_trichotomy i j with h | h | h
  · exact absurd e (P i j hi hj h)
  · exact h
  · exact absurd e.symm (P j i hj hi h)

section
variable {T : TC} {c : Cx} {y : Fx} {r : Loc} {S : Led} {s : Shared}

/-- the heap grows only -/
theorem St.ext {h' : Heap} {t : Nat} (x : St T c y r S s) (k : ∀ b o, s.heap.get? b = Option.some o → h'.get? b = Option.some o) : St T c y r S { s with heap := h', toks := t } := by
  obtain ⟨m, F, nm⟩ := x.fr
  exact ⟨x.gens, x.os, ⟨fun b o e => k b o (x.own.keep b o e), fun p hp => (x.own.at_ p hp).keep (k _), x.own.off, x.own.nodup⟩,
    ⟨m, F.keeps k, fun q hq => (nm q hq).keep fun _ _ o => k _ o⟩, x.keys, x.notL, fun q hq => ⟨(x.cells q hq).1, (x.cells q hq).2.imp fun _ z => IsCell.keep z (k _)⟩⟩
theorem St.tok {t : Nat} (x : St T c y r S s) : St T c y r S { s with toks := t } := x.ext fun _ _ e => e
/-- one object of the ledger changed -/
theorem St.upd {h' : Heap} {t : Nat} {a : Addr} {o o' : O} {S' : Led} (x : St T c y r S s) (hi : Chg a o o' S S') (hs : Heap.SameBut a s.heap h') (ha : At h' a o') : St T c y r S' { s with heap := h', toks := t } := by
  have hm := hi.mem
  have hmem := hi.all x.own.nodup
  obtain ⟨m, F, nm⟩ := x.fr
  have off : y.g.get? a = Option.none := x.own.off _ hm
  have kp : ∀ b ob, y.g.get? b = Option.some ob → h'.get? b = Option.some ob := fun b ob e => by
    have : b ≠ a := fun q => by rw [q, off] at e; cases e
    exact (hs.2 b this).trans (x.own.keep b ob e)
  refine ⟨x.gens, x.os, ⟨kp, fun p hp => ?_, fun p hp => ?_, by rw [hi.keys]; exact x.own.nodup⟩, ⟨m, F.sameBut hs (fun q => x.notL _ hm q.symm), fun q hq => (nm q hq).keep fun y' hy ob e => (hs.2 _ (fun z => (x.cells y' hy).1.1 _ hm z.symm)).trans e⟩, x.keys, fun p hp => ?_, fun q hq => ⟨⟨fun p hp => ?_, (x.cells q hq).1.2⟩, (x.cells q hq).2.imp fun _ z => IsCell.keep z fun o e => (hs.2 _ (fun z => (x.cells q hq).1.1 _ hm z.symm)).trans e⟩⟩
  · rcases hmem p hp with rfl | ⟨h1, h2⟩
    · exact ha
    · exact (x.own.at_ p h1).keep fun ob e => (hs.2 _ h2).trans e
  · rcases hmem p hp with rfl | ⟨h1, h2⟩
    · exact off
    · exact x.own.off p h1
  · rcases hmem p hp with rfl | ⟨h1, h2⟩
    · exact x.notL (a, o) hm
    · exact x.notL p h1
  · rcases hmem p hp with rfl | ⟨h1, h2⟩
    · exact (x.cells q hq).1.1 (a, o) hm
    · exact (x.cells q hq).1.1 p h1
end


inductive Old (x : Str) (v : V) : Loc → Loc → Prop
  | head {w r} : Old x v ((x, w) :: r) ((x, v) :: r)
  | tail {q r r'} : Old x v r r' → Old x v (q :: r) (q :: r')
/-- the locals after a store -/
noncomputable def Put (x : Str) (v : V) (r r' : Loc) : Prop := Old x v r r' ∨ ((∀ k ∈ r.map (·.1), k ≠ x) ∧ r' = r ++ [(x, v)])

theorem Old.keys {x : Str} {v : V} {r r' : Loc} (P : Old x v r r') : r'.map (·.1) = r.map (·.1) ∧ x ∈ r.map (·.1) := by
  induction P with
  | head => exact ⟨rfl, .head _⟩
  | tail _ ih => exact ⟨by simp [ih.1], .tail _ ih.2⟩
theorem Old.mem {x : Str} {v : V} {r r' : Loc} (P : Old x v r r') (nd : (r.map (·.1)).Nodup) : ∀ q ∈ r', q = (x, v) ∨ (q ∈ r ∧ q.1 ≠ x) := by
  induction P with
  | head =>
    intro q hq
    rw [List.map_cons, List.nodup_cons] at nd
    rcases List.mem_cons.mp hq with rfl | hq
    · exact .inl rfl
    · exact .inr ⟨.tail _ hq, fun e => nd.1 (by rw [← e]; exact List.mem_map.mpr ⟨q, hq, rfl⟩)⟩
  | tail P ih =>
    intro q hq
    rw [List.map_cons, List.nodup_cons] at nd
    rcases List.mem_cons.mp hq with rfl | hq
    · exact .inr ⟨.head _, fun e => nd.1 (e ▸ P.keys.2)⟩
    · exact (ih nd.2 q hq).imp id fun h => ⟨.tail _ h.1, h.2⟩
theorem Put.keys {x : Str} {v : V} {r r' : Loc} (P : Put x v r r') (nd : (r.map (·.1)).Nodup) : (r'.map (·.1)).Nodup := by
  rcases P with P | ⟨hn, rfl⟩
  · rw [P.keys.1]; exact nd
  · rw [List.map_append, List.nodup_append]
    exact ⟨nd, by simp, fun a ha b hb => by simp at hb; subst hb; exact hn a ha⟩
theorem Put.mem {x : Str} {v : V} {r r' : Loc} (P : Put x v r r') (nd : (r.map (·.1)).Nodup) : ∀ q ∈ r', q = (x, v) ∨ (q ∈ r ∧ q.1 ≠ x) := by
  rcases P with P | ⟨hn, rfl⟩
  · exact P.mem nd
  · intro q hq
    rcases List.mem_append.mp hq with hq | hq
    · exact .inr ⟨hq, hn _ (List.mem_map_of_mem hq)⟩
    · exact .inl (List.mem_singleton.mp hq)

section
variable {T : TC} {c : Cx} {y : Fx} {r r' : Loc} {S : Led} {s : Shared}

theorem St.storeL {h' : Heap} {t : Nat} {x : Str} {v : V} {v' : Value} {m : Str → Option Value} (X : St T c y r S s) (oy : y.Ok T c) (nm : ∀ q ∈ r, NameAt c.env m s.heap q.1 q.2) (P : Put x v r r') (rv : RV v v') (hk : c.env.kindOf x = Option.some .local)
    (hn : h'.Ns c.env.locals (fun y => if y = x then Option.some v' else m y)) (hs : Heap.SameBut c.env.locals s.heap h') : St T c y r' S { s with heap := h', toks := t } := by
  have kp : ∀ b ob, y.g.get? b = Option.some ob → h'.get? b = Option.some ob := fun b ob e => by
    have : b ≠ c.env.locals := fun q => by rw [q, oy.offL] at e; cases e
    exact (hs.2 b this).trans (X.own.keep b ob e)
  have cl : ∀ q ∈ c.env.cells, ∀ o, s.heap.get? q.2 = Option.some o → h'.get? q.2 = Option.some o := fun q hq o e => (hs.2 _ (X.cells q hq).1.2).trans e
  refine ⟨X.gens, X.os, ⟨kp, fun p hp => (X.own.at_ p hp).keep fun o e => (hs.2 _ (X.notL p hp)).trans e, X.own.off, X.own.nodup⟩, ⟨_, hn, fun q hq => ?_⟩, P.keys X.keys, X.notL, fun q hq => ⟨(X.cells q hq).1, (X.cells q hq).2.imp fun _ z => IsCell.keep z (cl q hq)⟩⟩
  rcases P.mem X.keys q hq with rfl | ⟨h1, h2⟩
  · exact .inl ⟨hk, v', by simp, rv⟩
  · rcases nm q h1 with ⟨a, w, b, d⟩ | a
    · exact .inl ⟨a, w, by simp [h2, b], d⟩
    · obtain ⟨a, cc, w, b, d, e⟩ := a
      exact .inr ⟨a, cc, w, b, IsCell.keep d (cl _ (mem_of_lookup b)), e⟩
theorem apart_of {cs : List (Str × Addr)} (ap : cs.Pairwise fun x y => x.2 ≠ y.2) {x y : Str × Addr} (hx : x ∈ cs) (hy : y ∈ cs) (e : x.2 = y.2) : x = y := by
  induction ap with
  | nil => cases hx
  | @cons z l h _ ih =>
    rcases List.mem_cons.mp hx with rfl | hx
    · rcases List.mem_cons.mp hy with rfl | hy
      · rfl
      · exact absurd e (h y hy)
    · rcases List.mem_cons.mp hy with hy | hy
      · rw [hy] at e; exact absurd e.symm (h x hx)
      · exact ih hx hy
theorem St.storeC {h' : Heap} {t : Nat} {x : Str} {v : V} {v' : Value} {cc : Addr} (X : St T c y r S s) (ok : c.Ok) (oy : y.Ok T c) (hf : c.fn = true) (P : Put x v r r') (rv : RV v v') (hk : c.env.kindOf x = Option.some .cell)
    (hc : c.env.cells.lookup x = Option.some cc) (hv : h'.IsCell cc (Option.some v')) (hs : Heap.SameBut cc s.heap h') : St T c y r' S { s with heap := h', toks := t } := by
  obtain ⟨m, F, nm⟩ := X.fr
  have hm := mem_of_lookup hc
  have off := oy.mine hf _ hm
  have X1 := X.cells _ hm
  have kp : ∀ b ob, y.g.get? b = Option.some ob → h'.get? b = Option.some ob := fun b ob e => by
    have : b ≠ cc := fun q => by rw [q, off] at e; cases e
    exact (hs.2 b this).trans (X.own.keep b ob e)
  refine ⟨X.gens, X.os, ⟨kp, fun p hp => (X.own.at_ p hp).keep fun o e => (hs.2 _ (X1.1.1 p hp)).trans e, X.own.off, X.own.nodup⟩, ⟨m, F.sameBut hs X1.1.2.symm, fun q hq => ?_⟩, P.keys X.keys, X.notL, fun q hq => ⟨(X.cells q hq).1, ?_⟩⟩
  · rcases P.mem X.keys q hq with rfl | ⟨h1, h2⟩
    · exact .inr ⟨hk, cc, v', hc, hv, rv⟩
    · rcases nm q h1 with a | a
      · exact .inl a
      · obtain ⟨a, c2, w, b, d, e⟩ := a
        refine .inr ⟨a, c2, w, b, IsCell.keep d fun o ho => (hs.2 _ fun z => ?_).trans ho, e⟩
        exact h2 (congrArg Prod.fst (apart_of ok.apart (mem_of_lookup b) hm z))
  · by_cases z : q.2 = cc
    · rw [z]; exact ⟨_, hv⟩
    · exact (X.cells q hq).2.imp fun _ y' => IsCell.keep y' fun o ho => (hs.2 _ z).trans ho
/-- names forgotten -/
theorem St.less (X : St T c y r S s) (h : ∀ q ∈ r', q ∈ r) (nd : (r'.map (·.1)).Nodup) : St T c y r' S s := by
  obtain ⟨m, F, nm⟩ := X.fr
  exact ⟨X.gens, X.os, X.own, ⟨m, F, fun q hq => nm q (h q hq)⟩, nd, X.notL, X.cells⟩
/-- objects forgotten -/
theorem St.drop {S' : Led} (X : St T c y r S s) (h : S'.Sublist S) : St T c y r S' s :=
  ⟨X.gens, X.os, ⟨X.own.keep, fun p hp => X.own.at_ p (h.subset hp), fun p hp => X.own.off p (h.subset hp), (h.map _).nodup X.own.nodup⟩, X.fr, X.keys, fun p hp => X.notL p (h.subset hp), fun q hq => ⟨⟨fun p hp => (X.cells q hq).1.1 p (h.subset hp), (X.cells q hq).1.2⟩, (X.cells q hq).2⟩⟩
end

/-! every object above the base: to use rules that speak of a ledger -/
noncomputable def allOf (g : Heap) (L : Addr) (h : Heap) : List (Addr × Obj) := (List.range h.objs.size).filterMap fun a => if a = L ∨ (g.get? a).isSome then Option.none else (h.get? a).map fun o => (a, o)
theorem mem_allOf {g h : Heap} {L : Addr} {p : Addr × Obj} : p ∈ allOf g L h ↔ h.get? p.1 = Option.some p.2 ∧ p.1 ≠ L ∧ g.get? p.1 = Option.none := by
  unfold allOf
  rw [List.mem_filterMap]
  constructor
  · rintro ⟨a, _, e⟩
    split at e
    · cases e
    · rename_i hn
      rw [Option.map_eq_some_iff] at e
      obtain ⟨o, ho, rfl⟩ := e
      refine ⟨ho, fun q => hn (.inl q), ?_⟩
      show g.get? a = _
      cases q : g.get? a with
      | none => rfl
      | some x => exact absurd (.inr (by rw [q]; rfl)) hn
  · rintro ⟨h1, h2, h3⟩
    refine ⟨p.1, List.mem_range.mpr (Heap.lt_size h1), ?_⟩
    rw [if_neg (by rw [h3]; rintro (q | q); exact h2 q; cases q), h1]
    rfl
theorem allOf_nodup (g : Heap) (L : Addr) (h : Heap) : ((allOf g L h).map (·.1)).Nodup := by
  rw [List.Nodup, List.pairwise_map]
  unfold allOf
  refine List.Pairwise.filterMap _ ?_ List.nodup_range
  intro a a' ne b hb b' hb'
  split at hb
  · cases hb
  · split at hb'
    · cases hb'
    · rw [Option.map_eq_some_iff] at hb hb'
      obtain ⟨_, _, rfl⟩ := hb
      obtain ⟨_, _, rfl⟩ := hb'
      exact ne
theorem allOf_news (g : Heap) (L : Addr) (h : Heap) : News g L h (allOf g L h) := fun p hp => mem_allOf.mp hp
theorem upd_of {l : List (Addr × Obj)} {d : Addr} {o o' : Obj} (nd : (l.map (·.1)).Nodup) (hm : (d, o) ∈ l) : ∃ l', Upd d o o' l l' ∧ (d, o') ∈ l' ∧ ∀ p ∈ l, p.1 ≠ d → p ∈ l' := by
  induction l with
  | nil => cases hm
  | cons q l ih =>
    rw [List.map_cons, List.nodup_cons] at nd
    rcases List.mem_cons.mp hm with e | hm
    · subst e
      refine ⟨(d, o') :: l, .head fun p hp e => nd.1 (List.mem_map.mpr ⟨p, hp, e⟩), .head _, fun p hp hn => ?_⟩
      rcases List.mem_cons.mp hp with rfl | hp
      · exact absurd rfl hn
      · exact .tail _ hp
    · obtain ⟨l', U, h1, h2⟩ := ih nd.2 hm
      refine ⟨q :: l', .tail (fun e => nd.1 (List.mem_map.mpr ⟨_, hm, e.symm⟩)) U, .tail _ h1, fun p hp hn => ?_⟩
      rcases List.mem_cons.mp hp with rfl | hp
      · exact .head _
      · exact .tail _ (h2 p hp hn)

section
variable {T : TC} {c : Cx} {y : Fx} {r r' : Loc} {S : Led} {s : Shared}
/-- one object changed, by a rule of the library's that speaks of a ledger over the top -/
theorem St.changed {h' : Heap} {t : Nat} {a : Addr} {o o' : O} {S' : Led} {m : Str → Option Value} (X : St T c y r S s) (oy : y.Ok T c) (hi : Chg a o o' S S') (nm : ∀ q ∈ r, NameAt c.env m s.heap q.1 q.2) (F' : Fr y.b c.env.locals h' m)
    (kp : ∀ b ob, b ≠ a → b ≠ c.env.locals → y.b.get? b = Option.none → s.heap.get? b = Option.some ob → h'.get? b = Option.some ob) (ha : At h' a o') : St T c y r S' { s with heap := h', toks := t } := by
  have hm := hi.mem
  have hmem := hi.all X.own.nodup
  have kp2 : ∀ b ob, b ≠ a → b ≠ c.env.locals → s.heap.get? b = Option.some ob → h'.get? b = Option.some ob := fun b ob n1 n2 e => by
    cases q : y.b.get? b with
    | none => exact kp b ob n1 n2 q e
    | some ob' =>
      have := X.own.keep b ob' (oy.sub _ _ q)
      rw [this] at e; cases e
      exact F'.keep b _ q
  have ck : ∀ q ∈ c.env.cells, ∀ ob, s.heap.get? q.2 = Option.some ob → h'.get? q.2 = Option.some ob := fun q hq ob e => kp2 _ _ (fun z => (X.cells q hq).1.1 _ hm z.symm) (X.cells q hq).1.2 e
  have gk : ∀ b ob, y.g.get? b = Option.some ob → h'.get? b = Option.some ob := fun b ob e => kp2 b ob (fun z => by have := X.own.off _ hm; rw [← z, e] at this; cases this) (fun z => by have := oy.offL; rw [← z, e] at this; cases this) (X.own.keep b ob e)
  refine ⟨X.gens, X.os, ⟨gk, fun p hp => ?_, fun p hp => ?_, by rw [hi.keys]; exact X.own.nodup⟩, ⟨m, F'.ns, fun q hq => (nm q hq).keep ck⟩, X.keys, fun p hp => ?_, fun q hq => ⟨⟨fun p hp => ?_, (X.cells q hq).1.2⟩, (X.cells q hq).2.imp fun _ z => IsCell.keep z (ck q hq)⟩⟩
  · rcases hmem p hp with rfl | ⟨h1, h2⟩
    · exact ha
    · exact (X.own.at_ p h1).keep fun ob e => kp2 _ _ h2 (X.notL p h1) e
  · rcases hmem p hp with rfl | ⟨h1, h2⟩
    · exact X.own.off (a, o) hm
    · exact X.own.off p h1
  · rcases hmem p hp with rfl | ⟨h1, h2⟩
    · exact X.notL (a, o) hm
    · exact X.notL p h1
  · rcases hmem p hp with rfl | ⟨h1, h2⟩
    · exact (X.cells q hq).1.1 (a, o) hm
    · exact (X.cells q hq).1.1 p h1
/-- the heap grown, by a rule of the library's that speaks of a ledger -/
theorem St.grown {h' : Heap} {t : Nat} {m : Str → Option Value} (X : St T c y r S s) (oy : y.Ok T c) (nm : ∀ q ∈ r, NameAt c.env m s.heap q.1 q.2) (F' : Fr y.b c.env.locals h' m)
    (kp : ∀ b ob, b ≠ c.env.locals → y.b.get? b = Option.none → s.heap.get? b = Option.some ob → h'.get? b = Option.some ob) : St T c y r S { s with heap := h', toks := t } := by
  have kp2 : ∀ b ob, b ≠ c.env.locals → s.heap.get? b = Option.some ob → h'.get? b = Option.some ob := fun b ob n2 e => by
    cases q : y.b.get? b with
    | none => exact kp b ob n2 q e
    | some ob' =>
      have := X.own.keep b ob' (oy.sub _ _ q)
      rw [this] at e; cases e
      exact F'.keep b _ q
  have ck : ∀ q ∈ c.env.cells, ∀ ob, s.heap.get? q.2 = Option.some ob → h'.get? q.2 = Option.some ob := fun q hq ob e => kp2 _ _ (X.cells q hq).1.2 e
  have gk : ∀ b ob, y.g.get? b = Option.some ob → h'.get? b = Option.some ob := fun b ob e => kp2 b ob (fun z => by have := oy.offL; rw [← z, e] at this; cases this) (X.own.keep b ob e)
  exact ⟨X.gens, X.os, ⟨gk, fun p hp => (X.own.at_ p hp).keep fun ob e => kp2 _ _ (X.notL p hp) e, X.own.off, X.own.nodup⟩, ⟨m, F'.ns, fun q hq => (nm q hq).keep ck⟩, X.keys, X.notL, fun q hq => ⟨(X.cells q hq).1, (X.cells q hq).2.imp fun _ z => IsCell.keep z (ck q hq)⟩⟩
/-- a new object, by an address that was free -/
theorem St.new {h' : Heap} {t : Nat} {a : Addr} {o : O} (X : St T c y r S s) (Y : St T c y r S { s with heap := h', toks := t }) (hn : s.heap.get? a = Option.none) (ha : At h' a o) : St T c y r (S ++ [(a, o)]) { s with heap := h', toks := t } := by
  have no : ∀ p ∈ S, p.1 ≠ a := fun p hp e => by
    obtain ⟨ob, ho⟩ := (X.own.at_ p hp).some
    rw [e, hn] at ho; cases ho
  refine ⟨Y.gens, Y.os, ⟨Y.own.keep, fun p hp => ?_, fun p hp => ?_, ?_⟩, Y.fr, Y.keys, fun p hp => ?_, fun q hq => ⟨⟨fun p hp => ?_, (Y.cells q hq).1.2⟩, (Y.cells q hq).2⟩⟩
  · rcases List.mem_append.mp hp with hp | hp
    · exact Y.own.at_ p hp
    · rw [List.mem_singleton.mp hp]; exact ha
  · rcases List.mem_append.mp hp with hp | hp
    · exact Y.own.off p hp
    · rw [List.mem_singleton.mp hp]
      show y.g.get? a = _
      cases q : y.g.get? a with
      | none => rfl
      | some ob => rw [X.own.keep _ _ q] at hn; cases hn
  · rw [List.map_append, List.nodup_append]
    refine ⟨Y.own.nodup, by simp, fun a' ha' b hb => ?_⟩
    obtain ⟨p, hp, rfl⟩ := List.mem_map.mp ha'
    simp at hb; subst hb
    exact no p hp
  · rcases List.mem_append.mp hp with hp | hp
    · exact Y.notL p hp
    · rw [List.mem_singleton.mp hp]
      intro e
      obtain ⟨m, F, _⟩ := X.fr
      obtain ⟨o', _, _, ho, _⟩ := F
      have e' : a = c.env.locals := e
      rw [e', ho] at hn; cases hn
  · rcases List.mem_append.mp hp with hp | hp
    · exact (Y.cells q hq).1.1 p hp
    · rw [List.mem_singleton.mp hp]
      intro e
      obtain ⟨v, o', ho, _⟩ := (X.cells q hq).2
      have e' : a = q.2 := e
      rw [e', ho] at hn; cases hn
end

/-- all that is no part of the ledger, nor the frame's own, is safe -/
theorem St.shield {T : TC} {c : Cx} {y : Fx} {r : Loc} {S : Led} {s : Shared} (X : St T c y r S s) (oy : y.Ok T c) {G : Prop} (k : ∀ g', (({ y with g := g' } : Fx).Ok T c) → St T c { y with g := g' } r S s →
    (∀ a o, s.heap.get? a = Option.some o → (∀ p ∈ S, p.1 ≠ a) → a ≠ c.env.locals → (∀ q ∈ c.env.cells, q.2 ≠ a) → g'.get? a = Option.some o) → (∀ r' S' s', St T c { y with g := g' } r' S' s' → St T c y r' S' s') → G) : G := by
  let hid := S.map (·.1) ++ (c.env.locals :: if c.fn then c.env.cells.map (·.2) else [])
  let g' := hideAll s.heap hid
  have up : ∀ a o, y.g.get? a = Option.some o → g'.get? a = Option.some o := fun a o e => hideAll_get _ (X.own.keep a o e) fun hm => by
    rcases List.mem_append.mp hm with hm | hm
    · obtain ⟨p, hp, rfl⟩ := List.mem_map.mp hm
      rw [X.own.off p hp] at e; cases e
    · rcases List.mem_cons.mp hm with rfl | hm
      · rw [oy.offL] at e; cases e
      · split at hm
        · rename_i hf
          obtain ⟨q, hq, rfl⟩ := List.mem_map.mp hm
          rw [oy.mine hf q hq] at e; cases e
        · cases hm
  refine k g' ⟨oy.hand, oy.depth, oy.units, oy.base, fun a o e => up a o (oy.sub a o e), oy.low, hideAll_none _ (List.mem_append_right _ (.head _)), fun hf q hq => hideAll_none _ (List.mem_append_right _ (.tail _ ?_))⟩
    ⟨X.gens, X.os, ⟨fun a o e => of_hideAll _ e, X.own.at_, fun p hp => hideAll_none _ (List.mem_append_left _ (List.mem_map_of_mem hp)), X.own.nodup⟩, X.fr, X.keys, X.notL, X.cells⟩ (fun a o e h1 h2 h3 => hideAll_get _ e fun hm => ?_) (fun r' S' s' Z => ?_)
  · rw [if_pos hf]; exact List.mem_map_of_mem hq
  · rcases List.mem_append.mp hm with hm | hm
    · obtain ⟨p, hp, rfl⟩ := List.mem_map.mp hm
      exact h1 p hp rfl
    · rcases List.mem_cons.mp hm with rfl | hm
      · exact h2 rfl
      · split at hm
        · obtain ⟨q, hq, rfl⟩ := List.mem_map.mp hm
          exact h3 q hq rfl
        · cases hm
  · refine ⟨Z.gens, Z.os, ⟨fun a o e => Z.own.keep a o (up a o e), Z.own.at_, fun p hp => ?_, Z.own.nodup⟩, Z.fr, Z.keys, Z.notL, Z.cells⟩
    cases q : y.g.get? p.1 with
    | none => rfl
    | some o => have := Z.own.off p hp; rw [show g'.get? p.1 = Option.some o from up _ _ q] at this; cases this
end Mine
end

section
set_option maxRecDepth 100000
namespace Mine
open PySem PySem.W PySem.Calls PyProof.Rows PySem.Spec

noncomputable def Post (T : TC) (c : Cx) (y : Fx) (r : Loc) (K : V → Led → Prop) : Value → Shared → Prop := fun v' s' => ∃ v S', RV v v' ∧ St T c y r S' s' ∧ K v S'
noncomputable def PostB (T : TC) (c : Cx) (y : Fx) (r : Loc) (K : Bool → Led → Prop) : Bool → Shared → Prop := fun b s' => ∃ S', St T c y r S' s' ∧ K b S'
noncomputable def PostL (T : TC) (c : Cx) (y : Fx) (r : Loc) (K : List V → Led → Prop) : List Value → Shared → Prop := fun vs' s' => ∃ vs S', All2 RV vs vs' ∧ St T c y r S' s' ∧ K vs S'
theorem Post.elim {T : TC} {c : Cx} {y : Fx} {r : Loc} {K : V → Led → Prop} {v' : Value} {s' : Shared} {G : Prop} (h : Post T c y r K v' s') (k : ∀ v S', RV v v' → St T c y r S' s' → K v S' → G) : G := by
  obtain ⟨v, S', a, b, d⟩ := h; exact k v S' a b d
theorem PostB.elim {T : TC} {c : Cx} {y : Fx} {r : Loc} {K : Bool → Led → Prop} {b : Bool} {s' : Shared} {G : Prop} (h : PostB T c y r K b s') (k : ∀ S', St T c y r S' s' → K b S' → G) : G := by
  obtain ⟨S', a, d⟩ := h; exact k S' a d
theorem PostL.elim {T : TC} {c : Cx} {y : Fx} {r : Loc} {K : List V → Led → Prop} {vs' : List Value} {s' : Shared} {G : Prop} (h : PostL T c y r K vs' s') (k : ∀ vs S', All2 RV vs vs' → St T c y r S' s' → K vs S' → G) : G := by
  obtain ⟨v, S', a, b, d⟩ := h; exact k v S' a b d
noncomputable def WM (T : TC) (c : Cx) (r : Loc) (S : Led) (m : Sem Value) (K : V → Led → Prop) : Prop := ∀ y : Fx, y.Ok T c → ∀ s, St T c y r S s → wpAny (model T.prog T.w) y.A m (Post T c y r K) NoE s
noncomputable def WE (T : TC) (c : Cx) (r : Loc) (S : Led) (e : Expr) (K : V → Led → Prop) : Prop := WM T c r S (eval e c.env) K
noncomputable def WT (T : TC) (c : Cx) (r : Loc) (S : Led) (e : Expr) (K : Bool → Led → Prop) : Prop := ∀ y : Fx, y.Ok T c → ∀ s, St T c y r S s → wpAny (model T.prog T.w) y.A (isTrue e c.env (eval e c.env)) (PostB T c y r K) NoE s
noncomputable def WL (T : TC) (c : Cx) (r : Loc) (S : Led) (es : List Expr) (K : List V → Led → Prop) : Prop := ∀ y : Fx, y.Ok T c → ∀ s pos, St T c y r S s → wpAny (model T.prog T.w) y.A (spliced (backTo pos (starEach es c.env))) (PostL T c y r K) NoE s

section
variable {T : TC} {c : Cx} {y : Fx} {r : Loc} {S : Led} {K : V → Led → Prop}

theorem WM.mono {m : Sem Value} {K' : V → Led → Prop} (h : WM T c r S m K) (k : ∀ v S', K v S' → K' v S') : WM T c r S m K' := fun y oy s x =>
  wpAny_mono (h y oy s x) (fun _ _ ⟨v, S', a, b, d⟩ => ⟨v, S', a, b, k _ _ d⟩) fun _ _ e => e
theorem WE.mono {e : Expr} {K' : V → Led → Prop} (h : WE T c r S e K) (k : ∀ v S', K v S' → K' v S') : WE T c r S e K' := WM.mono h k

theorem WE.int {i : Int} {k : Nat} {pos : Pos} (h : K (.int i) S) : WE T c r S (.Constant (.int i) k pos) K := fun y oy s x =>
  wpAny_Constant_int ⟨.int i, S, ⟨_, rfl⟩, x.tok, h⟩
theorem WE.str {i : Str} {k : Nat} {pos : Pos} (h : K (.str i) S) : WE T c r S (.Constant (.str i) k pos) K := fun y oy s x =>
  Constant_str ⟨.str i, S, ⟨_, rfl⟩, x.tok, h⟩
theorem WE.bool {i : Bool} {k : Nat} {pos : Pos} (h : K (.bool i) S) : WE T c r S (.Constant (.bool i) k pos) K := fun y oy s x =>
  fun _ _ _ => ⟨.bool i, S, rfl, x, h⟩
theorem WE.none {k : Nat} {pos : Pos} (h : K .none S) : WE T c r S (.Constant .none k pos) K := fun y oy s x =>
  fun _ _ _ => ⟨.none, S, rfl, x, h⟩

theorem WE.name {x : Str} {pos : Pos} {v : V} (ok : c.Ok) (hm : (x, v) ∈ r) (h : K v S) (hd : (x == ("__debug__" : Str)) = false := by decide) : WE T c r S (.Name x pos) K := fun y oy s X => by
  obtain ⟨m, F, nm⟩ := X.frame oy
  rcases nm _ hm with ⟨hk, v', hv, hr⟩ | ⟨hk, cc, v', hc, hv, hr⟩
  · exact wpAny_Name (wpAny_loadName_local ok.kind hk F.ns hv ⟨v, S, hr, X, h⟩) hd
  · exact wpAny_Name (wpAny_loadName_cell ok.kind hk hc hv ⟨v, S, hr, X, h⟩) hd

noncomputable def GlobIs (T : TC) (x : Str) (v : V) : Prop := ∃ v', nsIn T.K mainGlobals x = some (some v') ∧ RV v v'
noncomputable def GlobB (T : TC) (x : Str) (v : V) : Prop := nsIn T.K mainGlobals x = some none ∧ x ≠ "__name__" ∧ ∃ v', bootBuiltins x = some v' ∧ RV v v'

theorem WE.glob {x : Str} {pos : Pos} {v : V} (ok : c.Ok) (g : GlobIs T x v) (hk : c.env.kindOf x = some .globalImplicit) (h : K v S) (hd : (x == ("__debug__" : Str)) = false := by decide) : WE T c r S (.Name x pos) K := fun y oy s X => by
  obtain ⟨m, F, nm⟩ := X.frame oy
  obtain ⟨v', e, hr⟩ := g
  exact Name_function_global ok.kind hk (loadGlobal_global (env := c.env) (by rw [ok.glob]; exact oy.base.t.g.keeps F.keep) (mg_of oy.base.k oy.base.t.g e) ⟨v, S, hr, X, h⟩) hd
theorem WE.bi {x : Str} {pos : Pos} {v : V} (ok : c.Ok) (g : GlobB T x v) (hk : c.env.kindOf x = some .globalImplicit) (h : K v S) (hd : (x == ("__debug__" : Str)) = false := by decide) : WE T c r S (.Name x pos) K := fun y oy s X => by
  obtain ⟨m, F, nm⟩ := X.frame oy
  obtain ⟨e, hn, v', hv, hr⟩ := g
  exact Name_function_global ok.kind hk (loadGlobal_builtin (env := c.env) (by rw [ok.glob]; exact oy.base.t.g.keeps F.keep) (mg_none_of oy.base.k oy.base.t.g e) (by rw [ok.bins]; exact oy.base.t.b.keeps F.keep) ((oy.base.t.builtins x hn).trans hv) ⟨v, S, hr, X, h⟩) hd

noncomputable def BinV (T : TC) (c : Cx) (r : Loc) (S : Led) (op : Operator) (a b : V) (K : V → Led → Prop) : Prop := ∀ a' b', RV a a' → RV b b' → WM T c r S (binaryOp op a' b') K
theorem WE.bin {l e : Expr} {op : Operator} {pos : Pos} (h : WE T c r S l fun a S₁ => WE T c r S₁ e fun b S₂ => BinV T c r S₂ op a b K) : WE T c r S (.BinOp l op e pos) K := fun y oy s X =>
  wpAny_BinOp (wpAny_mono (h y oy s X) (fun a' s₁ q => q.elim fun a S₁ ra X₁ h₁ => wpAny_mono (h₁ y oy s₁ X₁) (fun b' s₂ q => q.elim fun b S₂ rb X₂ h₂ => h₂ a' b' ra rb y oy s₂ X₂) fun _ _ e => e) fun _ _ e => e)

end

/-! ints -/
section
variable {T : TC} {c : Cx} {y : Fx} {r : Loc} {S : Led} {K : V → Led → Prop}
theorem Post.mk {v : V} {v' : Value} {s : Shared} {S : Led} (rv : RV v v') (x : St T c y r S s) (k : K v S) : Post T c y r K v' s := ⟨v, S, rv, x, k⟩

theorem BinV.add {a b : Int} (h : K (.int (a + b)) S) : BinV T c r S .Add (.int a) (.int b) K := by
  rintro _ _ ⟨t, rfl⟩ ⟨u, rfl⟩ y oy s X
  exact PyProof.Rows.add_int (Post.mk (RV.int _ _) X.tok h)
theorem BinV.sub {a b : Int} (h : K (.int (a - b)) S) : BinV T c r S .Sub (.int a) (.int b) K := by
  rintro _ _ ⟨t, rfl⟩ ⟨u, rfl⟩ y oy s X
  exact PyProof.Rows.sub_int (Post.mk (RV.int _ _) X.tok h)
theorem BinV.mul {a b : Int} (hs : -18446744073709551616 < b ∧ b < 18446744073709551616) (h : K (.int (a * b)) S) : BinV T c r S .Mult (.int a) (.int b) K := by
  rintro _ _ ⟨t, rfl⟩ ⟨u, rfl⟩ y oy s X
  exact PyProof.Rows.mul_int (Post.mk (RV.int _ _) X.tok h) (IntMulOk.of_right (intBits_le_64 (by (lia)) (by (lia))))
theorem BinV.mod {a b : Int} (hb : b ≠ 0) (h : K (.int (a.fmod b)) S) : BinV T c r S .Mod (.int a) (.int b) K := by
  rintro _ _ ⟨t, rfl⟩ ⟨u, rfl⟩ y oy s X
  exact mod_int' hb (Post.mk (RV.int _ _) X.tok h)
theorem BinV.div {a b : Int} (hb : b ≠ 0) (hs : b.natAbs < 1073741824) (h : K (.int (a.fdiv b)) S) : BinV T c r S .FloorDiv (.int a) (.int b) K := by
  rintro _ _ ⟨t, rfl⟩ ⟨u, rfl⟩ y oy s X
  exact floordiv_int hb (Post.mk (RV.int _ _) X.tok h) (.inl (PyProof.noPylong_small hs))
theorem BinV.and {a b : Int} (h : K (.int (Builtin.bitAnd a b)) S) : BinV T c r S .BitAnd (.int a) (.int b) K := by
  rintro _ _ ⟨t, rfl⟩ ⟨u, rfl⟩ y oy s X
  exact and_int (Post.mk (RV.int _ _) X.tok h)
theorem BinV.or {a b : Int} (h : K (.int (Builtin.bitOr a b)) S) : BinV T c r S .BitOr (.int a) (.int b) K := by
  rintro _ _ ⟨t, rfl⟩ ⟨u, rfl⟩ y oy s X
  exact or_int (Post.mk (RV.int _ _) X.tok h)
theorem BinV.shr {a b : Int} (hb : 0 ≤ b) (h : K (.int (a.fdiv (2 ^ b.toNat))) S) : BinV T c r S .RShift (.int a) (.int b) K := by
  rintro _ _ ⟨t, rfl⟩ ⟨u, rfl⟩ y oy s X
  exact rshift_int hb (Post.mk (RV.int _ _) X.tok h)

/-! comparisons; all of them give a bool here -/
noncomputable def CmpV (T : TC) (c : Cx) (r : Loc) (S : Led) (op : CmpOp) (a b : V) (K : Bool → Led → Prop) : Prop := ∀ a' b', RV a a' → RV b b' → ∀ y : Fx, y.Ok T c → ∀ s, St T c y r S s → wpAny (model T.prog T.w) y.A (compareOp op a' b') (fun v' s' => ∃ b S', v' = .bool b ∧ St T c y r S' s' ∧ K b S') NoE s
variable {B : Bool → Led → Prop}
theorem CmpV.lt {a b : Int} (h : B (decide (a < b)) S) : CmpV T c r S .Lt (.int a) (.int b) B := by
  rintro _ _ ⟨t, rfl⟩ ⟨u, rfl⟩ y oy s X
  exact PyProof.Rows.lt_int ⟨_, S, rfl, X, h⟩
theorem CmpV.gt {a b : Int} (h : B (decide (b < a)) S) : CmpV T c r S .Gt (.int a) (.int b) B := by
  rintro _ _ ⟨t, rfl⟩ ⟨u, rfl⟩ y oy s X
  exact PyProof.Rows.gt_int ⟨_, S, rfl, X, h⟩
theorem CmpV.le {a b : Int} (h : B (decide (a ≤ b)) S) : CmpV T c r S .LtE (.int a) (.int b) B := by
  rintro _ _ ⟨t, rfl⟩ ⟨u, rfl⟩ y oy s X
  exact le_int ⟨_, S, rfl, X, h⟩
theorem CmpV.ge {a b : Int} (h : B (decide (b ≤ a)) S) : CmpV T c r S .GtE (.int a) (.int b) B := by
  rintro _ _ ⟨t, rfl⟩ ⟨u, rfl⟩ y oy s X
  exact ge_int ⟨_, S, rfl, X, h⟩
theorem CmpV.eq {a b : Int} (h : B (a == b) S) : CmpV T c r S .Eq (.int a) (.int b) B := by
  rintro _ _ ⟨t, rfl⟩ ⟨u, rfl⟩ y oy s X
  exact PyProof.Rows.eq_int ⟨_, S, rfl, X, h⟩
theorem CmpV.ne {a b : Int} (h : B (a != b) S) : CmpV T c r S .NotEq (.int a) (.int b) B := by
  rintro _ _ ⟨t, rfl⟩ ⟨u, rfl⟩ y oy s X
  exact PyProof.Rows.ne_int ⟨_, S, rfl, X, h⟩
theorem CmpV.eqS {a b : Str} (h : B (a == b) S) : CmpV T c r S .Eq (.str a) (.str b) B := by
  rintro _ _ ⟨t, rfl⟩ ⟨u, rfl⟩ y oy s X
  exact eq_str ⟨_, S, rfl, X, h⟩
theorem CmpV.isNN (h : B true S) : CmpV T c r S .Is .none .none B := by
  rintro _ _ rfl rfl y oy s X
  exact is_none_none ⟨_, S, rfl, X, h⟩
theorem CmpV.isNotNN (h : B false S) : CmpV T c r S .IsNot .none .none B := by
  rintro _ _ rfl rfl y oy s X
  exact isnot_none_none ⟨_, S, rfl, X, h⟩
theorem CmpV.isR {a : Addr} (h : B false S) : CmpV T c r S .Is (.ref a) .none B := by
  rintro _ _ rfl rfl y oy s X
  exact is_none_ne (by intro e; cases e) ⟨_, S, rfl, X, h⟩
theorem CmpV.isNotR {a : Addr} (h : B true S) : CmpV T c r S .IsNot (.ref a) .none B := by
  rintro _ _ rfl rfl y oy s X
  exact isnot_none_ne (by intro e; cases e) ⟨_, S, rfl, X, h⟩
theorem CmpV.isI {a : Int} (h : B false S) : CmpV T c r S .Is (.int a) .none B := by
  rintro _ _ ⟨_, rfl⟩ rfl y oy s X
  exact is_none_ne (by intro e; cases e) ⟨_, S, rfl, X, h⟩

theorem WE.cmp {l e : Expr} {op : CmpOp} {pos : Pos} (h : WE T c r S l fun a S₁ => WE T c r S₁ e fun b S₂ => CmpV T c r S₂ op a b fun d S₃ => K (.bool d) S₃) (hm : behindInMarks op e = false := by with_unfolding_all rfl) : WE T c r S (.Compare l [op] [e] pos) K := fun y oy s X =>
  wpAny_Compare1 (wpAny_mono (h y oy s X) (fun a' s₁ q => q.elim fun a S₁ ra X₁ h₁ => wpAny_mono (h₁ y oy s₁ X₁) (fun b' s₂ q => q.elim fun b S₂ rb X₂ h₂ => wpAny_mono (h₂ a' b' ra rb y oy s₂ X₂) (fun v' s₃ ⟨d, S₃, e, X₃, k⟩ => ⟨.bool d, S₃, e, X₃, k⟩) fun _ _ e => e) fun _ _ e => e) fun _ _ e => e) hm
theorem WT.cmp {l e : Expr} {op : CmpOp} {pos : Pos} (h : WE T c r S l fun a S₁ => WE T c r S₁ e fun b S₂ => CmpV T c r S₂ op a b B) (hm : behindInMarks op e = false := by with_unfolding_all rfl) : WT T c r S (.Compare l [op] [e] pos) B := fun y oy s X =>
  wpAny_isTrue_Compare1 (wpAny_mono (h y oy s X) (fun a' s₁ q => q.elim fun a S₁ ra X₁ h₁ => wpAny_mono (h₁ y oy s₁ X₁) (fun b' s₂ q => q.elim fun b S₂ rb X₂ h₂ => wpAny_mono (h₂ a' b' ra rb y oy s₂ X₂) (fun v' s₃ ⟨d, S₃, e, X₃, k⟩ => by subst e; exact wpAny_truthy_bool ⟨S₃, X₃, k⟩) fun _ _ e => e) fun _ _ e => e) fun _ _ e => e) hm

theorem testChain2 {M : Model} {A : Around} {E : Value → Shared → Prop} {s : Shared} {pos : Pos} {a : Value} {op op' : CmpOp} {x x' : Sem Value} {Q : Bool → Shared → Prop}
    (h : wpAny M A x (fun b s₁ => wpAny M A (compareOp op a b) (fun d s₂ => wpAny M A (truthy d)
      (fun t s₃ => if t then wpAny M A x' (fun b' s₄ => wpAny M A (compareOp op' b b') (fun d' s₅ => wpAny M A (truthy d') Q E s₅) E s₄) E s₃ else Q false s₃) E s₂) E s₁) E s) :
    wpAny M A (testChain pos a [op, op'] [x, x']) Q E s := by
  show wpAny M A (do
    let rv ← holding [a] x
    standAt pos
    let d ← holding [a, rv] (compareOp op a rv)
    release [a, rv] [d]
    if ← holding [d, rv] (truthy d) then testChain pos rv [op'] [x'] else pure false) Q E s
  refine wpAny_bind (wpAny_holding (wpAny_mono h (fun b s₁ h₁ => wpAny_bind (wpAny_standAt (wpAny_bind (wpAny_holding (wpAny_mono h₁ (fun d s₂ h₂ => wpAny_bind (wpAny_release' (wpAny_bind (wpAny_holding (wpAny_mono h₂ (fun t s₃ h₃ => ?_) fun _ _ e => e))))) fun _ _ e => e))))) fun _ _ e => e))
  cases t with
  | false => exact wpAny_pure h₃
  | true =>
    simp only [if_true] at h₃ ⊢
    show wpAny M A (do
      let rv ← holding [b] x'
      standAt pos
      let d ← operate [b, rv] (compareOp op' b rv)
      holding [d] (truthy d)) Q E s₃
    exact wpAny_bind (wpAny_holding (wpAny_mono h₃ (fun b' s₄ h₄ => wpAny_bind (wpAny_standAt (wpAny_bind (wpAny_operate' (wpAny_mono h₄ (fun d' s₅ h₅ => wpAny_holding h₅) fun _ _ e => e))))) fun _ _ e => e))
theorem WT.chain {l e e' : Expr} {op op' : CmpOp} {pos : Pos} (h : WE T c r S l fun a S₁ => WE T c r S₁ e fun b S₂ => CmpV T c r S₂ op a b fun d S₃ => (d = true → WE T c r S₃ e' fun b' S₄ => CmpV T c r S₄ op' b b' B) ∧ (d = false → B false S₃))
    (hm : lastMarks [op, op'] [e, e'] = false := by with_unfolding_all rfl) : WT T c r S (.Compare l [op, op'] [e, e'] pos) B := fun y oy s X =>
  isTrue_chain (wpAny_mono (h y oy s X) (fun a' s₁ q => q.elim fun a S₁ ra X₁ h₁ => testChain2 (wpAny_mono (h₁ y oy s₁ X₁) (fun b' s₂ q => q.elim fun b S₂ rb X₂ h₂ => wpAny_mono (h₂ a' b' ra rb y oy s₂ X₂) (fun v' s₃ ⟨d, S₃, e, X₃, k⟩ => by
    subst e
    refine wpAny_truthy_bool ?_
    cases d with
    | false => exact ⟨S₃, X₃, k.2 rfl⟩
    | true =>
      simp only [if_true]
      exact wpAny_mono (k.1 rfl y oy s₃ X₃) (fun b₄ s₄ q => q.elim fun b4 S₄ r4 X₄ h₄ => wpAny_mono (h₄ b' b₄ rb r4 y oy s₄ X₄) (fun v₅ s₅ ⟨d5, S₅, e5, X₅, k5⟩ => by subst e5; exact wpAny_truthy_bool ⟨S₅, X₅, k5⟩) fun _ _ e => e) fun _ _ e => e) fun _ _ e => e) fun _ _ e => e)) fun _ _ e => e) hm

theorem WT.not {e : Expr} {pos : Pos} (h : WT T c r S e fun b S₁ => B (!b) S₁) : WT T c r S (.UnaryOp .Not e pos) B := fun y oy s X => isTrue_not (h y oy s X)
theorem WT.and {e₁ e₂ : Expr} {pos : Pos} (h : WT T c r S e₁ fun b S₁ => (b = true → WT T c r S₁ e₂ B) ∧ (b = false → B false S₁)) : WT T c r S (.BoolOp .And [e₁, e₂] pos) B := fun y oy s X =>
  isTrue_and (wpAny_mono (h y oy s X) (fun b s₁ q => q.elim fun S₁ X₁ k => by
    cases b with
    | false => exact ⟨S₁, X₁, k.2 rfl⟩
    | true => exact isTrue_and (wpAny_mono (k.1 rfl y oy s₁ X₁) (fun b₂ s₂ h₂ => by cases b₂ <;> first | exact h₂ | exact isTrue_and_nil h₂) fun _ _ e => e)) fun _ _ e => e)
theorem WT.or {e₁ e₂ : Expr} {pos : Pos} (h : WT T c r S e₁ fun b S₁ => (b = false → WT T c r S₁ e₂ B) ∧ (b = true → B true S₁)) : WT T c r S (.BoolOp .Or [e₁, e₂] pos) B := fun y oy s X =>
  isTrue_or (wpAny_mono (h y oy s X) (fun b s₁ q => q.elim fun S₁ X₁ k => by
    cases b with
    | true => exact ⟨S₁, X₁, k.2 rfl⟩
    | false => exact isTrue_or (wpAny_mono (k.1 rfl y oy s₁ X₁) (fun b₂ s₂ h₂ => by cases b₂ <;> first | exact h₂ | exact isTrue_or_nil h₂) fun _ _ e => e)) fun _ _ e => e)
/-- a value that is a bool -/
theorem WT.val {e : Expr} (h : WE T c r S e fun v S₁ => ∃ b, v = .bool b ∧ B b S₁) (he : isTrue e c.env (eval e c.env) = (do let v ← eval e c.env; standAt e.pos; holding [v] (truthy v)) := by rfl) : WT T c r S e B := fun y oy s X =>
  isTrue_plain (wpAny_mono (h y oy s X) (fun v' s₁ q => q.elim fun v S₁ rv X₁ ⟨b, e, k⟩ => by subst e; cases rv; exact wpAny_truthy_bool ⟨S₁, X₁, k⟩) fun _ _ e => e) he
theorem WE.ife {t e₁ e₂ : Expr} {pos : Pos} (h : WT T c r S t fun b S₁ => (b = true → WE T c r S₁ e₁ K) ∧ (b = false → WE T c r S₁ e₂ K)) : WE T c r S (.IfExp t e₁ e₂ pos) K := fun y oy s X =>
  IfExp_ (wpAny_mono (h y oy s X) (fun b s₁ q => q.elim fun S₁ X₁ k => by cases b <;> first | exact k.1 rfl y oy s₁ X₁ | exact k.2 rfl y oy s₁ X₁) fun _ _ e => e)
theorem WE.or {e₁ e₂ : Expr} {pos : Pos} (h : WE T c r S e₁ fun v S₁ => ∃ b, v = .bool b ∧ (b = true → K (.bool true) S₁) ∧ (b = false → WE T c r S₁ e₂ K)) : WE T c r S (.BoolOp .Or [e₁, e₂] pos) K := fun y oy s X =>
  BoolOp_or (wpAny_mono (h y oy s X) (fun v' s₁ q => q.elim fun v S₁ rv X₁ ⟨b, e, k1, k2⟩ => by
    subst e; cases rv
    refine wpAny_truthy_bool ?_
    cases b with
    | true => exact ⟨.bool true, S₁, rfl, X₁, k1 rfl⟩
    | false => exact BoolOp_one (k2 rfl y oy s₁ X₁)) fun _ _ e => e)
/-! lists of expressions, displays -/
theorem WL.nil {L : List V → Led → Prop} (h : L [] S) : WL T c r S [] L := fun y oy s pos X => spliced_nil ⟨[], S, .nil, X, h⟩
theorem WL.cons {L : List V → Led → Prop} {e : Expr} {es : List Expr} (h : WE T c r S e fun v S₁ => WL T c r S₁ es fun vs S₂ => L (v :: vs) S₂) (he : starEach (e :: es) c.env = (false, eval e c.env) :: starEach es c.env := by rfl) : WL T c r S (e :: es) L := fun y oy s pos X => by
  rw [he]
  show wpAny _ _ (spliced ((false, eval e c.env) :: backTo pos (starEach es c.env))) _ _ _
  exact spliced_cons (wpAny_mono (h y oy s X) (fun v' s₁ q => q.elim fun v S₁ rv X₁ k => wpAny_mono (k y oy s₁ pos X₁) (fun vs' s₂ q => q.elim fun vs S₂ rvs X₂ k2 => ⟨v :: vs, S₂, .cons rv rvs, X₂, k2⟩) fun _ _ e => e) fun _ _ e => e)

theorem Post.new {o : Obj} {ob : O} {s : Shared} {S : Led} (X : St T c y r S s) (hf : o.isFreed = false) (ha : ∀ h a, Heap.get? h a = some o → At h a ob) (k : ∀ a, K (.ref a) (S ++ [(a, ob)])) :
    Post T c y r K (.ref s.heap.objs.size) { s with heap := s.heap.push o } := by
  have hp : ∀ b ob, s.heap.get? b = some ob → (s.heap.push o).get? b = some ob := fun b ob e => Heap.get?_push_of_some _ e
  exact ⟨.ref _, _, rfl, X.new (X.ext hp) (Heap.get?_none_of_le (Nat.le_refl _)) (ha _ _ (Heap.get?_push_size _ hf)), k _⟩

theorem WE.list {es : List Expr} {pos : Pos} (h : WL T c r S es fun vs S₁ => vs.length ≤ 1000000 ∧ ∀ a, K (.ref a) (S₁ ++ [(a, .list vs)])) : WE T c r S (.List es pos) K := fun y oy s X =>
  List_ (wpAny_mono (h y oy s pos X) (fun vs' s₁ q => q.elim fun vs S₁ rv X₁ ⟨hl, k⟩ =>
    wpAny_newObj_type (Post.new (ob := .list vs) X₁ rfl (fun h a e => ⟨vs', 0, e, rv⟩) k) (by show vs'.toArray.size ≤ sizeLine; rw [List.size_toArray, ← rv.length, sizeLine_eq]; (lia))) fun _ _ e => e)
theorem WE.tup {es : List Expr} {n : Nat} {pos : Pos} (h : WL T c r S es fun vs S₁ => vs.length ≤ 1000000 ∧ ∀ a, K (.ref a) (S₁ ++ [(a, .tup vs)])) : WE T c r S (.Tuple es n pos) K := fun y oy s X =>
  Tuple_ (wpAny_mono (h y oy s pos X) (fun vs' s₁ q => q.elim fun vs S₁ rv X₁ ⟨hl, k⟩ =>
    wpAny_newObj_type (Post.new (ob := .tup vs) X₁ rfl (fun h a e => ⟨vs', ⟨_, e, rfl, _, rfl⟩, rv⟩) k) (by show vs'.toArray.size ≤ sizeLine; rw [List.size_toArray, ← rv.length, sizeLine_eq]; (lia))) fun _ _ e => e)
end
end Mine
end

section
set_option maxRecDepth 100000
namespace Mine
open PySem PySem.W PySem.Calls PyProof.Rows PySem.Spec

/-! attributes of own instances -/
noncomputable def AttrOk (T : TC) (C : Addr) (name : Str) : Prop := plainGet T.K C name = true ∧ hasDictIn T.K C = true ∧ ∃ attr, findIn T.K (.ref C) name = some attr ∧ noGet T.K attr = true
noncomputable def SetOk (T : TC) (C : Addr) (name : Str) : Prop := findIn T.K (.ref C) "__setattr__" = some (some (.builtin "object.__setattr__")) ∧ plainOver T.K C = true ∧ takerIn T.K C name = some none ∧ hasDictIn T.K C = true

noncomputable def V.plain : V → Prop
  | .bi _ => False
  | _ => True
theorem handed_of {v : V} {v' : Value} (h : v.plain) (r : RV v v') : handedIn v' = true := by
  cases v <;> simp only [RV] at r
  case bi => exact h.elim
  all_goals first | (subst r; rfl) | (obtain ⟨t, rfl⟩ := r; rfl)

theorem find_of {fs : List (Str × V)} {es : List DictEntry} (h : All2 RE fs es) (nd : (fs.map (·.1)).Nodup) {x : Str} {v : V} (hm : (x, v) ∈ fs) : ∃ v', getL x es = some (some v') ∧ RV v v' := by
  induction h with
  | nil => cases hm
  | @cons p e fs es r h ih =>
    rw [List.map_cons, List.nodup_cons] at nd
    obtain ⟨⟨t, hk⟩, rv⟩ := r
    rcases List.mem_cons.mp hm with e1 | hm
    · subst e1
      refine ⟨e.val, ?_, rv⟩
      unfold getL
      rw [List.find?_cons_of_pos (by simp [hk, Value.isStr])]
    · have ne : p.1 ≠ x := fun q => nd.1 (List.mem_map.mpr ⟨_, hm, q.symm⟩)
      obtain ⟨v', h1, h2⟩ := ih nd.2 hm
      refine ⟨v', ?_, h2⟩
      unfold getL at h1 ⊢
      rw [List.find?_cons_of_neg (by simp [hk, Value.isStr, ne])]
      cases q : es.find? (fun e => e.key.isStr x) with
      | some e' => rw [q] at h1; exact h1
      | none =>
        rw [q] at h1
        simp only at h1
        split at h1 <;> cases h1
theorem getL_isSome {fs : List (Str × V)} {es : List DictEntry} (h : All2 RE fs es) (x : Str) : (getL x es).isSome = true := by
  have nr : es.any (·.refKey) = false := by
    induction h with
    | nil => rfl
    | cons r _ ih =>
      obtain ⟨⟨t, hk⟩, _⟩ := r
      rw [List.any_cons, ih]
      simp [DictEntry.refKey, hk]
  unfold getL
  cases es.find? (fun e => e.key.isStr x) with
  | some e => rfl
  | none => simp [nr]
theorem putL_of {fs fs' : List (Str × V)} {x : Str} {v : V} {v' : Value} (P : Put x v fs fs') (rv : RV v v') (nd : (fs.map (·.1)).Nodup) (hsh : Int) (tk : Tok) : ∀ {es : List DictEntry}, All2 RE fs es → All2 RE fs' (putL x hsh (.str x tk) v' es) := by
  rcases P with P | ⟨hn, rfl⟩
  · induction P with
    | @head w r =>
      intro es h
      cases h with
      | @cons _ e _ es r h =>
        obtain ⟨⟨t, hk⟩, _⟩ := r
        have : e.key.isStr x = true := by simp [hk, Value.isStr]
        simp only [putL, this, if_true]
        exact .cons ⟨⟨t, hk⟩, rv⟩ h
    | @tail q r r' P ih =>
      intro es h
      rw [List.map_cons, List.nodup_cons] at nd
      have ne : q.1 ≠ x := fun e => nd.1 (e ▸ P.keys.2)
      cases h with
      | @cons _ e _ es rr h =>
        obtain ⟨⟨t, hk⟩, rv'⟩ := rr
        have : e.key.isStr x = false := by simp [hk, Value.isStr, ne]
        simp only [putL, this, Bool.false_eq_true, if_false]
        exact .cons ⟨⟨t, hk⟩, rv'⟩ (ih nd.2 h)
  · intro es h
    induction h with
    | nil => exact .cons ⟨⟨tk, rfl⟩, rv⟩ .nil
    | @cons p e fs es rr h ih =>
      obtain ⟨⟨t, hk⟩, rv'⟩ := rr
      have ne : p.1 ≠ x := hn _ (.head _)
      have : e.key.isStr x = false := by simp [hk, Value.isStr, ne]
      simp only [putL, this, Bool.false_eq_true, if_false]
      rw [List.map_cons, List.nodup_cons] at nd
      exact .cons ⟨⟨t, hk⟩, rv'⟩ (ih nd.2 fun k hk => hn k (.tail _ hk))

section
variable {T : TC} {c : Cx} {y : Fx} {r : Loc} {S : Led} {K : V → Led → Prop}

theorem inst_at {s : Shared} {x C dx : Addr} {fs : List (Str × V)} (X : St T c y r S s) (hi : (x, O.inst C dx) ∈ S) (hj : (dx, O.flds fs) ∈ S) :
    ∃ es n, InstAt s.heap x (instObj C dx) C (some (dictOf es n)) ∧ s.heap.get? dx = some (dictOf es n) ∧ All2 RE fs es ∧ (fs.map (·.1)).Nodup := by
  obtain ⟨es, n, hd, a2, nd⟩ := X.own.at_ _ hj
  exact ⟨es, n, ⟨X.own.at_ _ hi, rfl, rfl, hd⟩, hd, a2, nd⟩

/-- the value of an attribute -/
noncomputable def GetV (T : TC) (c : Cx) (r : Loc) (S : Led) (o : V) (name : Str) (K : V → Led → Prop) : Prop := ∀ o', RV o o' → WM T c r S (getAttr o' name true) K
theorem GetV.own {x C dx : Addr} {fs : List (Str × V)} {name : Str} {v : V} (ok : c.Ok) (a : AttrOk T C name) (hi : (x, O.inst C dx) ∈ S) (hj : (dx, O.flds fs) ∈ S) (hm : (name, v) ∈ fs) (hv : v.plain) (h : K v S) : GetV T c r S (.ref x) name K := by
  rintro _ rfl y oy s X
  obtain ⟨m, F, nm⟩ := X.frame oy
  obtain ⟨es, n, I, hd, a2, nd⟩ := inst_at X hi hj
  obtain ⟨v', e, rv⟩ := find_of a2 nd hm
  obtain ⟨a1, a3, attr, a4, a5⟩ := a
  exact get_own F oy.base.k I a1 a3 a4 a5 e (handed_of hv rv) (Post.mk rv X.tok h)
theorem WE.attr {e : Expr} {name : Str} {pos : Pos} (h : WE T c r S e fun o S₁ => GetV T c r S₁ o name K)
    (he : eval (.Attribute e name pos) c.env = (do
      let o ← eval e c.env
      standAt pos.atName
      let r ← holding [o] (getAttr o name true)
      letTemporaryGo e o r
      pure r) := by rfl) : WE T c r S (.Attribute e name pos) K := fun y oy s X =>
  Attribute_any_ (wpAny_mono (h y oy s X) (fun o' s₁ q => q.elim fun o S₁ ro X₁ k => k o' ro y oy s₁ X₁) fun _ _ e => e) he

/-- an attribute stored -/
noncomputable def SetV (T : TC) (c : Cx) (r : Loc) (S : Led) (o : V) (name : Str) (v : V) (K : Led → Prop) : Prop := ∀ o' v', RV o o' → RV v v' → ∀ y : Fx, y.Ok T c → ∀ s, St T c y r S s → wpAny (model T.prog T.w) y.A (setAttr o' name v') (fun _ s' => ∃ S', St T c y r S' s' ∧ K S') NoE s
theorem SetV.own {x C dx : Addr} {fs fs' : List (Str × V)} {S' : Led} {name : Str} {v : V} {K : Led → Prop} (ok : c.Ok) (a : SetOk T C name) (hi : (x, O.inst C dx) ∈ S) (hj : Chg dx (.flds fs) (.flds fs') S S') (P : Put name v fs fs') (hz : fs'.length ≤ 1000) (h : K S') : SetV T c r S (.ref x) name v K := by
  rintro _ v' rfl rv y oy s X
  obtain ⟨m, F, nm⟩ := X.frame oy
  obtain ⟨es, n, I, hd, a2, nd⟩ := inst_at X hi hj.mem
  obtain ⟨a1, a3, a4, a5⟩ := a
  have hm := hj.mem
  have off : y.g.get? dx = none := X.own.off _ hm
  have hL : dx ≠ c.env.locals := X.notL _ hm
  have offb : y.b.get? dx = none := by
    cases q : y.b.get? dx with
    | none => rfl
    | some o => rw [oy.sub _ _ q] at off; cases off
  have a2' := putL_of P rv nd (PyData.keyHash T.w.params name) (s.toks + 1) a2
  obtain ⟨news', U, m1, m2⟩ := upd_of (o' := dictOf (putL name (PyData.keyHash T.w.params name) (.str name (s.toks + 1)) v' es) (putN name es n)) (allOf_nodup y.b c.env.locals s.heap) (mem_allOf.mpr ⟨hd, hL, offb⟩)
  refine set_dict F oy.base.k (allOf_news _ _ _) I rfl a1 a3 a4 a5 (getL_isSome a2 name) rfl U (by rw [← a2'.length]; exact hz) fun h' F' N' => ⟨_, X.changed oy hj nm F' (fun b ob n1 n2 n3 e => ?_) ?_, h⟩
  · exact (N' (b, ob) (m2 _ (mem_allOf.mpr ⟨e, n2, n3⟩) n1)).1
  · exact ⟨_, _, (N' _ m1).1, a2', P.keys nd⟩

/-! subscripts -/
noncomputable def SubV (T : TC) (c : Cx) (r : Loc) (S : Led) (value slice : Expr) (o i : V) (K : V → Led → Prop) : Prop := ∀ o' i', RV o o' → RV i i' → WM T c r S (subscriptTail value slice o' i') K
theorem WE.sub {e i : Expr} {pos : Pos} (h : WE T c r S e fun o S₁ => WE T c r S₁ i fun i' S₂ => SubV T c r S₂ e i o i' K) : WE T c r S (.Subscript e i pos) K := fun y oy s X =>
  Subscript_ (wpAny_mono (h y oy s X) (fun o' s₁ q => q.elim fun o S₁ ro X₁ k => wpAny_mono (k y oy s₁ X₁) (fun i' s₂ q => q.elim fun i S₂ ri X₂ k2 => k2 o' i' ro ri y oy s₂ X₂) fun _ _ e => e) fun _ _ e => e)
theorem isList {s : Shared} {l : Addr} {vs : List V} (X : St T c y r S s) (hi : (l, O.list vs) ∈ S) : ∃ its : List Value, s.heap.IsList l its.toArray ∧ All2 RV vs its := by
  obtain ⟨its, n, e, a⟩ := X.own.at_ _ hi
  exact ⟨its, ⟨_, e, rfl, n, rfl⟩, a⟩
theorem isTup {s : Shared} {l : Addr} {vs : List V} (X : St T c y r S s) (hi : (l, O.tup vs) ∈ S) : ∃ its : List Value, IsTup s.heap l its.toArray ∧ All2 RV vs its := X.own.at_ _ hi
theorem SubV.list {value slice : Expr} {l : Addr} {vs : List V} {k : Int} {v : V} (hi : (l, O.list vs) ∈ S) (h0 : 0 ≤ k) (hk : k < 2 ^ 63) (hx : vs[k.toNat]? = some v) (h : K v S)
    (hs : ∀ t, subscripted slice false (.ref l) (.int k t) = operate [.ref l, .int k t] (getItem (.ref l) (.int k t)) := by intro _; with_unfolding_all rfl) : SubV T c r S value slice (.ref l) (.int k) K := by
  rintro _ _ rfl ⟨t, rfl⟩ y oy s X
  obtain ⟨its, il, a2⟩ := isList X hi
  obtain ⟨v', e, rv⟩ := a2.get hx
  exact tail_any il.typeIs slot_list_getitem.lookup (wpAny_getItem_list il h0 hk (by simpa using e) (Post.mk rv X h)) (hs t)
theorem SubV.tup {value slice : Expr} {l : Addr} {vs : List V} {k : Int} {v : V} (hi : (l, O.tup vs) ∈ S) (h0 : 0 ≤ k) (hk : k < 2 ^ 63) (hx : vs[k.toNat]? = some v) (h : K v S)
    (hs : ∀ t, subscripted slice false (.ref l) (.int k t) = operate [.ref l, .int k t] (getItem (.ref l) (.int k t)) := by intro _; with_unfolding_all rfl) : SubV T c r S value slice (.ref l) (.int k) K := by
  rintro _ _ rfl ⟨t, rfl⟩ y oy s X
  obtain ⟨its, il, a2⟩ := isTup X hi
  obtain ⟨v', e, rv⟩ := a2.get hx
  obtain ⟨hl, -⟩ := List.getElem?_eq_some_iff.mp e
  have hj : seqIndex? k its.length = some k.toNat := by
    unfold seqIndex?
    rw [if_neg (by (lia) : ¬ k < 0)]
    simp only [h0, decide_true, Bool.true_and, decide_eq_true_eq]
    rw [if_pos (by (lia))]
  exact item_tupleT il (by (lia)) hk hj (by simpa using e) (Post.mk rv X h) (hs t)

/-! slices -/
noncomputable def pick (vs : List V) (lo hi : Option Int) : List V := (vs.drop (kms_lo lo vs.length)).take (kms_hi hi vs.length - kms_lo lo vs.length)
noncomputable abbrev PostP (T : TC) (c : Cx) (y : Fx) (r : Loc) (K : Option Int → Led → Prop) : Value → Shared → Prop := fun v' s' => ∃ p S', IsPart v' p ∧ St T c y r S' s' ∧ K p S'
theorem PostP.elim {T : TC} {c : Cx} {y : Fx} {r : Loc} {K : Option Int → Led → Prop} {v' : Value} {s' : Shared} {G : Prop} (h : PostP T c y r K v' s') (k : ∀ p S', IsPart v' p → St T c y r S' s' → K p S' → G) : G := by
  obtain ⟨v, S', a, b, d⟩ := h; exact k v S' a b d
noncomputable def WP (T : TC) (c : Cx) (r : Loc) (S : Led) (x : Option Expr) (K : Option Int → Led → Prop) : Prop := ∀ y : Fx, y.Ok T c → ∀ s, St T c y r S s → wpAny (model T.prog T.w) y.A (evalPart x c.env) (PostP T c y r K) NoE s
theorem WP.none {P : Option Int → Led → Prop} (h : P Option.none S) : WP T c r S Option.none P := fun y oy s X => wpAny_pure ⟨Option.none, S, .none, X, h⟩
theorem WP.some {P : Option Int → Led → Prop} {e : Expr} (h : WE T c r S e fun v S₁ => ∃ i, v = .int i ∧ P (Option.some i) S₁) : WP T c r S (Option.some e) P := fun y oy s X =>
  wpAny_mono (h y oy s X) (fun v' s₁ q => q.elim fun v S₁ rv X₁ ⟨i, e, k⟩ => by subst e; obtain ⟨t, rfl⟩ := rv; exact ⟨_, S₁, .int i t, X₁, k⟩) fun _ _ e => e
noncomputable def SlE (K : V → Led → Prop) (S₃ : Led) (o : V) (a b : Option Int) : Prop := ∃ (l : Addr) (vs ws : List V), o = .ref l ∧ (l, O.list vs) ∈ S₃ ∧ vs.length ≤ 1000000 ∧ pick vs a b = ws ∧ ∀ x, K (.ref x) (S₃ ++ [(x, O.list ws)])
theorem SlE.mk {l : Addr} {vs ws : List V} {a b : Option Int} (h1 : (l, O.list vs) ∈ S) (h2 : vs.length ≤ 1000000) (h3 : pick vs a b = ws) (k : ∀ x, K (.ref x) (S ++ [(x, O.list ws)])) : SlE K S (.ref l) a b := ⟨l, vs, ws, rfl, h1, h2, h3, k⟩
theorem WE.slice {e : Expr} {lo hi : Option Expr} {p pos : Pos} (h : WE T c r S e fun o S₁ => WP T c r S₁ lo fun a S₂ => WP T c r S₂ hi fun b S₃ => SlE K S₃ o a b) : WE T c r S (.Subscript e (.Slice lo hi Option.none p) pos) K := fun y oy s X =>
  Subscript_ (wpAny_mono (h y oy s X) (fun o' s₁ q => q.elim fun o S₁ ro X₁ k => wpAny_Slice (wpAny_mono (k y oy s₁ X₁) (fun v₁ s₂ q => q.elim fun a S₂ pa X₂ k2 => wpAny_mono (k2 y oy s₂ X₂) (fun v₂ s₃ q => q.elim fun b S₃ pb X₃ ⟨l, vs, ws, e1, e2, e3, e4, k3⟩ => by
    subst e1 e4
    cases ro
    refine wpAny_pure ?_
    have hp : ∀ b ob, s₃.heap.get? b = Option.some ob → (s₃.heap.push { cls := .type "slice", data := .fields #[v₁, v₂, .none] }).get? b = Option.some ob := fun b ob e => Heap.get?_push_of_some _ e
    have Y := X₃.ext (t := s₃.toks) hp
    obtain ⟨its, il, a2⟩ := isList Y e2
    refine tail_any il.typeIs slot_list_getitem.lookup (wpAny_getItem_list_slice il (Heap.IsSliceOf.new ..) pa pb .none (by simp) ?_ (by rw [List.size_toArray, ← a2.length, sizeLine_eq]; (lia))) rfl
    refine Post.new (ob := .list (pick vs a b)) Y rfl (fun h x e => ?_) k3
    rw [kms_pick_eq] at e
    refine ⟨_, _, e, ?_⟩
    unfold kms_pick pick
    rw [a2.length]
    exact (a2.drop _).take _) fun _ _ e => e) fun _ _ e => e)) fun _ _ e => e)

/-! calls -/
theorem evalArgs_any {M : Model} {A : Around} {E : Value → Shared → Prop} {s : Shared} {f : Value} {x : List (Bool × Sem Value)} {Q : Args → Shared → Prop} (hx : x.any (·.1) = false) (h : wpAny M A (spliced x) (fun vs s' => Q ⟨vs, []⟩ s') E s) : wpAny M A (evalArgs f true x []) Q E s := by
  cases x with
  | nil =>
    unfold evalArgs
    show wpAny M A (spliced [] >>= _) Q E s
    refine wpAny_bind (wpAny_mono h (fun vs s' h' => ?_) fun _ _ x => x)
    refine wpAny_bind (wpAny_pure ?_)
    refine wpAny_holding ?_
    exact wpAny_bind (wpAny_pure (wpAny_bind (wpAny_pure (wpAny_pure h'))))
  | cons y x =>
    obtain ⟨b, y⟩ := y
    rw [List.any_cons, Bool.or_eq_false_iff] at hx
    obtain ⟨rfl, _⟩ := hx
    exact evalArgs_plain h
noncomputable def CallV (T : TC) (c : Cx) (r : Loc) (S : Led) (f : V) (args : List V) (K : V → Led → Prop) : Prop := ∀ f' args', RV f f' → All2 RV args args' → WM T c r S (call f' args' []) K
/-- a callee that the machine keeps as a def, a class or a built-in -/
noncomputable def Callee (T : TC) : V → Prop
  | .bi _ => True
  | .ty _ => True
  | .ref a => keepIn T.K (.ref a) = true
  | _ => False
theorem St.k {s : Shared} (X : St T c y r S s) (oy : y.Ok T c) : T.K.In s.heap := fun a o e => X.own.keep a o (oy.sub _ _ (oy.base.k a o e))
theorem WE.call {f : Expr} {es : List Expr} {pos : Pos} (ok : c.Ok) (h : WE T c r S f fun fv S₁ => Callee T fv ∧ WL T c r S₁ es fun vs S₂ => CallV T c r S₂ fv vs K)
    (he : eval (.Call f es [] pos) c.env = (do callWith pos (← eval f c.env) [] (backTo pos (starEach es c.env)) (backToKw pos (keywordEach [] c.env))) := by rfl) (hp : (backTo pos (starEach es c.env)).any (·.1) = false := by rfl) : WE T c r S (.Call f es [] pos) K := fun y oy s X => by
  rw [he]
  refine wpAny_bind (wpAny_mono (h y oy s X) (fun f' s₁ q => q.elim fun fv S₁ rf X₁ ⟨cal, k⟩ => ?_) fun _ _ e => e)
  have kk : ∀ h, T.K.In h → ∃ k, (k = Keeper.frame ∨ k = Keeper.machine ∨ k = Keeper.boundFrame) ∧ Looks (model T.prog T.w) h (keeperOf f') k := fun h hk => by
    cases fv with
    | bi id => cases rf; exact ⟨.machine, .inr (.inl rfl), Looks.of_pure rfl⟩
    | ty n => cases rf; exact ⟨.machine, .inr (.inl rfl), Looks.of_pure rfl⟩
    | ref a => cases rf; exact keeps_K cal h hk
    | _ => exact cal.elim
  show wpAny _ _ (callWith pos f' [] (backTo pos (starEach es c.env)) []) _ _ s₁
  refine callWith_of (P := T.K.In) (by rw [hp]; rfl) kk ?_
  refine evalArgs_any hp ?_
  exact wpAny_mono (k y oy s₁ pos X₁) (fun vs' s₂ q => q.elim fun vs S₂ rvs X₂ k2 => ⟨X₂.k oy, k2 f' vs' rf rvs y oy s₂ X₂⟩) fun _ _ e => e
end
end Mine
end

section
set_option maxRecDepth 100000
namespace Mine
open PySem PySem.W PySem.Calls PyProof.Rows PySem.Spec

/-- what a call does, said of the ledger alone -/
noncomputable def Call (T : TC) (n : Nat) (f : V) (args : List V) (S : Led) (K : V → Led → Prop) : Prop :=
  ∀ (A : Around) (g : Heap) (s : Shared) f' args', A.handled = none → A.depth + n < recursionLimit → A.units + 8 * n + 100 < cLine → T.B g → s.gens = #[] → s.os = T.os → Own g s.heap S → g.objs.size ≤ s.heap.objs.size → RV f f' → All2 RV args args' →
    wpAny (model T.prog T.w) A (call f' args' []) (fun v' s' => ∃ v S', RV v v' ∧ s'.gens = #[] ∧ s'.os = T.os ∧ Own g s'.heap S' ∧ K v S') NoE s

theorem Call.mono {T : TC} {n n' : Nat} {f : V} {args : List V} {S : Led} {K K' : V → Led → Prop} (h : Call T n f args S K) (hn : n ≤ n') (k : ∀ v S', K v S' → K' v S') : Call T n' f args S K' :=
  fun A g s f' args' h1 h2 h3 h4 h5 h6 h7 h8 h9 h10 => wpAny_mono (h A g s f' args' h1 (by (lia)) (by (lia)) h4 h5 h6 h7 h8 h9 h10) (fun _ _ ⟨v, S', a, b, d, e, z⟩ => ⟨v, S', a, b, d, e, k _ _ z⟩) fun _ _ e => e

/-- a call whose whole ledger is known -/
theorem CallV.of {T : TC} {c : Cx} {r : Loc} {S : Led} {n : Nat} {f : V} {args : List V} {K : V → Led → Prop} (h : Call T n f args S K) (hn : n ≤ c.n) : CallV T c r S f args K := fun f' args' rf ra y oy s X => by
  obtain ⟨m, F, nm⟩ := X.fr
  let g := hideAll s.heap (S.map (·.1))
  have inS : ∀ b, b ∈ S.map (·.1) → ∃ p ∈ S, p.1 = b := fun b hb => by
    obtain ⟨p, hp, e⟩ := List.mem_map.mp hb
    exact ⟨p, hp, e⟩
  have st : ∀ b o, y.g.get? b = some o → g.get? b = some o := fun b o e => hideAll_get _ (X.own.keep b o e) fun hb => by
    obtain ⟨p, hp, e'⟩ := inS b hb
    have := X.own.off p hp
    rw [e', e] at this; cases this
  have hL : ∀ o, s.heap.get? c.env.locals = some o → g.get? c.env.locals = some o := fun o e => hideAll_get _ e fun hb => by
    obtain ⟨p, hp, e'⟩ := inS _ hb
    exact X.notL p hp e'
  have hC : ∀ q ∈ c.env.cells, ∀ o, s.heap.get? q.2 = some o → g.get? q.2 = some o := fun q hq o e => hideAll_get _ e fun hb => by
    obtain ⟨p, hp, e'⟩ := inS _ hb
    exact (X.cells q hq).1.1 p hp e'
  have O : Own g s.heap S := ⟨fun b o e => of_hideAll _ e, X.own.at_, fun p hp => hideAll_none _ (List.mem_map_of_mem hp), X.own.nodup⟩
  refine wpAny_mono (h y.A g s f' args' oy.hand (by have := oy.depth; (lia)) (by have := oy.units; (lia)) (oy.base.keeps fun a o e => st a o (oy.sub a o e)) X.gens X.os O (Nat.le_of_eq (hideAll_size _ _)) rf ra) (fun v' s' ⟨v, S', rv, e1, e2, O', k⟩ => ⟨v, S', rv, ?_, k⟩) fun _ _ e => e
  have no : ∀ p ∈ S', ∀ b o, g.get? b = some o → p.1 ≠ b := fun p hp b o e z => by
    have := O'.off p hp
    rw [z, e] at this; cases this
  obtain ⟨oL, es, ep, ho, r1⟩ := F
  refine ⟨e1, e2, ⟨fun b o e => O'.keep b o (st b o e), O'.at_, fun p hp => ?_, O'.nodup⟩, ⟨m, ⟨oL, es, ep, O'.keep _ _ (hL _ ho), r1⟩, fun q hq => (nm q hq).keep fun y' hy o e => O'.keep _ _ (hC y' hy o e)⟩, X.keys, fun p hp => no p hp _ _ (hL _ ho), fun q hq => ?_⟩
  · cases z : y.g.get? p.1 with
    | none => rfl
    | some o => exact absurd rfl (no p hp _ _ (st _ _ z))
  · obtain ⟨v0, oc, hoc, hd⟩ := (X.cells q hq).2
    exact ⟨⟨fun p hp => no p hp _ _ (hC q hq _ hoc), (X.cells q hq).1.2⟩, v0, oc, O'.keep _ _ (hC q hq _ hoc), hd⟩

/-- a call that is told of a part of the ledger: the rest stays -/
theorem Call.frame {T : TC} {n : Nat} {f : V} {args : List V} {S S₁ R : Led} {K : V → Led → Prop} (h : Call T n f args S₁ fun v S' => K v (S' ++ R)) (hs : ∀ p, p ∈ S ↔ p ∈ S₁ ++ R) (nd : ((S₁ ++ R).map (·.1)).Nodup ∨ (S₁ ++ R).Perm S) : Call T n f args S K := fun A g s f' args' h1 h2 h3 h4 h5 h6 h7 h8 h9 h10 => by
  have nd' : ((S₁ ++ R).map (·.1)).Nodup := nd.elim id fun q => (q.map (·.1)).nodup_iff.mpr h7.nodup
  have dis : ∀ p ∈ S₁, ∀ q ∈ R, p.1 ≠ q.1 := fun p hp q hq => by
    rw [List.map_append, List.nodup_append] at nd'
    exact nd'.2.2 _ (List.mem_map_of_mem hp) _ (List.mem_map_of_mem hq)
  let g₁ := hideAll s.heap (S₁.map (·.1))
  have inS : ∀ b, b ∈ S₁.map (·.1) → ∃ p ∈ S₁, p.1 = b := fun b hb => by
    obtain ⟨p, hp, e⟩ := List.mem_map.mp hb
    exact ⟨p, hp, e⟩
  have st : ∀ b o, g.get? b = some o → g₁.get? b = some o := fun b o e => hideAll_get _ (h7.keep b o e) fun hb => by
    obtain ⟨p, hp, e'⟩ := inS b hb
    have := h7.off p ((hs p).mpr (List.mem_append_left _ hp))
    rw [e', e] at this; cases this
  have hR : ∀ q ∈ R, ∀ o, s.heap.get? q.1 = some o → g₁.get? q.1 = some o := fun q hq o e => hideAll_get _ e fun hb => by
    obtain ⟨p, hp, e'⟩ := inS _ hb
    exact dis p hp q hq e'
  have O : Own g₁ s.heap S₁ := ⟨fun b o e => of_hideAll _ e, fun p hp => h7.at_ p ((hs p).mpr (List.mem_append_left _ hp)), fun p hp => hideAll_none _ (List.mem_map_of_mem hp), by rw [List.map_append, List.nodup_append] at nd'; exact nd'.1⟩
  refine wpAny_mono (h A g₁ s f' args' h1 h2 h3 (h4.keeps st) h5 h6 O (Nat.le_of_eq (hideAll_size _ _)) h9 h10) (fun v' s' ⟨v, S', rv, e1, e2, O', k⟩ => ⟨v, S' ++ R, rv, e1, e2, ⟨fun b o e => O'.keep b o (st b o e), fun p hp => ?_, fun p hp => ?_, ?_⟩, k⟩) fun _ _ e => e
  · rcases List.mem_append.mp hp with hp | hp
    · exact O'.at_ p hp
    · exact (h7.at_ p ((hs p).mpr (List.mem_append_right _ hp))).keep fun o e => O'.keep _ _ (hR p hp o e)
  · rcases List.mem_append.mp hp with hp | hp
    · cases z : g.get? p.1 with
      | none => rfl
      | some o => have := O'.off p hp; rw [st _ _ z] at this; cases this
    · exact h7.off p ((hs p).mpr (List.mem_append_right _ hp))
  · rw [List.map_append, List.nodup_append]
    refine ⟨O'.nodup, by rw [List.map_append, List.nodup_append] at nd'; exact nd'.2.1, fun a ha b hb e => ?_⟩
    obtain ⟨p, hp, rfl⟩ := List.mem_map.mp ha
    obtain ⟨q, hq, rfl⟩ := List.mem_map.mp hb
    obtain ⟨o, ho⟩ := (h7.at_ q ((hs q).mpr (List.mem_append_right _ hq))).some
    have := O'.off p hp
    rw [e, hR q hq o ho] at this; cases this

/-! statements: Kn behind the statement, Kr where it returns -/
noncomputable def PostF (T : TC) (c : Cx) (y : Fx) (Kn : Loc → Led → Prop) (Kr : V → Led → Prop) : Flow → Shared → Prop := fun f s' => match f with
  | .next => ∃ r' S', St T c y r' S' s' ∧ Kn r' S'
  | .ret v' => ∃ v r' S', RV v v' ∧ St T c y r' S' s' ∧ Kr v S'
  | _ => False
noncomputable def WS (T : TC) (c : Cx) (r : Loc) (S : Led) (st : Stmt) (Kn : Loc → Led → Prop) (Kr : V → Led → Prop) : Prop := ∀ y : Fx, y.Ok T c → ∀ s, St T c y r S s → wpAny (model T.prog T.w) y.A (exec st c.env) (PostF T c y Kn Kr) NoE s
noncomputable def WSs (T : TC) (c : Cx) (r : Loc) (S : Led) (sts : List Stmt) (Kn : Loc → Led → Prop) (Kr : V → Led → Prop) : Prop := ∀ y : Fx, y.Ok T c → ∀ s, St T c y r S s → wpAny (model T.prog T.w) y.A (execs sts c.env) (PostF T c y Kn Kr) NoE s
theorem PostF.mono {T : TC} {c : Cx} {y : Fx} {Kn Kn' : Loc → Led → Prop} {Kr Kr' : V → Led → Prop} (h1 : ∀ r S, Kn r S → Kn' r S) (h2 : ∀ v S, Kr v S → Kr' v S) {f : Flow} {s : Shared} (h : PostF T c y Kn Kr f s) : PostF T c y Kn' Kr' f s := by
  cases f with
  | next => obtain ⟨r, S, x, k⟩ := h; exact ⟨r, S, x, h1 _ _ k⟩
  | ret v => obtain ⟨v, r, S, rv, x, k⟩ := h; exact ⟨v, r, S, rv, x, h2 _ _ k⟩
  | brk => exact h
  | cont => exact h

section
variable {T : TC} {c : Cx} {y : Fx} {r : Loc} {S : Led} {Kn : Loc → Led → Prop} {Kr : V → Led → Prop}
theorem WS.mono {st : Stmt} {Kn' : Loc → Led → Prop} {Kr' : V → Led → Prop} (h : WS T c r S st Kn Kr) (h1 : ∀ r S, Kn r S → Kn' r S) (h2 : ∀ v S, Kr v S → Kr' v S) : WS T c r S st Kn' Kr' := fun y oy s X => wpAny_mono (h y oy s X) (fun _ _ => PostF.mono h1 h2) fun _ _ e => e
theorem WSs.mono {st : List Stmt} {Kn' : Loc → Led → Prop} {Kr' : V → Led → Prop} (h : WSs T c r S st Kn Kr) (h1 : ∀ r S, Kn r S → Kn' r S) (h2 : ∀ v S, Kr v S → Kr' v S) : WSs T c r S st Kn' Kr' := fun y oy s X => wpAny_mono (h y oy s X) (fun _ _ => PostF.mono h1 h2) fun _ _ e => e
theorem WSs.nil (h : Kn r S) : WSs T c r S [] Kn Kr := fun y oy s X => wpAny_execs_nil ⟨r, S, X, h⟩
theorem WSs.cons {st : Stmt} {sts : List Stmt} (h : WS T c r S st (fun r' S' => WSs T c r' S' sts Kn Kr) Kr) : WSs T c r S (st :: sts) Kn Kr := fun y oy s X =>
  wpAny_execs_cons (wpAny_mono (h y oy s X) (fun f' s' k => by
    cases f' with
    | next => obtain ⟨r', S', X', k⟩ := k; exact k y oy s' X'
    | ret v => exact k
    | brk => exact k.elim
    | cont => exact k.elim) fun _ _ e => e)
/-- the ledger may be forgotten in part -/
theorem WSs.drop {S' : Led} {sts : List Stmt} (hs : S'.Sublist S) (h : WSs T c r S' sts Kn Kr) : WSs T c r S sts Kn Kr := fun y oy s X => h y oy s (X.drop hs)
theorem WSs.less {r' : Loc} {sts : List Stmt} (hr : r'.Sublist r) (h : WSs T c r' S sts Kn Kr) : WSs T c r S sts Kn Kr := fun y oy s X => h y oy s (X.less (fun q hq => hr.subset hq) ((hr.map _).nodup X.keys))
theorem WS.ret {e : Expr} {pos : Pos} (h : WE T c r S e fun v S' => Kr v S') : WS T c r S (.Return (some e) pos) Kn Kr := fun y oy s X =>
  wpAny_Return_some (wpAny_mono (h y oy s X) (fun v' s' q => q.elim fun v S' rv X' k => ⟨v, r, S', rv, X', k⟩) fun _ _ e => e)
theorem WS.ifs {t : Expr} {b e : List Stmt} {pos : Pos} (h : WT T c r S t fun d S' => (d = true → WSs T c r S' b Kn Kr) ∧ (d = false → WSs T c r S' e Kn Kr)) : WS T c r S (.If t b e pos) Kn Kr := fun y oy s X =>
  wpAny_If (wpAny_mono (h y oy s X) (fun d s' q => q.elim fun S' X' k => by cases d <;> first | exact k.1 rfl y oy s' X' | exact k.2 rfl y oy s' X') fun _ _ e => e)

/-- a value stored under a name -/
theorem storeV {x : Str} {v : V} {v' : Value} {r' : Loc} {Q : Unit → Shared → Prop} {s : Shared} (ok : c.Ok) (oy : y.Ok T c) (X : St T c y r S s) (rv : RV v v') (P : Put x v r r') (hk : c.env.kindOf x = some .local ∨ (c.env.kindOf x = some .cell ∧ c.fn = true ∧ (c.env.cells.lookup x).isSome = true))
    (h : ∀ h' t, St T c y r' S { s with heap := h', toks := t } → Q () { s with heap := h', toks := t }) : wpAny (model T.prog T.w) y.A (storeName c.env x v') Q NoE s := by
  obtain ⟨m, F, nm⟩ := X.frame oy
  rcases hk with hk | ⟨hk, hf, hc⟩
  · refine wpAny_storeName_local hk F.ns (fun h' hn hs => h h' _ (X.storeL oy nm P rv hk hn hs)) ?_
    rw [ok.kind]; rfl
  · obtain ⟨cc, hc⟩ := Option.isSome_iff_exists.mp hc
    obtain ⟨v0, hv0⟩ := (X.cells _ (mem_of_lookup hc)).2
    exact wpAny_storeName_cell ok.kind hk hc hv0 fun h' hv hs => h h' s.toks (X.storeC ok oy hf P rv hk hc hv hs)

noncomputable abbrev Asg (x : Str) (v : V) (r : Loc) (Kn : Loc → Led → Prop) (S : Led) : Prop := ∃ r', Put x v r r' ∧ Kn r' S
theorem Asg.mk {x : Str} {v : V} {r r' : Loc} {Kn : Loc → Led → Prop} {S : Led} (P : Put x v r r') (k : Kn r' S) : Asg x v r Kn S := ⟨r', P, k⟩
theorem Asg.mkE {x : Str} {v v' : V} {r r' : Loc} {Kn : Loc → Led → Prop} {S : Led} (e : v = v') (P : Put x v' r r') (k : Kn r' S) : Asg x v r Kn S := ⟨r', e ▸ P, k⟩
theorem WS.assign {x : Str} {e : Expr} {pos' pos : Pos} (ok : c.Ok) (hk : c.env.kindOf x = some .local) (h : WE T c r S e fun v S' => Asg x v r Kn S') (hs : swapsWith e (some (.Name x pos')) pos.line c.env = pure false := by rfl) : WS T c r S (.Assign [.Name x pos'] e pos) Kn Kr := fun y oy s X =>
  wpAny_Assign_Name (wpAny_mono (h y oy s X) (fun v' s' q => q.elim fun v S' rv X' ⟨r', P, k⟩ => storeV ok oy X' rv P (.inl hk) fun h' t Y => ⟨r', S', Y, k⟩) fun _ _ e => e) hs
theorem WS.assignAttr {o e : Expr} {name : Str} {pos' pos : Pos} (h : WE T c r S e fun v S₁ => WE T c r S₁ o fun ov S₂ => SetV T c r S₂ ov name v fun S₃ => Kn r S₃) (hs : swapsWith e (some (.Attribute o name pos')) pos.line c.env = pure false := by rfl) : WS T c r S (.Assign [.Attribute o name pos'] e pos) Kn Kr := fun y oy s X =>
  plainObj_wpAny_Assign_Attribute (wpAny_mono (h y oy s X) (fun v' s₁ ⟨v, S₁, rv, X₁, k⟩ => wpAny_mono (k y oy s₁ X₁) (fun o' s₂ ⟨ov, S₂, ro, X₂, k2⟩ => wpAny_mono (k2 o' v' ro rv y oy s₂ X₂) (fun _ s₃ ⟨S₃, X₃, k3⟩ => ⟨r, S₃, X₃, k3⟩) fun _ _ e => e) fun _ _ e => e) fun _ _ e => e) hs

/-- an item stored -/
noncomputable def SetI (T : TC) (c : Cx) (r : Loc) (S : Led) (o i v : V) (K : Led → Prop) : Prop := ∀ o' i' v', RV o o' → RV i i' → RV v v' → ∀ y : Fx, y.Ok T c → ∀ s, St T c y r S s → wpAny (model T.prog T.w) y.A (setItem o' i' v') (fun _ s' => ∃ S', St T c y r S' s' ∧ K S') NoE s
theorem WS.assignSub {o i e : Expr} {pos' pos : Pos} (h : WE T c r S e fun v S₁ => WE T c r S₁ o fun ov S₂ => WE T c r S₂ i fun iv S₃ => SetI T c r S₃ ov iv v fun S₄ => Kn r S₄) (hs : swapsWith e (some (.Subscript o i pos')) pos.line c.env = pure false := by rfl) : WS T c r S (.Assign [.Subscript o i pos'] e pos) Kn Kr := fun y oy s X =>
  wpAny_Assign_Subscript (wpAny_mono (h y oy s X) (fun v' s₁ ⟨v, S₁, rv, X₁, k⟩ => wpAny_mono (k y oy s₁ X₁) (fun o' s₂ ⟨ov, S₂, ro, X₂, k2⟩ => wpAny_mono (k2 y oy s₂ X₂) (fun i' s₃ ⟨iv, S₃, ri, X₃, k3⟩ => wpAny_mono (k3 o' i' v' ro ri rv y oy s₃ X₃) (fun _ s₄ ⟨S₄, X₄, k4⟩ => ⟨r, S₄, X₄, k4⟩) fun _ _ e => e) fun _ _ e => e) fun _ _ e => e) fun _ _ e => e) hs
end

/-! the way into a def -/
theorem bindL_of {kindOf : Str → Option NameKind} : ∀ {bs : List (Str × Value)} {m : Str → Option Value} {x : Str} {v : Value}, (bs.map (·.1)).Nodup → (x, v) ∈ bs → kindOf x = some .local → bindL kindOf bs m x = some v
  | [], _, _, _, _, hm, _ => nomatch hm
  | (y, w) :: bs, m, x, v, nd, hm, hk => by
    rw [List.map_cons, List.nodup_cons] at nd
    rcases List.mem_cons.mp hm with e | hm
    · cases e
      unfold bindL
      have key : ∀ (x : Str) {bs : List (Str × Value)} {m : Str → Option Value}, x ∉ bs.map (·.1) → bindL kindOf bs m x = m x := by
        intro x bs
        induction bs with
        | nil => intro m _; rfl
        | cons q bs ih =>
          intro m hn
          obtain ⟨z, u⟩ := q
          unfold bindL
          rw [ih fun h => hn (.tail _ h)]
          have hne : x ≠ z := fun e => hn (e ▸ .head _)
          split <;> simp [hne]
      rw [key _ nd.1, if_pos hk]; simp
    · unfold bindL
      exact bindL_of nd.2 hm hk
theorem bindC_of {kindOf : Str → Option NameKind} : ∀ {bs : List (Str × Value)} {m : Str → Option Value} {x : Str} {v : Value}, (bs.map (·.1)).Nodup → (x, v) ∈ bs → kindOf x ≠ some .local → bindC kindOf bs m x = some v
  | [], _, _, _, _, hm, _ => nomatch hm
  | (y, w) :: bs, m, x, v, nd, hm, hk => by
    rw [List.map_cons, List.nodup_cons] at nd
    rcases List.mem_cons.mp hm with e | hm
    · cases e
      unfold bindC
      have key : ∀ (x : Str) {bs : List (Str × Value)} {m : Str → Option Value}, x ∉ bs.map (·.1) → bindC kindOf bs m x = m x := by
        intro x bs
        induction bs with
        | nil => intro m _; rfl
        | cons q bs ih =>
          intro m hn
          obtain ⟨z, u⟩ := q
          unfold bindC
          rw [ih fun h => hn (.tail _ h)]
          have hne : x ≠ z := fun e => hn (e ▸ .head _)
          split <;> simp [hne]
      rw [key _ nd.1, if_neg hk]; simp
    · unfold bindC
      exact bindC_of nd.2 hm hk
theorem zip_of {names : List Str} {args : List V} {vals : List Value} (h : All2 RV args vals) : ∀ q ∈ names.zip args, ∃ v', (q.1, v') ∈ names.zip vals ∧ RV q.2 v' := by
  induction h generalizing names with
  | nil => intro q hq; simp at hq
  | cons rv _ ih =>
    intro q hq
    cases names with
    | nil => simp at hq
    | cons n names =>
      rcases List.mem_cons.mp hq with rfl | hq
      · exact ⟨_, .head _, rv⟩
      · obtain ⟨v', a, b⟩ := ih q hq
        exact ⟨v', .tail _ a, b⟩
theorem zip_keys {α : Type} {names : List Str} {l : List α} (h : names.length = l.length) : (names.zip l).map (·.1) = names := by
  rw [List.map_fst_zip]; (lia)

theorem mem_head {α : Type} {x : α} {l : List α} : x ∈ x :: l := .head _
theorem mem_tail {α : Type} {x y : α} {l : List α} (h : x ∈ l) : x ∈ y :: l := .tail _ h
/-- the names of a frame and what they are -/
noncomputable def Kinds (c : Cx) (ns : List (Str × NameKind)) : Prop := ∀ q ∈ ns, c.env.kindOf q.1 = some q.2
theorem Kinds.at {c : Cx} {ns : List (Str × NameKind)} {x : Str} {k : NameKind} (h : Kinds c ns) (hm : (x, k) ∈ ns) : c.env.kindOf x = some k := h _ hm
theorem kinds_of {c : Cx} {ns : List (Str × NameKind)} (e : c.env.scope.names = ns) (h : (ns.all fun q => ns.lookup q.1 == some q.2) = true) : Kinds c ns := fun q hq => by
  have := List.all_eq_true.mp h q hq
  unfold Env.kindOf
  rw [e]
  exact eq_of_beq this

/-- the same, of the call's code -/
noncomputable def CallC (T : TC) (n : Nat) (f : V) (args : List V) (S : Led) (K : V → Led → Prop) : Prop :=
  ∀ (A : Around) (g : Heap) (s : Shared) f' args', A.handled = none → A.depth + n < recursionLimit → A.units + 8 * n + 100 < cLine → T.B g → s.gens = #[] → s.os = T.os → Own g s.heap S → g.objs.size ≤ s.heap.objs.size → RV f f' → All2 RV args args' →
    codeAny (model T.prog T.w) A (.call f' ⟨args', []⟩) (fun r s' => match r with | .ok (.ret v') => ∃ v S', RV v v' ∧ s'.gens = #[] ∧ s'.os = T.os ∧ Own g s'.heap S' ∧ K v S' | _ => False) s
theorem CallC.call {T : TC} {n : Nat} {f : V} {args : List V} {S : Led} {K : V → Led → Prop} (h : CallC T n f args S K) : Call T n f args S K :=
  fun A g s f' args' h1 h2 h3 h4 h5 h6 h7 h8 h9 h10 => wpAny_call (codeAny_mono (h A g s f' args' h1 h2 h3 h4 h5 h6 h7 h8 h9 h10) fun r s' q => by
    rcases r with e | (_ | _ | _ | _) <;> first | exact q | exact q.elim)

theorem CallC.def {T : TC} {n : Nat} {fa : Addr} {name qual : Str} {params : Arguments} {body : List Stmt} {scope : Scope} {dV kV doc pm cdv ct oc : Value} {an od : Option Addr} {osl : Array (Option Value)} {args : List V} {names : List Str} {S : Led} {K : V → Led → Prop}
    (ho : T.K.lookup fa = some ⟨oc, od, .func (fnX name qual params body scope [] dV kV doc pm an cdv ct), osl⟩) (hcd : codeIn T.K cdv qual = true)
    (hbind : ∀ vals : List Value, vals.length = names.length → bindArgs (fnX name qual params body scope [] dV kV doc pm an cdv ct) ⟨vals, []⟩ = pure (names.zip vals))
    (hlen : names.length = args.length) (hnd : names.Nodup)
    (hkind : ∀ n, ∀ x ∈ names, scope.names.lookup x = some .local ∨ (scope.names.lookup x = some .cell ∧ ((cellsFrom n scope.names []).lookup x).isSome = true))
    (hcells : ((cellsFrom 0 scope.names []).map (·.1)).Nodup) (hall : (scope.names.all fun q => scope.names.lookup q.1 == some q.2) = true)
    (h : ∀ c : Cx, c.Ok → c.fn = true → c.n = n → Kinds c scope.names → (∀ x, ((cellsFrom 0 scope.names []).lookup x).isSome = (c.env.cells.lookup x).isSome) → WSs T c (names.zip args) S body (fun _ S' => K .none S') K)
    (hco : scope.isCoroutine = false := by rfl) (hgen : scope.isGenerator = false := by rfl) (hk : scope.kind = .function := by rfl) : CallC T (n + 1) (.ref fa) args S K := by
  intro A g s f' vals h1 h2 h3 h4 h5 h6 h7 h8 h9 h10
  cases h9
  have hl : vals.length = names.length := by rw [← h10.length, hlen]
  refine codeAny_call_cells (fd := fnX name qual params body scope [] dV kV doc pm an cdv ct) (binds := names.zip vals) (by (lia)) (h7.keep _ _ (h4.k _ _ ho)) rfl (h4.t.nolimit.keeps h7.keep) (codeRec_of (fun a o e => h7.keep a o (h4.k a o e)) hcd) rfl (hbind vals hl) rfl ?_ (fun s₁ x => ?_) hco hgen hk
  · intro q hq
    have : q.1 ∈ names := by
      have := List.mem_map_of_mem (f := (·.1)) hq
      rwa [zip_keys (by (lia))] at this
    exact hkind _ _ this
  · obtain ⟨h', tk, rfl, kp⟩ := x.done
    let env := callEnvC (fnX name qual params body scope [] dV kV doc pm an cdv ct) s.heap.objs.size fa
    let c : Cx := { env := env, n := n, fn := true }
    let y : Fx := { A := A.deeper env, g := g, b := g }
    have hcl : ∀ q ∈ env.cells, s.heap.objs.size < q.2 := fun q hq => x.above q.1 q.2 hq
    have hcn : (env.cells.map (·.1)).Nodup := by
      show ((cellsFrom (s.heap.objs.size + 1) scope.names []).map (·.1)).Nodup
      rw [cellsFrom_names scope.names (s.heap.objs.size + 1) 0 [] [] rfl]; exact hcells
    have ok : c.Ok := ⟨x.apart, hk, rfl, rfl⟩
    have oy : y.Ok T c := ⟨h1, by show A.depth + 1 + n < _; (lia), by show A.units + 3 + 8 * n + 100 < _; (lia), h4, fun _ _ e => e, h8, Heap.get?_none_of_le h8, fun _ q hq => Heap.get?_none_of_le (Nat.le_trans h8 (Nat.le_of_lt (hcl q hq)))⟩
    have low : ∀ p ∈ S, p.1 < s.heap.objs.size := fun p hp => by
      obtain ⟨o, e⟩ := (h7.at_ p hp).some
      exact Heap.lt_size e
    have X : St T c y (names.zip args) S { s with heap := h', toks := tk } := by
      refine ⟨h5, h6, ⟨fun b o e => kp b o (h7.keep b o e), fun p hp => (h7.at_ p hp).keep (kp _), h7.off, h7.nodup⟩, ⟨_, x.toInCall.ns, fun q hq => ?_⟩, by rw [zip_keys hlen]; exact hnd, fun p hp => Nat.ne_of_lt (low p hp), fun q hq => ⟨⟨fun p hp => Nat.ne_of_lt (Nat.lt_trans (low p hp) (hcl q hq)), Nat.ne_of_gt (hcl q hq)⟩, _, x.cell q.1 q.2 (lookup_of_mem_nodup hcn hq)⟩⟩
      obtain ⟨v', hv, rv⟩ := zip_of (names := names) h10 q hq
      have nd' : ((names.zip vals).map (·.1)).Nodup := by rw [zip_keys (by (lia))]; exact hnd
      have hin : q.1 ∈ names := by
        have := List.mem_map_of_mem (f := (·.1)) hv
        rwa [zip_keys (by (lia))] at this
      rcases hkind (s.heap.objs.size + 1) _ hin with e | ⟨e, e2⟩
      · exact .inl ⟨e, v', bindL_of nd' hv e, rv⟩
      · obtain ⟨cc, hcc⟩ := Option.isSome_iff_exists.mp e2
        refine .inr ⟨e, cc, v', hcc, ?_, rv⟩
        have := x.cell q.1 cc hcc
        rwa [bindC_of nd' hv (by rw [show (callEnvC (fnX name qual params body scope [] dV kV doc pm an cdv ct) s.heap.objs.size fa).kindOf q.1 = some .cell from e]; intro z; cases z)] at this
    have cs : ∀ x, ((cellsFrom 0 scope.names []).lookup x).isSome = (c.env.cells.lookup x).isSome := fun x => by
      have key : ∀ {l l' : List (Str × Addr)}, l.map (·.1) = l'.map (·.1) → (l.lookup x).isSome = (l'.lookup x).isSome := by
        intro l
        induction l with
        | nil => intro l' e; cases l' with
          | nil => rfl
          | cons _ _ => simp at e
        | cons q l ih =>
          intro l' e
          cases l' with
          | nil => simp at e
          | cons q' l' =>
            obtain ⟨a, b⟩ := q
            obtain ⟨a', b'⟩ := q'
            simp only [List.map_cons, List.cons.injEq] at e
            obtain ⟨rfl, e⟩ := e
            rw [List.lookup_cons, List.lookup_cons]
            cases x == a <;> simp [ih e]
      exact key (cellsFrom_names scope.names 0 (s.heap.objs.size + 1) [] [] rfl)
    refine wpAny_mono (h c ok rfl rfl (kinds_of rfl hall) cs y oy _ X) (fun fl s' k => ?_) fun _ _ e => e.elim
    cases fl with
    | next => obtain ⟨r', S', X', k⟩ := k; exact ⟨.none, S', rfl, X'.gens, X'.os, X'.own, k⟩
    | ret v' => obtain ⟨v, r', S', rv, X', k⟩ := k; exact ⟨v, S', rv, X'.gens, X'.os, X'.own, k⟩
    | brk => exact k.elim
    | cont => exact k.elim

end Mine
end

section
set_option maxRecDepth 100000
namespace Mine
open PySem PySem.W PySem.Calls PyProof.Rows PySem.Spec

/-! iterators -/
/-- addresses that are no part of what is known -/
noncomputable def Sep (c : Cx) (y : Fx) (S : Led) (as : List Addr) : Prop := ∀ b ∈ as, y.g.get? b = none ∧ b ≠ c.env.locals ∧ (∀ p ∈ S, p.1 ≠ b) ∧ ∀ q ∈ c.env.cells, q.2 ≠ b
theorem St.off {T : TC} {c : Cx} {y : Fx} {r : Loc} {S : Led} {s : Shared} {h' : Heap} {t : Nat} {as : List Addr} (X : St T c y r S s) (sp : Sep c y S as) (k : ∀ b o, b ∉ as → s.heap.get? b = some o → h'.get? b = some o) : St T c y r S { s with heap := h', toks := t } := by
  obtain ⟨m, ⟨oL, es, ep, ho, r1⟩, nm⟩ := X.fr
  have nS : ∀ p ∈ S, p.1 ∉ as := fun p hp hm => (sp _ hm).2.2.1 p hp rfl
  have nC : ∀ q ∈ c.env.cells, q.2 ∉ as := fun q hq hm => (sp _ hm).2.2.2 q hq rfl
  refine ⟨X.gens, X.os, ⟨fun b o e => k b o (fun hm => by have := (sp _ hm).1; rw [e] at this; cases this) (X.own.keep b o e), fun p hp => (X.own.at_ p hp).keep (k _ · (nS p hp)), X.own.off, X.own.nodup⟩, ⟨m, ⟨oL, es, ep, k _ _ (fun hm => (sp _ hm).2.1 rfl) ho, r1⟩, fun q hq => (nm q hq).keep fun z hz o e => k _ o (nC z hz) e⟩, X.keys, X.notL, fun q hq => ⟨(X.cells q hq).1, (X.cells q hq).2.imp fun _ z => IsCell.keep z (k _ · (nC q hq))⟩⟩

structure Src (T : TC) (I : Addr) (as : List Addr) (target : Expr) {α : Type} (Y : α → Value → Heap → Prop) (need : Led → Prop) (items : List α) (J : Nat → Heap → Prop) : Prop where
  live : ∀ i h, J i h → ∀ b ∈ as, ∃ o, h.get? b = some o
  frame : ∀ i h h', J i h → (∀ b ∈ as, ∀ o, h.get? b = some o → h'.get? b = some o) → J i h'
  item : ∀ (A : Around) i a (s : Shared) (S : Led) (Q : Value → Shared → Prop) (E : Value → Shared → Prop), A.handled = none → items[i]? = some a → J i s.heap → need S → (∀ p ∈ S, At s.heap p.1 p.2) → (∀ p ∈ S, p.1 ∉ as) →
    (∀ v' h' tk, Y a v' h' → J (i + 1) h' → (∀ b o, b ∉ as → s.heap.get? b = some o → h'.get? b = some o) → Q v' { s with heap := h', toks := tk }) →
    wpAny (model T.prog T.w) A (pyNext (.ref I)) (fun o s₁ => match o with | none => False | some v => wpAny (model T.prog T.w) A (letOwnedTupleGo target (.ref I) v) (fun _ s₂ => Q v s₂) E s₁) E s
  done : ∀ (A : Around) (s : Shared) (S : Led) (Q : Option Value → Shared → Prop) (E : Value → Shared → Prop), A.handled = none → J items.length s.heap → need S → (∀ p ∈ S, At s.heap p.1 p.2) → (∀ p ∈ S, p.1 ∉ as) →
    (∀ h' tk, (∀ b o, b ∉ as → s.heap.get? b = some o → h'.get? b = some o) → Q none { s with heap := h', toks := tk }) → wpAny (model T.prog T.w) A (pyNext (.ref I)) Q E s
  self : ∀ (A : Around) (s : Shared) (Q : Value → Shared → Prop) (E : Value → Shared → Prop), J 0 s.heap → Q (.ref I) s → wpAny (model T.prog T.w) A (pyIter (.ref I)) Q E s

noncomputable def Bnd (T : TC) (c : Cx) (target : Expr) {α : Type} (Y : α → Value → Heap → Prop) (Bind : α → Loc → Loc → Prop) : Prop :=
  ∀ (y : Fx), y.Ok T c → ∀ s r S a r' v', St T c y r S s → Y a v' s.heap → Bind a r r' → wpAny (model T.prog T.w) y.A (assign target c.env v') (fun _ s' => St T c y r' S s') NoE s

/-- the loop, turn by turn -/
noncomputable def WFor (T : TC) (c : Cx) {α : Type} (need : Led → Prop) (Bind : α → Loc → Loc → Prop) (body : List Stmt) (Kn : Loc → Led → Prop) (Kr : V → Led → Prop) : List α → Loc → Led → Prop
  | [], r, S => need S ∧ Kn r S
  | a :: rest, r, S => need S ∧ ∃ r', Bind a r r' ∧ WSs T c r' S body (fun r'' S'' => WFor T c need Bind body Kn Kr rest r'' S'') Kr

section
variable {T : TC} {c : Cx} {y : Fx} {r : Loc} {S : Led}
theorem Sep.more {s s' : Shared} {S' : Led} {as : List Addr} {y' : Fx} {r' : Loc} (sp : Sep c y S as) (X' : St T c y' r' S' s') (hg : ∀ b ∈ as, ∃ o, y'.g.get? b = some o) : Sep c y S' as := fun b hb =>
  ⟨(sp b hb).1, (sp b hb).2.1, (fun p hp e => by
    obtain ⟨o, ho⟩ := hg b hb
    have := X'.own.off p hp
    rw [e, ho] at this; cases this), (sp b hb).2.2.2⟩

noncomputable def FLoop (T : TC) (c : Cx) (y : Fx) {α : Type} (as : List Addr) (need : Led → Prop) (Bind : α → Loc → Loc → Prop) (items : List α) (J : Nat → Heap → Prop) (body : List Stmt) (Kn : Loc → Led → Prop) (Kr : V → Led → Prop) (n : Nat) (s : Shared) : Prop :=
  ∃ i r S, n + i = items.length ∧ St T c y r S s ∧ J i s.heap ∧ Sep c y S as ∧ WFor T c need Bind body Kn Kr (items.drop i) r S
theorem FLoop.mk {T : TC} {c : Cx} {y : Fx} {α : Type} {as : List Addr} {need : Led → Prop} {Bind : α → Loc → Loc → Prop} {items : List α} {J : Nat → Heap → Prop} {body : List Stmt} {Kn : Loc → Led → Prop} {Kr : V → Led → Prop} {n : Nat} {s : Shared} {i : Nat} {r : Loc} {S : Led}
    (a : n + i = items.length) (b : St T c y r S s) (d : J i s.heap) (e : Sep c y S as) (f : WFor T c need Bind body Kn Kr (items.drop i) r S) : FLoop T c y as need Bind items J body Kn Kr n s := ⟨i, r, S, a, b, d, e, f⟩
theorem FLoop.elim {T : TC} {c : Cx} {y : Fx} {α : Type} {as : List Addr} {need : Led → Prop} {Bind : α → Loc → Loc → Prop} {items : List α} {J : Nat → Heap → Prop} {body : List Stmt} {Kn : Loc → Led → Prop} {Kr : V → Led → Prop} {n : Nat} {s : Shared} {G : Prop} (h : FLoop T c y as need Bind items J body Kn Kr n s)
    (k : ∀ i r S, n + i = items.length → St T c y r S s → J i s.heap → Sep c y S as → WFor T c need Bind body Kn Kr (items.drop i) r S → G) : G := by
  obtain ⟨i, r, S, a, b, d, e, f⟩ := h; exact k i r S a b d e f
theorem for_loop {α : Type} {I : Addr} {as : List Addr} {target : Expr} {Y : α → Value → Heap → Prop} {need : Led → Prop} {items : List α} {J : Nat → Heap → Prop} {Bind : α → Loc → Loc → Prop} {body : List Stmt} {Kn : Loc → Led → Prop} {Kr : V → Led → Prop}
    (src : Src T I as target Y need items J) (bnd : Bnd T c target Y Bind) (oy : y.Ok T c) {i : Nat} {s : Shared} (hi : i ≤ items.length) (X : St T c y r S s) (hJ : J i s.heap) (sp : Sep c y S as) (h : WFor T c need Bind body Kn Kr (items.drop i) r S) :
    codeAny (model T.prog T.w) y.A (.forLoop target (.ref I) body [] c.env) (fun res s' => match res with | .ok f => PostF T c y Kn Kr f s' | .error _ => False) s := by
  refine codeAny_forLoop_any (FLoop T c y as need Bind items J body Kn Kr) ?_ (items.length - i) (FLoop.mk (by (lia)) X hJ sp h)
  refine fun n s q => q.elim fun i r S hn X hJ sp h => ?_
  have nS : ∀ p ∈ S, p.1 ∉ as := fun p hp hm => (sp _ hm).2.2.1 p hp rfl
  by_cases hlt : i < items.length
  · have hd : items.drop i = items[i] :: items.drop (i + 1) := List.drop_eq_getElem_cons hlt
    rw [hd] at h
    have hneed := h.1
    refine h.2.elim fun r' h2 => ?_
    have hb := h2.1
    have hbody := h2.2
    refine wpAny_mono (src.item y.A i items[i] s S (fun v s₂ => wpAny (model T.prog T.w) y.A (assign target c.env v) (fun _ s₃ => wpAny (model T.prog T.w) y.A (execs body c.env) (fun f s₄ => match f with
        | .next | .cont => ∃ m, m < n ∧ FLoop T c y as need Bind items J body Kn Kr m s₄
        | .brk => False
        | .ret v => PostF T c y Kn Kr (.ret v) s₄) NoE s₃) NoE s₂) NoE oy.hand (by simp [hlt]) hJ hneed X.own.at_ nS fun v' h' tk hY hJ' hk => ?_) (fun o s₁ ho => ?_) fun _ _ e => e.elim
    · -- the turn itself
      have X₁ : St T c y r S { s with heap := h', toks := tk } := X.off sp hk
      refine X₁.shield oy fun g' oy' X₂ hg back => ?_
      have lv : ∀ b ∈ as, ∃ o, h'.get? b = some o := src.live _ _ hJ'
      have gk : ∀ b ∈ as, ∀ o, h'.get? b = some o → g'.get? b = some o := fun b hb' o e => hg b o e (sp b hb').2.2.1 (sp b hb').2.1 (sp b hb').2.2.2
      refine wpAny_mono (bnd _ oy' _ r S _ r' v' X₂ hY hb) (fun _ s₃ X₃ => wpAny_mono (hbody _ oy' s₃ X₃) (fun f s₄ k => ?_) fun _ _ e => e) fun _ _ e => e
      cases f with
      | next =>
        obtain ⟨r'', S'', X₄, k⟩ := k
        have J4 : J (i + 1) s₄.heap := src.frame _ _ _ hJ' fun b hb' o e => X₄.own.keep b o (gk b hb' o e)
        exact ⟨n - 1, by (lia), FLoop.mk (i := i + 1) (by (lia)) (back _ _ _ X₄) J4 (sp.more (s := s) X₄ fun b hb' => (lv b hb').elim fun o e => ⟨o, gk b hb' o e⟩) k⟩
      | ret v =>
        obtain ⟨v0, r'', S'', rv, X₄, k⟩ := k
        exact ⟨v0, r'', S'', rv, back _ _ _ X₄, k⟩
      | brk => exact k.elim
      | cont => exact k.elim
    · cases o with
      | none => exact ho.elim
      | some v =>
        refine wpAny_mono ho (fun _ s₂ h₂ => wpAny_mono h₂ (fun _ s₃ h₃ => wpAny_mono h₃ (fun f s₄ h₄ => ?_) fun _ _ e => e.elim) fun _ _ e => e.elim) fun _ _ e => e.elim
        cases f <;> first | exact h₄ | exact h₄.elim
  · have hi : i = items.length := by (lia)
    rw [List.drop_of_length_le (Nat.le_of_eq hi.symm)] at h
    exact src.done y.A s S _ _ oy.hand (hi ▸ hJ) h.1 X.own.at_ nS fun h' tk hk => wpAny_execs_nil ⟨r, S, X.off sp hk, h.2⟩

/-- what is iterated: evaluated, its iterator made -/
noncomputable abbrev PostI (T : TC) (c : Cx) (y : Fx) (r : Loc) (target : Expr) {α : Type} (Y : α → Value → Heap → Prop) (K : (Led → Prop) → List α → Led → Prop) : Value → Shared → Prop := fun it s₂ => ∃ I as need items J S', it = .ref I ∧ Src T I as target Y need items J ∧ St T c y r S' s₂ ∧ J 0 s₂.heap ∧ Sep c y S' as ∧ K need items S'
theorem PostI.elim {T : TC} {c : Cx} {y : Fx} {r : Loc} {target : Expr} {α : Type} {Y : α → Value → Heap → Prop} {K : (Led → Prop) → List α → Led → Prop} {it : Value} {s : Shared} {G : Prop} (h : PostI T c y r target Y K it s)
    (k : ∀ I as need items J S', it = .ref I → Src T I as target Y need items J → St T c y r S' s → J 0 s.heap → Sep c y S' as → K need items S' → G) : G := by
  obtain ⟨I, as, need, items, J, S', a, b, d, e, f, g⟩ := h; exact k I as need items J S' a b d e f g
theorem PostI.mk {T : TC} {c : Cx} {y : Fx} {r : Loc} {target : Expr} {α : Type} {Y : α → Value → Heap → Prop} {K : (Led → Prop) → List α → Led → Prop} {s : Shared} {I : Addr} {as : List Addr} {need : Led → Prop} {items : List α} {J : Nat → Heap → Prop} {S' : Led}
    (a : Src T I as target Y need items J) (b : St T c y r S' s) (d : J 0 s.heap) (e : Sep c y S' as) (k : K need items S') : PostI T c y r target Y K (.ref I) s := ⟨I, as, need, items, J, S', rfl, a, b, d, e, k⟩
noncomputable def WI (T : TC) (c : Cx) (r : Loc) (S : Led) (e : Expr) (target : Expr) {α : Type} (Y : α → Value → Heap → Prop) (K : (Led → Prop) → List α → Led → Prop) : Prop := ∀ y : Fx, y.Ok T c → ∀ s, St T c y r S s →
  wpAny (model T.prog T.w) y.A (eval e c.env) (fun x' s₁ => wpAny (model T.prog T.w) y.A (pyIter x') (PostI T c y r target Y K) NoE s₁) NoE s

theorem WS.for_ {α : Type} {e target : Expr} {body : List Stmt} {pos : Pos} {Y : α → Value → Heap → Prop} {Bind : α → Loc → Loc → Prop} {Kn : Loc → Led → Prop} {Kr : V → Led → Prop} (bnd : Bnd T c target Y Bind)
    (h : WI T c r S e target Y fun need items S' => WFor T c need Bind body Kn Kr items r S') (hs : ∀ x, foldedSetIterable e c.env x = pure x := by intro _; rfl) : WS T c r S (.For target e body [] pos) Kn Kr := fun y oy s X =>
  wpAny_For (wpAny_mono (h y oy s X) (fun x' s₁ h₁ => wpAny_mono h₁ (fun it s₂ q => q.elim fun I as need items J S' e src X₂ hJ sp k => by
    subst e
    exact codeAny_mono (for_loop src bnd oy (Nat.zero_le _) X₂ hJ sp (by simpa using k)) fun res s' q => by cases res <;> first | exact q | exact q.elim) fun _ _ e => e) fun _ _ e => e) hs

/-! one name -/
noncomputable def Y1 (a : V) (v : Value) (_ : Heap) : Prop := RV a v
theorem bnd_name {x : Str} {pos : Pos} (ok : c.Ok) (hk : c.env.kindOf x = some .local) : Bnd T c (.Name x pos) Y1 (fun a r r' => Put x a r r') := fun y oy s r S a r' v' X hY P =>
  wpAny_assign_Name (storeV ok oy X hY P (.inl hk) fun h' t Z => Z)
/-! two names -/
noncomputable def Y2 (a : V × V) (v : Value) (h : Heap) : Prop := ∃ Tp x' y', v = .ref Tp ∧ h.IsTuple Tp #[x', y'] ∧ RV a.1 x' ∧ RV a.2 y'
noncomputable def Loca (c : Cx) (x : Str) : Prop := c.env.kindOf x = some .local ∨ (c.env.kindOf x = some .cell ∧ c.fn = true ∧ (c.env.cells.lookup x).isSome = true)
theorem assign2 {x₁ x₂ : Str} {p₁ p₂ pos : Pos} {n : Nat} {s : Shared} {r r₁ r' : Loc} {S : Led} {Tp : Addr} {a b : V} {a' b' : Value} (ok : c.Ok) (oy : y.Ok T c) (X : St T c y r S s) (hT : s.heap.IsTuple Tp #[a', b']) (ra : RV a a') (rb : RV b b') (h₁ : Loca c x₁) (h₂ : Loca c x₂) (P₁ : Put x₁ a r r₁) (P₂ : Put x₂ b r₁ r') :
    wpAny (model T.prog T.w) y.A (assign (.Tuple [.Name x₁ p₁, .Name x₂ p₂] n pos) c.env (.ref Tp)) (fun _ s' => St T c y r' S s') NoE s := by
  refine wpAny_assign_Tuple oy.hand hT rfl rfl fun h' hx => ?_
  have k : ∀ b o, s.heap.get? b = some o → h'.get? b = some o := fun b o e => hx b o (Nat.ne_of_lt (Heap.lt_size e)) e
  have X₁ := X.ext (t := s.toks) k
  exact wpAny_bind (wpAny_holding (wpAny_assign_Name (storeV ok oy X₁ ra P₁ h₁ fun h₁ t₁ Z₁ => wpAny_bind (wpAny_holding (wpAny_assign_Name (storeV ok oy Z₁ rb P₂ h₂ fun h₂ t₂ Z₂ => wpAny_pure Z₂))))))
theorem bnd_two {x₁ x₂ : Str} {p₁ p₂ pos : Pos} {n : Nat} (ok : c.Ok) (h₁ : Loca c x₁) (h₂ : Loca c x₂) : Bnd T c (.Tuple [.Name x₁ p₁, .Name x₂ p₂] n pos) Y2 (fun a r r' => ∃ r₁, Put x₁ a.1 r r₁ ∧ Put x₂ a.2 r₁ r') := fun y oy s r S a r' v' X hY ⟨r₁, P₁, P₂⟩ => by
  obtain ⟨Tp, x', y', rfl, hT, ra, rb⟩ := hY
  exact assign2 ok oy X hT ra rb h₁ h₂ P₁ P₂
end
end Mine
end

section
set_option maxRecDepth 100000
namespace Mine
open PySem PySem.W PySem.Calls PyProof.Rows PySem.Spec

section
variable {T : TC} {c : Cx} {r : Loc} {S : Led}

theorem listAt {S : Led} {h : Heap} {l : Addr} {vs : List V} (ha : ∀ p ∈ S, At h p.1 p.2) (hm : (l, O.list vs) ∈ S) : ∃ its : List Value, h.IsList l its.toArray ∧ All2 RV vs its := by
  obtain ⟨its, n, e, a⟩ := ha _ hm
  exact ⟨its, ⟨_, e, rfl, n, rfl⟩, a⟩
theorem tupAt {S : Led} {h : Heap} {l : Addr} {vs : List V} (ha : ∀ p ∈ S, At h p.1 p.2) (hm : (l, O.tup vs) ∈ S) : ∃ its : List Value, IsTup h l its.toArray ∧ All2 RV vs its := ha _ hm

theorem goName {M : Model} {A : Around} {E : Value → Shared → Prop} {s : Shared} {x : Str} {p : Pos} {it v : Value} {Q : Unit → Shared → Prop} (h : Q () s) : wpAny M A (letOwnedTupleGo (.Name x p) it v) Q E s := wpAny_pure h

theorem src_list {I l : Addr} {vs : List V} {x : Str} {p : Pos} : Src T I [I] (.Name x p) Y1 (fun S => (l, O.list vs) ∈ S) vs (fun i h => h.IsListIter I l i) where
  live := fun i h hJ b hb => by
    rw [List.mem_singleton.mp hb]
    obtain ⟨o, ho, _⟩ := hJ
    exact ⟨o, ho⟩
  frame := fun i h h' hJ hk => hJ.at fun o e => hk I (.head _) o e
  item := fun A i a s S Q E hA ha hJ hn hat off hQ => by
    obtain ⟨its, il, a2⟩ := listAt hat hn
    obtain ⟨v', e, rv⟩ := a2.get ha
    have hne : l ≠ I := fun z => off _ hn (by rw [show (l, O.list vs).1 = l from rfl, z]; exact .head _)
    refine wpAny_pyNext_list_item hJ il (by simpa using e) fun h' hit hs => ?_
    exact goName (hQ v' h' s.toks rv hit fun b o hb e => (hs.2 b fun z => hb (by rw [z]; exact .head _)).trans e)
  done := fun A s S Q E hA hJ hn hat off hQ => by
    obtain ⟨its, il, a2⟩ := listAt hat hn
    refine wpAny_pyNext_list_end hA hJ il (by rw [a2.length]; simp) fun h' he => hQ h' s.toks fun b o hb e => he b o (fun z => hb (by rw [z]; exact .head _)) e
  self := fun A s Q E hJ h => wpAny_pyIter_listiter hJ h

theorem src_tup {I l : Addr} {vs : List V} {x : Str} {p : Pos} : Src T I [I] (.Name x p) Y1 (fun S => (l, O.tup vs) ∈ S) vs (fun i h => h.IsTupleIter I l i) where
  live := fun i h hJ b hb => by
    rw [List.mem_singleton.mp hb]
    obtain ⟨o, ho, _⟩ := hJ
    exact ⟨o, ho⟩
  frame := fun i h h' hJ hk => hJ.at fun o e => hk I (.head _) o e
  item := fun A i a s S Q E hA ha hJ hn hat off hQ => by
    obtain ⟨its, il, a2⟩ := tupAt hat hn
    obtain ⟨v', e, rv⟩ := a2.get ha
    refine wpAny_pyNext_tuple_item hJ il (by simpa using e) fun h' hit hs => ?_
    exact goName (hQ v' h' s.toks rv hit fun b o hb e => (hs.2 b fun z => hb (by rw [z]; exact .head _)).trans e)
  done := fun A s S Q E hA hJ hn hat off hQ => by
    obtain ⟨its, il, a2⟩ := tupAt hat hn
    refine wpAny_pyNext_tuple_end hA hJ il (by rw [a2.length]; simp) fun h' he => hQ h' s.toks fun b o hb e => he b o (fun z => hb (by rw [z]; exact .head _)) e
  self := fun A s Q E hJ h => wpAny_pyIter_tupleiter hJ h

noncomputable def nums (a : Int) (n : Nat) : List V := (List.range n).map fun i => V.int (a + (i : Nat))
theorem src_range {I : Addr} {a : Int} {n : Nat} {x : Str} {p : Pos} : Src T I [I] (.Name x p) Y1 (fun _ => True) (nums a n) (fun i h => IsRangeIter h I (a + (i : Nat) * 1) ((n : Int) - (i : Nat)) 1) where
  live := fun i h hJ b hb => by
    rw [List.mem_singleton.mp hb]
    exact ⟨_, hJ⟩
  frame := fun i h h' hJ hk => hk I (.head _) _ hJ
  item := fun A i v s S Q E hA ha hJ hn hat off hQ => by
    have W := Walks.range (prog := T.prog) (w := T.w) hA I a 1 n
    have hi : i < n := by
      obtain ⟨hl, _⟩ := List.getElem?_eq_some_iff.mp ha
      simpa [nums] using hl
    have hv : v = .int (a + (i : Nat)) := by
      simp [nums, hi] at ha
      exact ha.symm
    subst hv
    refine W.item i s _ E hi hJ fun v' h' tk hv hJ' hk => ?_
    obtain ⟨t, rfl⟩ := hv
    exact goName (hQ _ h' tk ⟨t, by rw [Int.mul_one]⟩ hJ' hk)
  done := fun A s S Q E hA hJ hn hat off hQ => by
    have W := Walks.range (prog := T.prog) (w := T.w) hA I a 1 n
    exact W.done s Q E (by simpa [nums] using hJ) hQ
  self := fun A s Q E hJ h => wpAny_pyIter_rangeiter hJ h

/-- a list of pairs, each a tuple of the ledger's -/
theorem src_pairs {I l : Addr} {ts : List (Addr × V × V)} {es : List Expr} {n : Nat} {p : Pos} :
    Src T I [I] (.Tuple es n p) Y2 (fun S => (l, O.list (ts.map fun t => .ref t.1)) ∈ S ∧ ∀ t ∈ ts, (t.1, O.tup [t.2.1, t.2.2]) ∈ S) (ts.map (·.2)) (fun i h => h.IsListIter I l i) where
  live := fun i h hJ b hb => by
    rw [List.mem_singleton.mp hb]
    obtain ⟨o, ho, _⟩ := hJ
    exact ⟨o, ho⟩
  frame := fun i h h' hJ hk => hJ.at fun o e => hk I (.head _) o e
  item := fun A i a s S Q E hA ha hJ hn hat off hQ => by
    obtain ⟨its, il, a2⟩ := listAt hat hn.1
    rw [List.getElem?_map, Option.map_eq_some_iff] at ha
    obtain ⟨t, ht, rfl⟩ := ha
    obtain ⟨v', e, rv⟩ := a2.get (i := i) (a := .ref t.1) (by rw [List.getElem?_map, ht]; rfl)
    cases rv
    have htm := List.mem_of_getElem? ht
    obtain ⟨tits, tl, t2⟩ := tupAt hat (hn.2 t htm)
    refine wpAny_pyNext_list_item hJ il (by simpa using e) fun h' hit hs => ?_
    refine wpAny_letOwnedTupleGo_listiter hit ?_
    have hne : t.1 ≠ I := fun z => off _ (hn.2 t htm) (by rw [show (t.1, O.tup [t.2.1, t.2.2]).1 = t.1 from rfl, z]; exact .head _)
    refine hQ _ h' s.toks ?_ hit fun b o hb e => (hs.2 b fun z => hb (by rw [z]; exact .head _)).trans e
    cases t2 with
    | cons r1 t2 =>
    cases t2 with
    | cons r2 t2 =>
    cases t2
    exact ⟨t.1, _, _, rfl, by obtain ⟨o, ho, q⟩ := tl; exact ⟨o, (hs.2 _ hne).trans ho, q⟩, r1, r2⟩
  done := fun A s S Q E hA hJ hn hat off hQ => by
    obtain ⟨its, il, a2⟩ := listAt hat hn.1
    refine wpAny_pyNext_list_end hA hJ il (by have := a2.length; simp at this; simp [this]) fun h' he => hQ h' s.toks fun b o hb e => he b o (fun z => hb (by rw [z]; exact .head _)) e
  self := fun A s Q E hJ h => wpAny_pyIter_listiter hJ h

noncomputable def enumd (vs : List V) : List (V × V) := vs.zipIdx.map fun q => (.int q.2, q.1)
theorem enumd_get {vs : List V} {i : Nat} {a : V × V} (h : (enumd vs)[i]? = some a) : ∃ v, vs[i]? = some v ∧ a = (.int i, v) := by
  unfold enumd at h
  rw [List.getElem?_map, List.getElem?_zipIdx, Option.map_map] at h
  rw [Option.map_eq_some_iff] at h
  obtain ⟨v, hv, rfl⟩ := h
  exact ⟨v, hv, by simp⟩
theorem src_enum {I it l : Addr} (hne : I ≠ it) {vs : List V} {es : List Expr} {n : Nat} {p : Pos} :
    Src T I [I, it] (.Tuple es n p) Y2 (fun S => (l, O.list vs) ∈ S) (enumd vs) (fun i h => (∃ old, IsEnum h I it i old) ∧ h.IsListIter it l i) where
  live := fun i h hJ b hb => by
    obtain ⟨⟨old, e⟩, o, ho, _⟩ := hJ
    rcases List.mem_cons.mp hb with rfl | hb
    · exact ⟨_, e⟩
    · rw [List.mem_singleton.mp hb]; exact ⟨o, ho⟩
  frame := fun i h h' hJ hk => ⟨hJ.1.imp fun _ e => hk I (.head _) _ e, hJ.2.at fun o e => hk it (.tail _ (.head _)) o e⟩
  item := fun A i a s S Q E hA ha hJ hn hat off hQ => by
    obtain ⟨its, il, a2⟩ := listAt hat hn
    obtain ⟨v, hv, rfl⟩ := enumd_get ha
    obtain ⟨v', e, rv⟩ := a2.get hv
    have h1 : l ≠ I := fun z => off _ hn (by rw [show (l, O.list vs).1 = l from rfl, z]; exact .head _)
    have h2 : l ≠ it := fun z => off _ hn (by rw [show (l, O.list vs).1 = l from rfl, z]; exact .tail _ (.head _))
    have W := WalksT.enumerate (prog := T.prog) (w := T.w) hA I it l hne h1 h2 its.toArray
    have hi : i < its.toArray.size := by
      obtain ⟨hl, _⟩ := List.getElem?_eq_some_iff.mp e
      simpa using hl
    refine W.item i s _ E hi ⟨hJ.1, hJ.2, il⟩ fun Tp vals h' tk hP hsz hT hM hk => ?_
    obtain ⟨t, x, hx, rfl⟩ := hP
    have hx' : x = v' := by
      have : its[i]? = some x := by simpa using hx
      rw [e] at this; exact (Option.some.inj this).symm
    subst hx'
    refine W.go es n p i Tp { s with heap := h', toks := tk } _ E hM fun h'' hJ'' hk2 => ?_
    have hTi : ∀ o, h'.get? Tp = some o → h''.get? Tp = some o := fun o ho => hk2 Tp o (W.apart i Tp h' hM) ho
    refine hQ _ h'' tk ⟨Tp, _, _, rfl, by obtain ⟨o, ho, q⟩ := hT; exact ⟨o, hTi o ho, q⟩, ⟨t, rfl⟩, rv⟩ ⟨hJ''.1, hJ''.2.1⟩ fun b o hb e => hk2 b o hb (hk b o hb e)
  done := fun A s S Q E hA hJ hn hat off hQ => by
    obtain ⟨its, il, a2⟩ := listAt hat hn
    have h1 : l ≠ I := fun z => off _ hn (by rw [show (l, O.list vs).1 = l from rfl, z]; exact .head _)
    have h2 : l ≠ it := fun z => off _ hn (by rw [show (l, O.list vs).1 = l from rfl, z]; exact .tail _ (.head _))
    have W := WalksT.enumerate (prog := T.prog) (w := T.w) hA I it l hne h1 h2 its.toArray
    have : (enumd vs).length = its.toArray.size := by simp [enumd, a2.length]
    rw [this] at hJ
    exact W.done s Q E ⟨hJ.1, hJ.2, il⟩ hQ
  self := fun A s Q E hJ h => by
    obtain ⟨⟨old, e⟩, _⟩ := hJ
    exact wpAny_pyIter_enum e h

theorem src_zip {z TI TO i1 i2 l1 l2 : Addr} {vs ws : List V} {es : List Expr} {n : Nat} {p : Pos} (d : TI ≠ z ∧ TO ≠ z ∧ i1 ≠ z ∧ i2 ≠ z ∧ TI ≠ TO ∧ TI ≠ i1 ∧ TI ≠ i2 ∧ TO ≠ i1 ∧ TO ≠ i2 ∧ i1 ≠ i2) :
    Src T z [z, TI, TO, i1, i2] (.Tuple es n p) Y2 (fun S => (l1, O.list vs) ∈ S ∧ (l2, O.list ws) ∈ S) (vs.zip ws)
      (fun i h => IsZip h z TI TO .none ∧ IsPair h TI (.ref i1) (.ref i2) ∧ (∃ a b, IsPair h TO a b) ∧ h.IsListIter i1 l1 i ∧ h.IsListIter i2 l2 i) := by
  have ap : ∀ {S : Led}, (l1, O.list vs) ∈ S ∧ (l2, O.list ws) ∈ S → (∀ p ∈ S, p.1 ∉ [z, TI, TO, i1, i2]) → ZipApart z TI TO i1 i2 l1 l2 := by
    intro S hn off
    have ne : ∀ {a b : Addr}, a ∉ [z, TI, TO, i1, i2] → b ∈ [z, TI, TO, i1, i2] → b ≠ a := fun h h' e => h (e ▸ h')
    have a := off _ hn.1
    have b := off _ hn.2
    have m1 : z ∈ [z, TI, TO, i1, i2] := .head _
    have m2 : TI ∈ [z, TI, TO, i1, i2] := .tail _ (.head _)
    have m3 : TO ∈ [z, TI, TO, i1, i2] := .tail _ (.tail _ (.head _))
    have m4 : i1 ∈ [z, TI, TO, i1, i2] := .tail _ (.tail _ (.tail _ (.head _)))
    have m5 : i2 ∈ [z, TI, TO, i1, i2] := .tail _ (.tail _ (.tail _ (.tail _ (.head _))))
    have A1 := ne a m1; have A2 := ne a m2; have A3 := ne a m3; have A4 := ne a m4; have A5 := ne a m5
    have B1 := ne b m1; have B2 := ne b m2; have B3 := ne b m3; have B4 := ne b m4; have B5 := ne b m5
    have D1 := d.1; have D2 := d.2.1; have D3 := d.2.2.1; have D4 := d.2.2.2.1; have D5 := d.2.2.2.2.1
    have D6 := d.2.2.2.2.2.1; have D7 := d.2.2.2.2.2.2.1; have D8 := d.2.2.2.2.2.2.2.1; have D9 := d.2.2.2.2.2.2.2.2.1; have D10 := d.2.2.2.2.2.2.2.2.2
    constructor <;> first | assumption | (apply Ne.symm; assumption)
  have sub : ∀ {b : Addr}, b ∉ [z, TI, TO, i1, i2] → b ∉ [z, TO, i1, i2] := fun hb hm => hb (by
    cases hm with
    | head => exact .head _
    | tail _ hm => exact .tail _ (.tail _ hm))
  refine { live := fun i h q => ?_, frame := fun i h h' q hk => ?_, item := ?_, done := ?_, self := ?_ }
  · exact List.forall_mem_cons.mpr ⟨⟨_, q.1⟩, List.forall_mem_cons.mpr ⟨⟨_, q.2.1⟩, List.forall_mem_cons.mpr ⟨q.2.2.1.elim fun _ q => q.elim fun _ q => ⟨_, q⟩,
      List.forall_mem_cons.mpr ⟨q.2.2.2.1.elim fun _ q => ⟨_, q.1⟩, List.forall_mem_singleton.mpr (q.2.2.2.2.elim fun _ q => ⟨_, q.1⟩)⟩⟩⟩⟩
  · exact ⟨hk _ (.head _) _ q.1, hk _ (.tail _ (.head _)) _ q.2.1, q.2.2.1.elim fun x q => q.elim fun y q => ⟨x, y, hk _ (.tail _ (.tail _ (.head _))) _ q⟩, q.2.2.2.1.at fun o e => hk _ (.tail _ (.tail _ (.tail _ (.head _)))) o e, q.2.2.2.2.at fun o e => hk _ (.tail _ (.tail _ (.tail _ (.tail _ (.head _))))) o e⟩
  · intro A i a s S Q E hA ha hJ hn hat off hQ
    refine (listAt hat hn.1).elim fun its hp => (listAt hat hn.2).elim fun jts hp' => ?_
    have W := WalksT.zip2 (prog := T.prog) (w := T.w) hA z TI TO i1 i2 l1 l2 (ap hn off) its.toArray jts.toArray
    rw [List.getElem?_zip_eq_some] at ha
    refine (hp.2.get ha.1).elim fun v' e => (hp'.2.get ha.2).elim fun w' e' => ?_
    have hi : i < min its.toArray.size jts.toArray.size := Nat.lt_min.mpr ⟨(List.getElem?_eq_some_iff.mp e.1).1, (List.getElem?_eq_some_iff.mp e'.1).1⟩
    refine W.item i s _ E hi ⟨hJ.1, hJ.2.1, hJ.2.2.1, hJ.2.2.2.1, hJ.2.2.2.2, hp.1, hp'.1⟩ fun Tp vals h' tk hP hsz hT hM hk => hP.elim fun x q => q.elim fun y q => ?_
    have hx : its[i]? = some x := by simpa using q.1
    have hy : jts[i]? = some y := by simpa using q.2.1
    have rx : RV a.1 x := Option.some.inj (e.1.symm.trans hx) ▸ e.2
    have ry : RV a.2 y := Option.some.inj (e'.1.symm.trans hy) ▸ e'.2
    refine W.go es n p i Tp { s with heap := h', toks := tk } _ E hM fun h'' hJ'' hk2 => ?_
    exact hQ _ h'' tk ⟨Tp, _, _, rfl, hT.elim fun o ho => ⟨o, hk2 Tp o (W.apart i Tp h' hM) ho.1, q.2.2 ▸ ho.2⟩, rx, ry⟩ ⟨hJ''.1, hJ''.2.1, hJ''.2.2.1, hJ''.2.2.2.1, hJ''.2.2.2.2.1⟩ fun b o hb e => hk2 b o (sub hb) (hk b o (sub hb) e)
  · intro A s S Q E hA hJ hn hat off hQ
    refine (listAt hat hn.1).elim fun its hp => (listAt hat hn.2).elim fun jts hp' => ?_
    have W := WalksT.zip2 (prog := T.prog) (w := T.w) hA z TI TO i1 i2 l1 l2 (ap hn off) its.toArray jts.toArray
    have e : (vs.zip ws).length = min its.toArray.size jts.toArray.size := by rw [List.length_zip, hp.2.length, hp'.2.length]; rfl
    rw [e] at hJ
    exact W.done s Q E ⟨hJ.1, hJ.2.1, hJ.2.2.1, hJ.2.2.2.1, hJ.2.2.2.2, hp.1, hp'.1⟩ fun h' tk hk => hQ h' tk fun b o hb e => hk b o (sub hb) e
  · intro A s Q E hJ h
    exact wpAny_pyIter_zip hJ.1 h

/-! what is iterated -/
theorem low1 (n : Nat) : ∀ b ∈ [n], n ≤ b := List.forall_mem_singleton.mpr (Nat.le_refl n)
theorem St.low {y : Fx} {s : Shared} (X : St T c y r S s) {as : List Addr} (h : ∀ b ∈ as, s.heap.objs.size ≤ b) : Sep c y S as := fun b hb => by
  have hb := h b hb
  have lt : ∀ {a o}, s.heap.get? a = some o → a ≠ b := fun e => neN (Nat.ne_of_lt (Nat.lt_of_lt_of_le (Heap.lt_size e) hb))
  refine ⟨?_, ?_, fun p hp => ?_, fun q hq => ?_⟩
  · cases z : y.g.get? b with
    | none => rfl
    | some o => exact absurd rfl (lt (X.own.keep _ _ z))
  · obtain ⟨m, ⟨_, _, _, ho, _⟩, _⟩ := X.fr
    exact (lt ho).symm
  · obtain ⟨o, ho⟩ := (X.own.at_ p hp).some
    exact lt ho
  · obtain ⟨v, o, ho, _⟩ := (X.cells q hq).2
    exact lt ho

theorem WI.list {e : Expr} {x : Str} {p : Pos} {K : (Led → Prop) → List V → Led → Prop} (h : WE T c r S e fun v S₁ => ∃ (l : Addr) (vs : List V), v = .ref l ∧ (l, O.list vs) ∈ S₁ ∧ K (fun S => (l, O.list vs) ∈ S) vs S₁) : WI T c r S e (.Name x p) Y1 K := fun y oy s X =>
  wpAny_mono (h y oy s X) (fun x' s₁ q => q.elim fun v S₁ rv X₁ ⟨l, vs, e, hm, k⟩ => by
    subst e
    cases rv
    obtain ⟨its, il, a2⟩ := isList X₁ hm
    refine wpAny_pyIter_list il ?_
    have kp : ∀ b o, s₁.heap.get? b = some o → (s₁.heap.push { cls := .type "list_iterator", data := .fields #[.ref l, .int 0 0] }).get? b = some o := fun b o e => Heap.get?_push_of_some _ e
    exact PostI.mk src_list (X₁.ext (t := s₁.toks) kp) ⟨_, Heap.get?_push_size _ rfl, rfl, rfl⟩ (X₁.low (low1 _)) k) fun _ _ e => e
theorem WI.tup {e : Expr} {x : Str} {p : Pos} {K : (Led → Prop) → List V → Led → Prop} (h : WE T c r S e fun v S₁ => ∃ (l : Addr) (vs : List V), v = .ref l ∧ (l, O.tup vs) ∈ S₁ ∧ K (fun S => (l, O.tup vs) ∈ S) vs S₁) : WI T c r S e (.Name x p) Y1 K := fun y oy s X =>
  wpAny_mono (h y oy s X) (fun x' s₁ q => q.elim fun v S₁ rv X₁ ⟨l, vs, e, hm, k⟩ => by
    subst e
    cases rv
    obtain ⟨its, il, a2⟩ := isTup X₁ hm
    refine wpAny_pyIter_tuple il ?_
    have kp : ∀ b o, s₁.heap.get? b = some o → (s₁.heap.push { cls := .type "tuple_iterator", data := .fields #[.ref l, .int 0 0] }).get? b = some o := fun b o e => Heap.get?_push_of_some _ e
    exact PostI.mk src_tup (X₁.ext (t := s₁.toks) kp) ⟨_, Heap.get?_push_size _ rfl, rfl, rfl⟩ (X₁.low (low1 _)) k) fun _ _ e => e
theorem WI.pairs {e : Expr} {es : List Expr} {n : Nat} {p : Pos} {K : (Led → Prop) → List (V × V) → Led → Prop} (h : WE T c r S e fun v S₁ => ∃ (l : Addr) (ts : List (Addr × V × V)), v = .ref l ∧ (l, O.list (ts.map fun t => .ref t.1)) ∈ S₁ ∧ K (fun S => (l, O.list (ts.map fun t => .ref t.1)) ∈ S ∧ ∀ t ∈ ts, (t.1, O.tup [t.2.1, t.2.2]) ∈ S) (ts.map (·.2)) S₁) : WI T c r S e (.Tuple es n p) Y2 K := fun y oy s X =>
  wpAny_mono (h y oy s X) (fun x' s₁ q => q.elim fun v S₁ rv X₁ ⟨l, ts, e, hm, k⟩ => by
    subst e
    cases rv
    obtain ⟨its, il, a2⟩ := isList X₁ hm
    refine wpAny_pyIter_list il ?_
    have kp : ∀ b o, s₁.heap.get? b = some o → (s₁.heap.push { cls := .type "list_iterator", data := .fields #[.ref l, .int 0 0] }).get? b = some o := fun b o e => Heap.get?_push_of_some _ e
    exact PostI.mk src_pairs (X₁.ext (t := s₁.toks) kp) ⟨_, Heap.get?_push_size _ rfl, rfl, rfl⟩ (X₁.low (low1 _)) k) fun _ _ e => e

/-- a call with an end of one's own -/
theorem evalCall {f : Expr} {es : List Expr} {pos : Pos} {y : Fx} (oy : y.Ok T c) {s : Shared} (X : St T c y r S s) {Q : Value → Shared → Prop} (h : WE T c r S f fun fv S₁ => Callee T fv ∧ WL T c r S₁ es fun vs S₂ => ∀ f' args' s₂, RV fv f' → All2 RV vs args' → St T c y r S₂ s₂ → wpAny (model T.prog T.w) y.A (call f' args' []) Q NoE s₂)
    (he : eval (.Call f es [] pos) c.env = (do callWith pos (← eval f c.env) [] (backTo pos (starEach es c.env)) (backToKw pos (keywordEach [] c.env)))) (hp : (backTo pos (starEach es c.env)).any (·.1) = false) : wpAny (model T.prog T.w) y.A (eval (.Call f es [] pos) c.env) Q NoE s := by
  rw [he]
  refine wpAny_bind (wpAny_mono (h y oy s X) (fun f' s₁ q => q.elim fun fv S₁ rf X₁ ⟨cal, k⟩ => ?_) fun _ _ e => e)
  have kk : ∀ h, T.K.In h → ∃ k, (k = Keeper.frame ∨ k = Keeper.machine ∨ k = Keeper.boundFrame) ∧ Looks (model T.prog T.w) h (keeperOf f') k := fun h hk => by
    cases fv with
    | bi id => cases rf; exact ⟨.machine, .inr (.inl rfl), Looks.of_pure rfl⟩
    | ty n => cases rf; exact ⟨.machine, .inr (.inl rfl), Looks.of_pure rfl⟩
    | ref a => cases rf; exact keeps_K cal h hk
    | _ => exact cal.elim
  show wpAny _ _ (callWith pos f' [] (backTo pos (starEach es c.env)) []) _ _ s₁
  refine callWith_of (P := T.K.In) (by rw [hp]; rfl) kk ?_
  refine evalArgs_any hp ?_
  exact wpAny_mono (k y oy s₁ pos X₁) (fun vs' s₂ q => q.elim fun vs S₂ rvs X₂ k2 => ⟨X₂.k oy, k2 f' vs' s₂ rf rvs X₂⟩) fun _ _ e => e

theorem evalTy {f : Expr} {es : List Expr} {pos : Pos} {y : Fx} {id : String} {P : List V → Led → Prop} (oy : y.Ok T c) {s : Shared} (X : St T c y r S s) {Q : Value → Shared → Prop} (h : WE T c r S f fun fv S₁ => fv = .ty id ∧ WL T c r S₁ es P)
    (k : ∀ vs S₂ args' s₂, P vs S₂ → All2 RV vs args' → St T c y r S₂ s₂ → wpAny (model T.prog T.w) y.A (call (.type id) args' []) Q NoE s₂)
    (he : eval (.Call f es [] pos) c.env = (do callWith pos (← eval f c.env) [] (backTo pos (starEach es c.env)) (backToKw pos (keywordEach [] c.env)))) (hp : (backTo pos (starEach es c.env)).any (·.1) = false) : wpAny (model T.prog T.w) y.A (eval (.Call f es [] pos) c.env) Q NoE s :=
  evalCall oy X (h.mono fun fv S₁ q => ⟨by rw [q.1]; trivial, fun y' oy' s₂ pos X₂ => wpAny_mono (q.2 y' oy' s₂ pos X₂) (fun vs' s₃ q' => q'.elim fun vs S₃ a2 X₃ p => ⟨vs, S₃, a2, X₃, fun f' args' s₄ rf ra X₄ => by rw [q.1] at rf; cases rf; exact k vs S₃ args' s₄ p ra X₄⟩) fun _ _ e => e⟩) he hp
theorem add_ne {s a b : Nat} (h : a ≠ b) : s + a ≠ s + b := fun e => h (Nat.add_left_cancel e)

theorem range_small {a b : Int} (ha : -(2 ^ 62) ≤ a) (ha' : a < 2 ^ 62) (hb : -(2 ^ 62) ≤ b) (hb' : b < 2 ^ 62) : Builtin.Range.small a b 1 = true := small_one ha ha' hb hb'
theorem range_size (b : Int) : Builtin.Range.rangeSize 0 b 1 = ((b.toNat : Nat) : Int) := by
  rw [rangeSize_one]
  split <;> (lia)
theorem WI.range {f e : Expr} {pos : Pos} {x : Str} {p : Pos} {K : (Led → Prop) → List V → Led → Prop} (h : WE T c r S f fun fv S₁ => fv = .ty "range" ∧ WL T c r S₁ [e] fun vs S₂ => ∃ n : Int, vs = [.int n] ∧ -1000000000 ≤ n ∧ n ≤ 1000000000 ∧ K (fun _ => True) (nums 0 n.toNat) S₂)
    (he : eval (.Call f [e] [] pos) c.env = (do callWith pos (← eval f c.env) [] (backTo pos (starEach [e] c.env)) (backToKw pos (keywordEach [] c.env))) := by rfl) (hp : (backTo pos (starEach [e] c.env)).any (·.1) = false := by rfl) : WI T c r S (.Call f [e] [] pos) (.Name x p) Y1 K := fun y oy s X => by
  refine evalTy oy X h (fun vs S₃ args' s₄ q ra X₄ => ?_) he hp
  obtain ⟨n, rfl, b1, b2, k3⟩ := q
  cases ra with
  | cons rn ra =>
  cases ra
  obtain ⟨t, rfl⟩ := rn
  refine call_range_1 ?_
  have kp : ∀ b o, s₄.heap.get? b = some o → (s₄.heap.push { cls := .type "range", data := .fields #[.int 0 s₄.toks, .int n t, .int 1 (s₄.toks + 1)] }).get? b = some o := fun b o e => Heap.get?_push_of_some _ e
  have X₅ := X₄.ext (t := s₄.toks + 1 + 1) kp
  refine wpAny_pyIter_range (IsRange.new ..) (range_small (by decide) (by decide) (by (lia)) (by (lia))) ?_
  refine PostI.mk src_range (X₅.ext (t := s₄.toks + 1 + 1) fun b o e => Heap.get?_push_of_some _ e) ?_ (X₅.low (low1 _)) k3
  show IsRangeIter _ _ _ _ _
  rw [range_size]
  have := Heap.get?_push_size (s₄.heap.push { cls := .type "range", data := .fields #[.int 0 s₄.toks, .int n t, .int 1 (s₄.toks + 1)] }) (o := { cls := .type "range_iterator", data := .fields #[rawInt 0, rawInt ((n.toNat : Nat) : Int), rawInt 1] }) rfl
  simpa using this
theorem WI.enum {f e : Expr} {pos : Pos} {es : List Expr} {n : Nat} {p : Pos} {K : (Led → Prop) → List (V × V) → Led → Prop} (h : WE T c r S f fun fv S₁ => fv = .ty "enumerate" ∧ WL T c r S₁ [e] fun vs S₂ => ∃ (l : Addr) (ws : List V), vs = [.ref l] ∧ (l, O.list ws) ∈ S₂ ∧ K (fun S => (l, O.list ws) ∈ S) (enumd ws) S₂)
    (he : eval (.Call f [e] [] pos) c.env = (do callWith pos (← eval f c.env) [] (backTo pos (starEach [e] c.env)) (backToKw pos (keywordEach [] c.env))) := by rfl) (hp : (backTo pos (starEach [e] c.env)).any (·.1) = false := by rfl) : WI T c r S (.Call f [e] [] pos) (.Tuple es n p) Y2 K := fun y oy s X => by
  refine evalTy oy X h (fun vs S₃ args' s₄ q ra X₄ => ?_) he hp
  obtain ⟨l, ws, rfl, hm, k3⟩ := q
  cases ra with
  | cons rn ra =>
  cases ra; cases rn
  obtain ⟨its, k0, hl, b2⟩ := X₄.own.at_ _ hm
  refine call_enumerate_1 hl fun h' hE hI hz kp => ?_
  have X₅ := X₄.ext (t := s₄.toks) kp
  refine wpAny_pyIter_enum hE (PostI.mk (src_enum (it := s₄.heap.objs.size) (add_ne (b := 0) (by decide))) X₅ ⟨⟨_, hE⟩, hI⟩ (X₄.low (List.forall_mem_cons.mpr ⟨Nat.le_add_right .., low1 _⟩)) k3)
theorem WI.zip {f e₁ e₂ : Expr} {pos : Pos} {es : List Expr} {n : Nat} {p : Pos} {K : (Led → Prop) → List (V × V) → Led → Prop} (h : WE T c r S f fun fv S₁ => fv = .ty "zip" ∧ WL T c r S₁ [e₁, e₂] fun vs S₂ => ∃ (l₁ l₂ : Addr) (us ws : List V), vs = [.ref l₁, .ref l₂] ∧ (l₁, O.list us) ∈ S₂ ∧ (l₂, O.list ws) ∈ S₂ ∧ K (fun S => (l₁, O.list us) ∈ S ∧ (l₂, O.list ws) ∈ S) (us.zip ws) S₂)
    (he : eval (.Call f [e₁, e₂] [] pos) c.env = (do callWith pos (← eval f c.env) [] (backTo pos (starEach [e₁, e₂] c.env)) (backToKw pos (keywordEach [] c.env))) := by rfl) (hp : (backTo pos (starEach [e₁, e₂] c.env)).any (·.1) = false := by rfl) : WI T c r S (.Call f [e₁, e₂] [] pos) (.Tuple es n p) Y2 K := fun y oy s X => by
  refine evalTy oy X h (fun vs S₃ args' s₄ q ra X₄ => ?_) he hp
  obtain ⟨l₁, l₂, us, ws, rfl, hm₁, hm₂, k3⟩ := q
  cases ra with
  | cons rn ra =>
  cases ra with
  | cons rm ra =>
  cases ra; cases rn; cases rm
  obtain ⟨its, il, b2⟩ := isList X₄ hm₁
  obtain ⟨jts, jl, c2⟩ := isList X₄ hm₂
  refine call_zip_2 il jl fun h' hZ hP hO h1 h2 hz kp => ?_
  have X₅ := X₄.ext (t := s₄.toks) kp
  exact wpAny_pyIter_zip hZ (PostI.mk (src_zip (TI := s₄.heap.objs.size + 2) (TO := s₄.heap.objs.size + 3) (i1 := s₄.heap.objs.size) (i2 := s₄.heap.objs.size + 1) ⟨add_ne (by decide), add_ne (by decide), add_ne (a := 0) (by decide), add_ne (by decide), add_ne (by decide), add_ne (b := 0) (by decide), add_ne (by decide), add_ne (b := 0) (by decide), add_ne (by decide), add_ne (a := 0) (by decide)⟩)
    X₅ ⟨hZ, hP, ⟨_, _, hO⟩, h1, h2⟩ (X₄.low (List.forall_mem_cons.mpr ⟨Nat.le_add_right .., List.forall_mem_cons.mpr ⟨Nat.le_add_right .., List.forall_mem_cons.mpr ⟨Nat.le_add_right .., List.forall_mem_cons.mpr ⟨Nat.le_refl _, List.forall_mem_singleton.mpr (Nat.le_add_right ..)⟩⟩⟩⟩)) k3)
end
end Mine
end

section
set_option maxRecDepth 100000
namespace Mine
open PySem PySem.W PySem.Calls PyProof.Rows PySem.Spec

/-! comprehensions -/
noncomputable def closOf (cells : List (Str × Addr)) (ns : List (Str × NameKind)) (acc : List (Str × Addr)) : List (Str × Addr) :=
  ns.foldl (fun acc q => if (q.2 == .free) = true then (q.1, (cells.lookup q.1).getD 0) :: acc else acc) acc
theorem closOf_cons {cells : List (Str × Addr)} {p : Str × NameKind} {ns : List (Str × NameKind)} {acc : List (Str × Addr)} : closOf cells (p :: ns) acc = closOf cells ns (if (p.2 == .free) = true then (p.1, (cells.lookup p.1).getD 0) :: acc else acc) := rfl
theorem lk_of {cells : List (Str × Addr)} {n : Str} (h : (cells.lookup n).isSome = true) : cells.lookup n = some ((cells.lookup n).getD 0) := by
  obtain ⟨a, ha⟩ := Option.isSome_iff_exists.mp h; rw [ha]; rfl
theorem closure_is {scope : Scope} {env : Env} (h : ∀ q ∈ scope.names, q.2 = .free → (env.cells.lookup q.1).isSome = true) : closureFor scope env = pure (closOf env.cells scope.names []) := by
  unfold closureFor
  have key : ∀ (ns : List (Str × NameKind)) (acc : List (Str × Addr)), (∀ q ∈ ns, q.2 = .free → (env.cells.lookup q.1).isSome = true) →
      (forIn ns acc fun (q : Str × NameKind) cs => (do
        let (name, kind) := q
        if kind == .free then do
          let a ← cellOf env name
          pure (ForInStep.yield ((name, a) :: cs))
        else pure (ForInStep.yield cs) : Sem (ForInStep (List (Str × Addr))))) = pure (closOf env.cells ns acc) := by
    intro ns
    induction ns with
    | nil => intro acc _; rfl
    | cons q ns ih =>
      intro acc h
      rw [List.forIn_cons, closOf_cons]
      by_cases hk : (q.2 == NameKind.free) = true
      · have e : cellOf env q.1 = pure ((env.cells.lookup q.1).getD 0) := by unfold cellOf; rw [lk_of (h q (.head _) (eq_of_beq hk))]; rfl
        simp only [hk, if_true, e, pure_bind]
        exact ih _ fun q hq => h q (.tail _ hq)
      · simp only [hk, Bool.false_eq_true, if_false, pure_bind]
        exact ih acc fun q hq => h q (.tail _ hq)
  have := key scope.names [] h
  simp only [bind_pure]
  exact this

theorem closOf_mem {cells : List (Str × Addr)} {ns : List (Str × NameKind)} : ∀ {acc : List (Str × Addr)} {q : Str × Addr}, q ∈ closOf cells ns acc → q ∈ acc ∨ ((q.1, NameKind.free) ∈ ns ∧ q.2 = (cells.lookup q.1).getD 0) := by
  induction ns with
  | nil => exact fun h => .inl h
  | cons p r ih =>
    intro acc q h
    rw [closOf_cons] at h
    rcases ih h with h | h
    · by_cases hk : (p.2 == .free) = true
      · rw [if_pos hk] at h
        rcases List.mem_cons.mp h with rfl | h
        · exact .inr ⟨(eq_of_beq hk) ▸ .head _, rfl⟩
        · exact .inl h
      · rw [if_neg hk] at h; exact .inl h
    · exact .inr ⟨.tail _ h.1, h.2⟩
theorem closOf_lookup {cells : List (Str × Addr)} {x : Str} {a : Addr} (hx : cells.lookup x = some a) {ns : List (Str × NameKind)} : ∀ {acc : List (Str × Addr)}, ((x, NameKind.free) ∈ ns ∨ acc.lookup x = some a) → (closOf cells ns acc).lookup x = some a := by
  induction ns with
  | nil => exact fun h => h.elim (fun h => nomatch h) id
  | cons p r ih =>
    intro acc h
    rw [closOf_cons]
    by_cases hk : (p.2 == .free) = true
    · rw [if_pos hk]
      by_cases e : (x == p.1) = true
      · exact ih (.inr (by rw [List.lookup_cons, e, ← eq_of_beq e, hx]; rfl))
      · refine ih (h.imp (fun h => (List.mem_cons.mp h).resolve_left fun z => e (by rw [← z]; exact beq_self_eq_true _)) fun h => ?_)
        rw [List.lookup_cons, eq_false_of_ne_true e]; exact h
    · rw [if_neg hk]
      exact ih (h.imp_left fun h => (List.mem_cons.mp h).resolve_left fun z => hk (by rw [← z]; rfl))
theorem closOf_pw {cells : List (Str × Addr)} (ap : cells.Pairwise fun x y => x.2 ≠ y.2) {ns : List (Str × NameKind)} : ∀ {acc : List (Str × Addr)}, (ns.map (·.1)).Nodup → (∀ q ∈ ns, q.2 = .free → (cells.lookup q.1).isSome = true) →
    acc.Pairwise (fun x y => x.2 ≠ y.2) → (∀ q ∈ acc, q ∈ cells ∧ q.1 ∉ ns.map (·.1)) → (closOf cells ns acc).Pairwise fun x y => x.2 ≠ y.2 := by
  induction ns with
  | nil => exact fun _ _ h _ => h
  | cons p r ih =>
    intro acc nd hf h hm
    rw [List.map_cons, List.nodup_cons] at nd
    have hf' : ∀ q ∈ r, q.2 = .free → (cells.lookup q.1).isSome = true := fun q hq => hf q (.tail _ hq)
    rw [closOf_cons]
    by_cases hk : (p.2 == .free) = true
    · rw [if_pos hk]
      have hin := mem_of_lookup (lk_of (hf p (.head _) (eq_of_beq hk)))
      exact ih nd.2 hf' (.cons (fun q hq e => (hm q hq).2 (by rw [← apart_of ap hin (hm q hq).1 e]; exact .head _)) h) (List.forall_mem_cons.mpr ⟨⟨hin, nd.1⟩, fun q hq => ⟨(hm q hq).1, fun z => (hm q hq).2 (.tail _ z)⟩⟩)
    · rw [if_neg hk]
      exact ih nd.2 hf' h fun q hq => ⟨(hm q hq).1, fun z => (hm q hq).2 (.tail _ z)⟩

theorem codeAny_compLoop_gen {prog : Program} {w : World} {A : Around} {R : Result → Shared → Prop} {s : Shared} {elt target iter : Expr} {ifs : List Expr} {scope : Scope} {pos : Pos} {it acc : Value} {env : Env} (I : Nat → Shared → Prop)
    (turn : ∀ n s, I n s → wpAny (model prog w) A (pyNext it) (fun r s₁ => match r with
      | none => R (.ok .next) s₁
      | some v => wpAny (model prog w) A (letOwnedTupleGo target it v) (fun _ s₁' => wpAny (model prog w) A (assign target env v) (fun _ s₂ =>
          wpAny (model prog w) A (forIn ifs true fun c r => if r = true then do let ok ← isTrue c env (eval c env); pure (ForInStep.yield ok) else pure (ForInStep.yield r)) (fun ok s₃ =>
            if ok = true then wpAny (model prog w) A (eval elt env) (fun x s₄ =>
              wpAny (model prog w) A (call (.builtin "list.append") [acc, x]) (fun _ s₅ => ∃ m, m < n ∧ I m s₅) NoE s₄) NoE s₃
            else ∃ m, m < n ∧ I m s₃) NoE s₂) NoE s₁') NoE s₁) NoE s)
    (n : Nat) (h : I n s) : codeAny (model prog w) A (.compLoop (.ListComp elt [⟨target, iter, ifs, 0⟩] scope pos) 0 it acc env) R s := by
  refine codeAny_loop rfl I (fun n s hI => ?_) n h
  show wpAny _ A ((compTurn (.ListComp elt [⟨target, iter, ifs, 0⟩] scope pos) 0 it acc env).onRaise (fun x => do noteFrame x env; theTreesLotGoes x)) _ _ s
  refine wpAny_noted ?_
  rw [compTurn_list]
  refine wpAny_bind (wpAny_standAt (wpAny_bind (wpAny_mono (turn n s hI) (fun r s₁ h₁ => ?_) fun _ _ h' => h'.elim)))
  cases r with
  | none => exact wpAny_pure h₁
  | some v =>
    refine wpAny_bind (wpAny_mono h₁ (fun _ s₁' h₁' => ?_) fun _ _ h' => h'.elim)
    refine wpAny_bind (wpAny_mono h₁' (fun _ s₂ h₂ => wpAny_bind (wpAny_mono h₂ (fun ok s₃ h₃ => ?_) fun _ _ h' => h'.elim)) fun _ _ h' => h'.elim)
    cases ok with
    | false => exact wpAny_pure ⟨rfl, h₃⟩
    | true =>
      exact wpAny_bind (wpAny_bind (wpAny_mono h₃ (fun x s₄ h₄ => wpAny_bind (wpAny_mono h₄ (fun _ s₅ h₅ => wpAny_pure (wpAny_pure ⟨rfl, h₅⟩)) fun _ _ h' => h'.elim)) fun _ _ h' => h'.elim))

noncomputable def WTs (T : TC) (c : Cx) (r : Loc) (S : Led) (ifs : List Expr) (K : Bool → Led → Prop) : Prop := match ifs with
  | [] => K true S
  | [e] => WT T c r S e K
  | _ => False
/-- the block, turn by turn: each begins with the names r -/
noncomputable def WComp (T : TC) (c : Cx) (r : Loc) {α : Type} (need : Led → Prop) (ext : α → Loc) (ifs : List Expr) (elt : Expr) (K : List V → Led → Prop) : List α → List V → Led → Prop
  | [], out, S => need S ∧ K out S
  | a :: rest, out, S => need S ∧ out.length ≤ 1000000 ∧ WTs T c (r ++ ext a) S ifs fun ok S' => (ok = true → WE T c (r ++ ext a) S' elt fun v S'' => WComp T c r need ext ifs elt K rest (out ++ [v]) S'') ∧ (ok = false → WComp T c r need ext ifs elt K rest out S')

theorem wts_sound {T : TC} {c : Cx} {r : Loc} {S : Led} {ifs : List Expr} {K : Bool → Led → Prop} (h : WTs T c r S ifs K) {y : Fx} (oy : y.Ok T c) {s : Shared} (X : St T c y r S s) :
    wpAny (model T.prog T.w) y.A (forIn ifs true fun d r => if r = true then do let ok ← isTrue d c.env (eval d c.env); pure (ForInStep.yield ok) else pure (ForInStep.yield r)) (PostB T c y r K) NoE s := by
  match ifs, h with
  | [], h => exact wpAny_tests_nil ⟨S, X, h⟩
  | [e], h => exact wpAny_tests_one (h y oy s X)

section
variable {T : TC} {c : Cx} {y : Fx} {r : Loc} {S : Led}

noncomputable def CLoop (T : TC) (c : Cx) (y : Fx) (r : Loc) {α : Type} (D : Addr) (as : List Addr) (need : Led → Prop) (ext : α → Loc) (ifs : List Expr) (elt : Expr) (items : List α) (J : Nat → Heap → Prop) (K : List V → Led → Prop) (n : Nat) (s : Shared) : Prop :=
  ∃ i S, ∃ out, ∃ its : List Value, n + i = items.length ∧ St T c y r S s ∧ J i s.heap ∧ Sep c y S (D :: as) ∧ All2 RV out its ∧ s.heap.PlainList D its.toArray ∧ WComp T c r need ext ifs elt K (items.drop i) out S
theorem CLoop.mk {T : TC} {c : Cx} {y : Fx} {r : Loc} {α : Type} {D : Addr} {as : List Addr} {need : Led → Prop} {ext : α → Loc} {ifs : List Expr} {elt : Expr} {items : List α} {J : Nat → Heap → Prop} {K : List V → Led → Prop} {n : Nat} {s : Shared} {i : Nat} {S : Led} {out : List V} {its : List Value}
    (a : n + i = items.length) (b : St T c y r S s) (d : J i s.heap) (e : Sep c y S (D :: as)) (f : All2 RV out its) (g : s.heap.PlainList D its.toArray) (k : WComp T c r need ext ifs elt K (items.drop i) out S) : CLoop T c y r D as need ext ifs elt items J K n s := ⟨i, S, out, its, a, b, d, e, f, g, k⟩
theorem CLoop.elim {T : TC} {c : Cx} {y : Fx} {r : Loc} {α : Type} {D : Addr} {as : List Addr} {need : Led → Prop} {ext : α → Loc} {ifs : List Expr} {elt : Expr} {items : List α} {J : Nat → Heap → Prop} {K : List V → Led → Prop} {n : Nat} {s : Shared} {G : Prop} (h : CLoop T c y r D as need ext ifs elt items J K n s)
    (k : ∀ i S out its, n + i = items.length → St T c y r S s → J i s.heap → Sep c y S (D :: as) → All2 RV out its → s.heap.PlainList D its.toArray → WComp T c r need ext ifs elt K (items.drop i) out S → G) : G := by
  obtain ⟨i, S, out, its, a, b, d, e, f, g, h⟩ := h; exact k i S out its a b d e f g h
theorem comp_loop {α : Type} {I D : Addr} {as : List Addr} {target iter elt : Expr} {ifs : List Expr} {scope : Scope} {pos : Pos} {Y : α → Value → Heap → Prop} {need : Led → Prop} {items : List α} {J : Nat → Heap → Prop} {Bind : α → Loc → Loc → Prop} {ext : α → Loc} {K : List V → Led → Prop} {R : Result → Shared → Prop}
    (src : Src T I as target Y need items J) (bnd : Bnd T c target Y Bind) (hb : ∀ a, Bind a r (r ++ ext a)) (oy : y.Ok T c) (hD : D ∉ as) {s : Shared} (X : St T c y r S s) (hJ : J 0 s.heap) (sp : Sep c y S (D :: as)) (hl : s.heap.PlainList D #[]) (h : WComp T c r need ext ifs elt K items [] S)
    (fin : ∀ out S' s' (its : List Value), All2 RV out its → s'.heap.PlainList D its.toArray → St T c y r S' s' → Sep c y S' (D :: as) → K out S' → R (.ok .next) s') :
    codeAny (model T.prog T.w) y.A (.compLoop (.ListComp elt [⟨target, iter, ifs, 0⟩] scope pos) 0 (.ref I) (.ref D) c.env) R s := by
  refine codeAny_compLoop_gen (CLoop T c y r D as need ext ifs elt items J K) ?_ items.length (CLoop.mk (i := 0) (by (lia)) X hJ sp .nil (by simpa using hl) (by simpa using h))
  clear X hJ sp hl h
  refine fun n s q => q.elim fun i S out its hn X hJ sp a2 hl h => ?_
  have sp' : Sep c y S as := fun b hb => sp b (.tail _ hb)
  have nS : ∀ p ∈ S, p.1 ∉ as := fun p hp hm => (sp' _ hm).2.2.1 p hp rfl
  by_cases hlt : i < items.length
  · have hd : items.drop i = items[i] :: items.drop (i + 1) := List.drop_eq_getElem_cons hlt
    rw [hd] at h
    have hneed := h.1
    have hz := h.2.1
    have hbody := h.2.2
    let Goal : Shared → Prop := fun s' => ∃ m, m < n ∧ CLoop T c y r D as need ext ifs elt items J K m s'
    refine wpAny_mono (src.item y.A i items[i] s S (fun v s₂ => wpAny (model T.prog T.w) y.A (assign target c.env v) (fun _ s₃ => wpAny (model T.prog T.w) y.A (forIn ifs true fun d r => if r = true then do let ok ← isTrue d c.env (eval d c.env); pure (ForInStep.yield ok) else pure (ForInStep.yield r)) (fun ok s₃ =>
            if ok = true then wpAny (model T.prog T.w) y.A (eval elt c.env) (fun x s₄ =>
              wpAny (model T.prog T.w) y.A (call (.builtin "list.append") [.ref D, x]) (fun _ s₅ => Goal s₅) NoE s₄) NoE s₃
            else Goal s₃) NoE s₃) NoE s₂) NoE oy.hand (by simp [hlt]) hJ hneed X.own.at_ nS fun v' h' tk hY hJ' hk => ?_) (fun o s₁ ho => ?_) fun _ _ e => e.elim
    · have X₁ : St T c y r S { s with heap := h', toks := tk } := X.off sp' hk
      have hl₁ : h'.PlainList D its.toArray := hl.at fun o e => hk D o hD e
      refine X₁.shield oy fun g' oy' X₂ hg back => ?_
      have lv : ∀ b ∈ D :: as, ∃ o, h'.get? b = some o := fun b hb' => by
        rcases List.mem_cons.mp hb' with rfl | hb'
        · obtain ⟨n, e⟩ := hl₁; exact ⟨_, e⟩
        · exact src.live _ _ hJ' b hb'
      have gk : ∀ b ∈ D :: as, ∀ o, h'.get? b = some o → g'.get? b = some o := fun b hb' o e => hg b o e (sp b hb').2.2.1 (sp b hb').2.1 (sp b hb').2.2.2
      have lessr : ∀ {S' : Led} {s' : Shared}, St T c { y with g := g' } (r ++ ext items[i]) S' s' → St T c { y with g := g' } r S' s' := fun Z => Z.less (fun q hq => List.mem_append_left _ hq) (by have := Z.keys; rw [List.map_append, List.nodup_append] at this; exact this.1)
      have spm : ∀ {S' : Led} {r' : Loc} {s' : Shared}, St T c { y with g := g' } r' S' s' → Sep c y S' (D :: as) := fun Z => sp.more (s := s) Z fun b hb' => by obtain ⟨o, e⟩ := lv b hb'; exact ⟨o, gk b hb' o e⟩
      have jm : ∀ {S' : Led} {r' : Loc} {s' : Shared}, St T c { y with g := g' } r' S' s' → J (i + 1) s'.heap := fun Z => src.frame _ _ _ hJ' fun b hb' o e => Z.own.keep b o (gk b (.tail _ hb') o e)
      have lm : ∀ {S' : Led} {r' : Loc} {s' : Shared}, St T c { y with g := g' } r' S' s' → s'.heap.PlainList D its.toArray := fun Z => hl₁.at fun o e => Z.own.keep D o (gk D (.head _) o e)
      refine wpAny_mono (bnd _ oy' _ r S _ _ v' X₂ hY (hb _)) (fun _ s₃ X₃ => ?_) fun _ _ e => e
      refine wpAny_mono (wts_sound hbody oy' X₃) (fun ok s₄ q => q.elim fun S₄ X₄ k => ?_) fun _ _ e => e
      cases ok with
      | false =>
        rw [if_neg (by decide)]
        have Z := lessr X₄
        exact ⟨n - 1, by (lia), CLoop.mk (i := i + 1) (by (lia)) (back _ _ _ Z) (jm Z) (spm Z) a2 (lm Z) (k.2 rfl)⟩
      | true =>
        rw [if_pos rfl]
        refine wpAny_mono (k.1 rfl _ oy' s₄ X₄) (fun x s₅ q => q.elim fun v S₅ rv X₅ k5 => ?_) fun _ _ e => e
        have Z := lessr X₅
        have Zb := back _ _ _ Z
        have hl₅ := lm Z
        have sp₅ := spm Z
        have J₅ := jm Z
        refine wpAny_list_append_plain hl₅ (fun h₆ hl₆ hs₆ => ?_) (by rw [List.size_toArray, ← a2.length, sizeLine_eq]; (lia))
        have kp : ∀ b o, b ∉ [D] → s₅.heap.get? b = some o → h₆.get? b = some o := fun b o hb e => (hs₆.2 b fun z => hb (by rw [z]; exact .head _)).trans e
        have X₆ : St T c y r S₅ { s₅ with heap := h₆ } := Zb.off (t := s₅.toks) (as := [D]) (fun b hb => by rw [List.mem_singleton.mp hb]; exact sp₅ D (.head _)) kp
        exact ⟨n - 1, by (lia), CLoop.mk (i := i + 1) (its := its ++ [x]) (by (lia)) X₆ (src.frame _ _ _ J₅ fun b hb' o e => kp b o (fun z => hD (by rw [List.mem_singleton.mp z] at hb'; exact hb')) e) sp₅ (a2.append (.cons rv .nil)) (by simpa using hl₆) k5⟩
    · cases o with
      | none => exact ho.elim
      | some v =>
        exact ho
  · have hi : i = items.length := by
      have : i ≤ items.length := by (lia)
      (lia)
    rw [List.drop_of_length_le (Nat.le_of_eq hi.symm)] at h
    exact src.done y.A _ S _ _ oy.hand (hi ▸ hJ) h.1 X.own.at_ nS fun h' tk hk => fin out S _ its a2 (hl.at fun o e => hk D o hD e) (X.off sp' hk) sp h.2

theorem St.put {s : Shared} {D : Addr} {o : O} (Y : St T c y r S s) (sp : Sep c y S [D]) (ha : At s.heap D o) : St T c y r (S ++ [(D, o)]) s := by
  obtain ⟨h1, h2, h3, h4⟩ := sp D (.head _)
  refine ⟨Y.gens, Y.os, ⟨Y.own.keep, fun p hp => ?_, fun p hp => ?_, ?_⟩, Y.fr, Y.keys, fun p hp => ?_, fun q hq => ⟨⟨fun p hp => ?_, (Y.cells q hq).1.2⟩, (Y.cells q hq).2⟩⟩
  · rcases List.mem_append.mp hp with hp | hp
    · exact Y.own.at_ p hp
    · rw [List.mem_singleton.mp hp]; exact ha
  · rcases List.mem_append.mp hp with hp | hp
    · exact Y.own.off p hp
    · rw [List.mem_singleton.mp hp]; exact h1
  · rw [List.map_append, List.nodup_append]
    refine ⟨Y.own.nodup, by simp, fun a' ha' b hb => ?_⟩
    obtain ⟨p, hp, rfl⟩ := List.mem_map.mp ha'
    simp at hb; subst hb
    exact h3 p hp
  · rcases List.mem_append.mp hp with hp | hp
    · exact Y.notL p hp
    · rw [List.mem_singleton.mp hp]; exact h2
  · rcases List.mem_append.mp hp with hp | hp
    · exact (Y.cells q hq).1.1 p hp
    · rw [List.mem_singleton.mp hp]; exact (h4 q hq).symm

theorem lookup_nodup {α : Type} : ∀ {cs : List (Str × α)} {n : Str} {a : α}, (cs.map (·.1)).Nodup → (n, a) ∈ cs → cs.lookup n = some a
  | (n', a') :: cs, n, a, hnd, hm => by
    rw [List.map_cons, List.nodup_cons] at hnd
    rcases List.mem_cons.mp hm with e | hm
    · cases e; simp
    · have hne : n ≠ n' := fun e => hnd.1 (e ▸ List.mem_map.mpr ⟨(n, a), hm, rfl⟩)
      rw [List.lookup_cons, beq_eq_false_iff_ne.mpr hne]
      exact lookup_nodup hnd.2 hm

/-- the names inside a block -/
noncomputable def inner (ns : List (Str × NameKind)) : List (Str × NameKind) := ns.map fun q => (q.1, if q.2 = .free then .cell else q.2)

/-- what the block's end is worth outside -/
noncomputable def CEnd (T : TC) (c : Cx) (y : Fx) (r : Loc) (K : List V → Led → Prop) (D C : Addr) (s' : Shared) : Prop :=
  ∃ out S m, St T c y r (S ++ [(D, O.list out)]) s' ∧ s'.heap.Ns C m ∧ Sep c y (S ++ [(D, O.list out)]) [C] ∧ K out S

theorem comp_block {α : Type} {target iter elt : Expr} {ifs : List Expr} {scope : Scope} {pos : Pos} {Y : α → Value → Heap → Prop} {Bind : α → Loc → Loc → Prop} {ext : α → Loc} {r₂ : Loc} {K : List V → Led → Prop} {RR : Value → Addr → Result → Shared → Prop}
    (ok : c.Ok) (oy : y.Ok T c) (hfree : ∀ q ∈ scope.names, q.2 = .free → c.env.kindOf q.1 = some .cell ∧ (c.env.cells.lookup q.1).isSome = true) (hcell : ∀ q ∈ scope.names, q.2 ≠ .cell) (hnd : (scope.names.map (·.1)).Nodup) (hkind : scope.kind = .function)
    (hr : ∀ q ∈ r₂, q ∈ r ∧ (q.1, NameKind.free) ∈ scope.names) (nd₂ : (r₂.map (·.1)).Nodup)
    (bnd : ∀ c₂ : Cx, c₂.Ok → Kinds c₂ (inner scope.names) → Bnd T c₂ target Y Bind) (hb : ∀ a, Bind a r₂ (r₂ ++ ext a))
    {I : Addr} {as : List Addr} {need : Led → Prop} {items : List α} {J : Nat → Heap → Prop} {s : Shared} (src : Src T I as target Y need items J) (X : St T c y r S s) (hJ : J 0 s.heap) (sp : Sep c y S as)
    (h : ∀ c₂ : Cx, c₂.Ok → c₂.fn = false → c₂.n = c.n → Kinds c₂ (inner scope.names) → WComp T c₂ r₂ need ext ifs elt K items [] S)
    (fin : ∀ D C s', CEnd T c y r K D C s' → RR (.ref D) C (.ok .next) s') :
    wpAny (model T.prog T.w) y.A (newList []) (fun acc s₃ => wpAny (model T.prog T.w) y.A (newFunctionEnv scope c.env.globals (closOf c.env.cells scope.names []) [] c.env.qual none .none (some c.env)) (fun cenv s₄ =>
      codeAny (model T.prog T.w) y.A (.compStart (.ListComp elt [⟨target, iter, ifs, 0⟩] scope pos) 0 (.ref I) acc { cenv with scope := relabel scope c.env }) (RR acc cenv.locals) s₄) NoE s₃) NoE s := by
  refine wpAny_newObj_type (wpAny_newFunctionEnv hcell (by intro z hz; simp at hz) (fun h₁ hns hsb => ?_) hkind)
  dsimp only at hns hsb ⊢
  generalize hH : s.heap.push { cls := .type "list", dict := none, data := .seq ([] : List Value).toArray } = H at hns hsb ⊢
  have hC : H.objs.size = s.heap.objs.size + 1 := by rw [← hH, Heap.size_push]
  have hDC : s.heap.objs.size ≠ H.objs.size := by rw [hC]; exact Nat.ne_of_lt (Nat.lt_succ_self _)
  have ltC : ∀ {b o}, s.heap.get? b = some o → b < s.heap.objs.size := fun e => Heap.lt_size e
  have neC : ∀ {b o}, s.heap.get? b = some o → b ≠ H.objs.size := fun e => by rw [hC]; exact Nat.ne_of_lt (Nat.lt_succ_of_lt (ltC e))
  have neD : ∀ {b o}, s.heap.get? b = some o → b ≠ s.heap.objs.size := fun e => Nat.ne_of_lt (ltC e)
  have old : ∀ b o, s.heap.get? b = some o → h₁.get? b = some o := fun b o e => hsb.extBut b o (neC e) (Heap.get?_push_of_some _ (hH ▸ Heap.get?_push_of_some _ e))
  have hacc : h₁.PlainList s.heap.objs.size #[] := ⟨_, hsb.extBut _ _ hDC (Heap.get?_push_of_some _ (hH ▸ Heap.get?_push_size _ rfl))⟩
  let D := s.heap.objs.size
  let C := H.objs.size
  let cl := closOf c.env.cells scope.names []
  have hclos : ∀ q ∈ scope.names, q.2 = .free → (c.env.cells.lookup q.1).isSome = true := fun q hq e => (hfree q hq e).2
  have clm : ∀ q ∈ cl, q ∈ c.env.cells := fun q hq => by
    rcases closOf_mem hq with h | ⟨h, e⟩
    · cases h
    · obtain ⟨a, ha⟩ := Option.isSome_iff_exists.mp (hclos _ h rfl)
      rw [show (c.env.cells.lookup q.1).getD 0 = a by rw [ha]; rfl] at e
      have := mem_of_lookup ha
      rw [← e] at this; exact this
  let env₂ := compEnvC scope cl C c.env
  let c₂ : Cx := ⟨env₂, c.n, false⟩
  have ok₂ : c₂.Ok := ⟨closOf_pw ok.apart hnd hclos .nil (fun q hq => nomatch hq), hkind, ok.glob, ok.bins⟩
  have k₂ : Kinds c₂ (inner scope.names) := by
    intro q hq
    obtain ⟨q₀, hq₀, rfl⟩ := List.mem_map.mp hq
    show (relabel scope c.env).names.lookup q₀.1 = _
    unfold relabel
    have key : (scope.names.map fun (n, k) => if (k == NameKind.free && c.env.scope.kind == .function && c.env.kindOf n == some .cell) then (n, NameKind.cell) else (n, k)) = inner scope.names := by
      unfold inner
      refine List.map_congr_left fun q hq => ?_
      obtain ⟨n, k⟩ := q
      by_cases e : k = .free
      · subst e
        simp [ok.kind, (hfree _ hq rfl).1]
      · simp [e]
    rw [key]
    refine lookup_nodup ?_ hq
    rw [show (inner scope.names).map (·.1) = scope.names.map (·.1) by simp [inner]]
    exact hnd
  have as_lt : ∀ b ∈ as, ∃ o, s.heap.get? b = some o := src.live 0 _ hJ
  let hid := S.map (·.1) ++ (as ++ [D, C])
  let g₂ := hideAll h₁ hid
  have L_lt : ∃ o, s.heap.get? c.env.locals = some o := by obtain ⟨m, ⟨o, _, _, ho, _⟩, _⟩ := X.fr; exact ⟨o, ho⟩
  have hid_no : ∀ b, (∃ o, s.heap.get? b = some o) → (∀ p ∈ S, p.1 ≠ b) → b ∉ as → b ∉ hid := by
    rintro b ⟨o, e⟩ h1 h2 hm
    rcases List.mem_append.mp hm with hm | hm
    · obtain ⟨p, hp, rfl⟩ := List.mem_map.mp hm
      exact h1 p hp rfl
    · rcases List.mem_append.mp hm with hm | hm
      · exact h2 hm
      · rcases List.mem_cons.mp hm with rfl | hm
        · exact neD e rfl
        · rw [List.mem_singleton] at hm; subst hm; exact neC e rfl
  have up : ∀ a o, y.g.get? a = some o → g₂.get? a = some o := fun a o e => hideAll_get _ (old a o (X.own.keep a o e)) (hid_no a ⟨o, X.own.keep a o e⟩ (fun p hp z => by have := X.own.off p hp; rw [z, e] at this; cases this) fun hm => by have := (sp a hm).1; rw [e] at this; cases this)
  have upL : ∀ o, s.heap.get? c.env.locals = some o → g₂.get? c.env.locals = some o := fun o e => hideAll_get _ (old _ o e) (hid_no _ ⟨o, e⟩ (fun p hp => X.notL p hp) fun hm => (sp _ hm).2.1 rfl)
  have upC : ∀ q ∈ c.env.cells, ∀ o, s.heap.get? q.2 = some o → g₂.get? q.2 = some o := fun q hq o e => hideAll_get _ (old _ o e) (hid_no _ ⟨o, e⟩ (fun p hp => (X.cells q hq).1.1 p hp) fun hm => (sp _ hm).2.2.2 q hq rfl)
  let y₂ : Fx := { A := y.A, g := g₂, b := y.b }
  have oy₂ : y₂.Ok T c₂ := ⟨oy.hand, oy.depth, oy.units, oy.base, fun a o e => up a o (oy.sub a o e), by
    show y.b.objs.size ≤ C
    obtain ⟨o, e⟩ := L_lt
    show _ ≤ H.objs.size
    rw [hC]
    exact Nat.le_succ_of_le (Nat.le_of_lt (Nat.lt_of_le_of_lt oy.low (ltC e))), hideAll_none _ (List.mem_append_right _ (List.mem_append_right _ (.tail _ (.head _)))), fun e => by cases e⟩
  have X₂ : St T c₂ y₂ r₂ S { s with heap := h₁, toks := s.toks + ([] : List (Str × Value)).length } := by
    refine ⟨X.gens, X.os, ⟨fun a o e => of_hideAll _ e, fun p hp => (X.own.at_ p hp).keep (old _), fun p hp => hideAll_none _ (List.mem_append_left _ (List.mem_map_of_mem hp)), X.own.nodup⟩, ⟨_, hns, fun q hq => ?_⟩, nd₂, fun p hp => ?_, fun q hq => ?_⟩
    · obtain ⟨m, _, nm⟩ := X.fr
      obtain ⟨h1, h2⟩ := hr q hq
      have hk2 : c₂.env.kindOf q.1 = some .cell := k₂ (q.1, .cell) (List.mem_map.mpr ⟨_, h2, by simp⟩)
      rcases nm q h1 with ⟨hk, _⟩ | ⟨hk, cc, v', hc, hv, rv⟩
      · rw [(hfree _ h2 rfl).1] at hk; cases hk
      · exact .inr ⟨hk2, cc, v', closOf_lookup hc (.inl h2), IsCell.keep hv (old _), rv⟩
    · obtain ⟨o, e⟩ := (X.own.at_ p hp).some
      exact neC e
    · have hq' := clm q hq
      obtain ⟨v, o, ho, hd⟩ := (X.cells q hq').2
      exact ⟨⟨(X.cells q hq').1.1, neC ho⟩, v, o, old _ _ ho, hd⟩
  have sp₂ : Sep c₂ y₂ S (D :: as) := by
    intro b hb
    rcases List.mem_cons.mp hb with rfl | hb
    · refine ⟨hideAll_none _ (List.mem_append_right _ (List.mem_append_right _ (.head _))), hDC, fun p hp => ?_, fun q hq => ?_⟩
      · obtain ⟨o, e⟩ := (X.own.at_ p hp).some
        exact neD e
      · obtain ⟨v, o, ho, hd⟩ := (X.cells q (clm q hq)).2
        exact neD ho
    · obtain ⟨o, e⟩ := as_lt b hb
      exact ⟨hideAll_none _ (List.mem_append_right _ (List.mem_append_left _ hb)), neC e, (sp b hb).2.2.1, fun q hq => (sp b hb).2.2.2 q (clm q hq)⟩
  have hDas : D ∉ as := fun hm => by obtain ⟨o, e⟩ := as_lt D hm; exact neD e rfl
  have J₂ : J 0 h₁ := src.frame _ _ _ hJ fun b _ o e => old b o e
  have loop : codeAny (model T.prog T.w) y.A (.compLoop (.ListComp elt [⟨target, iter, ifs, 0⟩] scope pos) 0 (.ref I) (.ref D) env₂) (RR (.ref D) C) { s with heap := h₁, toks := s.toks + ([] : List (Str × Value)).length } := by
    refine comp_loop (c := c₂) (y := y₂) src (bnd c₂ ok₂ k₂) hb oy₂ hDas X₂ J₂ sp₂ hacc (h c₂ ok₂ rfl rfl k₂) fun out S' s' its a2 hl Z spz hk => fin D C s' ?_
    have no : ∀ p ∈ S', ∀ b o, g₂.get? b = some o → p.1 ≠ b := fun p hp b o e z => by
      have := Z.own.off p hp
      rw [z] at this
      rw [show y₂.g.get? b = some o from e] at this; cases this
    obtain ⟨m, ⟨oL, es, ep, ho, r1⟩, nm⟩ := X.fr
    have W : St T c y r S' s' := by
      refine ⟨Z.gens, Z.os, ⟨fun a o e => Z.own.keep a o (up a o e), Z.own.at_, fun p hp => ?_, Z.own.nodup⟩, ⟨m, ⟨oL, es, ep, Z.own.keep _ _ (upL _ ho), r1⟩, fun q hq => (nm q hq).keep fun w hw o e => Z.own.keep _ _ (upC w hw o e)⟩, X.keys, fun p hp => no p hp _ _ (upL _ ho), fun q hq => ?_⟩
      · cases z : y.g.get? p.1 with
        | none => rfl
        | some o => exact absurd rfl (no p hp _ _ (up _ _ z))
      · obtain ⟨v0, oc, hoc, hd⟩ := (X.cells q hq).2
        exact ⟨⟨fun p hp => no p hp _ _ (upC q hq _ hoc), (X.cells q hq).1.2⟩, v0, oc, Z.own.keep _ _ (upC q hq _ hoc), hd⟩
    have fresh : ∀ b, (∀ o, s.heap.get? b ≠ some o) → (∀ p ∈ S', p.1 ≠ b) → Sep c y S' [b] := fun b hb h3 b' hb' => by
      rw [List.mem_singleton] at hb'; subst hb'
      refine ⟨?_, fun e => ?_, h3, fun q hq e => ?_⟩
      · cases z : y.g.get? b' with
        | none => rfl
        | some o => exact absurd (X.own.keep _ _ z) (hb o)
      · exact hb oL (e ▸ ho)
      · obtain ⟨v0, oc, hoc, hd⟩ := (X.cells q hq).2
        exact hb oc (e ▸ hoc)
    have spD : Sep c y S' [D] := fresh D (fun o e => neD e rfl) fun p hp => (spz D (.head _)).2.2.1 p hp
    have spC : Sep c y S' [C] := fresh C (fun o e => neC e rfl) fun p hp => Z.notL p hp
    obtain ⟨k0, hl0⟩ := hl
    have W2 := W.put (o := .list out) spD ⟨its, k0, hl0, a2⟩
    obtain ⟨mz, nz, _⟩ := Z.fr
    refine ⟨out, S', mz, W2, nz, fun b hb => ?_, hk⟩
    rw [List.mem_singleton] at hb; subst hb
    obtain ⟨q1, q2, q3, q4⟩ := spC C (.head _)
    refine ⟨q1, q2, fun p hp => ?_, q4⟩
    rcases List.mem_append.mp hp with hp | hp
    · exact q3 p hp
    · rw [List.mem_singleton.mp hp]; exact hDC
  exact codeAny_compStart_list loop (wpAny_mono (src.self y.A _ _ NoE J₂ loop) (fun _ _ e => e) fun _ _ e => e.elim)

theorem WE.comp {α : Type} {target iter elt : Expr} {ifs : List Expr} {scope : Scope} {pos : Pos} {Y : α → Value → Heap → Prop} {Bind : α → Loc → Loc → Prop} {ext : α → Loc} (r₂ : Loc) {K : V → Led → Prop}
    (ok : c.Ok) (hfree : ∀ q ∈ scope.names, q.2 = .free → c.env.kindOf q.1 = some .cell ∧ (c.env.cells.lookup q.1).isSome = true) (hcell : ∀ q ∈ scope.names, q.2 ≠ .cell) (hnd : (scope.names.map (·.1)).Nodup) (hkind : scope.kind = .function)
    (hr : ∀ q ∈ r₂, q ∈ r ∧ (q.1, NameKind.free) ∈ scope.names) (nd₂ : (r₂.map (·.1)).Nodup)
    (bnd : ∀ c₂ : Cx, c₂.Ok → Kinds c₂ (inner scope.names) → Bnd T c₂ target Y Bind) (hb : ∀ a, Bind a r₂ (r₂ ++ ext a))
    (h : WI T c r S iter target Y fun need items S' => ∀ c₂ : Cx, c₂.Ok → c₂.fn = false → c₂.n = c.n → Kinds c₂ (inner scope.names) → WComp T c₂ r₂ need ext ifs elt (fun out S'' => ∀ a, K (.ref a) (S'' ++ [(a, O.list out)])) items [] S')
    (hs : ∀ x, foldedSetIterable iter c.env x = pure x := by intro _; rfl) : WE T c r S (.ListComp elt [⟨target, iter, ifs, 0⟩] scope pos) K := fun y oy s X => by
  rw [eval_ListComp]
  show wpAny _ _ (comprehension (.ListComp elt [⟨target, iter, ifs, 0⟩] scope pos) scope c.env (firstIterPos [⟨target, iter, ifs, 0⟩] pos) (newList []) false (eval iter c.env) Option.none) _ _ s
  refine wpAny_comprehension_free (e := .ListComp elt [⟨target, iter, ifs, 0⟩] scope pos) (g := ⟨target, iter, ifs, 0⟩) (gs := []) (use := Option.none) rfl hs (closure_is fun q hq e => (hfree q hq e).2) hkind (fun x hx e => by obtain ⟨n, k⟩ := x; cases e; exact lookup_nodup hnd hx) (wpAny_mono (h y oy s X) (fun x' s₁ h₁ => wpAny_mono h₁ (fun it s₂ q => q.elim fun I as need items J S' e src X₂ hJ sp k => ?_) fun _ _ e => e) fun _ _ e => e)
  subst e
  refine comp_block (RR := fun acc C => compPost (model T.prog T.w) y.A NoE Option.none (Post T c y r K) acc C) ok oy hfree hcell hnd hkind hr nd₂ bnd hb src X₂ hJ sp k ?_
  rintro D C s' ⟨out, S'', m, W, hn, spC, kk⟩
  refine ⟨m, hn, fun h' hs' => ⟨.ref D, _, rfl, W.off (t := s'.toks) spC fun b o hb e => (hs'.2 b fun z => hb (by rw [z]; exact .head _)).trans e, kk D⟩⟩

theorem WS.assignComp {α : Type} {x : Str} {px spos : Pos} {target iter elt : Expr} {ifs : List Expr} {scope : Scope} {pos : Pos} {Y : α → Value → Heap → Prop} {Bind : α → Loc → Loc → Prop} {ext : α → Loc} (r₂ : Loc) {Kn : Loc → Led → Prop} {Kr : V → Led → Prop}
    (ok : c.Ok) (hx : c.env.kindOf x = some .local) (hsw : swapsWith (.ListComp elt [⟨target, iter, ifs, 0⟩] scope pos) (some (.Name x px)) spos.line c.env = pure true)
    (hfree : ∀ q ∈ scope.names, q.2 = .free → c.env.kindOf q.1 = some .cell ∧ (c.env.cells.lookup q.1).isSome = true) (hcell : ∀ q ∈ scope.names, q.2 ≠ .cell) (hnd : (scope.names.map (·.1)).Nodup) (hkind : scope.kind = .function)
    (hr : ∀ q ∈ r₂, q ∈ r ∧ (q.1, NameKind.free) ∈ scope.names) (nd₂ : (r₂.map (·.1)).Nodup)
    (bnd : ∀ c₂ : Cx, c₂.Ok → Kinds c₂ (inner scope.names) → Bnd T c₂ target Y Bind) (hb : ∀ a, Bind a r₂ (r₂ ++ ext a))
    (h : WI T c r S iter target Y fun need items S' => ∀ c₂ : Cx, c₂.Ok → c₂.fn = false → c₂.n = c.n → Kinds c₂ (inner scope.names) → WComp T c₂ r₂ need ext ifs elt (fun out S'' => ∀ a, ∃ r', Put x (.ref a) r r' ∧ Kn r' (S'' ++ [(a, O.list out)])) items [] S')
    (hs : ∀ x, foldedSetIterable iter c.env x = pure x := by intro _; rfl) : WS T c r S (.Assign [.Name x px] (.ListComp elt [⟨target, iter, ifs, 0⟩] scope pos) spos) Kn Kr := fun y oy s X => by
  rw [exec_Assign_Name_used _ _ _ _ hsw]
  refine wpAny_bind (wpAny_standAt (wpAny_bind ?_))
  show wpAny _ _ (do let _ ← comprehension (.ListComp elt [⟨target, iter, ifs, 0⟩] scope pos) scope c.env (firstIterPos [⟨target, iter, ifs, 0⟩] pos) (newList []) false (eval iter c.env) (some (PySem.assign (.Name x px) c.env))) _ _ s
  refine wpAny_bind (wpAny_mono (wpAny_comprehension_free (g := ⟨target, iter, ifs, 0⟩) (gs := []) (use := some (PySem.assign (.Name x px) c.env)) (Q := fun _ s' => PostF T c y Kn Kr .next s') rfl hs (closure_is fun q hq e => (hfree q hq e).2) hkind (fun x hx e => by obtain ⟨n, k⟩ := x; cases e; exact lookup_nodup hnd hx) (wpAny_mono (h y oy s X) (fun x' s₁ h₁ => wpAny_mono h₁ (fun it s₂ q => q.elim fun I as need items J S' e src X₂ hJ sp k => ?_) fun _ _ e => e) fun _ _ e => e)) (fun _ s' hq => wpAny_pure (wpAny_pure hq)) fun _ _ e => e)
  subst e
  refine comp_block (RR := fun acc C => compPost (model T.prog T.w) y.A NoE (some (PySem.assign (.Name x px) c.env)) (fun _ s' => PostF T c y Kn Kr .next s') acc C) ok oy hfree hcell hnd hkind hr nd₂ bnd hb src X₂ hJ sp k ?_
  rintro D C s' ⟨out, S'', m, W, hn, spC, kk⟩
  obtain ⟨r', P, kn⟩ := kk D
  refine W.shield oy fun g' oy' W' hg back => ?_
  obtain ⟨oC, es, ep, hoC, rC⟩ := hn
  have gC : g'.get? C = some oC := by
    obtain ⟨q1, q2, q3, q4⟩ := spC C (.head _)
    exact hg C oC hoC q3 q2 q4
  show wpAny _ _ (PySem.assign (.Name x px) c.env (.ref D)) _ _ s'
  refine wpAny_assign_Name (storeV (y := { y with g := g' }) ok oy' W' (v := .ref D) rfl P (.inl hx) fun h₆ t₆ Z => ?_)
  have Zb := back _ _ _ Z
  refine ⟨m, ⟨oC, es, ep, Z.own.keep _ _ gC, rC⟩, fun h' hs' => ⟨r', _, Zb.off (t := t₆) spC fun b o hb e => (hs'.2 b fun z => hb (by rw [z]; exact .head _)).trans e, kn⟩⟩
end
end Mine
end

section
set_option maxRecDepth 100000
namespace Mine
open PySem PySem.W PySem.Calls PyProof.Rows PySem.Spec

section
variable {T : TC} {c : Cx} {y : Fx} {r : Loc} {S : Led} {K : V → Led → Prop} {B : Bool → Led → Prop}

/-- a new object, by a rule of the library's that speaks of a ledger -/
theorem Post.news {o : Obj} {ob : O} {s : Shared} {m : Str → Option Value} {h' : Heap} {t : Nat} {a : Addr} (X : St T c y r S s) (oy : y.Ok T c) (nm : ∀ q ∈ r, NameAt c.env m s.heap q.1 q.2) (F' : Fr y.b c.env.locals h' m)
    (N' : News y.b c.env.locals h' ((a, o) :: allOf y.b c.env.locals s.heap)) (hn : s.heap.get? a = none) (ha : h'.get? a = some o → At h' a ob) (k : ∀ a, K (.ref a) (S ++ [(a, ob)])) :
    Post T c y r K (.ref a) { s with heap := h', toks := t } := by
  have Y := X.grown (t := t) oy nm F' fun b ob n1 n2 e => (N' (b, ob) (.tail _ (mem_allOf.mpr ⟨e, n1, n2⟩))).1
  exact ⟨.ref _, _, rfl, X.new Y hn (ha (N' _ (.head _)).1), k _⟩
theorem Post.grew {v : V} {v' : Value} {s : Shared} {m : Str → Option Value} {h' : Heap} {t : Nat} (X : St T c y r S s) (oy : y.Ok T c) (nm : ∀ q ∈ r, NameAt c.env m s.heap q.1 q.2) (F' : Fr y.b c.env.locals h' m)
    (N' : News y.b c.env.locals h' (allOf y.b c.env.locals s.heap)) (rv : RV v v') (k : K v S) : Post T c y r K v' { s with heap := h', toks := t } :=
  ⟨v, S, rv, X.grown (t := t) oy nm F' fun b ob n1 n2 e => (N' (b, ob) (mem_allOf.mpr ⟨e, n1, n2⟩)).1, k⟩

theorem BinV.cat {a b : Addr} {vs ws : List V} (ha : (a, O.list vs) ∈ S) (hb : (b, O.list ws) ∈ S) (hz : vs.length + ws.length ≤ 1000000) (h : ∀ x, K (.ref x) (S ++ [(x, .list (vs ++ ws))])) : BinV T c r S .Add (.ref a) (.ref b) K := by
  rintro _ _ rfl rfl y oy s X
  obtain ⟨m, F, nm⟩ := X.frame oy
  obtain ⟨its, il, a2⟩ := isList X ha
  obtain ⟨jts, jl, b2⟩ := isList X hb
  refine add_arrays F (allOf_news _ _ _) il jl (fun h' F' N' => ?_) (by rw [List.size_toArray, List.size_toArray, ← a2.length, ← b2.length, sizeLine_eq]; (lia))
  exact Post.news (t := s.toks) (ob := .list (vs ++ ws)) X oy nm F' N' (Heap.get?_none_of_le (Nat.le_refl _)) (fun e => ⟨its ++ jts, 0, by simpa using e, a2.append b2⟩) h

theorem foldl_rep (x : Value) : ∀ (n : Nat) (acc : Array Value), List.foldl (fun x1 x2 => x1 ++ x2) acc (List.replicate n #[x]) = (acc.toList ++ List.replicate n x).toArray
  | 0, acc => by simp
  | n + 1, acc => by
    rw [List.replicate_succ, List.foldl_cons, foldl_rep x n]
    simp [List.replicate_succ]
theorem All2.rep {v : V} {x : Value} (r : RV v x) : ∀ n, All2 RV (List.replicate n v) (List.replicate n x)
  | 0 => .nil
  | n + 1 => .cons r (All2.rep r n)
theorem BinV.rep {a : Addr} {v : V} {n : Int} (ha : (a, O.list [v]) ∈ S) (hn : 0 ≤ n ∧ n ≤ 1000000) (h : ∀ x, K (.ref x) (S ++ [(x, .list (List.replicate n.toNat v))])) : BinV T c r S .Mult (.ref a) (.int n) K := by
  rintro _ _ rfl ⟨u, rfl⟩ y oy s X
  obtain ⟨m, F, nm⟩ := X.frame oy
  obtain ⟨its, k, e, a2⟩ := X.own.at_ _ ha
  cases a2 with
  | cons rv a2 =>
  cases a2
  rename_i x
  refine mul_list F (allOf_news _ _ _) e (by (lia)) (by (lia)) (by simp; (lia)) fun h' F' N' => ?_
  refine Post.news (t := s.toks) (ob := .list (List.replicate n.toNat v)) X oy nm F' N' (Heap.get?_none_of_le (Nat.le_refl _)) (fun e => ⟨List.replicate n.toNat x, 0, ?_, All2.rep rv _⟩) h
  rw [e]
  congr 2
  rw [if_neg (by simp), foldl_rep]
  simp

theorem CallV.r1 {f : V} {fv : Value} {l : Addr} (hf : ∀ f', RV f f' → f' = fv) (k : WM T c r S (call fv [.ref l] []) K) : CallV T c r S f [.ref l] K := fun f' args' rf ra => by
  cases hf f' rf
  cases ra with
  | cons r1 ra => cases ra; cases r1; exact k
theorem CallV.i1 {f : V} {fv : Value} {a : Int} (hf : ∀ f', RV f f' → f' = fv) (k : ∀ t, WM T c r S (call fv [.int a t] []) K) : CallV T c r S f [.int a] K := fun f' args' rf ra => by
  cases hf f' rf
  cases ra with
  | cons r1 ra => cases ra; obtain ⟨t, rfl⟩ := r1; exact k t
theorem CallV.i2 {f : V} {fv : Value} {a b : Int} (hf : ∀ f', RV f f' → f' = fv) (k : ∀ t u, WM T c r S (call fv [.int a t, .int b u] []) K) : CallV T c r S f [.int a, .int b] K := fun f' args' rf ra => by
  cases hf f' rf
  cases ra with
  | cons r1 ra =>
    cases ra with
    | cons r2 ra => cases ra; obtain ⟨t, rfl⟩ := r1; obtain ⟨u, rfl⟩ := r2; exact k t u
theorem CallV.len {l : Addr} {vs : List V} (hm : (l, O.list vs) ∈ S) (hz : vs.length ≤ 1000000) (h : K (.int vs.length) S) : CallV T c r S (.bi "len") [.ref l] K := by
  refine CallV.r1 (fun _ h => h) fun y oy s X => ?_
  obtain ⟨its, il, a2⟩ := isList X hm
  refine PyProof.Rows.len_list il (by rw [List.size_toArray, ← a2.length]; (lia)) (Post.mk ?_ X.tok h)
  exact ⟨_, by rw [List.size_toArray, ← a2.length]⟩
theorem CallV.max2 {a b : Int} (h : K (.int (max a b)) S) : CallV T c r S (.bi "max") [.int a, .int b] K := by
  refine CallV.i2 (fun _ h => h) fun t u y oy s X => ?_
  refine max_two_ints oy.hand fun h' tk hk => ⟨.int (max a b), S, ?_, X.ext hk, h⟩
  split
  · exact ⟨u, by rw [Int.max_eq_right (by (lia))]⟩
  · exact ⟨t, by rw [Int.max_eq_left (by (lia))]⟩
theorem CallV.min2 {a b : Int} (h : K (.int (min a b)) S) : CallV T c r S (.bi "min") [.int a, .int b] K := by
  refine CallV.i2 (fun _ h => h) fun t u y oy s X => ?_
  refine min_two_ints oy.hand fun h' tk hk => ⟨.int (min a b), S, ?_, X.ext hk, h⟩
  split
  · exact ⟨u, by rw [Int.min_eq_right (by (lia))]⟩
  · exact ⟨t, by rw [Int.min_eq_left (by (lia))]⟩

/-- lists of ints -/
noncomputable abbrev zs (xs : List Int) : List V := xs.map V.int
theorem intsAre : ∀ {xs : List Int} {its : List Value}, All2 RV (zs xs) its → IntsAre its xs
  | [], _, h => by cases h; exact .nil
  | x :: xs, _, h => by
    cases h with
    | cons rv h =>
      obtain ⟨t, rfl⟩ := rv
      exact .cons _ _ (intsAre h)
theorem CallV.maxL {l : Addr} {xs : List Int} (hm : (l, O.list (zs xs)) ∈ S) (h0 : 0 < xs.length) (h : ∀ M, M ∈ xs → (∀ a ∈ xs, a ≤ M) → K (.int M) S) : CallV T c r S (.bi "max") [.ref l] K := by
  refine CallV.r1 (fun _ h => h) fun y oy s X => ?_
  obtain ⟨m, F, nm⟩ := X.frame oy
  obtain ⟨its, il, a2⟩ := isList X hm
  exact max_list_N oy.hand F (allOf_news _ _ _) il (intsAre a2) h0 fun h' M t tk F' N' h1 h2 => Post.grew X oy nm F' N' (RV.int M t) (h M h1 h2)
theorem boolsAre : ∀ {bs : List Bool} {its : List Value}, All2 RV (bs.map V.bool) its → its = bs.map Value.bool
  | [], _, h => by cases h; rfl
  | x :: xs, _, h => by
    cases h with
    | cons rv h =>
      cases rv
      rw [boolsAre h]; rfl
theorem kept_iter {s : Shared} {h' : Heap} {o : Obj} (hk : ∀ b x, b ∉ [s.heap.objs.size] → (s.heap.push o).get? b = some x → h'.get? b = some x) : ∀ b x, s.heap.get? b = some x → h'.get? b = some x :=
  fun b x e => hk b x (fun hm => by rw [List.mem_singleton.mp hm] at e; exact Nat.lt_irrefl _ (Heap.lt_size e)) (Heap.get?_push_of_some _ e)
theorem range_allB : ∀ bs : List Bool, ((List.range bs.length).all fun i => (bs[i]?).getD true) = bs.all id := fun bs => by
  rw [Bool.eq_iff_iff]
  simp only [List.all_eq_true, List.mem_range, id]
  constructor
  · intro h x hx
    obtain ⟨i, hi, e⟩ := List.getElem_of_mem hx
    have := h i hi
    simpa [hi, e] using this
  · intro h i hi
    simpa [hi] using h bs[i] (List.getElem_mem hi)
theorem range_anyB : ∀ bs : List Bool, ((List.range bs.length).any fun i => (bs[i]?).getD true) = bs.any id := fun bs => by
  rw [Bool.eq_iff_iff]
  simp only [List.any_eq_true, List.mem_range, id]
  constructor
  · rintro ⟨i, hi, e⟩
    exact ⟨bs[i], List.getElem_mem hi, by simpa [hi] using e⟩
  · rintro ⟨x, hx, e⟩
    obtain ⟨i, hi, rfl⟩ := List.getElem_of_mem hx
    exact ⟨i, hi, by simpa [hi] using e⟩
theorem CallV.all {l : Addr} {bs : List Bool} (hm : (l, O.list (bs.map V.bool)) ∈ S) (h : K (.bool (bs.all id)) S) : CallV T c r S (.bi "all") [.ref l] K := by
  refine CallV.r1 (fun _ h => h) fun y oy s X => ?_
  obtain ⟨its, il, a2⟩ := isList X hm
  have e := boolsAre a2
  subst e
  have hlt : l < s.heap.objs.size := by obtain ⟨_, e, _⟩ := il; exact Heap.lt_size e
  refine call_all_walk (wpAny_pyIter_list il ?_)
  refine ⟨s.heap.objs.size, [s.heap.objs.size, l], [s.heap.objs.size], (bs.map Value.bool).toArray.size, _, _, fun i => (bs[i]?).getD true, rfl, Walks.list (A := y.A.in1) oy.hand _ l (neN (Nat.ne_of_lt hlt)) (bs.map Value.bool).toArray,
    ⟨⟨_, Heap.get?_push_size _ rfl, rfl, rfl⟩, il.push _⟩, fun i v s' Q' E' hP hQ => ?_, fun h' tk hk => ?_⟩
  · have hP' : (bs.map Value.bool)[i]? = some v := by simpa using hP
    rw [List.getElem?_map, Option.map_eq_some_iff] at hP'
    obtain ⟨b, e, rfl⟩ := hP'
    simp only [e, Option.getD_some] at hQ
    exact wpAny_truthy_bool hQ
  · rw [show ((bs.map Value.bool).toArray.size) = bs.length by simp, range_allB]
    exact ⟨.bool (bs.all id), S, rfl, X.ext (kept_iter hk), h⟩
theorem CallV.any {l : Addr} {bs : List Bool} (hm : (l, O.list (bs.map V.bool)) ∈ S) (h : K (.bool (bs.any id)) S) : CallV T c r S (.bi "any") [.ref l] K := by
  refine CallV.r1 (fun _ h => h) fun y oy s X => ?_
  obtain ⟨its, il, a2⟩ := isList X hm
  have e := boolsAre a2
  subst e
  have hlt : l < s.heap.objs.size := by obtain ⟨_, e, _⟩ := il; exact Heap.lt_size e
  refine call_any_walk (wpAny_pyIter_list il ?_)
  refine ⟨s.heap.objs.size, [s.heap.objs.size, l], [s.heap.objs.size], (bs.map Value.bool).toArray.size, _, _, fun i => (bs[i]?).getD true, rfl, Walks.list (A := y.A.in1) oy.hand _ l (neN (Nat.ne_of_lt hlt)) (bs.map Value.bool).toArray,
    ⟨⟨_, Heap.get?_push_size _ rfl, rfl, rfl⟩, il.push _⟩, fun i v s' Q' E' hP hQ => ?_, fun h' tk hk => ?_⟩
  · have hP' : (bs.map Value.bool)[i]? = some v := by simpa using hP
    rw [List.getElem?_map, Option.map_eq_some_iff] at hP'
    obtain ⟨b, e, rfl⟩ := hP'
    simp only [e, Option.getD_some] at hQ
    exact wpAny_truthy_bool hQ
  · rw [show ((bs.map Value.bool).toArray.size) = bs.length by simp, range_anyB]
    exact ⟨.bool (bs.any id), S, rfl, X.ext (kept_iter hk), h⟩
theorem CallV.abs {a : Int} (h : K (.int (a.natAbs : Int)) S) : CallV T c r S (.bi "abs") [.int a] K := by
  refine CallV.i1 (fun _ h => h) fun t y oy s X => ?_
  refine call_abs_int fun u tk => ⟨.int (a.natAbs : Int), S, ⟨u, ?_⟩, X.tok, h⟩
  congr 1
  split <;> (lia)
theorem CallV.intI {a : Int} (h : K (.int a) S) : CallV T c r S (.ty "int") [.int a] K := by
  refine CallV.i1 (fun _ h => h) fun t y oy s X => ?_
  exact call_int_int ⟨.int a, S, ⟨t, rfl⟩, X, h⟩
theorem CallV.intB {b : Bool} (h : K (.int (if b then 1 else 0)) S) : CallV T c r S (.ty "int") [.bool b] K := by
  intro f' args' rf ra y oy s X
  cases rf
  cases ra with
  | cons r1 ra =>
  cases ra; cases r1
  exact call_int_bool ⟨.int (if b then 1 else 0), S, ⟨_, rfl⟩, X.tok, h⟩
theorem CallV.list {l : Addr} {vs : List V} (hm : (l, O.list vs) ∈ S) (hz : vs.length ≤ 1000000) (h : ∀ x, K (.ref x) (S ++ [(x, .list vs)])) : CallV T c r S (.ty "list") [.ref l] K := by
  refine CallV.r1 (fun _ h => h) fun y oy s X => ?_
  obtain ⟨its, n, e, a2⟩ := X.own.at_ _ hm
  refine call_list_seq l (.inl rfl) e rfl rfl (fun h' c' hk hD => ?_) (by rw [List.size_toArray, ← a2.length, sizeLine_eq]; (lia))
  have Y := X.ext (t := s.toks) hk
  exact ⟨.ref _, _, rfl, X.new (t := s.toks) (o := .list vs) Y (Heap.get?_none_of_le (Nat.le_refl _)) ⟨its, c', hD, a2⟩, h _⟩

/-! lists of ints compared -/
theorem CmpV.neL {a b : Addr} {xs ys : List Int} (ha : (a, O.list (zs xs)) ∈ S) (hb : (b, O.list (zs ys)) ∈ S) (h : B (!decide (xs = ys)) S) : CmpV T c r S .NotEq (.ref a) (.ref b) B := by
  rintro _ _ rfl rfl y oy s X
  obtain ⟨its, il, a2⟩ := isList X ha
  obtain ⟨jts, jl, b2⟩ := isList X hb
  exact ne_intsK il (intsAre a2) jl (intsAre b2) (by have := oy.units; (lia)) ⟨_, S, rfl, X, h⟩

/-! an item stored -/
theorem SetI.list {l : Addr} {vs : List V} {k : Int} {v : V} {S' : Led} {P : Led → Prop} (hc : Chg l (.list vs) (.list (vs.set k.toNat v)) S S') (h0 : 0 ≤ k) (hk : k < vs.length) (hz : vs.length ≤ 1000000) (h : P S') : SetI T c r S (.ref l) (.int k) v P := by
  rintro _ _ v' rfl ⟨t, rfl⟩ rv y oy s X
  obtain ⟨its, n, e, a2⟩ := X.own.at_ _ hc.mem
  have il : s.heap.IsList l its.toArray := ⟨_, e, rfl, n, rfl⟩
  unfold setItem
  refine wpAny_holding ?_
  first | refine wpAny_bind (wpAny_pure ?_) | skip
  refine wpAny_bind (wpAny_sequenceKey il.typeIs (by decide) ?_)
  refine wpAny_bind (wpAny_callSpecial?_slot (name := Str.ofString "__setitem__") il.typeIs slot_list_setitem
    (wpAny_call_entry slot_list_setitem il.typeIs entry_list_setitem ?_ (args_list_setitem _ _ _)))
  show wpAny _ _ (Builtin.List.listSubscript? (.int k t) >>= _) _ _ s
  refine wpAny_bind (wpAny_listSubscript_int (fitsIndex_of h0 (by (lia))) ?_)
  obtain ⟨j, rfl⟩ := Int.eq_ofNat_of_zero_le h0
  have hj : j < its.toArray.size := by rw [List.size_toArray, ← a2.length]; (lia)
  have hx' : its.toArray[j]? = some its.toArray[j] := Array.getElem?_eq_getElem hj
  show wpAny _ _ ((seqItemAt l j >>= fun r => pure (r.map (j, ·))) >>= _) _ _ s
  refine wpAny_bind (wpAny_bind (wpAny_seqItemAt e rfl (wpAny_pure ?_)))
  rw [hx']
  show wpAny _ _ (setSeqItemAt l j v' >>= _) _ _ s
  have fin : At (s.heap.update l (Obj.mapSeq (·.setIfInBounds j v'))) l (.list (vs.set j v)) := by
    have U := Heap.get?_update_self (Obj.mapSeq fun xs : Array Value => xs.setIfInBounds j v') e rfl
    exact ⟨its.set j v', _, U.trans (congrArg (fun a => some (W.listOf a (if ((its.toArray.setIfInBounds j v').size == its.toArray.size) = true then n else n + 1))) (by simp)), a2.set rv⟩
  refine wpAny_bind (wpAny_setSeqItemAt e rfl ?_)
  exact wpAny_bind (wpAny_pure (wpAny_pure ⟨.none, rfl, wpAny_pure ⟨S', X.upd (t := s.toks) hc (Heap.SameBut.update ..) fin, h⟩⟩))
end
end Mine
end

section
set_option maxRecDepth 100000
namespace Mine
open PySem PySem.W PySem.Calls PyProof.Rows PySem.Spec

section
variable {T : TC} {c : Cx} {y : Fx} {r : Loc} {S : Led} {K : V → Led → Prop} {B : Bool → Led → Prop} {Kn : Loc → Led → Prop} {Kr : V → Led → Prop}

/-! a target that takes a value -/
noncomputable def WA (T : TC) (c : Cx) (r : Loc) (S : Led) (t : Expr) (v : V) (Kn : Loc → Led → Prop) : Prop := ∀ y : Fx, y.Ok T c → ∀ s v', St T c y r S s → RV v v' → wpAny (model T.prog T.w) y.A (PySem.assign t c.env v') (fun _ s' => ∃ r' S', St T c y r' S' s' ∧ Kn r' S') NoE s
theorem WA.name {x : Str} {p : Pos} {v : V} {r' : Loc} (ok : c.Ok) (hk : c.env.kindOf x = some .local) (P : Put x v r r') (h : Kn r' S) : WA T c r S (.Name x p) v Kn := fun y oy s v' X rv =>
  wpAny_assign_Name (storeV ok oy X rv P (.inl hk) fun h' t Y => ⟨r', S, Y, h⟩)
theorem WA.attr {o : Expr} {name : Str} {p : Pos} {v : V} (h : WE T c r S o fun ov S₁ => SetV T c r S₁ ov name v fun S₂ => Kn r S₂) : WA T c r S (.Attribute o name p) v Kn := fun y oy s v' X rv => by
  rw [arm_assign_Attribute]
  refine wpAny_bind (wpAny_holding (wpAny_mono (h y oy s X) (fun o' s₁ ⟨ov, S₁, ro, X₁, k⟩ => wpAny_bind (wpAny_standAt (wpAny_bind (wpAny_holding (wpAny_mono (k o' v' ro rv y oy s₁ X₁) (fun _ s₂ ⟨S₂, X₂, k2⟩ => wpAny_release' ⟨r, S₂, X₂, k2⟩) fun _ _ e => e))))) fun _ _ e => e))
theorem listItems_ {M : Model} {A : Around} {E : Value → Shared → Prop} {s : Shared} {a : Addr} {o : Obj} {items : Array Value} {n : Nat} {Q : Array Value → Shared → Prop} (ho : s.heap.get? a = some o) (hd : o.data = .seq items n) (h : Q items s) : wpAny M A (Builtin.List.listItems (.ref a)) Q E s := by
  unfold Builtin.List.listItems
  exact wpAny_bind (wpAny_seqItems ho hd (wpAny_pure h))
theorem listAllItems_ {M : Model} {A : Around} {E : Value → Shared → Prop} {s : Shared} {a : Addr} {msg : String} {items : Array Value} {Q : Array Value → Shared → Prop} (hl : s.heap.IsList a items) (h : Q items s) : wpAny M A (Builtin.List.listAllItems (.ref a) msg) Q E s := by
  obtain ⟨o, ho, hc, n, hd⟩ := hl
  unfold Builtin.List.listAllItems
  refine wpAny_bind (wpAny_typeOf ⟨o, ho, hc⟩ ?_)
  rw [if_pos (by decide)]
  exact listItems_ ho hd h
/-- a stretch of a list replaced -/
noncomputable def paste (vs ws : List V) (lo hi : Option Int) : List V := vs.take (kms_lo lo vs.length) ++ ws ++ vs.drop (max (kms_lo lo vs.length) (kms_hi hi vs.length))
theorem wp_neg {α : Type} {prog : Program} {w : World} {A : Around} {E : Value → Shared → Prop} {s : Shared} {Q : α → Shared → Prop} {c : Prop} [Decidable c] {a b : Sem α} (h : ¬ c) (k : wpAny (model prog w) A b Q E s) : wpAny (model prog w) A (ite c a b) Q E s := by rw [if_neg h]; exact k
theorem wp_pos {α : Type} {prog : Program} {w : World} {A : Around} {E : Value → Shared → Prop} {s : Shared} {Q : α → Shared → Prop} {c : Prop} [Decidable c] {a b : Sem α} (h : c) (k : wpAny (model prog w) A a Q E s) : wpAny (model prog w) A (ite c a b) Q E s := by rw [if_pos h]; exact k
theorem fits_ (l m : List Value) (h : l.length + m.length ≤ 1000000) : ¬ Builtin.List.listTooLong (l.toArray.size + m.toArray.size) = true := fun q =>
  absurd (of_decide_eq_true q) (Nat.not_lt.mpr (by rw [sizeLine_eq]; exact Nat.le_trans h (by decide)))
theorem paste_arr (l m : List Value) (p q : Nat) : l.toArray.extract 0 ((p : Int)).toNat ++ m.toArray ++ l.toArray.extract (max (p : Int) (q : Int)).toNat l.toArray.size = (l.take p ++ m ++ l.drop (max p q)).toArray := by
  rw [show (max (p : Int) (q : Int)).toNat = max p q from (Nat.le_total p q).elim (fun a => by rw [Int.max_eq_right (Int.ofNat_le.mpr a), Nat.max_eq_right a]; rfl) (fun a => by rw [Int.max_eq_left (Int.ofNat_le.mpr a), Nat.max_eq_left a]; rfl)]
  simp
  exact List.take_of_length_le (by simp)
theorem paste_le (l m : List Value) {p q : Nat} (h : l.length + m.length ≤ 1000000) (z : p ≤ q) : (l.take p ++ m ++ l.drop q).toArray.size ≤ sizeLine + 1 := by
  have k : min p l.length + (l.length - q) ≤ l.length := (Nat.le_total l.length q).elim (fun a => by rw [Nat.sub_eq_zero_of_le a]; exact Nat.min_le_right ..) (fun a => Nat.le_trans (Nat.add_le_add_right (Nat.le_trans (Nat.min_le_left ..) z) _) (Nat.le_of_eq (Nat.add_sub_cancel' a)))
  rw [sizeLine_eq, List.size_toArray, List.length_append, List.length_append, List.length_take, List.length_drop, Nat.add_right_comm]
  exact Nat.le_trans (Nat.add_le_add_right k _) (Nat.le_trans h (by decide))
theorem setSlice {prog : Program} {w : World} {A : Around} {E : Value → Shared → Prop} {s : Shared} {l sl l2 : Addr} {its jts : List Value} {n : Nat} {v₁ v₂ : Value} {lo hi : Option Int} {Q : Unit → Shared → Prop}
    (e : s.heap.get? l = some (listOf its.toArray n)) (jl : s.heap.IsList l2 jts.toArray) (hs : s.heap.IsSliceOf sl v₁ v₂ .none) (pl : IsPart v₁ lo) (pu : IsPart v₂ hi) (hz : its.length + jts.length ≤ 1000000) (hne : l ≠ l2)
    (hQ : ∀ h', Heap.SameBut l s.heap h' → (∃ n', h'.get? l = some (listOf (its.take (kms_lo lo its.length) ++ jts ++ its.drop (max (kms_lo lo its.length) (kms_hi hi its.length))).toArray n')) → Q () { s with heap := h' }) :
    wpAny (model prog w) A (setItem (.ref l) (.ref sl) (.ref l2)) Q E s := by
  have il : s.heap.IsList l its.toArray := ⟨_, e, rfl, n, rfl⟩
  obtain ⟨os, hos, hcs, hds⟩ := id hs
  have hTs : s.TypeIs (.ref sl) "slice" := ⟨os, hos, hcs⟩
  obtain ⟨o2, ho2, hc2, n2, hd2⟩ := id jl
  unfold setItem
  refine wpAny_holding ?_
  first | refine wpAny_bind (wpAny_pure ?_) | skip
  refine wpAny_bind (wpAny_sequenceKey il.typeIs (by decide) ?_)
  refine wpAny_bind (wpAny_callSpecial?_slot (name := Str.ofString "__setitem__") il.typeIs slot_list_setitem
    (wpAny_call_entry slot_list_setitem il.typeIs entry_list_setitem ?_ (args_list_setitem _ _ _)))
  show wpAny _ _ (Builtin.List.listSubscript? (.ref sl) >>= _) _ _ s
  refine wpAny_bind ?_
  unfold Builtin.List.listSubscript?
  refine wpAny_bind (wpAny_specialOf hTs slice_no_index ?_)
  refine wpAny_of_eq (if_pos rfl) ?_
  show wpAny _ _ (typeOf (.ref sl) >>= _) _ _ s
  refine wpAny_bind (wpAny_typeOf hTs ?_)
  refine wp_neg (by decide) ?_
  rw [listSliceParts_eq]
  refine wpAny_bind (wpAny_bind (wpAny_field hos hds (x := .none) rfl (wpAny_bind (wpAny_listPart .none ?_))))
  refine wp_neg Bool.false_ne_true ?_
  refine wpAny_bind (wpAny_field hos hds (x := v₁) rfl (wpAny_bind (wpAny_listPart pl ?_)))
  refine wpAny_bind (wpAny_field hos hds (x := v₂) rfl (wpAny_bind (wpAny_listPart pu (wpAny_pure ?_))))
  have hneq : Builtin.List.listSameRef (.ref l) (.ref l2) = false := by
    show (l == l2) = false
    exact beq_eq_false_iff_ne.mpr hne
  refine wp_neg (ne_true_of_eq_false hneq) ?_
  refine wpAny_bind (listAllItems_ jl ?_)
  refine wpAny_bind (listItems_ e rfl ?_)
  refine wpAny_bind (wpAny_of_eq (sliceIndices_raw lo hi none its.toArray.size (by simp)) ?_)
  rw [kms_bounds]
  refine wp_pos rfl ?_
  refine wpAny_bind (wpAny_rule ?_)
  refine wp_neg (fits_ its jts hz) ?_
  show wpAny _ _ (updateSeq l _ >>= _) _ _ s
  have eX := paste_arr its jts (kms_lo lo its.length) (kms_hi hi its.length)
  have U := Heap.get?_update_self (Obj.mapSeq fun xs : Array Value => xs.extract 0 (((kms_lo lo its.length : Nat) : Int)).toNat ++ jts.toArray ++ xs.extract (max ((kms_lo lo its.length : Nat) : Int) ((kms_hi hi its.length : Nat) : Int)).toNat xs.size) e rfl
  refine wpAny_bind (wpAny_updateSeq e rfl ?_ (by rw [List.size_toArray, sizeLine_eq]; exact Nat.le_trans (Nat.le_add_right ..) (Nat.le_trans hz (by decide))) (eX ▸ paste_le its jts hz (Nat.le_max_left ..)))
  refine wpAny_bind (wpAny_letGo ?_)
  refine wpAny_bind (wpAny_pure (wpAny_pure ⟨.none, rfl, wpAny_pure (hQ _ (Heap.SameBut.update ..) ?_)⟩))
  exact ⟨_, U.trans (congrArg (fun a => some (W.listOf a (if ((its.toArray.extract 0 (((kms_lo lo its.length : Nat) : Int)).toNat ++ jts.toArray ++ its.toArray.extract (max ((kms_lo lo its.length : Nat) : Int) ((kms_hi hi its.length : Nat) : Int)).toNat its.toArray.size).size == its.toArray.size) = true then n else n + 1))) eX)⟩

theorem WS.assignA {t e : Expr} {pos : Pos} (h : WE T c r S e fun v S₁ => WA T c r S₁ t v Kn) (hs : swapsWithSole [t] e pos.line c.env = pure false := by rfl) (hw : swappedStores [t] e c.env = pure Option.none := by rfl) (he : assignEach [t] c.env = [(false, PySem.assign t c.env)] := by rfl) : WS T c r S (.Assign [t] e pos) Kn Kr := fun y oy s X => by
  rw [exec_Assign]
  refine wpAny_bind (wpAny_standAt ?_)
  rw [hs]
  refine wpAny_bind (wpAny_pure ?_)
  rw [if_neg (by decide)]
  refine wpAny_bind (wpAny_mono (h y oy s X) (fun v s₁ q => q.elim fun v' S₁ rv X₁ h₁ => ?_) fun _ _ x => x)
  rw [hw]
  refine wpAny_bind (wpAny_pure ?_)
  rw [he]
  show wpAny _ _ (do PySem.assign t c.env v; pure Flow.next) _ _ s₁
  exact wpAny_bind (wpAny_mono (h₁ y oy s₁ v X₁ rv) (fun _ s₂ ⟨r', S', X', k⟩ => wpAny_pure ⟨r', S', X', k⟩) fun _ _ x => x)

/-! several targets -/
noncomputable def WAs (T : TC) (c : Cx) (Kn : Loc → Led → Prop) : List Expr → List V → Loc → Led → Prop
  | [], [], r, S => Kn r S
  | t :: ts, v :: vs, r, S => WA T c r S t v fun r' S' => WAs T c Kn ts vs r' S'
  | _, _, _, _ => False
theorem was_sound {oy : y.Ok T c} {ts : List Expr} : ∀ {vs : List V} {vals : List Value} {r : Loc} {S : Led} {s : Shared}, WAs T c Kn ts vs r S → All2 RV vs vals → St T c y r S s → wpAny (model T.prog T.w) y.A (assignInOrder (ts.map fun t => PySem.assign t c.env) vals) (fun _ s' => ∃ r' S', St T c y r' S' s' ∧ Kn r' S') NoE s := by
  induction ts with
  | nil =>
    intro vs vals r S s h a2 X
    cases a2 with
    | nil => exact wpAny_pure ⟨r, S, X, h⟩
    | cons => exact h.elim
  | cons t ts ih =>
    intro vs vals r S s h a2 X
    cases a2 with
    | nil => exact h.elim
    | cons rv a2 => exact wpAny_bind (wpAny_holding (wpAny_mono (h y oy s _ X rv) (fun _ s₁ q => q.elim fun r₁ q => q.elim fun S₁ q => ih q.2 a2 q.1) fun _ _ e => e))
theorem each_no {α : Type} (f : Expr → α) (ts : List Expr) : (ts.map fun t => (false, f t)).findIdx? (·.1) = none ∧ (ts.map fun t => (false, f t)).map (·.2) = ts.map f ∧ (ts.map fun t => (false, f t)).length = ts.length :=
  ⟨by induction ts with
    | nil => rfl
    | cons t ts ih => rw [List.map_cons, List.findIdx?_cons, ih]; rfl, List.map_map, List.length_map _⟩
theorem WS.unpack {ts : List Expr} {n : Nat} {e : Expr} {tp pos : Pos} (h : WE T c r S e fun v S₁ => ∃ a vs, v = .ref a ∧ ((a, O.tup vs) ∈ S₁ ∨ (a, O.list vs) ∈ S₁) ∧ vs.length = ts.length ∧ WAs T c Kn ts vs r S₁)
    (hs : swapsWithSole [.Tuple ts n tp] e pos.line c.env = pure false := by rfl) (hw : swappedStores [.Tuple ts n tp] e c.env = pure Option.none := by rfl) (hstar : assignEach ts c.env = ts.map fun t => (false, PySem.assign t c.env) := by rfl) : WS T c r S (.Assign [.Tuple ts n tp] e pos) Kn Kr := fun y oy s X => by
  refine PyProof.Rows.Assign_Tuple (wpAny_mono (h y oy s X) (fun v' s₁ q => q.elim fun v S₁ rv X₁ ⟨a, vs, e1, hm, hl, k⟩ => ?_) fun _ _ e => e) hs hw
  subst e1
  cases rv
  rw [arm_assign_Tuple]
  refine wpAny_bind (wpAny_standAt ?_)
  unfold PySem.unpack
  rw [hstar, (each_no ..).1, (each_no ..).2.1, (each_no ..).2.2]
  have fin : ∀ its : List Value, All2 RV vs its → ∀ h', Heap.ExtBut s₁.heap.objs.size s₁.heap h' → wpAny (model T.prog T.w) y.A (assignInOrder (ts.map fun t => PySem.assign t c.env) its) (fun _ s' => PostF T c y Kn Kr .next s') NoE { s₁ with heap := h' } := fun its a2 h' hx => by
    have k2 : ∀ b o, s₁.heap.get? b = some o → h'.get? b = some o := fun b o e => hx b o (neN (Nat.ne_of_lt (Heap.lt_size e))) e
    exact was_sound (oy := oy) k a2 (X₁.ext (t := s₁.toks) k2)
  rcases hm with hm | hm
  · obtain ⟨its, il, a2⟩ := isTup X₁ hm
    have : ts.length = its.toArray.size := by rw [List.size_toArray, ← a2.length, hl]
    rw [this]
    exact wpAny_bind (wpAny_holding (PyProof.Rows.unpackItems_tuple oy.hand il fun h' hx => fin its a2 h' hx))
  · obtain ⟨its, il, a2⟩ := isList X₁ hm
    have : ts.length = its.toArray.size := by rw [List.size_toArray, ← a2.length, hl]
    rw [this]
    exact wpAny_bind (wpAny_holding (kun_itemsOf oy.hand il fun h' hx => fin its a2 h' hx))

end
end Mine
end

section
set_option maxRecDepth 100000
namespace Mine
open PySem PySem.W PySem.Calls PyProof.Rows PySem.Spec

section
variable {T : TC} {c : Cx} {y : Fx} {r : Loc} {S : Led} {K : V → Led → Prop} {B : Bool → Led → Prop} {Kn : Loc → Led → Prop} {Kr : V → Led → Prop}

/-! names whose stores are swapped -/
theorem ename_pos {x : Str} {p : Pos} : (Expr.Name x p).pos = p := rfl
theorem ite_no {α : Type} {c : Prop} [Decidable c] {x y z : α} (h : ¬ c) (h' : y = z) : ite c x y = z := (if_neg h).trans h'
theorem blk_fun (ok : c.Ok) : ¬ ((c.env.blockKind != .function) = true) := by
  rw [show c.env.blockKind = .function by unfold Env.blockKind; rw [ok.kind]; rfl]; decide
theorem sw_names {α : Type} {nm l : List Str} {m : Nat} {o : α} (R : List Str → α) {z : α} (e : nm = l) (h : (l.length != m || l.eraseDups.length != l.length) = false) (h' : R l = z) : (if (nm.length != m || nm.eraseDups.length != nm.length) = true then o else R nm) = z := by
  subst e; exact ite_no (by rw [h]; exact Bool.false_ne_true) h'
theorem dups_cons {x : Str} {l : List Str} (h : x ∉ l) (e : l.eraseDups = l) : (x :: l).eraseDups = x :: l := by
  rw [List.eraseDups_cons, List.filter_eq_self.mpr fun y hy => by
    rw [Bool.not_eq_true', beq_eq_false_iff_ne]; exact fun q => h (q ▸ hy), e]
theorem dups_no {l : List Str} (e : l.eraseDups = l) : (l.length != l.length || l.eraseDups.length != l.length) = false := by rw [e]; simp
theorem loc_and {x : Str} {b : Bool} (h : c.env.kindOf x = some .local) (hb : b = true) : (c.env.kindOf x == some .local && b) = true := by rw [h, hb]; rfl
theorem fm2 {F : Expr → Option Str} {a b : Expr} {x y : Str} (h : F a = some x) (h' : F b = some y) : [a, b].filterMap F = [x, y] :=
  (List.filterMap_cons_some h).trans (congrArg _ (List.filterMap_cons_some h'))
theorem fm3 {F : Expr → Option Str} {a b d : Expr} {x y z : Str} (h : F a = some x) (h' : F b = some y) (h'' : F d = some z) : [a, b, d].filterMap F = [x, y, z] :=
  (List.filterMap_cons_some h).trans (congrArg _ (fm2 h' h''))
theorem swapped2 {x₁ x₂ : Str} {p₁ p₂ p p' : Pos} {k k' : Nat} {e₁ e₂ : Expr} (ok : c.Ok) (h₁ : c.env.kindOf x₁ = some .local) (h₂ : c.env.kindOf x₂ = some .local) (hne : x₁ ≠ x₂) (hl : (p₂.line == p₁.line) = true)
    (hs : ([e₁, e₂].any fun e => PySem.swappedStores.match_5 (fun _ => Bool) e (fun _ _ => true) fun _ => false) = false) (hf : [e₁, e₂].all (foldedForSure 8) = false) (hc : [e₁, e₂].all (constantsAlone 8) = false) :
    swappedStores [.Tuple [.Name x₁ p₁, .Name x₂ p₂] k p] (.Tuple [e₁, e₂] k' p') c.env = pure (some [x₁, x₂]) :=
  ite_no (blk_fun ok) (ite_no (ne_true_of_eq_false hs) (sw_names (l := [x₁, x₂]) (fun l => if [e₁, e₂].all (foldedForSure 8) = true then pure none else if [e₁, e₂].all (constantsAlone 8) = true then unsupported _ else pure (some l))
    (by exact fm2 (if_pos (loc_and h₁ (beq_self_eq_true _))) (if_pos (loc_and h₂ hl)))
    (dups_no (dups_cons (by simpa using hne) rfl)) (ite_no (ne_true_of_eq_false hf) (ite_no (ne_true_of_eq_false hc) rfl))))
theorem swapped3 {x₁ x₂ x₃ : Str} {p₁ p₂ p₃ p p' : Pos} {k k' : Nat} {e₁ e₂ e₃ : Expr} (ok : c.Ok) (h₁ : c.env.kindOf x₁ = some .local) (h₂ : c.env.kindOf x₂ = some .local) (h₃ : c.env.kindOf x₃ = some .local) (hne : x₁ ≠ x₂ ∧ x₁ ≠ x₃ ∧ x₂ ≠ x₃) (hl : (p₂.line == p₁.line && p₃.line == p₁.line) = true)
    (hs : ([e₁, e₂, e₃].any fun e => PySem.swappedStores.match_5 (fun _ => Bool) e (fun _ _ => true) fun _ => false) = false) (hf : [e₁, e₂, e₃].all (foldedForSure 8) = false) (hc : [e₁, e₂, e₃].all (constantsAlone 8) = false) :
    swappedStores [.Tuple [.Name x₁ p₁, .Name x₂ p₂, .Name x₃ p₃] k p] (.Tuple [e₁, e₂, e₃] k' p') c.env = pure (some [x₁, x₂, x₃]) :=
  ite_no (blk_fun ok) (ite_no (ne_true_of_eq_false hs) (sw_names (l := [x₁, x₂, x₃]) (fun l => if [e₁, e₂, e₃].all (foldedForSure 8) = true then pure none else if [e₁, e₂, e₃].all (constantsAlone 8) = true then unsupported _ else pure (some l))
    (by exact fm3 (if_pos (loc_and h₁ (beq_self_eq_true _))) (if_pos (loc_and h₂ (Bool.and_eq_true_iff.mp hl).1)) (if_pos (loc_and h₃ (Bool.and_eq_true_iff.mp hl).2)))
    (dups_no (dups_cons (by simpa using ⟨hne.1, hne.2.1⟩) (dups_cons (by simpa using hne.2.2) rfl))) (ite_no (ne_true_of_eq_false hf) (ite_no (ne_true_of_eq_false hc) rfl))))
noncomputable def PutN : List Str → List V → Loc → Loc → Prop
  | [], [], r, r' => r = r'
  | x :: xs, v :: vs, r, r' => ∃ r₁, Put x v r r₁ ∧ PutN xs vs r₁ r'
  | _, _, _, _ => False
theorem bindN (ok : c.Ok) (oy : y.Ok T c) {ns : List Str} : ∀ {vs : List V} {vals : List Value} {r r' : Loc} {S : Led} {s : Shared}, (∀ x ∈ ns, c.env.kindOf x = some .local) → PutN ns vs r r' → All2 RV vs vals → St T c y r S s → Kn r' S → wpAny (model T.prog T.w) y.A (assignInOrder (ns.map fun n => bindName c.env n) vals) (fun _ => PostF T c y Kn Kr .next) NoE s := by
  induction ns with
  | nil =>
    intro vs vals r r' S s hk hp a2 X k
    cases a2 with
    | nil => exact wpAny_pure ⟨r, S, X, (show r = r' from hp) ▸ k⟩
    | cons => exact hp.elim
  | cons x ns ih =>
    intro vs vals r r' S s hk hp a2 X k
    cases a2 with
    | nil => exact hp.elim
    | cons rv a2 => exact hp.elim fun r₁ q => wpAny_bind (wpAny_holding (wpAny_bindName (storeV ok oy X rv q.1 (.inl (hk x (.head _))) fun h' t Y => ih (fun x hx => hk x (.tail _ hx)) q.2 a2 Y k)))
theorem All2.reverse {α β : Type} {R : α → β → Prop} {l : List α} {l' : List β} (h : All2 R l l') : All2 R l.reverse l'.reverse := by
  induction h with
  | nil => exact .nil
  | cons a _ ih => rw [List.reverse_cons, List.reverse_cons]; exact ih.append (.cons a .nil)
theorem WS.swapN {elts es : List Expr} {k k' : Nat} {p p' pos : Pos} {ns : List Str} (ok : c.Ok) (hk : ∀ x ∈ ns, c.env.kindOf x = some .local) (hz : ns.length ≤ 1000) (h : WL T c r S es fun vs S₁ => ns.length = vs.length ∧ ∃ r', PutN ns.reverse vs.reverse r r' ∧ Kn r' S₁)
    (hw : swappedStores [.Tuple elts k p] (.Tuple es k' p') c.env = pure (some ns)) (hs : swapsWithSole [.Tuple elts k p] (.Tuple es k' p') pos.line c.env = pure false) : WS T c r S (.Assign [.Tuple elts k p] (.Tuple es k' p') pos) Kn Kr := fun y oy s X => by
  refine PyProof.Rows.Assign_Tuple_swapped (names := ns) (Tuple_ (wpAny_mono (h y oy s p' X) (fun vs' s₁ q => q.elim fun vs S₁ rvs X₁ q => q.2.elim fun r' q2 => ?_) fun _ _ e => e)) hs hw
  have hl : ns.length = vs'.toArray.size := q.1.trans rvs.length
  refine wpAny_newObj_type ?_ (by show vs'.toArray.size ≤ sizeLine; rw [← hl, sizeLine_eq]; exact Nat.le_trans hz (by decide))
  have kp : ∀ b o, s₁.heap.get? b = some o → (s₁.heap.push { cls := .type "tuple", data := .seq vs'.toArray }).get? b = some o := fun b o e => Heap.get?_push_of_some _ e
  rw [hl]
  exact PyProof.Rows.unpackItems_tuple (items := vs'.toArray) oy.hand ⟨_, Heap.get?_push_size _ rfl, rfl, _, rfl⟩ fun h' hx => 
    bindN ok oy (fun x hx => hk x (List.mem_reverse.mp hx)) q2.1 rvs.reverse (X₁.ext (h' := h') (t := s₁.toks) fun b o e => hx b o (neN (Nat.ne_of_lt (Heap.lt_size (kp b o e)))) (kp b o e)) q2.2
theorem WL.mono {es : List Expr} {K K' : List V → Led → Prop} (h : WL T c r S es K) (m : ∀ vs S, K vs S → K' vs S) : WL T c r S es K' := fun y oy s p X =>
  wpAny_mono (h y oy s p X) (fun _ _ q => q.elim fun vs S a b k => ⟨vs, S, a, b, m vs S k⟩) fun _ _ e => e
theorem WS.swap2 {x₁ x₂ : Str} {p₁ p₂ p p' pos : Pos} {k k' : Nat} {e₁ e₂ : Expr} (ok : c.Ok) (h₁ : c.env.kindOf x₁ = some .local) (h₂ : c.env.kindOf x₂ = some .local) (hne : x₁ ≠ x₂)
    (h : WL T c r S [e₁, e₂] fun vs S₁ => ∃ v₁ v₂, vs = [v₁, v₂] ∧ ∃ r₁ r', Put x₂ v₂ r r₁ ∧ Put x₁ v₁ r₁ r' ∧ Kn r' S₁)
    (hl : (p₂.line == p₁.line) = true := by rfl) (hs : ([e₁, e₂].any fun e => PySem.swappedStores.match_5 (fun _ => Bool) e (fun _ _ => true) fun _ => false) = false := by rfl) (hf : [e₁, e₂].all (foldedForSure 8) = false := by rfl) (hc : [e₁, e₂].all (constantsAlone 8) = false := by rfl) :
    WS T c r S (.Assign [.Tuple [.Name x₁ p₁, .Name x₂ p₂] k p] (.Tuple [e₁, e₂] k' p') pos) Kn Kr :=
  WS.swapN (ns := [x₁, x₂]) ok (List.forall_mem_cons.mpr ⟨h₁, List.forall_mem_singleton.mpr h₂⟩) (Nat.le_of_ble_eq_true rfl) (h.mono fun vs S₁ q => by
    obtain ⟨v₁, v₂, rfl, r₁, r', P₂, P₁, kn⟩ := q
    exact ⟨rfl, r', ⟨r₁, P₂, r', P₁, rfl⟩, kn⟩) (swapped2 ok h₁ h₂ hne hl hs hf hc) rfl
theorem WS.swap3 {x₁ x₂ x₃ : Str} {p₁ p₂ p₃ p p' pos : Pos} {k k' : Nat} {e₁ e₂ e₃ : Expr} (ok : c.Ok) (h₁ : c.env.kindOf x₁ = some .local) (h₂ : c.env.kindOf x₂ = some .local) (h₃ : c.env.kindOf x₃ = some .local) (hne : x₁ ≠ x₂ ∧ x₁ ≠ x₃ ∧ x₂ ≠ x₃)
    (h : WL T c r S [e₁, e₂, e₃] fun vs S₁ => ∃ v₁ v₂ v₃, vs = [v₁, v₂, v₃] ∧ ∃ r₁ r₂ r', Put x₃ v₃ r r₁ ∧ Put x₂ v₂ r₁ r₂ ∧ Put x₁ v₁ r₂ r' ∧ Kn r' S₁)
    (hl : (p₂.line == p₁.line && p₃.line == p₁.line) = true := by rfl) (hs : ([e₁, e₂, e₃].any fun e => PySem.swappedStores.match_5 (fun _ => Bool) e (fun _ _ => true) fun _ => false) = false := by rfl) (hf : [e₁, e₂, e₃].all (foldedForSure 8) = false := by rfl) (hc : [e₁, e₂, e₃].all (constantsAlone 8) = false := by rfl) :
    WS T c r S (.Assign [.Tuple [.Name x₁ p₁, .Name x₂ p₂, .Name x₃ p₃] k p] (.Tuple [e₁, e₂, e₃] k' p') pos) Kn Kr :=
  WS.swapN (ns := [x₁, x₂, x₃]) ok (List.forall_mem_cons.mpr ⟨h₁, List.forall_mem_cons.mpr ⟨h₂, List.forall_mem_singleton.mpr h₃⟩⟩) (Nat.le_of_ble_eq_true rfl) (h.mono fun vs S₁ q => by
    obtain ⟨v₁, v₂, v₃, rfl, r₁, r₂, r', P₃, P₂, P₁, kn⟩ := q
    exact ⟨rfl, r', ⟨r₁, P₃, r₂, P₂, r', P₁, rfl⟩, kn⟩) (swapped3 ok h₁ h₂ h₃ hne hl hs hf hc) rfl

/-! an instance of an own class -/
theorem under_call (A : Around) (C : Addr) (vals : List Value) : (A.under (.builtin "type.__call__" ⟨.ref C :: vals, []⟩)).handled = A.handled ∧ (A.under (.builtin "type.__call__" ⟨.ref C :: vals, []⟩)).depth ≤ A.depth + 1 ∧ (A.under (.builtin "type.__call__" ⟨.ref C :: vals, []⟩)).units ≤ A.units + 4 := by
  refine ⟨rfl, ?_, ?_⟩
  · show A.depth + Code.weight _ ≤ _
    have : Code.weight (.builtin "type.__call__" ⟨.ref C :: vals, []⟩) = 1 := by kernel_rfl
    (lia)
  · show A.units + Code.cUnits _ ≤ _
    have e : Code.cUnits (.builtin "type.__call__" ⟨.ref C :: vals, []⟩) = 1 := by kernel_rfl
    (lia)
theorem Call.cls {n : Nat} {C fI : Addr} {args : List V} (hm : makesIn T.K C = true) (hi : findIn T.K (.ref C) "__init__" = some (some (.ref fI))) (hf : typeIn T.K (.ref fI) = some (.type "function"))
    (h : ∀ x dx, CallC T n (.ref fI) (.ref x :: args) (S ++ [(x, .inst C dx), (dx, .flds [])]) fun v S' => v = .none ∧ K (.ref x) S') : Call T (n + 2) (.ref C) args S K := by
  intro A g s f' vals h1 h2 h3 h4 h5 h6 h7 h8 h9 h10
  cases h9
  obtain ⟨hh, gs, d, t, os⟩ := s
  have X : T.K.In hh := fun a o e => h7.keep a o (h4.k a o e)
  obtain ⟨u1, u2, u3⟩ := under_call A C vals
  have hx : ((hh.push emptyDict).push (instObj C hh.objs.size)).get? (hh.objs.size + 1) = some (instObj C hh.objs.size) := by heap_get
  have hd : ((hh.push emptyDict).push (instObj C hh.objs.size)).get? hh.objs.size = some emptyDict := Heap.get?_push_of_some _ (Heap.get?_push_size _ rfl)
  have kp : ∀ b o, hh.get? b = some o → ((hh.push emptyDict).push (instObj C hh.objs.size)).get? b = some o := fun b o e => Heap.get?_push_of_some _ (Heap.get?_push_of_some _ e)
  have lt : ∀ p ∈ S, p.1 < hh.objs.size := fun p hp => by
    obtain ⟨o, e⟩ := (h7.at_ p hp).some
    exact Heap.lt_size e
  have gn : ∀ b, hh.objs.size ≤ b → g.get? b = none := fun b hb => Heap.get?_none_of_le (Nat.le_trans h8 hb)
  have O : Own g ((hh.push emptyDict).push (instObj C hh.objs.size)) (S ++ [(hh.objs.size + 1, O.inst C hh.objs.size), (hh.objs.size, O.flds [])]) := by
    refine ⟨fun b o e => kp b o (h7.keep b o e), fun p hp => ?_, fun p hp => ?_, ?_⟩
    · rcases List.mem_append.mp hp with hp | hp
      · exact (h7.at_ p hp).keep (kp _)
      · simp only [List.mem_cons, List.not_mem_nil, or_false] at hp
        rcases hp with rfl | rfl
        · exact hx
        · exact ⟨[], 0, hd, .nil, .nil⟩
    · rcases List.mem_append.mp hp with hp | hp
      · exact h7.off p hp
      · simp only [List.mem_cons, List.not_mem_nil, or_false] at hp
        rcases hp with rfl | rfl
        · exact gn _ (Nat.le_succ _)
        · exact gn _ (Nat.le_refl _)
    · rw [List.map_append, List.nodup_append]
      refine ⟨h7.nodup, ?_, fun a ha b hb e => ?_⟩
      · simp
      · obtain ⟨p, hp, rfl⟩ := List.mem_map.mp ha
        have := lt p hp
        simp at hb
        rcases hb with rfl | rfl <;> rw [e] at this
        · exact absurd this (Nat.not_lt.mpr (Nat.le_succ _))
        · exact absurd this (Nat.lt_irrefl _)
  refine wpAny_call (make_core (makes_of X hm) (looks_findIn X hi) (fun self => bind_fn X self hf) (.inl rfl) ?_)
  refine codeAny_mono (h (hh.objs.size + 1) hh.objs.size (A.under (.builtin "type.__call__" ⟨.ref C :: vals, []⟩)) g _ (.ref fI) (.ref (hh.objs.size + 1) :: vals) (u1.trans h1) (by (lia)) (by (lia)) h4 h5 h6 O (by
    show g.objs.size ≤ ((hh.push emptyDict).push (instObj C hh.objs.size)).objs.size
    rw [Heap.size_push, Heap.size_push]
    have : g.objs.size ≤ hh.objs.size := h8
    (lia)) rfl (.cons rfl h10)) fun r s' q => ?_
  rcases r with e | (v | _ | _ | _) <;> try exact q.elim
  obtain ⟨v0, S', rv, g1, g2, O', rfl, k⟩ := q
  cases rv
  exact ⟨rfl, .ref _, S', rfl, g1, g2, O', k⟩

/-! small statements -/
theorem WS.exprAny {e : Expr} {pos : Pos} (ok : c.Ok) (h : WE T c r S e fun v S₁ => Kn r S₁) (hs : swapsWith e none pos.line c.env = pure false := by rfl) : WS T c r S (.Expr e pos) Kn Kr := fun y oy s X =>
  wpAny_Expr_any (wpAny_mono (h y oy s X) (fun v' s₁ q => q.elim fun v S₁ rv X₁ k => ⟨r, S₁, X₁, k⟩) fun _ _ e => e) (by unfold interactive; rw [ok.kind]; rfl) hs
theorem WS.aug {x : Str} {op : Operator} {e : Expr} {p pos : Pos} {a : Int} (ok : c.Ok) (hk : c.env.kindOf x = some .local) (hm : (x, V.int a) ∈ r) (hop : op = .Add ∨ op = .Sub) (h : WE T c r S e fun v S₁ => ∃ b r', v = .int b ∧ Put x (.int (if op = .Add then a + b else a - b)) r r' ∧ Kn r' S₁) : WS T c r S (.AugAssign (.Name x p) op e pos) Kn Kr := fun y oy s X => by
  obtain ⟨m, F, nm⟩ := X.frame oy
  rcases nm _ hm with ⟨_, v', hv, hr⟩ | ⟨hk', _⟩
  · obtain ⟨t, rfl⟩ := hr
    refine wpAny_AugAssign_Name (wpAny_loadName_local ok.kind hk F.ns hv (wpAny_mono (h y oy s X) (fun v' s₁ q => q.elim fun v S₁ rv X₁ ⟨b, r', e1, P, k⟩ => ?_) fun _ _ e => e))
    subst e1
    obtain ⟨u, rfl⟩ := rv
    rcases hop with rfl | rfl
    · exact PySem.wpAny_iadd_int (storeV ok oy (X₁.tok (t := s₁.toks + 1)) (v := .int (a + b)) ⟨_, rfl⟩ (by simpa using P) (.inl hk) fun h' t Y => ⟨r', S₁, Y, k⟩)
    · exact PyProof.Rows.isub_int (storeV ok oy (X₁.tok (t := s₁.toks + 1)) (v := .int (a - b)) ⟨_, rfl⟩ (by simpa using P) (.inl hk) fun h' t Y => ⟨r', S₁, Y, k⟩)
  · rw [hk] at hk'; cases hk'
theorem WS.while_ {test : Expr} {body : List Stmt} {pos : Pos} (I : Nat → Loc → Led → Prop) (turn : ∀ n r S, I n r S → WT T c r S test fun b S' => (b = true → WSs T c r S' body (fun r'' S'' => ∃ m, m < n ∧ I m r'' S'') Kr) ∧ (b = false → Kn r S')) (n : Nat) (h : I n r S) : WS T c r S (.While test body [] pos) Kn Kr := fun y oy s X => by
  refine wpAny_While (codeAny_mono (codeAny_whileLoop (R := fun res s' => match res with | .ok f => PostF T c y Kn Kr f s' | .error _ => False) (fun n s => ∃ r S, St T c y r S s ∧ I n r S) (fun n s ⟨r, S, X, hI⟩ => ?_) n ⟨r, S, X, h⟩) fun res s' q => by cases res <;> first | exact q | exact q.elim)
  refine wpAny_mono (turn n r S hI y oy s X) (fun b s₂ q => q.elim fun S' X' ⟨k1, k2⟩ => ?_) fun _ _ e => e.elim
  cases b with
  | true =>
    simp only [if_true]
    refine wpAny_mono (k1 rfl y oy s₂ X') (fun f s₃ q => ?_) fun _ _ e => e.elim
    cases f with
    | next => obtain ⟨r'', S'', X'', m, hm, hI'⟩ := q; exact ⟨m, hm, r'', S'', X'', hI'⟩
    | ret v => exact q
    | brk => exact q.elim
    | cont => exact q.elim
  | false =>
    simp only [Bool.false_eq_true, if_false]
    exact wpAny_execs_nil ⟨r, S', X', k2 rfl⟩
theorem WS.try_ {body : List Stmt} {h₀ : ExceptHandler} {hs : List ExceptHandler} {pos : Pos} (h : WSs T c r S body Kn Kr) : WS T c r S (.Try body (h₀ :: hs) [] [] pos) Kn Kr := fun y oy s X => by
  refine wpAny_Try_except (wpAny_mono (h y oy s X) (fun f s₁ q => ?_) fun _ _ e => e.elim)
  cases f with
  | next => obtain ⟨r', S', X', k⟩ := q; exact wpAny_execs_nil ⟨r', S', X', k⟩
  | ret v => exact q
  | brk => exact q.elim
  | cont => exact q.elim
theorem WT.and3 {e₁ e₂ e₃ : Expr} {pos : Pos} (h : WT T c r S e₁ fun b S₁ => (b = true → WT T c r S₁ e₂ fun b S₂ => (b = true → WT T c r S₂ e₃ B) ∧ (b = false → B false S₂)) ∧ (b = false → B false S₁)) : WT T c r S (.BoolOp .And [e₁, e₂, e₃] pos) B := fun y oy s X =>
  isTrue_and (wpAny_mono (h y oy s X) (fun b s₁ q => q.elim fun S₁ X₁ k => by
    cases b with
    | false => exact ⟨S₁, X₁, k.2 rfl⟩
    | true => exact isTrue_and (wpAny_mono (k.1 rfl y oy s₁ X₁) (fun b₂ s₂ q => q.elim fun S₂ X₂ k₂ => by
        cases b₂ with
        | false => exact ⟨S₂, X₂, k₂.2 rfl⟩
        | true => exact isTrue_and (wpAny_mono (k₂.1 rfl y oy s₂ X₂) (fun b₃ s₃ h₃ => by cases b₃ <;> first | exact h₃ | exact isTrue_and_nil h₃) fun _ _ e => e)) fun _ _ e => e)) fun _ _ e => e)

/-! looked for in a list -/
theorem CmpV.inL {a : Int} {l : Addr} {xs : List Int} (hm : (l, O.list (zs xs)) ∈ S) (h : B (xs.any (· == a)) S) : CmpV T c r S .In (.int a) (.ref l) B := by
  rintro _ _ ⟨t, rfl⟩ rfl y oy s X
  obtain ⟨its, il, a2⟩ := isList X hm
  exact in_list_ints il (intsAre a2) ⟨_, S, rfl, X, h⟩
theorem strsAre : ∀ {xs : List Str} {its : List Value}, All2 RV (xs.map V.str) its → StrsAre its xs
  | [], _, h => by cases h; exact .nil
  | x :: xs, _, h => by
    cases h with
    | cons rv h =>
      obtain ⟨t, rfl⟩ := rv
      exact .cons _ _ (strsAre h)
theorem CmpV.inT {a : Str} {l : Addr} {xs : List Str} (hm : (l, O.tup (xs.map V.str)) ∈ S) (h : B (xs.any (· == a)) S) : CmpV T c r S .In (.str a) (.ref l) B := by
  rintro _ _ ⟨t, rfl⟩ rfl y oy s X
  obtain ⟨its, il, a2⟩ := isTup X hm
  exact in_tuple_strs il (strsAre a2) ⟨_, S, rfl, X, h⟩

/-! append -/
theorem WE.append {o e : Expr} {ap pos : Pos} {K : V → Led → Prop} (h : WE T c r S o fun ov S₁ => ∃ l vs₀, ov = .ref l ∧ (l, O.list vs₀) ∈ S₁ ∧ WE T c r S₁ e fun v S₂ => ∃ vs S₃, Chg l (.list vs) (.list (vs ++ [v])) S₂ S₃ ∧ vs.length ≤ 1000000 ∧ K .none S₃)
    (hbase : attributeBase o (Str.ofString "append") c.env (eval o c.env) = eval o c.env := by rfl) (hs : starEach [e] c.env = [(false, eval e c.env)] := by rfl) (hline : (ap.endLine == pos.line) = true := by rfl) : WE T c r S (.Call (.Attribute o (Str.ofString "append") ap) [e] [] pos) K := fun y oy s X => by
  refine Call_method1 hbase hs hline (wpAny_mono (h y oy s X) (fun o' s₁ q => q.elim fun ov S₁ ro X₁ ⟨l, vs₀, e1, hm, k⟩ => ?_) fun _ _ e => e)
  subst e1
  cases ro
  obtain ⟨its₀, n₀, e₀, a₀⟩ := X₁.own.at_ _ hm
  refine ⟨"list", "list.append", PySem.F.plainAttrs_list, PySem.F.slot_list_append, PySem.F.type_list_append, ⟨_, e₀, rfl⟩, (fun a e => by cases e; exact ⟨_, e₀, rfl⟩), ?_⟩
  refine Calls.callWith_builtin rfl (Calls.evalArgs_plain (Calls.spliced_cons (wpAny_mono (k y oy s₁ X₁) (fun v' s₂ q => q.elim fun v S₂ rv X₂ ⟨vs, S₃, hc, hz, k2⟩ => Calls.spliced_nil ?_) fun _ _ e => e)))
  obtain ⟨its, n, e, a2⟩ := X₂.own.at_ _ hc.mem
  refine wpAny_list_append_plain (l := l) (items := its.toArray) ⟨n, e⟩ (fun h' ⟨n', e'⟩ hs => ⟨.none, S₃, rfl, X₂.upd (t := s₂.toks) hc hs ⟨its ++ [v'], n', by simpa using e', a2.append (.cons rv .nil)⟩, k2⟩) (by rw [List.size_toArray, ← a2.length, sizeLine_eq]; (lia))
end
end Mine
end

section
set_option maxRecDepth 100000
namespace Mine
open PySem PySem.W PySem.Calls PyProof.Rows PySem.Spec

section
variable {T : TC} {c : Cx} {y : Fx} {r : Loc} {S : Led} {K : V → Led → Prop} {B : Bool → Led → Prop} {Kn : Loc → Led → Prop} {Kr : V → Led → Prop}

/-! a table shown, and looked into at once -/
noncomputable def WPs (T : TC) (c : Cx) (r : Loc) (S : Led) (keys : List (Option Expr)) (values : List Expr) (K : List (Str × V) → Led → Prop) : Prop := ∀ y : Fx, y.Ok T c → ∀ s pos, St T c y r S s →
  wpAny (model T.prog T.w) y.A (evalPairs (pairTrees keys values c.env pos)) (fun vs s' => ∃ (kvs : List (Str × V)) (S' : Led), All2 (fun (p : Str × V) (q : Value × Value) => (∃ t, q.1 = .str p.1 t) ∧ RV p.2 q.2) kvs vs ∧ St T c y r S' s' ∧ K kvs S') NoE s
theorem WPs.nil {K : List (Str × V) → Led → Prop} (h : K [] S) : WPs T c r S [] [] K := fun y oy s pos X => pairTrees_nil_walk ⟨[], S, .nil, X, h⟩
theorem WPs.cons {K : List (Str × V) → Led → Prop} {k : Str} {n : Nat} {p : Pos} {v : Expr} {ks : List (Option Expr)} {vs : List Expr} (h : WE T c r S v fun a S₁ => WPs T c r S₁ ks vs fun kvs S₂ => K ((k, a) :: kvs) S₂) : WPs T c r S (some (.Constant (.str k) n p) :: ks) (v :: vs) K := fun y oy s pos X =>
  pairTrees_cons_walk (Constant_str (wpAny_mono (h y oy _ X.tok) (fun v' s₁ ⟨a, S₁, ra, X₁, k₁⟩ => wpAny_mono (k₁ y oy s₁ pos X₁) (fun r' s₂ ⟨kvs, S₂, a2, X₂, k₂⟩ => ⟨_, S₂, .cons ⟨⟨_, rfl⟩, ra⟩ a2, X₂, k₂⟩) fun _ _ e => e) fun _ _ e => e))
theorem strKeys {kvs : List (Str × V)} {vs : List (Value × Value)} (h : All2 (fun (p : Str × V) (q : Value × Value) => (∃ t, q.1 = .str p.1 t) ∧ RV p.2 q.2) kvs vs) : allStrKeys vs = true ∧ (strPairs vs).map (·.1) = kvs.map (·.1) ∧ ∀ k a, kvs.lookup k = some a → ∃ v, valueAt (strPairs vs) k = some v ∧ RV a v := by
  induction h with
  | nil => exact ⟨rfl, rfl, fun _ _ e => by cases e⟩
  | @cons p q l l' r h ih =>
    obtain ⟨⟨t, e⟩, rv⟩ := r
    obtain ⟨q1, q2⟩ := q
    dsimp only at e rv
    subst e
    refine ⟨ih.1, ?_, fun k a e => ?_⟩
    · show p.1 :: _ = p.1 :: _
      rw [ih.2.1]
    · obtain ⟨pk, pv⟩ := p
      rw [List.lookup_cons] at e
      show ∃ v, valueAt ((pk, q2) :: strPairs l') k = some v ∧ _
      unfold valueAt
      rw [List.find?_cons]
      by_cases hk : k = pk
      · subst hk
        simp at e
        subst e
        exact ⟨q2, by simp, rv⟩
      · have h1 : (k == pk) = false := beq_eq_false_iff_ne.mpr hk
        have h2 : decide (pk = k) = false := decide_eq_false fun z => hk z.symm
        rw [h1] at e
        simp only [h2]
        exact ih.2.2 k a e
theorem WE.subDict {keys : List (Option Expr)} {values : List Expr} {i : Expr} {dp pos : Pos} (hall : keys.all (·.isSome) = true) (hl : keys.length = values.length) (h0 : keys ≠ []) (hlen : keys.length ≤ 15)
    (h : WPs T c r S keys values fun kvs S₁ => (kvs.map (·.1)).Nodup ∧ WE T c r S₁ i fun k S₂ => ∃ x v, k = .str x ∧ kvs.lookup x = some v ∧ K v S₂)
    (hs : ∀ o x t, subscripted i false (.ref o) (.str x t) = operate [.ref o, .str x t] (getItem (.ref o) (.str x t)) := by intro _ _ _; with_unfolding_all rfl) : WE T c r S (.Subscript (.Dict keys values dp) i pos) K := fun y oy s X => by
  let D := s.heap.objs.size
  have kp : ∀ b o, s.heap.get? b = some o → (s.heap.push { cls := .type "dict", data := .dict #[] }).get? b = some o := fun b o e => Heap.get?_push_of_some _ e
  have X₀ : St T c y r S { s with heap := s.heap.push { cls := .type "dict", data := .dict #[] } } := X.ext (t := s.toks) kp
  have spD : Sep c y S [D] := X.low fun b hb => by rw [List.mem_singleton.mp hb]; exact Nat.le_refl _
  refine X₀.shield oy fun g' oy' X₀' hg back => ?_
  have hD0 : (s.heap.push { cls := .type "dict", data := .dict #[] }).get? D = some { cls := .type "dict", data := .dict #[] } := Heap.get?_push_size _ rfl
  have gD : g'.get? D = some { cls := .type "dict", data := .dict #[] } := by
    obtain ⟨q1, q2, q3, q4⟩ := spD D (.head _)
    exact hg D _ hD0 q3 q2 q4
  refine Subscript_ (wpAny_Dict_walk (knd := strKind T.prog T.w) hall hl h0 hlen (wpAny_mono (h _ oy' _ dp X₀') (fun vs s₁ ⟨kvs, S₁, a2, X₁, nd, k⟩ => ?_) fun _ _ e => e))
  obtain ⟨sk, sn, sv⟩ := strKeys a2
  have sp1 : Sep c y S₁ [D] := spD.more (s := s) X₁ fun b hb => by rw [List.mem_singleton.mp hb]; exact ⟨_, gD⟩
  have hdo : s₁.heap.DictOf (strKind T.prog T.w) D [] := by
    refine ⟨_, #[], 0, X₁.own.keep _ _ gD, ⟨rfl, rfl, rfl⟩, rfl, ?_, ?_, List.nodup_nil⟩
    · intro e he; simp at he
    · constructor
  refine display_done_str sk (by rw [sn]; exact nd) hdo fun h' hdict hsame => ?_
  have X₂ : St T c y r S₁ { s₁ with heap := h', toks := s₁.toks + vs.length } := (back _ _ _ X₁).off sp1 fun b o hb e => (hsame.2 b fun z => hb (by rw [z]; exact .head _)).trans e
  refine X₂.shield oy fun g₂ oy₂ X₂' hg₂ back₂ => ?_
  have hm := hdict.mapOf
  obtain ⟨oD, es, ep, hoD, r1⟩ := hm
  have gD2 : g₂.get? D = some oD := by
    obtain ⟨q1, q2, q3, q4⟩ := sp1 D (.head _)
    exact hg₂ D _ hoD q3 q2 q4
  refine wpAny_mono (k _ oy₂ _ X₂') (fun i' s₃ q => q.elim fun iv S₂ ri X₃ ⟨x, v, e1, hv, kk⟩ => ?_) fun _ _ e => e
  subst e1
  obtain ⟨t, rfl⟩ := ri
  obtain ⟨v', hv', rv⟩ := sv x v hv
  have hm3 : s₃.heap.MapOf (strKind T.prog T.w) D (valueAt (strPairs vs)) := ⟨oD, es, ep, X₃.own.keep _ _ gD2, r1⟩
  exact tail_any hm3.typeIs PySem.slot_dict_getitem.lookup (wpAny_getItem_of (knd := strKind T.prog T.w) (k := x) (by simp [PySem.strKind, Value.isStrOf]) hm3 hv' ⟨v, S₂, rv, (back₂ _ _ _ X₃).tok, kk⟩) (hs _ _ _)
end
end Mine
end

section
set_option maxRecDepth 100000
namespace Mine
open PySem PySem.W PySem.Calls PyProof.Rows PySem.Spec

/-! lists of a known length; what a call says, taken apart -/
theorem vals0 {P : List Value → Prop} (h : P []) (vals : List Value) (e : vals.length = 0) : P vals := (List.eq_nil_of_length_eq_zero e).symm ▸ h
theorem valsS {P : List Value → Prop} {n : Nat} (h : ∀ a (l : List Value), l.length = n → P (a :: l)) : ∀ vals : List Value, vals.length = n + 1 → P vals
  | a :: l, e => h a l (Nat.succ.inj e)
section
variable {G : V → Led → Prop} {α β γ δ ε ζ : Type}
theorem ex0 {v : V} {E : Led} (h : G v E) : ∀ v' S', (v' = v ∧ S' = E) → G v' S' := fun v' S' p => p.1.symm ▸ p.2.symm ▸ h
theorem ex1 {v : α → V} {E : α → Led} (h : ∀ a, G (v a) (E a)) : ∀ v' S', (∃ a, v' = v a ∧ S' = E a) → G v' S' := fun v' S' p => p.elim fun a p => ex0 (h a) v' S' p
theorem ex2 {v : α → β → V} {E : α → β → Led} (h : ∀ a b, G (v a b) (E a b)) : ∀ v' S', (∃ a b, v' = v a b ∧ S' = E a b) → G v' S' := fun v' S' p => p.elim fun a p => ex1 (h a) v' S' p
theorem ex3 {v : α → β → γ → V} {E : α → β → γ → Led} (h : ∀ a b c, G (v a b c) (E a b c)) : ∀ v' S', (∃ a b c, v' = v a b c ∧ S' = E a b c) → G v' S' := fun v' S' p => p.elim fun a p => ex2 (h a) v' S' p
theorem ex4 {v : α → β → γ → δ → V} {E : α → β → γ → δ → Led} (h : ∀ a b c d, G (v a b c d) (E a b c d)) : ∀ v' S', (∃ a b c d, v' = v a b c d ∧ S' = E a b c d) → G v' S' := fun v' S' p => p.elim fun a p => ex3 (h a) v' S' p
theorem ex5 {v : α → β → γ → δ → ε → V} {E : α → β → γ → δ → ε → Led} (h : ∀ a b c d e, G (v a b c d e) (E a b c d e)) : ∀ v' S', (∃ a b c d e, v' = v a b c d e ∧ S' = E a b c d e) → G v' S' := fun v' S' p => p.elim fun a p => ex4 (h a) v' S' p
theorem ex6 {v : α → β → γ → δ → ε → ζ → V} {E : α → β → γ → δ → ε → ζ → Led} (h : ∀ a b c d e f, G (v a b c d e f) (E a b c d e f)) : ∀ v' S', (∃ a b c d e f, v' = v a b c d e f ∧ S' = E a b c d e f) → G v' S' := fun v' S' p => p.elim fun a p => ex5 (h a) v' S' p
end

/-- a premise that lia is not to see -/
noncomputable def Hid (p : Prop) : Prop := p
theorem Hid.mk {p : Prop} (h : p) : Hid p := h

/-! expressions without effect: the value alone, whatever comes behind -/
noncomputable def SX (T : TC) (c : Cx) (r : Loc) (S : Led) (e : Expr) (v : V) : Prop := ∀ K : V → Led → Prop, K v S → WE T c r S e K
noncomputable def WLm (T : TC) (c : Cx) (r : Loc) (S : Led) (es : List Expr) (K : List V → Led → Prop) : Prop := ∀ y : Fx, y.Ok T c → ∀ s pos, St T c y r S s → wpAny (model T.prog T.w) y.A (spliced (backTo pos (es.map fun e => (false, eval e c.env)))) (PostL T c y r K) NoE s
noncomputable def SXs (T : TC) (c : Cx) (r : Loc) (S : Led) (es : List Expr) (vs : List V) : Prop := ∀ K : List V → Led → Prop, K vs S → WLm T c r S es K
section
variable {T : TC} {c : Cx} {r : Loc} {S : Led} {K : V → Led → Prop} {B : Bool → Led → Prop} {e l : Expr} {pos : Pos} {a b : Int}
theorem SX.name {x : Str} {v : V} (ok : c.Ok) (hm : (x, v) ∈ r) (hd : (x == ("__debug__" : Str)) = false := by decide) : SX T c r S (.Name x pos) v := fun K h => WE.name ok hm h hd
theorem SX.glob {x : Str} {v : V} (ok : c.Ok) (g : GlobIs T x v) (hk : c.env.kindOf x = some .globalImplicit) (hd : (x == ("__debug__" : Str)) = false := by decide) : SX T c r S (.Name x pos) v := fun K h => WE.glob ok g hk h hd
theorem SX.int {i : Int} {k : Nat} : SX T c r S (.Constant (.int i) k pos) (.int i) := fun K h => WE.int h
theorem SX.str {i : Str} {k : Nat} : SX T c r S (.Constant (.str i) k pos) (.str i) := fun K h => WE.str h
theorem SX.bool {i : Bool} {k : Nat} : SX T c r S (.Constant (.bool i) k pos) (.bool i) := fun K h => WE.bool h
theorem SX.none {k : Nat} : SX T c r S (.Constant .none k pos) .none := fun K h => WE.none h
inductive OpI : Operator → Int → Int → Int → Prop
  | add {a b : Int} : OpI .Add a b (a + b)
  | sub {a b : Int} : OpI .Sub a b (a - b)
  | and {a b : Int} : OpI .BitAnd a b (Builtin.bitAnd a b)
  | or {a b : Int} : OpI .BitOr a b (Builtin.bitOr a b)
  | mul {a b : Int} (h : -18446744073709551616 < b) (h' : b < 18446744073709551616) : OpI .Mult a b (a * b)
  | mod {a b : Int} (h : b ≠ 0) : OpI .Mod a b (a.fmod b)
  | div {a b : Int} (h : b ≠ 0) (h' : b.natAbs < 1073741824) : OpI .FloorDiv a b (a.fdiv b)
  | shr {a b : Int} (h : 0 ≤ b) : OpI .RShift a b (a.fdiv (2 ^ b.toNat))
theorem SX.bin {op : Operator} {n : Int} (h : SX T c r S l (.int a)) (h' : SX T c r S e (.int b)) (o : OpI op a b n) : SX T c r S (.BinOp l op e pos) (.int n) := fun K k => WE.bin (h _ (h' _ (by
  cases o with
  | add => exact BinV.add k
  | sub => exact BinV.sub k
  | and => exact BinV.and k
  | or => exact BinV.or k
  | mul h h' => exact BinV.mul ⟨h, h'⟩ k
  | mod h => exact BinV.mod h k
  | div h h' => exact BinV.div h h' k
  | shr h => exact BinV.shr h k)))
theorem SX.attr {C dx x : Addr} {fs : List (Str × V)} {name : Str} {v : V} (ok : c.Ok) (h : SX T c r S e (.ref x)) (q : AttrOk T C name) (hi : (x, O.inst C dx) ∈ S) (hj : (dx, O.flds fs) ∈ S) (hm : (name, v) ∈ fs) (hv : v.plain)
    (he : eval (.Attribute e name pos) c.env = (do
      let o ← eval e c.env
      standAt pos.atName
      let r ← holding [o] (getAttr o name true)
      letTemporaryGo e o r
      pure r) := by rfl) : SX T c r S (.Attribute e name pos) v := fun K k => WE.attr (h _ (GetV.own ok q hi hj hm hv k)) he
theorem WSs.gen {sts : List Stmt} {Kn : Loc → Led → Prop} {Kr : V → Led → Prop} (h : ∀ (kn : Loc → Led → Prop) (kr : V → Led → Prop), (∀ r S, Kn r S → kn r S) → (∀ v S, Kr v S → kr v S) → WSs T c r S sts kn kr) : WSs T c r S sts Kn Kr := h Kn Kr (fun _ _ x => x) fun _ _ x => x
section
variable {o i : Expr} {x name : Str} {p : Pos} {sts : List Stmt} {Kn : Loc → Led → Prop} {Kr : V → Led → Prop}
theorem WSs.asg (ok : c.Ok) (hk : c.env.kindOf x = some .local) (hs : swapsWith e (some (.Name x p)) pos.line c.env = pure false) (h : WE T c r S e fun v S' => Asg x v r (fun r' S' => WSs T c r' S' sts Kn Kr) S') : WSs T c r S (.Assign [.Name x p] e pos :: sts) Kn Kr := WSs.cons (WS.assign ok hk h hs)
theorem WSs.asgA (hs : swapsWith e (some (.Attribute o name p)) pos.line c.env = pure false) (h : WE T c r S e fun v S₁ => WE T c r S₁ o fun ov S₂ => SetV T c r S₂ ov name v fun S₃ => WSs T c r S₃ sts Kn Kr) : WSs T c r S (.Assign [.Attribute o name p] e pos :: sts) Kn Kr := WSs.cons (WS.assignAttr h hs)
theorem WSs.asgS (hs : swapsWith e (some (.Subscript o i p)) pos.line c.env = pure false) (h : WE T c r S e fun v S₁ => WE T c r S₁ o fun ov S₂ => WE T c r S₂ i fun iv S₃ => SetI T c r S₃ ov iv v fun S₄ => WSs T c r S₄ sts Kn Kr) : WSs T c r S (.Assign [.Subscript o i p] e pos :: sts) Kn Kr := WSs.cons (WS.assignSub h hs)
theorem WSs.expr (ok : c.Ok) (hs : swapsWith e Option.none pos.line c.env = pure false) (h : WE T c r S e fun v S₁ => WSs T c r S₁ sts Kn Kr) : WSs T c r S (.Expr e pos :: sts) Kn Kr := WSs.cons (WS.exprAny ok h hs)
end
theorem WP.sx {P : Option Int → Led → Prop} {i : Int} (h : SX T c r S e (.int i)) (k : P (Option.some i) S) : WP T c r S (Option.some e) P := WP.some (h _ ⟨i, rfl, k⟩)
theorem WE.cp {op : CmpOp} (hm : behindInMarks op e = false) (h : WE T c r S l fun a S₁ => WE T c r S₁ e fun b S₂ => CmpV T c r S₂ op a b fun d S₃ => K (.bool d) S₃) : WE T c r S (.Compare l [op] [e] pos) K := WE.cmp h hm
theorem WT.cp {op : CmpOp} (hm : behindInMarks op e = false) (h : WE T c r S l fun a S₁ => WE T c r S₁ e fun b S₂ => CmpV T c r S₂ op a b B) : WT T c r S (.Compare l [op] [e] pos) B := WT.cmp h hm
theorem WL.cs {L : List V → Led → Prop} {es : List Expr} (he : starEach (e :: es) c.env = (false, eval e c.env) :: starEach es c.env) (h : WE T c r S e fun v S₁ => WL T c r S₁ es fun vs S₂ => L (v :: vs) S₂) : WL T c r S (e :: es) L := WL.cons h he
theorem toKn {k G : Loc → Led → Prop} (h : ∀ r S, G r S → k r S) (x : G r S) : k r S := h r S x
theorem toKr {k G : V → Led → Prop} {v : V} (h : ∀ v S, G v S → k v S) (x : G v S) : k v S := h v S x
theorem WE.sx {v : V} (h : SX T c r S e v) (k : K v S) : WE T c r S e K := h K k
theorem SXs.nil : SXs T c r S [] [] := fun K h y oy s pos X => spliced_nil ⟨[], S, .nil, X, h⟩
theorem WLm.cons {L : List V → Led → Prop} {e : Expr} {es : List Expr} (h : WE T c r S e fun v S₁ => WLm T c r S₁ es fun vs S₂ => L (v :: vs) S₂) : WLm T c r S (e :: es) L := fun y oy s pos X =>
  spliced_cons (wpAny_mono (h y oy s X) (fun v' s₁ q => q.elim fun v S₁ rv X₁ k => wpAny_mono (k y oy s₁ pos X₁) (fun vs' s₂ q => q.elim fun vs S₂ rvs X₂ k2 => ⟨v :: vs, S₂, .cons rv rvs, X₂, k2⟩) fun _ _ e => e) fun _ _ e => e)
theorem SXs.cons {es : List Expr} {v : V} {vs : List V} (h : SX T c r S e v) (h' : SXs T c r S es vs) : SXs T c r S (e :: es) (v :: vs) := fun K k => WLm.cons (h _ (h' _ k))
theorem WL.sx {es : List Expr} {vs : List V} {L : List V → Led → Prop} (h : SXs T c r S es vs) (k : L vs S) (he : starEach es c.env = es.map fun e => (false, eval e c.env) := by rfl) : WL T c r S es L := fun y oy s pos X => by
  rw [he]; exact h L k y oy s pos X
theorem WT.cmpS {op : CmpOp} {u v : V} (h : SX T c r S l u) (h' : SX T c r S e v) (k : CmpV T c r S op u v B) (hm : behindInMarks op e = false := by with_unfolding_all rfl) : WT T c r S (.Compare l [op] [e] pos) B := WT.cmp (h _ (h' _ k)) hm
theorem WE.cmpS {op : CmpOp} {u v : V} (h : SX T c r S l u) (h' : SX T c r S e v) (k : CmpV T c r S op u v fun d S₃ => K (.bool d) S₃) (hm : behindInMarks op e = false := by with_unfolding_all rfl) : WE T c r S (.Compare l [op] [e] pos) K := WE.cmp (h _ (h' _ k)) hm
theorem WE.subS {u v : V} (h : SX T c r S l u) (h' : SX T c r S e v) (k : SubV T c r S l e u v K) : WE T c r S (.Subscript l e pos) K := WE.sub (h _ (h' _ k))
end
end Mine
end

section
set_option maxRecDepth 100000
namespace Mine
open PySem PySem.W PySem.Calls PyProof.Rows PySem.Spec

/-! lists told by their places -/
noncomputable def tab (n : Nat) (f : Nat → Int) : List Int := (List.range n).map f
theorem tab_length (n : Nat) (f : Nat → Int) : (tab n f).length = n := by simp [tab]
theorem tab_get {n : Nat} {f : Nat → Int} {k : Nat} (h : k < n) : (tab n f)[k]? = some (f k) := by simp [tab, h]
theorem tab_ext {n : Nat} {f g : Nat → Int} (h : ∀ i, i < n → f i = g i) : tab n f = tab n g := List.map_congr_left fun i hi => h i (List.mem_range.mp hi)
theorem eq_tab {l : List Int} {n : Nat} {f : Nat → Int} (hl : l.length = n) (h : ∀ i, i < n → l[i]? = some (f i)) : l = tab n f := by
  apply List.ext_getElem?
  intro i
  by_cases hi : i < n
  · rw [h i hi, tab_get hi]
  · rw [List.getElem?_eq_none (by (lia)), List.getElem?_eq_none (by rw [tab_length]; (lia))]
noncomputable def upd (f : Nat → Int) (k : Nat) (v : Int) : Nat → Int := fun i => if i = k then v else f i
theorem tab_set (n : Nat) (f : Nat → Int) (k : Nat) (v : Int) : (tab n f).set k v = tab n (upd f k v) := by
  refine eq_tab (by simp [tab_length]) fun i hi => ?_
  rw [List.getElem?_set]
  unfold upd
  by_cases h : k = i
  · subst h; simp [tab_length, hi]
  · rw [if_neg h, tab_get hi, if_neg (fun e => h e.symm)]
noncomputable def putAt (f : Nat → Int) (a m : Nat) (g : Nat → Int) : Nat → Int := fun i => if a ≤ i ∧ i < a + m then g (i - a) else f i

/-- the ledger's form -/
noncomputable def tl (n : Nat) (f : Nat → Int) : List V := zs (tab n f)
theorem tl_length (n : Nat) (f : Nat → Int) : (tl n f).length = n := by simp [tl, tab_length]
theorem tl_get {n : Nat} {f : Nat → Int} {k : Nat} (h : k < n) : (tl n f)[k]? = some (.int (f k)) := by simp [tl, tab_get h]
theorem tl_ext {n : Nat} {f g : Nat → Int} (h : ∀ i, i < n → f i = g i) : tl n f = tl n g := by unfold tl; rw [tab_ext h]
theorem tl_set (n : Nat) (f : Nat → Int) (k : Nat) (v : Int) : (tl n f).set k (.int v) = tl n (upd f k v) := by
  unfold tl
  rw [← List.map_set, tab_set]
theorem eq_tl {l : List V} {n : Nat} {f : Nat → Int} (hl : l.length = n) (h : ∀ i, i < n → l[i]? = some (.int (f i))) : l = tl n f := by
  apply List.ext_getElem?
  intro i
  by_cases hi : i < n
  · rw [h i hi, tl_get hi]
  · rw [List.getElem?_eq_none (by (lia)), List.getElem?_eq_none (by rw [tl_length]; (lia))]
theorem kms_some {x : Int} {n : Nat} (h0 : 0 ≤ x) (h1 : x ≤ n) : kms_lo (some x) n = x.toNat ∧ kms_hi (some x) n = x.toNat := by
  unfold kms_lo kms_hi
  dsimp only
  rw [if_neg (by (lia))]
  exact ⟨by (lia), by (lia)⟩
theorem pick_tl {n : Nat} {f : Nat → Int} {a b : Nat} (h : a ≤ b) (hb : b ≤ n) : pick (tl n f) (some (a : Int)) (some (b : Int)) = tl (b - a) fun i => f (a + i) := by
  unfold pick
  rw [tl_length, (kms_some (x := (a : Int)) (n := n) (by (lia)) (by (lia))).1, (kms_some (x := (b : Int)) (n := n) (by (lia)) (by (lia))).2]
  simp only [Int.toNat_natCast]
  refine eq_tl (by simp [tl_length]; (lia)) fun i hi => ?_
  rw [List.getElem?_take_of_lt hi, List.getElem?_drop, tl_get (by (lia))]
theorem pick_tlE {n m : Nat} {f : Nat → Int} {a b : Nat} {lo hi : Int} (hl : lo = a) (hh : hi = b) (h : a ≤ b) (hb : b ≤ n) (hm : b - a = m) : pick (tl n f) (some lo) (some hi) = tl m fun i => f (a + i) := by
  subst hl hh hm; exact pick_tl h hb
theorem paste_tl {n m : Nat} {f g : Nat → Int} {a b : Nat} (h : a + m = b) (hb : b ≤ n) : paste (tl n f) (tl m g) (some (a : Int)) (some (b : Int)) = tl n (putAt f a m g) := by
  unfold paste
  rw [tl_length, (kms_some (x := (a : Int)) (n := n) (by (lia)) (by (lia))).1, (kms_some (x := (b : Int)) (n := n) (by (lia)) (by (lia))).2]
  simp only [Int.toNat_natCast]
  rw [Nat.max_eq_right (by (lia))]
  refine eq_tl (by simp [tl_length]; (lia)) fun i hi => ?_
  unfold putAt
  by_cases h1 : i < a
  · rw [List.append_assoc, List.getElem?_append_left (by simp [tl_length]; (lia)), List.getElem?_take_of_lt h1, tl_get hi, if_neg (by (lia))]
  · rw [List.append_assoc, List.getElem?_append_right (by simp [tl_length]; (lia)), List.length_take, tl_length, Nat.min_eq_left (by (lia))]
    by_cases h2 : i < b
    · rw [List.getElem?_append_left (by rw [tl_length]; (lia)), tl_get (by (lia)), if_pos (by (lia))]
    · rw [List.getElem?_append_right (by rw [tl_length]; (lia)), tl_length, List.getElem?_drop, tl_get (by (lia)), if_neg (by (lia))]
      congr 3; (lia)
theorem app_tl {n m : Nat} {f g : Nat → Int} : tl n f ++ tl m g = tl (n + m) fun i => if i < n then f i else g (i - n) := by
  refine eq_tl (by simp [tl_length]) fun i hi => ?_
  by_cases h : i < n
  · rw [List.getElem?_append_left (by rw [tl_length]; exact h), tl_get h, if_pos h]
  · rw [List.getElem?_append_right (by rw [tl_length]; (lia)), tl_length, tl_get (by (lia)), if_neg h]
theorem rep_tl (n : Nat) (v : Int) : List.replicate n (V.int v) = tl n fun _ => v := eq_tl (by simp) fun i hi => by simp [hi]
theorem BinV.repT {T : TC} {c : Cx} {r : Loc} {S : Led} {K : V → Led → Prop} {a : Addr} {z n : Int} (k : Nat) (ha : (a, O.list [.int z]) ∈ S) (hn : 0 ≤ n ∧ n ≤ 1000000) (hk : n.toNat = k) (h : ∀ x, K (.ref x) (S ++ [(x, .list (tl k fun _ => z))])) : BinV T c r S .Mult (.ref a) (.int n) K :=
  BinV.rep ha hn fun x => by rw [hk, rep_tl]; exact h x
theorem tl_succ (n : Nat) (f : Nat → Int) : tl (n + 1) f = tl n f ++ [.int (f n)] := by
  unfold tl tab
  rw [List.range_succ]; simp
theorem tl_zero (f : Nat → Int) : tl 0 f = [] := rfl
/-! little sums -/
theorem and_nat (a b : Nat) : Builtin.bitAnd (a : Int) (b : Int) = ((a &&& b : Nat) : Int) := by
  rfl
theorem and255 {x : Int} (h0 : 0 ≤ x) (h1 : x < 256) : Builtin.bitAnd x 255 = x := by
  obtain ⟨n, rfl⟩ := Int.eq_ofNat_of_zero_le h0
  rw [show (255 : Int) = ((255 : Nat) : Int) from rfl, and_nat, show (255 : Nat) = 2 ^ 8 - 1 from rfl, Nat.and_two_pow_sub_one_eq_mod]
  (lia)
theorem and65535 {x : Int} (h0 : 0 ≤ x) (h1 : x < 65536) : Builtin.bitAnd x 65535 = x := by
  obtain ⟨n, rfl⟩ := Int.eq_ofNat_of_zero_le h0
  rw [show (65535 : Int) = ((65535 : Nat) : Int) from rfl, and_nat, show (65535 : Nat) = 2 ^ 16 - 1 from rfl, Nat.and_two_pow_sub_one_eq_mod]
  (lia)
theorem fmod_small {x n : Int} (h0 : 0 ≤ x) (h1 : x < n) : x.fmod n = x := by
  rw [Int.fmod_eq_emod_of_nonneg _ (by (lia)), Int.emod_eq_of_lt h0 h1]

/-! a loop by its number of turns -/
theorem wfor_ind {T : TC} {c : Cx} {α : Type} {need : Led → Prop} {Bind : α → Loc → Loc → Prop} {body : List Stmt} {Kn : Loc → Led → Prop} {Kr : V → Led → Prop} (I : List α → Loc → Led → Prop)
    (hn : ∀ l r S, I l r S → need S) (turn : ∀ a l r S, I (a :: l) r S → ∃ r', Bind a r r' ∧ WSs T c r' S body (fun r'' S'' => I l r'' S'') Kr) (fin : ∀ r S, I [] r S → Kn r S) :
    ∀ (l : List α) (r : Loc) (S : Led), I l r S → WFor T c need Bind body Kn Kr l r S
  | [], r, S, h => ⟨hn _ _ _ h, fin r S h⟩
  | a :: l, r, S, h => ⟨hn _ _ _ h, by
    obtain ⟨r', hb, hw⟩ := turn a l r S h
    exact ⟨r', hb, hw.mono (fun r'' S'' k => wfor_ind I hn turn fin l r'' S'' k) fun _ _ k => k⟩⟩
theorem WT.mono {T : TC} {c : Cx} {r : Loc} {S : Led} {e : Expr} {K K' : Bool → Led → Prop} (h : WT T c r S e K) (k : ∀ b S, K b S → K' b S) : WT T c r S e K' := fun y oy s X =>
  wpAny_mono (h y oy s X) (fun b s' ⟨S', X', q⟩ => ⟨S', X', k _ _ q⟩) fun _ _ e => e
theorem wcomp_all {T : TC} {c : Cx} {α : Type} {r : Loc} {need : Led → Prop} {ext : α → Loc} {elt : Expr} {K : List V → Led → Prop} (I : List α → List V → Led → Prop)
    (hn : ∀ l out S, I l out S → need S ∧ out.length ≤ 1000000)
    (turn : ∀ a l out S, I (a :: l) out S → WE T c (r ++ ext a) S elt fun v S'' => I l (out ++ [v]) S'') (fin : ∀ out S, I [] out S → K out S) :
    ∀ (l : List α) (out : List V) (S : Led), I l out S → WComp T c r need ext [] elt K l out S
  | [], out, S, h => ⟨(hn _ _ _ h).1, fin out S h⟩
  | a :: l, out, S, h => ⟨(hn _ _ _ h).1, (hn _ _ _ h).2, fun _ => (turn a l out S h).mono fun v S'' k => wcomp_all I hn turn fin l _ S'' k, fun e => by cases e⟩
theorem wcomp_if {T : TC} {c : Cx} {α : Type} {r : Loc} {need : Led → Prop} {ext : α → Loc} {e elt : Expr} {K : List V → Led → Prop} (I : List α → List V → Led → Prop)
    (hn : ∀ l out S, I l out S → need S ∧ out.length ≤ 1000000)
    (turn : ∀ a l out S, I (a :: l) out S → WT T c (r ++ ext a) S e fun ok S' => (ok = true → WE T c (r ++ ext a) S' elt fun v S'' => I l (out ++ [v]) S'') ∧ (ok = false → I l out S')) (fin : ∀ out S, I [] out S → K out S) :
    ∀ (l : List α) (out : List V) (S : Led), I l out S → WComp T c r need ext [e] elt K l out S
  | [], out, S, h => ⟨(hn _ _ _ h).1, fin out S h⟩
  | a :: l, out, S, h => ⟨(hn _ _ _ h).1, (hn _ _ _ h).2, WT.mono (turn a l out S h) fun b S' k => ⟨fun hb => (k.1 hb).mono fun v S'' k => wcomp_if I hn turn fin l _ S'' k, fun hb => wcomp_if I hn turn fin l _ S' (k.2 hb)⟩⟩
end Mine
end

section
set_option maxRecDepth 100000
namespace Mine
open PySem PySem.W PySem.Calls PyProof.Rows PySem.Spec

/-- the part S₁ taken out of S: R is the rest -/
inductive Take1 (p : Addr × O) : Led → Led → Prop
  | head {S} : Take1 p (p :: S) S
  | tail {q S R} : Take1 p S R → Take1 p (q :: S) (q :: R)
inductive Cut : Led → Led → Led → Prop
  | nil {S} : Cut [] S S
  | cons {p S₁ S R R'} : Take1 p S R → Cut S₁ R R' → Cut (p :: S₁) S R'

section
variable {T : TC} {c : Cx} {y : Fx} {r : Loc} {S : Led} {K : V → Led → Prop} {B : Bool → Led → Prop} {Kn : Loc → Led → Prop} {Kr : V → Led → Prop}
theorem WE.callG {x : Str} {a : Addr} {np pos : Pos} {es : List Expr} (ok : c.Ok) (g : GlobIs T x (.ref a)) (gk : Callee T (.ref a)) (hk : c.env.kindOf x = some .globalImplicit) (h : WL T c r S es fun vs S₂ => CallV T c r S₂ (.ref a) vs K)
    (he : eval (.Call (.Name x np) es [] pos) c.env = (do callWith pos (← eval (.Name x np) c.env) [] (backTo pos (starEach es c.env)) (backToKw pos (keywordEach [] c.env))) := by rfl) (hp : (backTo pos (starEach es c.env)).any (·.1) = false := by rfl) (hd : (x == ("__debug__" : Str)) = false := by decide) : WE T c r S (.Call (.Name x np) es [] pos) K :=
  WE.call ok (WE.glob ok g hk ⟨gk, h⟩ hd) he hp
theorem WE.callB {x : Str} {f : V} {np pos : Pos} {es : List Expr} (ok : c.Ok) (g : GlobB T x f) (gk : Callee T f) (hk : c.env.kindOf x = some .globalImplicit) (h : WL T c r S es fun vs S₂ => CallV T c r S₂ f vs K)
    (he : eval (.Call (.Name x np) es [] pos) c.env = (do callWith pos (← eval (.Name x np) c.env) [] (backTo pos (starEach es c.env)) (backToKw pos (keywordEach [] c.env))) := by rfl) (hp : (backTo pos (starEach es c.env)).any (·.1) = false := by rfl) (hd : (x == ("__debug__" : Str)) = false := by decide) : WE T c r S (.Call (.Name x np) es [] pos) K :=
  WE.call ok (WE.bi ok g hk ⟨gk, h⟩ hd) he hp

theorem Chg.app_left {a : Addr} {o o' : O} {S S' R : Led} (h : Chg a o o' S S') : Chg a o o' (S ++ R) (S' ++ R) := by
  induction h with
  | head => exact .head
  | tail _ ih => exact .tail ih
theorem Chg.app_right {a : Addr} {o o' : O} {S R R' : Led} (h : Chg a o o' R R') : Chg a o o' (S ++ R) (S ++ R') := by
  induction S with
  | nil => exact h
  | cons _ _ ih => exact .tail ih
theorem Old.app_left {x : Str} {v : V} {r r' q : Loc} (h : Old x v r r') : Old x v (r ++ q) (r' ++ q) := by
  induction h with
  | head => exact .head
  | tail _ ih => exact .tail ih
theorem Old.app_right {x : Str} {v : V} {r q q' : Loc} (h : Old x v q q') : Old x v (r ++ q) (r ++ q') := by
  induction r with
  | nil => exact h
  | cons _ _ ih => exact .tail ih
theorem put_new {x : Str} {v : V} {r : Loc} {names : List Str} (h : r.map (·.1) = names) (hd : (names.all fun k => !(k == x)) = true) : Put x v r (r ++ [(x, v)]) := .inr ⟨fun k hk e => by
  rw [h] at hk
  have := List.all_eq_true.mp hd k hk
  rw [e] at this; simp at this, rfl⟩
theorem put_old {x : Str} {v : V} {r r' : Loc} (h : Old x v r r') : Put x v r r' := .inl h

theorem Take1.app_left {p : Addr × O} {S R B : Led} (h : Take1 p S R) : Take1 p (S ++ B) (R ++ B) := by
  induction h with
  | head => exact .head
  | tail _ ih => exact .tail ih
theorem Take1.app_right {p : Addr × O} {S R B : Led} (h : Take1 p S R) : Take1 p (B ++ S) (B ++ R) := by
  induction B with
  | nil => exact h
  | cons _ _ ih => exact .tail ih
theorem Take1.perm {p : Addr × O} {S R : Led} (h : Take1 p S R) : (p :: R).Perm S := by
  induction h with
  | head => exact .refl _
  | tail _ ih => exact (List.Perm.swap _ _ _).trans (ih.cons _)
theorem Cut.perm {S₁ S R : Led} (h : Cut S₁ S R) : (S₁ ++ R).Perm S := by
  induction h with
  | nil => exact .refl _
  | cons t _ ih => exact (ih.cons _).trans t.perm
theorem Own.cut {g h : Heap} {S S₁ R : Led} (o : Own g h S) (k : Cut S₁ S R) : Own g h S₁ := by
  have q := k.perm
  have sub : ∀ p ∈ S₁, p ∈ S := fun p hp => q.subset (List.mem_append_left _ hp)
  refine ⟨o.keep, fun p hp => o.at_ p (sub p hp), fun p hp => o.off p (sub p hp), ?_⟩
  have nd := (q.map (·.1)).nodup_iff.mpr o.nodup
  rw [List.map_append, List.nodup_append] at nd
  exact nd.1
theorem Cut.sub {S₁ S R : Led} (h : Cut S₁ S R) : ∀ p ∈ S₁, p ∈ S := fun p hp => h.perm.subset (List.mem_append_left _ hp)
theorem St.cut {s : Shared} {S₁ R : Led} (X : St T c y r S s) (k : Cut S₁ S R) : St T c y r S₁ s :=
  ⟨X.gens, X.os, X.own.cut k, X.fr, X.keys, fun p hp => X.notL p (k.sub p hp), fun q hq => ⟨⟨fun p hp => (X.cells q hq).1.1 p (k.sub p hp), (X.cells q hq).1.2⟩, (X.cells q hq).2⟩⟩
theorem WSs.cut {S₁ R : Led} {sts : List Stmt} (k : Cut S₁ S R) (h : WSs T c r S₁ sts Kn Kr) : WSs T c r S sts Kn Kr := fun y oy s X => h y oy s (X.cut k)
theorem WE.cut {S₁ R : Led} {e : Expr} (k : Cut S₁ S R) (h : WE T c r S₁ e K) : WE T c r S e K := fun y oy s X => h y oy s (X.cut k)
/-- the ledger may be forgotten in part at the end of a call -/
noncomputable abbrev Endd (K : V → Led → Prop) (v : V) (S : Led) : Prop := ∃ S'' R, Cut S'' S R ∧ K v S''
theorem Endd.mk {v : V} {S'' R : Led} (h : Cut S'' S R) (k : K v S'') : Endd K v S := ⟨S'', R, h, k⟩
theorem CallC.drop {n : Nat} {f : V} {args : List V} (h : CallC T n f args S fun v S' => Endd K v S') : CallC T n f args S K := fun A g s f' args' h1 h2 h3 h4 h5 h6 h7 h8 h9 h10 =>
  codeAny_mono (h A g s f' args' h1 h2 h3 h4 h5 h6 h7 h8 h9 h10) fun r s' q => by
    rcases r with e | (v | _ | _ | _) <;> try exact q
    obtain ⟨v, S', a, b, d, e, S'', R, k, q⟩ := q
    exact ⟨v, S'', a, b, d, e.cut k, q⟩
/-- the rest of the ledger stays; K is told of it -/
theorem CallV.fr {n : Nat} {f : V} {args : List V} {S₁ R : Led} {K₁ : V → Led → Prop} (h : Call T n f args S₁ K₁) (hn : n ≤ c.n) (hs : Cut S₁ S R) (k : ∀ v S', K₁ v S' → K v (S' ++ R)) : CallV T c r S f args K :=
  CallV.of (Call.frame (R := R) (h.mono (Nat.le_refl _) k) (fun p => hs.perm.symm.mem_iff) (.inr hs.perm)) hn
/-- … when the callee leaves its ledger as it was, but for a new object -/
theorem CallV.same {n : Nat} {f : V} {args : List V} {S₁ R : Led} {v : V} (h : Call T n f args S₁ fun v' S' => v' = v ∧ S' = S₁) (hn : n ≤ c.n) (hs : Cut S₁ S R) (k : K v (S₁ ++ R)) : CallV T c r S f args K :=
  CallV.fr h hn hs fun v' S' ⟨e1, e2⟩ => by subst e1 e2; exact k
theorem Call.up {n m : Nat} {f : V} {args : List V} (h : Call T n f args S K) (hn : n ≤ m) : Call T m f args S K := h.mono hn fun _ _ k => k
end
end Mine
end

section
set_option maxRecDepth 100000
namespace Mine
open PySem PySem.W PySem.Calls PyProof.Rows PySem.Spec
theorem kindsN {scope : Scope} {names : List Str} (e : (names.all fun y => scope.names.lookup y == some .local || scope.names.lookup y == some .cell) = true) :
    ∀ n, ∀ x ∈ names, scope.names.lookup x = some .local ∨ (scope.names.lookup x = some .cell ∧ ((cellsFrom n scope.names []).lookup x).isSome = true) := fun n x hx => by
  have := List.all_eq_true.mp e x hx
  rcases Bool.or_eq_true_iff.mp this with q | q
  · exact .inl (by simpa using q)
  · have q' : scope.names.lookup x = some .cell := by simpa using q
    exact .inr ⟨q', cellsFrom_some _ _ _ (.inl q')⟩

section
variable {T : TC} {c : Cx} {y : Fx} {r : Loc} {S : Led} {K : V → Led → Prop} {B : Bool → Led → Prop} {Kn : Loc → Led → Prop} {Kr : V → Led → Prop}
theorem Cut.refl : ∀ {S : Led}, Cut S S []
  | [] => .nil
  | _ :: _ => .cons .head Cut.refl
theorem Cut.head : ∀ {A R : Led}, Cut A (A ++ R) R
  | [], _ => .nil
  | _ :: _, _ => .cons .head Cut.head
theorem Cut.tail {q : Addr × O} {A S R : Led} (h : Cut A S R) : Cut A (q :: S) (q :: R) := by
  induction h with
  | nil => exact .nil
  | cons t _ ih => exact .cons t.tail ih
theorem Cut.app_right {A B S R : Led} (h : Cut A S R) : Cut A (B ++ S) (B ++ R) := by
  induction h with
  | nil => exact .nil
  | cons t _ ih => exact .cons t.app_right ih
theorem Cut.app_left {A B S R : Led} (h : Cut A S R) : Cut A (S ++ B) (R ++ B) := by
  induction h with
  | nil => exact .nil
  | cons t _ ih => exact .cons t.app_left ih
theorem tl_map (n : Nat) (f : Nat → Int) : (List.range n).map (fun i => V.int (f i)) = tl n f := by simp [tl, tab, zs]
theorem nums_map (a : Int) (n : Nat) : nums a n = (List.range n).map fun i => V.int (a + (i : Nat)) := rfl
theorem enumd_tl (n : Nat) (g : Nat → Int) : enumd (tl n g) = (List.range n).map fun i => (V.int (i : Nat), V.int (g i)) := by
  apply List.ext_getElem?
  intro i
  unfold enumd
  rw [List.getElem?_map, List.getElem?_zipIdx, List.getElem?_map]
  by_cases h : i < n
  · rw [tl_get h, List.getElem?_range h]; simp
  · rw [List.getElem?_eq_none (by rw [tl_length]; (lia)), List.getElem?_eq_none (by simp; (lia))]; rfl
theorem enumd_map {n : Nat} (G : Nat → V) : enumd ((List.range n).map G) = (List.range n).map fun i => (V.int (i : Nat), G i) := by
  apply List.ext_getElem?
  intro i
  unfold enumd
  rw [List.getElem?_map, List.getElem?_zipIdx, List.getElem?_map, List.getElem?_map]
  by_cases h : i < n
  · rw [List.getElem?_range h]; simp
  · rw [List.getElem?_eq_none (by simp; (lia))]; rfl
theorem zip_tl (n : Nat) (f g : Nat → Int) : (tl n f).zip (tl n g) = (List.range n).map fun i => (V.int (f i), V.int (g i)) := by
  rw [← tl_map, ← tl_map, List.zip_map', ]
theorem drop_map {α : Type} {n k : Nat} (F : Nat → α) (h : k < n) : ((List.range n).map F).drop k = F k :: ((List.range n).map F).drop (k + 1) := by
  rw [List.drop_eq_getElem_cons (by simpa using h)]; simp
theorem for_map {α : Type} {need : Led → Prop} {Bind : α → Loc → Loc → Prop} {body : List Stmt} {n : Nat} {F : Nat → α} (I : Nat → Loc → Led → Prop)
    (hn : ∀ k r S, k ≤ n → I k r S → need S) (turn : ∀ k r S, k < n → I k r S → ∃ r', Bind (F k) r r' ∧ WSs T c r' S body (fun r'' S'' => I (k + 1) r'' S'') Kr) (fin : ∀ r S, I n r S → Kn r S) (h : I 0 r S) :
    WFor T c need Bind body Kn Kr ((List.range n).map F) r S := by
  refine wfor_ind (fun l r S => ∃ k, k ≤ n ∧ l = ((List.range n).map F).drop k ∧ I k r S) (fun l r S ⟨k, h1, _, h2⟩ => hn k r S h1 h2) (fun a l r S ⟨k, h1, h2, h3⟩ => ?_) (fun r S ⟨k, h1, h2, h3⟩ => ?_) _ r S ⟨0, Nat.zero_le _, rfl, h⟩
  · have hk : k < n := by
      by_cases q : k < n
      · exact q
      · rw [List.drop_eq_nil_of_le (by simp; (lia))] at h2; cases h2
    rw [drop_map F hk, List.cons.injEq] at h2
    obtain ⟨rfl, rfl⟩ := h2
    obtain ⟨r', hb, hw⟩ := turn k r S hk h3
    exact ⟨r', hb, hw.mono (fun r'' S'' q => ⟨k + 1, hk, rfl, q⟩) fun _ _ q => q⟩
  · have hk : k = n := by
      by_cases q : k < n
      · rw [drop_map F q] at h2; cases h2
      · (lia)
    subst hk; exact fin r S h3
theorem WE.drop {e : Expr} (h : WE T c r S e fun v S'' => ∃ S₃ R, Cut S₃ S'' R ∧ K v S₃) : WE T c r S e K := fun y oy s X =>
  wpAny_mono (h y oy s X) (fun v' s' ⟨v, S', a, b, S₃, R, k, q⟩ => ⟨v, S₃, a, b.cut k, q⟩) fun _ _ e => e
theorem comp_map {α : Type} {need : Led → Prop} {ext : α → Loc} {elt : Expr} {K : List V → Led → Prop} {n : Nat} {F : Nat → α} (G : Nat → V) (hz : n ≤ 1000000)
    (hn : need S) (turn : ∀ k, k < n → WE T c (r ++ ext (F k)) S elt fun v S'' => v = G k ∧ ∃ R, Cut S S'' R) (fin : K ((List.range n).map G) S) :
    WComp T c r need ext [] elt K ((List.range n).map F) [] S := by
  refine wcomp_all (fun l out S' => ∃ k, k ≤ n ∧ l = ((List.range n).map F).drop k ∧ out = (List.range k).map G ∧ S' = S) (fun l out S' ⟨k, h1, _, h2, h3⟩ => ⟨h3 ▸ hn, by subst h2; simp; (lia)⟩) (fun a l out S' ⟨k, h1, h2, h3, h4⟩ => ?_) (fun out S' ⟨k, h1, h2, h3, h4⟩ => ?_) _ _ _ ⟨0, Nat.zero_le _, rfl, rfl, rfl⟩
  · have hk : k < n := by
      by_cases q : k < n
      · exact q
      · rw [List.drop_eq_nil_of_le (by simp; (lia))] at h2; cases h2
    rw [drop_map F hk, List.cons.injEq] at h2
    obtain ⟨rfl, rfl⟩ := h2
    subst h4
    refine WE.drop ((turn k hk).mono fun v S'' ⟨e, R, h5⟩ => ⟨_, R, h5, k + 1, hk, rfl, ?_, rfl⟩)
    subst e h3
    rw [List.range_succ]; simp
  · have hk : k = n := by
      by_cases q : k < n
      · rw [drop_map F q] at h2; cases h2
      · (lia)
    subst hk; subst h3 h4; exact fin
theorem Cut.mem {S S' R : Led} {p : Addr × O} (h : Cut S S' R) (hp : p ∈ S) : p ∈ S' := h.sub p hp
theorem hr_nil {r : Loc} {ns : List (Str × NameKind)} : ∀ q ∈ ([] : Loc), q ∈ r ∧ (q.1, NameKind.free) ∈ ns := fun _ h => by cases h
theorem hr_cons {r r₂ : Loc} {ns : List (Str × NameKind)} {n : Str} {v : V} (h1 : (n, v) ∈ r) (h2 : (n, NameKind.free) ∈ ns) (h : ∀ q ∈ r₂, q ∈ r ∧ (q.1, NameKind.free) ∈ ns) : ∀ q ∈ (n, v) :: r₂, q ∈ r ∧ (q.1, NameKind.free) ∈ ns := fun q hq => by
  rcases List.mem_cons.mp hq with rfl | hq
  · exact ⟨h1, h2⟩
  · exact h q hq
theorem nd_of {r : Loc} {ns : List Str} (h : r.map (·.1) = ns) (hd : ns.Nodup) : (r.map (·.1)).Nodup := h ▸ hd
theorem put_newK {x : Str} {v : V} {r : Loc} (hd : ((r.map (·.1)).all fun k => !(k == x)) = true) : Put x v r (r ++ [(x, v)]) := put_new rfl hd
theorem swaps_name {scope : Scope} {x : Str} {elt : Expr} {gens : List Comprehension} {p px : Pos} {line : Nat} (ok : c.Ok) (hk : c.env.kindOf x = some .local) (hl : (px.line == p.line) = true) (hs : (!(scope.names.any fun q => q.1 == x && (q.2 == .local || q.2 == .cell))) = true) : swapsWith (.ListComp elt gens scope p) (some (.Name x px)) line c.env = pure true := by
  have hb : c.env.blockKind = .function := by unfold Env.blockKind; rw [ok.kind]; rfl
  have hl' : px.line = p.line := by simpa using hl
  unfold swapsWith
  simp only [hb, hk]
  show pure _ = pure true
  congr 1
  rw [show (Expr.ListComp elt gens scope p).pos = p from rfl]
  simp only [hl', beq_self_eq_true, Bool.and_true, Bool.true_and]
  exact hs
theorem free_ok {ns fs : List (Str × NameKind)} (hs : Kinds c ns) (hc : ∀ x, ((cellsFrom 0 ns []).lookup x).isSome = (c.env.cells.lookup x).isSome) (h : (fs.all fun q => q.2 != .free || (ns.contains (q.1, .cell) && ((cellsFrom 0 ns []).lookup q.1).isSome)) = true) :
    ∀ q ∈ fs, q.2 = .free → c.env.kindOf q.1 = some .cell ∧ (c.env.cells.lookup q.1).isSome = true := fun q hq e => by
  have := List.all_eq_true.mp h q hq
  rw [e] at this
  simp only [bne_self_eq_false, Bool.false_or, Bool.and_eq_true] at this
  exact ⟨hs (q.1, .cell) (by simpa using this.1), by rw [← hc]; exact this.2⟩
end
end Mine
end

section
set_option maxRecDepth 100000
namespace Mine
open PySem PySem.W PySem.Calls PyProof.Rows PySem.Spec
section
variable {T : TC} {c : Cx} {y : Fx} {r : Loc} {S : Led} {K : V → Led → Prop} {B : Bool → Led → Prop} {Kn : Loc → Led → Prop} {Kr : V → Led → Prop}
theorem WSs.post {st : List Stmt} (h : WSs T c r S st (fun r'' S'' => ∃ r₃ S₃ R, r₃.Sublist r'' ∧ Cut S₃ S'' R ∧ Kn r₃ S₃) Kr) : WSs T c r S st Kn Kr := fun y oy s X => wpAny_mono (h y oy s X) (fun f s' k => by
    cases f with
    | next =>
      obtain ⟨r'', S'', X', r₃, S₃, R, h1, h2, h3⟩ := k
      exact ⟨r₃, S₃, (X'.less (fun q hq => h1.subset hq) ((h1.map _).nodup X'.keys)).cut h2, h3⟩
    | ret v => exact k
    | brk => exact k.elim
    | cont => exact k.elim) fun _ _ e => e
theorem for_fix {α : Type} {need : Led → Prop} {Bind : α → Loc → Loc → Prop} {body : List Stmt} {n : Nat} {F : Nat → α} (I : Nat → Led → Prop)
    (hn : ∀ k S, k ≤ n → I k S → need S) (turn : ∀ k S, k < n → I k S → ∃ r', Bind (F k) r r' ∧ WSs T c r' S body (fun r'' S'' => r.Sublist r'' ∧ ∃ S₃ R, Cut S₃ S'' R ∧ I (k + 1) S₃) Kr) (fin : ∀ S, I n S → Kn r S) (h : I 0 S) :
    WFor T c need Bind body Kn Kr ((List.range n).map F) r S :=
  for_map (fun k r' S => r' = r ∧ I k S) (fun k r' S hk ⟨_, h⟩ => hn k S hk h) (fun k r' S hk ⟨e, h⟩ => by
    subst e
    obtain ⟨r₁, hb, hw⟩ := turn k S hk h
    exact ⟨r₁, hb, WSs.post (hw.mono (fun r'' S'' ⟨q1, S₃, R, q2, q3⟩ => ⟨r', S₃, R, q1, q2, rfl, q3⟩) fun _ _ q => q)⟩) (fun r' S ⟨e, h⟩ => by subst e; exact fin S h) ⟨rfl, h⟩
theorem sub_app {r a b : Loc} (h : r.Sublist a) : r.Sublist (a ++ b) := h.trans (List.sublist_append_left a b)
theorem sub_refl {r : Loc} : r.Sublist r := List.Sublist.refl r
end
theorem putAt_zero (f : Nat → Int) (a : Nat) (g : Nat → Int) : putAt f a 0 g = f := by
  funext i; unfold putAt; rw [if_neg (by (lia))]
theorem putAt_succ (f : Nat → Int) (a k : Nat) (g : Nat → Int) : upd (putAt f a k g) (a + k) (g k) = putAt f a (k + 1) g := by
  funext i; unfold upd putAt
  by_cases h : i = a + k
  · subst h; rw [if_pos rfl, if_pos (by (lia))]; congr 1; (lia)
  · rw [if_neg h]
    by_cases h2 : a ≤ i ∧ i < a + k
    · rw [if_pos h2, if_pos (by (lia))]
    · rw [if_neg h2, if_neg (by (lia))]

/-- a disk of the law's -/
noncomputable abbrev DL (d dx gl dl : Addr) (D : Nat → Int) : Led := [(d, .inst 53 dx), (dx, .flds [(Str.ofString "blocks", .int 20), (Str.ofString "block", .int 32), (Str.ofString "record", .int 16), (Str.ofString "entries", .int 8), (Str.ofString "is_read_only", .bool false), (Str.ofString "given", .ref gl), (Str.ofString "data", .ref dl)]), (gl, .list []), (dl, .list (tl 640 D))]
/-- an entry -/
noncomputable abbrev EL (e ex rl ml : Addr) (u cnt : Int) (raw mp : Nat → Int) : Led := [(e, .inst 74 ex), (ex, .flds [(Str.ofString "user", .int u), (Str.ofString "raw", .ref rl), (Str.ofString "extent", .int 0), (Str.ofString "spare", .int 0), (Str.ofString "count", .int cnt), (Str.ofString "map", .ref ml)]), (rl, .list (tl 11 raw)), (ml, .list (tl 16 mp))]
end Mine
end

section
set_option maxRecDepth 100000
namespace Mine
open PySem PySem.W PySem.Calls PyProof.Rows PySem.Spec
section
variable {T : TC} {c : Cx} {y : Fx} {r : Loc} {S : Led} {K : V → Led → Prop} {B : Bool → Led → Prop} {Kn : Loc → Led → Prop} {Kr : V → Led → Prop}
theorem SubV.tl {value slice : Expr} {l : Addr} {n : Nat} {f : Nat → Int} {x : Int} {a : Nat} (hm : (l, O.list (tl n f)) ∈ S) (hx : x = a) (ha : a < n) (hn : n ≤ 1000000) (h : K (.int (f a)) S)
    (hs : ∀ t, subscripted slice false (.ref l) (.int x t) = operate [.ref l, .int x t] (getItem (.ref l) (.int x t)) := by intro _; with_unfolding_all rfl) : SubV T c r S value slice (.ref l) (.int x) K := by
  subst hx
  exact SubV.list hm (by (lia)) (by (lia)) (by rw [Int.toNat_natCast]; exact tl_get ha) h hs
theorem SetI.tl {l : Addr} {n : Nat} {f : Nat → Int} {x v : Int} {a : Nat} {S' : Led} {P : Led → Prop} (hc : Chg l (.list (tl n f)) (.list (tl n (upd f a v))) S S') (hx : x = a) (ha : a < n) (hn : n ≤ 1000000) (h : P S') : SetI T c r S (.ref l) (.int x) (.int v) P := by
  subst hx
  exact SetI.list (vs := Mine.tl n f) (by rw [Int.toNat_natCast, tl_set]; exact hc) (by (lia)) (by rw [tl_length]; (lia)) (by rw [tl_length]; (lia)) h
end
noncomputable abbrev ED (e ex rl ml : Addr) (u cnt : Int) (raw mp : Nat → Int) (S : Led) : Led := (e, .inst 74 ex) :: (ex, .flds [(Str.ofString "user", .int u), (Str.ofString "raw", .ref rl), (Str.ofString "extent", .int 0), (Str.ofString "spare", .int 0), (Str.ofString "count", .int cnt), (Str.ofString "map", .ref ml)]) :: (rl, .list (tl 11 raw)) :: (ml, .list (tl 16 mp)) :: S
/-- an entry's octets -/
noncomputable def eoct (u cnt : Int) (raw mp : Nat → Int) : Nat → Int := fun i => if i < 1 then u else if i < 12 then raw (i - 1) else if i < 15 then 0 else if i < 16 then cnt else mp (i - 16)
end Mine
end

section
namespace Mine
theorem bl_map (n : Nat) (B : Nat → Bool) : (List.range n).map (fun i => V.bool (B i)) = ((List.range n).map B).map V.bool := by simp
end Mine
end

section
namespace Mine
/-- the directory has one entry of that user's -/
structure Has (D : Nat → Int) (u : Int) (k : Nat) (g : Nat → Int) : Prop where
  hk : k < 8
  h1 : D (32 * k) = u
  h2 : ∀ i, i < 8 → i ≠ k → D (32 * i) ≠ u
  hg : ∀ i, i < 11 → g i = D (32 * k + (1 + i))
  h0 : u ≠ 229
  h12 : D (32 * k + 12) = 0
  h13 : D (32 * k + 13) = 0
  h14 : D (32 * k + 14) = 0
  oct : ∀ i, i < 32 → 0 ≤ D (32 * k + i) ∧ D (32 * k + i) < 256
  low : g 8 < 128
/-- a control block's octets -/
structure Fcb (f : Nat → Int) (a : Nat) : Prop where
  oct : ∀ i, i < 112 → 0 ≤ f i ∧ f i < 256
  ha : a + 36 ≤ 112
  h12 : f (a + 12) = 0
  h14 : f (a + 14) = 0 ∨ f (a + 14) = 128
end Mine
end

section
set_option maxRecDepth 100000
namespace Mine
open PySem PySem.W PySem.Calls PyProof.Rows PySem.Spec
section
variable {T : TC} {c : Cx} {y : Fx} {r : Loc} {S : Led} {K : V → Led → Prop} {B : Bool → Led → Prop} {Kn : Loc → Led → Prop} {Kr : V → Led → Prop}
theorem WA.nameC {x : Str} {p : Pos} {v : V} {r' : Loc} (ok : c.Ok) (hk : c.env.kindOf x = some .cell) (hf : c.fn = true) (hl : (c.env.cells.lookup x).isSome = true) (P : Put x v r r') (h : Kn r' S) : WA T c r S (.Name x p) v Kn := fun y oy s v' X rv =>
  wpAny_assign_Name (storeV ok oy X rv P (.inr ⟨hk, hf, hl⟩) fun h' t Y => ⟨r', S, Y, h⟩)
theorem ite_to {α : Type} {c : Prop} [Decidable c] {x y z : α} (h : x = z) (h' : ¬ c → y = z) : ite c x y = z :=
  if q : c then (if_pos q).trans h else (if_neg q).trans (h' q)
theorem fm_ne {F : Expr → Option Str} {t u : Expr} (h : F t = Option.none) : (([t, u].filterMap F).length != [t, u].length) = true := by
  rw [List.filterMap_cons_none h]
  have := List.length_filterMap_le F [u]
  rw [bne_iff_ne]; exact Nat.ne_of_lt (Nat.lt_succ_of_le this)
theorem swapped_no {a t₂ : Expr} {b : Str} {q : Pos} {k k' : Nat} {p p' : Pos} {vs : List Expr} {env : Env} : swappedStores [.Tuple [.Attribute a b q, t₂] k p] (.Tuple vs k' p') env = pure Option.none :=
  ite_to rfl fun _ => ite_to rfl fun _ => ite_to rfl fun h => absurd (Bool.or_eq_true_iff.mpr (.inl (fm_ne rfl))) h
theorem swapped_noS {a b t₂ : Expr} {q : Pos} {k k' : Nat} {p p' : Pos} {vs : List Expr} {env : Env} : swappedStores [.Tuple [.Subscript a b q, t₂] k p] (.Tuple vs k' p') env = pure Option.none :=
  ite_to rfl fun _ => ite_to rfl fun _ => ite_to rfl fun h => absurd (Bool.or_eq_true_iff.mpr (.inl (fm_ne rfl))) h
end
theorem putAt_one (f : Nat → Int) (a : Nat) (g : Nat → Int) : putAt f a 1 g = upd f a (g 0) := by
  rw [← putAt_succ, putAt_zero]; rfl
noncomputable def rdCode (f : Nat → Int) (a : Nat) : Int := if f (a + 15) ≤ f (a + 32) then 1 else if f (a + 16 + (f (a + 32)).toNat / 2) = 0 then 1 else 0
noncomputable def rdAt (f : Nat → Int) (a : Nat) : Nat := 32 * (f (a + 16 + (f (a + 32)).toNat / 2)).toNat + 16 * ((f (a + 32)).toNat % 2)
noncomputable def rdMem (f : Nat → Int) (a : Nat) (D : Nat → Int) : Nat → Int := if rdCode f a = 0 then putAt f 96 16 (fun i => D (rdAt f a + i)) else f
/-- a control block that can be read on -/
structure Rd (f : Nat → Int) (a : Nat) (D : Nat → Int) : Prop where
  F : Fcb f a
  hd : a + 36 ≤ 96
  cr : f (a + 32) < 32
  mp : ∀ i, i < 16 → f (a + 16 + i) < 20
  D : ∀ i, i < 640 → 0 ≤ D i ∧ D i < 256
end Mine
end

section
set_option maxRecDepth 100000
namespace Mine
open PySem PySem.W PySem.Calls PyProof.Rows PySem.Spec
theorem cut_self {S S' : Led} (h : S' = S) : Cut S S' [] := h ▸ Cut.refl
/-- a disk, and more -/
noncomputable abbrev DR (d dx gl dl : Addr) (D : Nat → Int) (R : Led) : Led := (d, .inst 53 dx) :: (dx, .flds [(Str.ofString "blocks", .int 20), (Str.ofString "block", .int 32), (Str.ofString "record", .int 16), (Str.ofString "entries", .int 8), (Str.ofString "is_read_only", .bool false), (Str.ofString "given", .ref gl), (Str.ofString "data", .ref dl)]) :: (gl, .list []) :: (dl, .list (tl 640 D)) :: R
noncomputable abbrev EF (u cnt : Int) (rl ml : Addr) : O := .flds [(Str.ofString "user", .int u), (Str.ofString "raw", .ref rl), (Str.ofString "extent", .int 0), (Str.ofString "spare", .int 0), (Str.ofString "count", .int cnt), (Str.ofString "map", .ref ml)]
/-- one live entry in the ledger -/
noncomputable def Liv1 (D : Nat → Int) (R : Led) (j : Nat) (t : Addr × V × V) : Prop := ∃ (k : Nat) (e ex rl ml : Addr), k < j ∧ D (32 * k) ≠ 229 ∧ t.2 = (V.int k, V.ref e) ∧ (t.1, O.tup [V.int k, V.ref e]) ∈ R ∧ (e, O.inst 74 ex) ∈ R ∧ (ex, EF (D (32 * k)) (D (32 * k + 15)) rl ml) ∈ R ∧ (ml, O.list (tl 16 fun i => D (32 * k + (16 + i)))) ∈ R
structure Liv (D : Nat → Int) (R : Led) (ts : List (Addr × V × V)) (j : Nat) : Prop where
  sound : ∀ t ∈ ts, Liv1 D R j t
  full : ∀ k, k < j → D (32 * k) ≠ 229 → ∃ t ∈ ts, t.2.1 = V.int k
  len : ts.length ≤ j
theorem Liv.skip {D : Nat → Int} {R : Led} {ts : List (Addr × V × V)} {j : Nat} (L : Liv D R ts j) (h : D (32 * j) = 229) : Liv D R ts (j + 1) :=
  ⟨fun t ht => by obtain ⟨k, e, ex, rl, ml, h1, h2⟩ := L.sound t ht; exact ⟨k, e, ex, rl, ml, by (lia), h2⟩, fun k hk hd => by
    by_cases q : k = j
    · subst q; exact absurd h hd
    · exact L.full k (by (lia)) hd, by have := L.len; (lia)⟩
theorem Liv.more {D : Nat → Int} {R R' : Led} {ts : List (Addr × V × V)} {j : Nat} {a e ex rl ml : Addr} (L : Liv D R ts j) (h : D (32 * j) ≠ 229) (hR : ∀ p ∈ R, p ∈ R') (m1 : (a, O.tup [V.int j, V.ref e]) ∈ R') (m2 : (e, O.inst 74 ex) ∈ R') (m3 : (ex, EF (D (32 * j)) (D (32 * j + 15)) rl ml) ∈ R') (m4 : (ml, O.list (tl 16 fun i => D (32 * j + (16 + i)))) ∈ R') : Liv D R' (ts ++ [(a, V.int j, V.ref e)]) (j + 1) := by
  refine ⟨fun t ht => ?_, fun k hk hd => ?_, by have := L.len; simp; (lia)⟩
  · rcases List.mem_append.mp ht with ht | ht
    · obtain ⟨k, e, ex, rl, ml, h1, h2, h3, h4, h5, h6, h7⟩ := L.sound t ht
      exact ⟨k, e, ex, rl, ml, by (lia), h2, h3, hR _ h4, hR _ h5, hR _ h6, hR _ h7⟩
    · rw [List.mem_singleton.mp ht]
      exact ⟨j, e, ex, rl, ml, by (lia), h, rfl, m1, m2, m3, m4⟩
  · by_cases q : k = j
    · subst q; exact ⟨_, List.mem_append_right _ (.head _), rfl⟩
    · obtain ⟨t, ht, e⟩ := L.full k (by (lia)) hd
      exact ⟨t, List.mem_append_left _ ht, e⟩
/-- the blocks that are taken -/
noncomputable def Used (D : Nat → Int) (i : Nat) : Prop := i < 8 ∨ ∃ k, k < 8 ∧ D (32 * k) ≠ 229 ∧ ∃ j, j < 16 ∧ D (32 * k + (16 + j)) = (i : Int)
noncomputable def bl (n : Nat) (F : Nat → Bool) : List V := (List.range n).map fun i => V.bool (F i)
theorem bl_length (n : Nat) (F : Nat → Bool) : (bl n F).length = n := by simp [bl]
theorem bl_get {n : Nat} {F : Nat → Bool} {k : Nat} (h : k < n) : (bl n F)[k]? = some (.bool (F k)) := by simp [bl, h]
noncomputable def updB (F : Nat → Bool) (k : Nat) : Nat → Bool := fun i => if i = k then true else F i
theorem bl_set (n : Nat) (F : Nat → Bool) (k : Nat) : (bl n F).set k (.bool true) = bl n (updB F k) := by
  apply List.ext_getElem?
  intro i
  rw [List.getElem?_set]
  by_cases hi : i < n
  · by_cases h : k = i
    · subst h; rw [if_pos rfl, bl_length, if_pos hi, bl_get hi]; simp [updB]
    · rw [if_neg h, bl_get hi, bl_get hi]
      simp only [updB]; rw [if_neg (fun e => h e.symm)]
  · rw [List.getElem?_eq_none (by rw [bl_length]; (lia)), List.getElem?_eq_none (by rw [bl_length]; (lia))]
    split
    · rw [if_neg (by rw [bl_length]; (lia))]
    · rfl
section
variable {T : TC} {c : Cx} {y : Fx} {r : Loc} {S : Led} {K : V → Led → Prop}
theorem SubV.bl {value slice : Expr} {l : Addr} {n : Nat} {F : Nat → Bool} {x : Int} {a : Nat} (hm : (l, O.list (bl n F)) ∈ S) (hx : x = a) (ha : a < n) (hn : n ≤ 1000000) (h : K (.bool (F a)) S)
    (hs : ∀ t, subscripted slice false (.ref l) (.int x t) = operate [.ref l, .int x t] (getItem (.ref l) (.int x t)) := by intro _; with_unfolding_all rfl) : SubV T c r S value slice (.ref l) (.int x) K := by
  subst hx
  exact SubV.list hm (by (lia)) (by (lia)) (by rw [Int.toNat_natCast]; exact bl_get ha) h hs
theorem SetI.bl {l : Addr} {n : Nat} {F : Nat → Bool} {x : Int} {a : Nat} {S' : Led} {P : Led → Prop} (hc : Chg l (.list (bl n F)) (.list (bl n (updB F a))) S S') (hx : x = a) (ha : a < n) (hn : n ≤ 1000000) (h : P S') : SetI T c r S (.ref l) (.int x) (.bool true) P := by
  subst hx
  exact SetI.list (vs := Mine.bl n F) (by rw [Int.toNat_natCast, bl_set]; exact hc) (by (lia)) (by rw [bl_length]; (lia)) (by rw [bl_length]; (lia)) h
end
end Mine
end

section
set_option maxRecDepth 100000
namespace Mine
theorem eoct_same {D g mp : Nat → Int} {u c : Int} {k : Nat} (H : Has D u k g) : putAt D (32 * k) 32 (eoct u c g mp) = fun i => if i = 32 * k + 15 then c else if 32 * k + 16 ≤ i ∧ i < 32 * k + 32 then mp (i - (32 * k + 16)) else D i := by
  funext i
  unfold putAt eoct
  by_cases h : 32 * k ≤ i ∧ i < 32 * k + 32
  · rw [if_pos h]
    by_cases h1 : i = 32 * k + 15
    · rw [if_pos h1, if_neg (by (lia)), if_neg (by (lia)), if_neg (by (lia)), if_pos (by (lia))]
    · rw [if_neg h1]
      by_cases h2 : 32 * k + 16 ≤ i ∧ i < 32 * k + 32
      · rw [if_pos h2, if_neg (by (lia)), if_neg (by (lia)), if_neg (by (lia)), if_neg (by (lia))]
        rw [Nat.sub_sub]
      · rw [if_neg h2]
        by_cases h3 : i = 32 * k
        · rw [if_pos (by (lia)), h3, H.h1]
        · rw [if_neg (by (lia))]
          by_cases h4 : i < 32 * k + 12
          · rw [if_pos (by (lia)), H.hg _ (by (lia))]; congr 1; (lia)
          · rw [if_neg (by (lia)), if_pos (by (lia))]
            have : i = 32 * k + 12 ∨ i = 32 * k + 13 ∨ i = 32 * k + 14 := by (lia)
            rcases this with e | e | e <;> rw [e]
            · exact H.h12.symm
            · exact H.h13.symm
            · exact H.h14.symm
  · rw [if_neg h, if_neg (by (lia)), if_neg (by (lia))]
theorem eoct_slot {D g : Nat → Int} {u v : Int} {k s : Nat} (H : Has D u k g) (hs : s < 16) : putAt D (32 * k) 32 (eoct u (D (32 * k + 15)) g (upd (fun i => D (32 * k + (16 + i))) s v)) = upd D (32 * k + 16 + s) v := by
  rw [eoct_same H]
  funext i
  unfold upd
  by_cases h : i = 32 * k + 16 + s
  · rw [if_neg (by (lia)), if_pos (by (lia)), if_pos (by (lia)), if_pos h]
  · rw [if_neg h]
    by_cases h1 : i = 32 * k + 15
    · rw [if_pos h1, h1]
    · rw [if_neg h1]
      by_cases h2 : 32 * k + 16 ≤ i ∧ i < 32 * k + 32
      · rw [if_pos h2, if_neg (by (lia))]; dsimp only; congr 1; (lia)
      · rw [if_neg h2]
theorem eoct_cnt {D g : Nat → Int} {u v : Int} {k : Nat} (H : Has D u k g) {mp : Nat → Int} (hm : ∀ i, i < 16 → mp i = D (32 * k + (16 + i))) : putAt D (32 * k) 32 (eoct u v g mp) = upd D (32 * k + 15) v := by
  rw [eoct_same H]
  funext i
  unfold upd
  by_cases h1 : i = 32 * k + 15
  · rw [if_pos h1, if_pos h1]
  · rw [if_neg h1, if_neg h1]
    by_cases h2 : 32 * k + 16 ≤ i ∧ i < 32 * k + 32
    · rw [if_pos h2, hm _ (by (lia))]; congr 1; (lia)
    · rw [if_neg h2]
end Mine
end

section
set_option maxRecDepth 100000
open PySem
namespace Mine
noncomputable def F0 (f : Nat → Int) : Nat → Int := putAt f 96 16 fun _ => 0
noncomputable def NF (f : Nat → Int) (a : Nat) : Nat → Int := putAt f a 36 fun i => if i < 12 then (if i < 1 then 0 else if i - 1 = 0 then 65 else 32) else 0
noncomputable def pat (n : Int) (u : Nat) : Nat → Int := fun i => (n + 3 * (u : Int) + 11 * (i : Nat)).fmod 256
/-- what a deed does -/
noncomputable def NB (f : Nat → Int) (a : Nat) : Nat → Int := fun i => f (a + 1 + i)
noncomputable def Mk (u : Nat) (f D : Nat → Int) (c : Int) (f' D' : Nat → Int) : Prop := ∃ k, k < 8 ∧ D (32 * k) = 229 ∧ (∀ i, i < k → D (32 * i) ≠ 229) ∧ c = 0 ∧
  f' = putAt (upd (NF f (40 * u)) (40 * u + 14) 0) (40 * u + 12) 20 (fun i => if i = 2 then 128 else 0) ∧ D' = putAt D (32 * k) 32 (eoct u 0 (fun i => upd (NF f (40 * u)) (40 * u + 14) 0 (40 * u + 1 + i)) fun _ => 0)
noncomputable def Op (u : Nat) (f D : Nat → Int) (c : Int) (f' D' : Nat → Int) : Prop := D' = D ∧
  (((∀ k, k < 8 → D (32 * k) ≠ u) ∧ c = 255 ∧ f' = upd (NF f (40 * u)) (40 * u + 14) 0) ∨
  (∃ k, Has D u k (NB (NF f (40 * u)) (40 * u)) ∧ c = 0 ∧ f' = upd (putAt (upd (NF f (40 * u)) (40 * u + 14) 0) (40 * u + 1) 31 fun i => D (32 * k + (1 + i))) (40 * u + 14) 128))
noncomputable def Sz (u : Nat) (f D : Nat → Int) (c : Int) (f' D' : Nat → Int) : Prop := D' = D ∧
  (((∀ k, k < 8 → D (32 * k) ≠ u) ∧ c = 255 ∧ f' = putAt f (40 * u + 33) 3 fun i => if i = 0 then 0 else 0) ∨
  (∃ k, Has D u k (NB f (40 * u)) ∧ c = 0 ∧ f' = putAt f (40 * u + 33) 3 fun i => if i = 0 then D (32 * k + 15) else 0))
noncomputable def wrF (f2 : Nat → Int) (a : Nat) : Nat → Int := upd (upd (upd f2 (a + 15) (max (f2 (a + 15)) (f2 (a + 32) + 1))) (a + 14) 0) (a + 32) (f2 (a + 32) + 1)
noncomputable def wrD (f2 D2 : Nat → Int) (a : Nat) (g : Nat → Int) : Nat → Int := putAt D2 (32 * (f2 (a + 16 + (f2 (a + 32)).toNat / 2)).toNat + 16 * ((f2 (a + 32)).toNat % 2)) 16 g
noncomputable def Al (u : Nat) (f D : Nat → Int) (f2 D2 : Nat → Int) : Prop :=
  (f (40 * u + 16 + (f (40 * u + 32)).toNat / 2) ≠ 0 ∧ f2 = f ∧ D2 = D) ∨
  (f (40 * u + 16 + (f (40 * u + 32)).toNat / 2) = 0 ∧ ∃ k i : Nat, Has D u k (NB f (40 * u)) ∧ i < 20 ∧ ¬ Used D i ∧ f2 = upd f (40 * u + 16 + (f (40 * u + 32)).toNat / 2) i ∧ D2 = upd D (32 * k + 16 + (f (40 * u + 32)).toNat / 2) i)
noncomputable def Wn (u : Nat) (f D : Nat → Int) (c : Int) (f' D' : Nat → Int) : Prop := ∃ f2 D2, Al u f D f2 D2 ∧ c = 0 ∧ f' = wrF f2 (40 * u) ∧ D' = wrD f2 D2 (40 * u) (fun i => f (96 + i))
noncomputable def Rn (u : Nat) (f D : Nat → Int) (c : Int) (f' D' : Nat → Int) : Prop := D' = D ∧ c = rdCode f (40 * u) ∧ f' = if rdCode f (40 * u) = 0 then upd (rdMem f (40 * u) D) (40 * u + 32) (f (40 * u + 32) + 1) else f
noncomputable def n3 (f : Nat → Int) (a : Nat) : Nat → Int := upd (putAt f (a + 33) 3 fun i => if i = 0 then 3 else 0) (a + 32) 3
noncomputable def Nu (u : Nat) (f D : Nat → Int) (c : Int) (f' D' : Nat → Int) : Prop := D' = D ∧ c = rdCode (n3 f (40 * u)) (40 * u) ∧ f' = rdMem (n3 f (40 * u)) (40 * u) D
noncomputable def Cl (u : Nat) (f D : Nat → Int) (c : Int) (f' D' : Nat → Int) : Prop := c = 0 ∧
  ((f (40 * u + 14) = 128 ∧ f' = f ∧ D' = D) ∨ (f (40 * u + 14) = 0 ∧ ∃ k, Has D u k (NB f (40 * u)) ∧ f' = upd f (40 * u + 14) 128 ∧ D' = upd D (32 * k + 15) (max (D (32 * k + 15)) (f (40 * u + 15)))))
noncomputable def Wh (u : Nat) (f D : Nat → Int) (c : Int) (f' D' : Nat → Int) : Prop := D' = D ∧ c = 0 ∧ f' = putAt f (40 * u + 33) 3 fun i => if i = 0 then f (40 * u + 32) else 0
noncomputable def De (u : Nat) (f D : Nat → Int) (c : Int) (f' D' : Nat → Int) : Prop := f' = f ∧ c = 0 ∧ ∃ k, Has D u k (NB f (40 * u)) ∧ D' = upd D (32 * k) 229
/-- the deeds by number -/
noncomputable def dn : Nat → Str
  | 0 => Str.ofString "make" | 1 => Str.ofString "open" | 2 => Str.ofString "size" | 3 => Str.ofString "write" | 4 => Str.ofString "next" | 5 => Str.ofString "number" | 6 => Str.ofString "close" | 7 => Str.ofString "where" | _ => Str.ofString "delete"
noncomputable def Step (u : Nat) (n : Int) (f D : Nat → Int) (q : Nat) (c : Int) (f' D' : Nat → Int) : Prop := match q with
  | 0 => Mk u f D c f' D'
  | 1 => Op u f D c f' D'
  | 2 => Sz u f D c f' D'
  | 3 => Wn u (putAt f 96 16 (pat n u)) D c f' D'
  | 4 => Rn u f D c f' D'
  | 5 => Nu u f D c f' D'
  | 6 => Cl u f D c f' D'
  | 7 => Wh u f D c f' D'
  | _ => De u f D c f' D'
/-- the blocks' bounds, a free block, for a write -/
structure Wr (u : Nat) (f D : Nat → Int) : Prop where
  F : Fcb f (40 * u)
  cr : f (40 * u + 32) < 32
  rc : f (40 * u + 15) < 32
  mp : ∀ i, i < 16 → f (40 * u + 16 + i) < 20
  al : ∃ k, Has D u k (NB f (40 * u)) ∧ ∀ i, i < 16 → D (32 * k + (16 + i)) = f (40 * u + 16 + i)
  HL : ∀ k, k < 8 → D (32 * k) ≠ 229 → D (32 * k + 12) = 0 ∧ D (32 * k + 13) = 0 ∧ D (32 * k + 14) = 0
  hF : ∀ n, n < 20 → ∃ i, i < 20 ∧ i ≠ n ∧ ¬ Used D i
/-- when a deed may be done -/
noncomputable def Can (u : Nat) (n : Int) (f D : Nat → Int) (q : Nat) : Prop := match q with
  | 0 => ∃ k, k < 8 ∧ D (32 * k) = 229 ∧ ∀ i, i < k → D (32 * i) ≠ 229
  | 1 => (∀ k, k < 8 → D (32 * k) ≠ u) ∨ ∃ k, Has D u k (NB (NF f (40 * u)) (40 * u))
  | 2 => (∀ k, k < 8 → D (32 * k) ≠ u) ∨ ∃ k, Has D u k (NB f (40 * u))
  | 3 => Wr u (putAt f 96 16 (pat n u)) D
  | 4 => Rd f (40 * u) D
  | 5 => n.fmod 5 = 3 ∧ Fcb f (40 * u) ∧ Rd (n3 f (40 * u)) (40 * u) D
  | 6 => f (40 * u + 14) = 128 ∨ (f (40 * u + 14) = 0 ∧ Fcb f (40 * u) ∧ ∃ k, Has D u k (NB f (40 * u)) ∧ ∀ i, i < 16 → f (40 * u + 16 + i) = D (32 * k + (16 + i)))
  | 7 => Fcb f (40 * u)
  | _ => ∃ k, Has D u k (NB f (40 * u))
end Mine
end

section
set_option maxRecDepth 100000
open PySem
namespace Mine
theorem upd_ne {f : Nat → Int} {k i : Nat} {v : Int} (h : i ≠ k) : upd f k v i = f i := if_neg h
theorem upd_eq {f : Nat → Int} {k i : Nat} {v : Int} (h : i = k) : upd f k v i = v := if_pos h
theorem putAt_in {f g : Nat → Int} {a m i : Nat} (h : a ≤ i ∧ i < a + m) : putAt f a m g i = g (i - a) := if_pos h
theorem putAt_out {f g : Nat → Int} {a m i : Nat} (h : ¬ (a ≤ i ∧ i < a + m)) : putAt f a m g i = f i := if_neg h
local macro_rules | `(tactic| wtm_at "p:ev") => `(tactic| repeat (first | rw [upd_ne (by (lia))] | rw [upd_eq (by (lia))] | rw [putAt_out (by (lia))] | rw [putAt_in (by (lia))]))
/-- one disk with the control blocks on it -/
structure G (f D : Nat → Int) (T : Nat → Bool) (k : Nat → Nat) (wr : Nat → Nat → Prop) (cl : Prop) : Prop where
  fo : ∀ i, i < 112 → 0 ≤ f i ∧ f i < 256
  Do : ∀ i, i < 640 → 0 ≤ D i ∧ D i < 256
  f12 : ∀ u, u < 2 → f (40 * u + 12) = 0
  f14 : ∀ u, u < 2 → f (40 * u + 14) = 0 ∨ f (40 * u + 14) = 128
  nm : ∀ u, u < 2 → T u = true → ∀ i, i < 11 → f (40 * u + 1 + i) = if i = 0 then 65 else 32
  kl : ∀ u, u < 2 → T u = true → k u < 8
  us : ∀ u, u < 2 → T u = true → D (32 * k u) = u
  dn : ∀ u, u < 2 → T u = true → ∀ i, i < 11 → D (32 * k u + (1 + i)) = if i = 0 then 65 else 32
  dz : ∀ u, u < 2 → T u = true → D (32 * k u + 12) = 0 ∧ D (32 * k u + 13) = 0 ∧ D (32 * k u + 14) = 0
  mp : ∀ u, u < 2 → T u = true → ∀ j, j < 16 → D (32 * k u + (16 + j)) = f (40 * u + 16 + j)
  fr : ∀ i, i < 8 → D (32 * i) = 229 ∨ ∃ u, u < 2 ∧ T u = true ∧ k u = i
  rg : ∀ u, u < 2 → T u = true → ∀ j, j < 16 → f (40 * u + 16 + j) = 0 ∨ (8 ≤ f (40 * u + 16 + j) ∧ f (40 * u + 16 + j) < 20)
  ij : ∀ u v i j, u < 2 → v < 2 → T u = true → T v = true → i < 16 → j < 16 → f (40 * u + 16 + i) ≠ 0 → f (40 * u + 16 + i) = f (40 * v + 16 + j) → u = v ∧ i = j
  wb : ∀ u, u < 2 → T u = true → ∀ i, wr u i → i < 32 ∧ f (40 * u + 16 + i / 2) ≠ 0
  cln : cl → ∀ b h, 8 ≤ b → b < 20 → h < 2 → (∀ u j, u < 2 → T u = true → j < 16 → f (40 * u + 16 + j) = ((b : Nat) : Int) → ¬ wr u (2 * j + h)) → ∀ t, t < 16 → D (32 * b + 16 * h + t) = 229
section
variable {f D : Nat → Int} {T : Nat → Bool} {k : Nat → Nat} {wr : Nat → Nat → Prop} {cl : Prop} {u : Nat}
theorem Has.name {D g g' : Nat → Int} {u : Int} {k : Nat} (H : Has D u k g) (h : ∀ i, i < 11 → g' i = g i) : Has D u k g' :=
  ⟨H.hk, H.h1, H.h2, fun i hi => (h i hi).trans (H.hg i hi), H.h0, H.h12, H.h13, H.h14, H.oct, by rw [h 8 (by (lia))]; exact H.low⟩
theorem G.kd (g : G f D T k wr cl) {u v : Nat} (hu : u < 2) (hv : v < 2) (ht : T u = true) (hw : T v = true) (h : k u = k v) : u = v := by
  have a := g.us u hu ht
  have b := g.us v hv hw
  rw [h] at a
  (lia)
theorem G.has (g : G f D T k wr cl) (hu : u < 2) (ht : T u = true) : Has D u (k u) (NB f (40 * u)) := by
  have z := g.dz u hu ht
  refine ⟨g.kl u hu ht, g.us u hu ht, fun i hi hn => ?_, fun i hi => ?_, by (lia), z.1, z.2.1, z.2.2, fun i hi => g.Do _ (by have := g.kl u hu ht; (lia)), ?_⟩
  · rcases g.fr i hi with e | ⟨v, hv, hw, e⟩
    · (lia)
    · have b := g.us v hv hw
      rw [e] at b
      intro c
      have : v = u := by (lia)
      subst this; exact hn e.symm
  · rw [g.dn u hu ht i hi]; exact g.nm u hu ht i hi
  · show f (40 * u + 1 + 8) < 128
    rw [g.nm u hu ht 8 (by (lia))]; decide
theorem nf_name (f : Nat → Int) (a i : Nat) (hi : i < 11) : NB (NF f a) a i = if i = 0 then 65 else 32 := by
  unfold NB NF
  wtm_at "p:ev"
  rw [if_pos (by (lia)), if_neg (by (lia))]
  by_cases h : i = 0
  · rw [if_pos (by (lia)), if_pos h]
  · rw [if_neg (by (lia)), if_neg h]
theorem G.hasN (g : G f D T k wr cl) (hu : u < 2) (ht : T u = true) : Has D u (k u) (NB (NF f (40 * u)) (40 * u)) :=
  (g.has hu ht).name fun i hi => (nf_name f _ i hi).trans (g.nm u hu ht i hi).symm
theorem G.no (g : G f D T k wr cl) (hu : u < 2) (ht : T u = false) : ∀ i, i < 8 → D (32 * i) ≠ u := fun i hi => by
  rcases g.fr i hi with e | ⟨v, hv, hw, e⟩
  · (lia)
  · have b := g.us v hv hw
    rw [e] at b
    intro c
    have : v = u := by (lia)
    subst this; rw [ht] at hw; cases hw
theorem G.HL (g : G f D T k wr cl) : ∀ k, k < 8 → D (32 * k) ≠ 229 → D (32 * k + 12) = 0 ∧ D (32 * k + 13) = 0 ∧ D (32 * k + 14) = 0 := fun i hi h => by
  rcases g.fr i hi with e | ⟨v, hv, hw, e⟩
  · exact absurd e h
  · subst e; exact g.dz v hv hw
theorem G.first (g : G f D T k wr cl) : ∃ k, k < 8 ∧ D (32 * k) = 229 ∧ ∀ i, i < k → D (32 * i) ≠ 229 := by
  by_cases h0 : D (32 * 0) = 229
  · exact ⟨0, by (lia), h0, fun i hi => by (lia)⟩
  by_cases h1 : D (32 * 1) = 229
  · exact ⟨1, by (lia), h1, fun i hi => by have : i = 0 := by (lia)
                                           subst this; exact h0⟩
  by_cases h2 : D (32 * 2) = 229
  · refine ⟨2, by (lia), h2, fun i hi => ?_⟩
    have : i = 0 ∨ i = 1 := by (lia)
    rcases this with e | e <;> subst e
    · exact h0
    · exact h1
  exfalso
  rcases g.fr 0 (by (lia)) with e | ⟨a, a1, a2, a3⟩
  · exact h0 e
  rcases g.fr 1 (by (lia)) with e | ⟨b, b1, b2, b3⟩
  · exact h1 e
  rcases g.fr 2 (by (lia)) with e | ⟨c, c1, c2, c3⟩
  · exact h2 e
  have : a = b ∨ a = c ∨ b = c := by (lia)
  rcases this with e | e | e <;> subst e <;> (lia)
theorem G.fcb (g : G f D T k wr cl) (hu : u < 2) : Fcb f (40 * u) := ⟨g.fo, by (lia), g.f12 u hu, g.f14 u hu⟩
/-- the control blocks change, but for what counts -/
theorem G.frame (g : G f D T k wr cl) {f' : Nat → Int} (h0 : ∀ i, i < 112 → 0 ≤ f' i ∧ f' i < 256) (h1 : ∀ u, u < 2 → f' (40 * u + 12) = 0) (h2 : ∀ u, u < 2 → f' (40 * u + 14) = 0 ∨ f' (40 * u + 14) = 128)
    (h3 : ∀ u, u < 2 → T u = true → ∀ i, i < 11 → f' (40 * u + 1 + i) = f (40 * u + 1 + i)) (h4 : ∀ u, u < 2 → T u = true → ∀ i, i < 16 → f' (40 * u + 16 + i) = f (40 * u + 16 + i)) : G f' D T k wr cl where
  fo := h0
  Do := g.Do
  f12 := h1
  f14 := h2
  nm u hu ht i hi := (h3 u hu ht i hi).trans (g.nm u hu ht i hi)
  kl := g.kl
  us := g.us
  dn := g.dn
  dz := g.dz
  mp u hu ht j hj := (g.mp u hu ht j hj).trans (h4 u hu ht j hj).symm
  fr := g.fr
  rg u hu ht j hj := by rw [h4 u hu ht j hj]; exact g.rg u hu ht j hj
  ij u v i j hu hv ht hw hi hj := by rw [h4 u hu ht i hi, h4 v hv hw j hj]; exact g.ij u v i j hu hv ht hw hi hj
  wb u hu ht i hi := by
    obtain ⟨a, b⟩ := g.wb u hu ht i hi
    exact ⟨a, by rw [h4 u hu ht _ (by (lia))]; exact b⟩
  cln c b h b1 b2 h1 hh := g.cln c b h b1 b2 h1 fun u j hu ht hj e => hh u j hu ht hj (by rw [h4 u hu ht j hj]; exact e)
theorem G.ghost (g : G f D T k wr cl) {wr' : Nat → Nat → Prop} {cl' : Prop} (h : ∀ u, u < 2 → T u = true → ∀ i, wr' u i ↔ wr u i) (hc : cl' → cl) : G f D T k wr' cl' where
  fo := g.fo
  Do := g.Do
  f12 := g.f12
  f14 := g.f14
  nm := g.nm
  kl := g.kl
  us := g.us
  dn := g.dn
  dz := g.dz
  mp := g.mp
  fr := g.fr
  rg := g.rg
  ij := g.ij
  wb u hu ht i hi := g.wb u hu ht i ((h u hu ht i).mp hi)
  cln c b h' b1 b2 h1 hh := g.cln (hc c) b h' b1 b2 h1 fun u j hu ht hj e w => hh u j hu ht hj e ((h u hu ht _).mpr w)
noncomputable def updT (T : Nat → Bool) (u : Nat) (b : Bool) : Nat → Bool := fun i => if i = u then b else T i
noncomputable def updK (k : Nat → Nat) (u x : Nat) : Nat → Nat := fun i => if i = u then x else k i
noncomputable def updW (wr : Nat → Nat → Prop) (u : Nat) (p : Nat → Prop) : Nat → Nat → Prop := fun i j => if i = u then p j else wr i j
/-- a file is made -/
theorem G.make (g : G f D T k wr cl) (hu : u < 2) (ht : T u = false) {kk : Nat} (hk : kk < 8) (e1 : D (32 * kk) = 229) {c : Int} {f' D' : Nat → Int}
    (h0 : ∀ i, i < 112 → 0 ≤ f' i ∧ f' i < 256) (hf : ∀ i, ¬ (40 * u ≤ i ∧ i < 40 * u + 36) → i < 96 → f' i = f i) (h12 : f' (40 * u + 12) = 0) (h14 : f' (40 * u + 14) = 0 ∨ f' (40 * u + 14) = 128) (hn : ∀ i, i < 11 → f' (40 * u + 1 + i) = if i = 0 then 65 else 32) (hm : ∀ i, i < 16 → f' (40 * u + 16 + i) = 0)
    (hD : ∀ i, i < 32 * kk ∨ 32 * kk + 32 ≤ i → D' i = D i) (d0 : D' (32 * kk) = u) (d1 : ∀ i, i < 11 → D' (32 * kk + (1 + i)) = if i = 0 then 65 else 32) (d2 : ∀ i, 12 ≤ i → i < 32 → D' (32 * kk + i) = 0) :
    G f' D' (updT T u true) (updK k u kk) (updW wr u fun _ => False) cl := by
  have kn : ∀ v, v < 2 → T v = true → k v ≠ kk := fun v hv hw e => by
    have := g.us v hv hw; rw [e] at this; (lia)
  have ne : ∀ v, T v = true → v ≠ u := fun v hw e => by subst e; rw [ht] at hw; cases hw
  have cas : ∀ v, updT T u true v = true → v ≠ u → T v = true := fun v hv hn => by unfold updT at hv; rwa [if_neg hn] at hv
  have ku : updK k u kk u = kk := if_pos rfl
  have kv : ∀ v, v ≠ u → updK k u kk v = k v := fun v h => if_neg h
  have Dv : ∀ v, v < 2 → T v = true → ∀ i, i < 32 → D' (32 * k v + i) = D (32 * k v + i) := fun v hv hw i hi => hD _ (by have := kn v hv hw; (lia))
  have fv : ∀ v, v < 2 → v ≠ u → ∀ i, i < 36 → f' (40 * v + i) = f (40 * v + i) := fun v hv hn i hi => hf _ (by (lia)) (by (lia))
  constructor
  case fo => exact h0
  case Do =>
    intro i hi
    by_cases h : i < 32 * kk ∨ 32 * kk + 32 ≤ i
    · rw [hD i h]; exact g.Do i hi
    · obtain ⟨j, rfl⟩ : ∃ j, i = 32 * kk + j := ⟨i - 32 * kk, by (lia)⟩
      by_cases q : j = 0
      · subst q; have := d0; rw [Nat.add_zero]; (lia)
      · by_cases q2 : j < 12
        · have := d1 (j - 1) (by (lia))
          rw [show 1 + (j - 1) = j by (lia)] at this
          rw [this]; split <;> decide
        · rw [d2 j (by (lia)) (by (lia))]; decide
  case f12 =>
    intro v hv
    by_cases e : v = u
    · rcases e.symm with rfl; exact h12
    · rw [fv v hv e 12 (by (lia))]; exact g.f12 v hv
  case f14 =>
    intro v hv
    by_cases e : v = u
    · rcases e.symm with rfl; exact h14
    · rw [fv v hv e 14 (by (lia))]; exact g.f14 v hv
  case nm =>
    intro v hv hw i hi
    by_cases e : v = u
    · rcases e.symm with rfl; exact hn i hi
    · rw [Nat.add_assoc, fv v hv e _ (by (lia)), ← Nat.add_assoc]; exact g.nm v hv (cas v hw e) i hi
  case kl =>
    intro v hv hw
    by_cases e : v = u
    · rcases e.symm with rfl; rw [ku]; exact hk
    · rw [kv v e]; exact g.kl v hv (cas v hw e)
  case us =>
    intro v hv hw
    by_cases e : v = u
    · rcases e.symm with rfl; rw [ku]; exact d0
    · rw [kv v e]; have := Dv v hv (cas v hw e) 0 (by (lia)); rw [Nat.add_zero] at this; rw [this]; exact g.us v hv (cas v hw e)
  case dn =>
    intro v hv hw i hi
    by_cases e : v = u
    · rcases e.symm with rfl; rw [ku]; exact d1 i hi
    · rw [kv v e, Dv v hv (cas v hw e) _ (by (lia))]; exact g.dn v hv (cas v hw e) i hi
  case dz =>
    intro v hv hw
    by_cases e : v = u
    · rcases e.symm with rfl; rw [ku]; exact ⟨d2 _ (by (lia)) (by (lia)), d2 _ (by (lia)) (by (lia)), d2 _ (by (lia)) (by (lia))⟩
    · rw [kv v e, Dv v hv (cas v hw e) _ (by (lia)), Dv v hv (cas v hw e) _ (by (lia)), Dv v hv (cas v hw e) _ (by (lia))]; exact g.dz v hv (cas v hw e)
  case mp =>
    intro v hv hw i hi
    by_cases e : v = u
    · rcases e.symm with rfl; rw [ku, d2 _ (by (lia)) (by (lia)), hm i hi]
    · rw [kv v e, Dv v hv (cas v hw e) _ (by (lia)), Nat.add_assoc (40 * v), fv v hv e _ (by (lia)), ← Nat.add_assoc (40 * v)]; exact g.mp v hv (cas v hw e) i hi
  case fr =>
    intro i hi
    by_cases e : i = kk
    · rcases e.symm with rfl; exact .inr ⟨u, hu, if_pos rfl, ku⟩
    · rw [hD _ (by (lia))]
      rcases g.fr i hi with h | ⟨v, hv, hw, h⟩
      · exact .inl h
      · exact .inr ⟨v, hv, by unfold updT; rw [if_neg (ne v hw)]; exact hw, by rw [kv v (ne v hw)]; exact h⟩
  case rg =>
    intro v hv hw j hj
    by_cases e : v = u
    · rcases e.symm with rfl; exact .inl (hm j hj)
    · rw [Nat.add_assoc, fv v hv e _ (by (lia)), ← Nat.add_assoc]; exact g.rg v hv (cas v hw e) j hj
  case ij =>
    intro v w i j hv hw tv tw hi hj
    by_cases e : v = u
    · rcases e.symm with rfl; rw [hm i hi]; intro h; exact absurd rfl h
    · by_cases e2 : w = u
      · subst e2; rw [hm j hj]; intro h h2; exact absurd h2 h
      · rw [Nat.add_assoc, fv v hv e _ (by (lia)), Nat.add_assoc (40 * w), fv w hw e2 _ (by (lia)), ← Nat.add_assoc, ← Nat.add_assoc]; exact g.ij v w i j hv hw (cas v tv e) (cas w tw e2) hi hj
  case wb =>
    intro v hv hw i hi
    by_cases e : v = u
    · rcases e.symm with rfl; unfold updW at hi; rw [if_pos rfl] at hi; exact hi.elim
    · unfold updW at hi; rw [if_neg e] at hi
      obtain ⟨a, b⟩ := g.wb v hv (cas v hw e) i hi
      exact ⟨a, by rw [Nat.add_assoc, fv v hv e _ (by (lia)), ← Nat.add_assoc]; exact b⟩
  case cln =>
    intro c b h b1 b2 h1 hh t ht'
    rw [hD _ (by (lia))]
    refine g.cln c b h b1 b2 h1 (fun v j hv hw hj e w => ?_) t ht'
    have nv := ne v hw
    refine hh v j hv (by unfold updT; rw [if_neg nv]; exact hw) hj (by rw [Nat.add_assoc, fv v hv nv _ (by (lia)), ← Nat.add_assoc]; exact e) ?_
    unfold updW; rw [if_neg nv]; exact w
/-- a file is deleted -/
theorem G.del (g : G f D T k wr cl) (hu : u < 2) (ht : T u = true) (hc : cl' → cl ∧ ∀ j, j < 16 → f (40 * u + 16 + j) = 0) : G f (upd D (32 * k u) 229) (updT T u false) k wr cl' := by
  have ne : ∀ v, updT T u false v = true → v ≠ u := fun v hw e => by subst e; unfold updT at hw; rw [if_pos rfl] at hw; cases hw
  have cas : ∀ v, updT T u false v = true → T v = true := fun v hv => by have := ne v hv; unfold updT at hv; rwa [if_neg this] at hv
  have kn : ∀ v, v < 2 → updT T u false v = true → k v ≠ k u := fun v hv hw e => ne v hw (g.kd hv hu (cas v hw) ht e)
  have hk := g.kl u hu ht
  constructor
  case fo => exact g.fo
  case Do =>
    intro i hi
    by_cases h : i = 32 * k u
    · rw [upd_eq h]; decide
    · rw [upd_ne h]; exact g.Do i hi
  case f12 => exact g.f12
  case f14 => exact g.f14
  case nm => exact fun v hv hw => g.nm v hv (cas v hw)
  case kl => exact fun v hv hw => g.kl v hv (cas v hw)
  case us => intro v hv hw; have := kn v hv hw; rw [upd_ne (by (lia))]; exact g.us v hv (cas v hw)
  case dn => intro v hv hw i hi; have := kn v hv hw; rw [upd_ne (by (lia))]; exact g.dn v hv (cas v hw) i hi
  case dz => intro v hv hw; have := kn v hv hw; rw [upd_ne (by (lia)), upd_ne (by (lia)), upd_ne (by (lia))]; exact g.dz v hv (cas v hw)
  case mp => intro v hv hw i hi; have := kn v hv hw; rw [upd_ne (by (lia))]; exact g.mp v hv (cas v hw) i hi
  case fr =>
    intro i hi
    by_cases e : i = k u
    · rcases e.symm with rfl; exact .inl (upd_eq rfl)
    · rw [upd_ne (by (lia))]
      rcases g.fr i hi with h | ⟨v, hv, hw, h⟩
      · exact .inl h
      · refine .inr ⟨v, hv, ?_, h⟩
        unfold updT; rw [if_neg (fun z => e (by rw [← z]; exact h.symm))]; exact hw
  case rg => exact fun v hv hw => g.rg v hv (cas v hw)
  case ij => exact fun v w i j hv hw tv tw => g.ij v w i j hv hw (cas v tv) (cas w tw)
  case wb => exact fun v hv hw => g.wb v hv (cas v hw)
  case cln =>
    intro c b h b1 b2 h1 hh t ht'
    rw [upd_ne (by (lia))]
    obtain ⟨c1, c2⟩ := hc c
    refine g.cln c1 b h b1 b2 h1 (fun v j hv hw hj e w => ?_) t ht'
    by_cases nv : v = u
    · subst nv; rw [c2 j hj] at e; (lia)
    · exact hh v j hv (by unfold updT; rw [if_neg nv]; exact hw) hj e w
/-- the entry's count changes -/
theorem G.cnt (g : G f D T k wr cl) (hu : u < 2) (ht : T u = true) {c : Int} (h0 : 0 ≤ c) (h1 : c < 256) : G f (upd D (32 * k u + 15) c) T k wr cl := by
  have hk := g.kl u hu ht
  constructor
  case fo => exact g.fo
  case Do =>
    intro i hi
    by_cases h : i = 32 * k u + 15
    · rw [upd_eq h]; exact ⟨h0, h1⟩
    · rw [upd_ne h]; exact g.Do i hi
  case f12 => exact g.f12
  case f14 => exact g.f14
  case nm => exact g.nm
  case kl => exact g.kl
  case us => intro v hv hw; rw [upd_ne (by (lia))]; exact g.us v hv hw
  case dn => intro v hv hw i hi; rw [upd_ne (by (lia))]; exact g.dn v hv hw i hi
  case dz => intro v hv hw; rw [upd_ne (by (lia)), upd_ne (by (lia)), upd_ne (by (lia))]; exact g.dz v hv hw
  case mp => intro v hv hw i hi; rw [upd_ne (by (lia))]; exact g.mp v hv hw i hi
  case fr => intro i hi; rw [upd_ne (by (lia))]; exact g.fr i hi
  case rg => exact g.rg
  case ij => exact g.ij
  case wb => exact g.wb
  case cln => intro c' b h b1 b2 h1 hh t ht'; rw [upd_ne (by (lia))]; exact g.cln c' b h b1 b2 h1 hh t ht'
/-- what no one uses is no one's block -/
theorem G.unused (g : G f D T k wr cl) {i : Nat} (hi : ¬ Used D i) : 8 ≤ i ∧ ∀ v, v < 2 → T v = true → ∀ j, j < 16 → f (40 * v + 16 + j) ≠ (i : Int) := by
  refine ⟨by by_cases h : 8 ≤ i; exact h; exact absurd (.inl (by (lia))) hi, fun v hv hw j hj e => hi (.inr ⟨k v, g.kl v hv hw, by rw [g.us v hv hw]; (lia), j, hj, ?_⟩)⟩
  rw [g.mp v hv hw j hj, e]
/-- a block is taken -/
theorem G.alloc (g : G f D T k wr cl) (hu : u < 2) (ht : T u = true) {s i : Nat} (hs : s < 16) (hz : f (40 * u + 16 + s) = 0) (hi : i < 20) (hn : ¬ Used D i) : G (upd f (40 * u + 16 + s) i) (upd D (32 * k u + 16 + s) i) T k wr cl := by
  have hk := g.kl u hu ht
  obtain ⟨i8, fresh⟩ := g.unused hn
  have fe : ∀ v j, v < 2 → j < 16 → ¬ (v = u ∧ j = s) → upd f (40 * u + 16 + s) i (40 * v + 16 + j) = f (40 * v + 16 + j) := fun v j hv hj h => upd_ne (by (lia))
  have fs : upd f (40 * u + 16 + s) (i : Nat) (40 * u + 16 + s) = i := upd_eq rfl
  constructor
  case fo =>
    intro x hx
    by_cases h : x = 40 * u + 16 + s
    · rw [upd_eq h]; (lia)
    · rw [upd_ne h]; exact g.fo x hx
  case Do =>
    intro x hx
    by_cases h : x = 32 * k u + 16 + s
    · rw [upd_eq h]; (lia)
    · rw [upd_ne h]; exact g.Do x hx
  case f12 => intro v hv; rw [upd_ne (by (lia))]; exact g.f12 v hv
  case f14 => intro v hv; rw [upd_ne (by (lia))]; exact g.f14 v hv
  case nm => intro v hv hw j hj; rw [upd_ne (by (lia))]; exact g.nm v hv hw j hj
  case kl => exact g.kl
  case us => intro v hv hw; rw [upd_ne (by (lia))]; exact g.us v hv hw
  case dn => intro v hv hw i hi; rw [upd_ne (by (lia))]; exact g.dn v hv hw i hi
  case dz => intro v hv hw; rw [upd_ne (by (lia)), upd_ne (by (lia)), upd_ne (by (lia))]; exact g.dz v hv hw
  case mp =>
    intro v hv hw j hj
    by_cases e : v = u ∧ j = s
    · obtain ⟨rfl, rfl⟩ := e; rw [upd_eq (by (lia)), fs]
    · rw [fe v j hv hj e, upd_ne]
      · exact g.mp v hv hw j hj
      · intro z
        have h1 : k v = k u := by (lia)
        exact e ⟨g.kd hv hu hw ht h1, by (lia)⟩
  case fr => intro i hi; rw [upd_ne (by (lia))]; exact g.fr i hi
  case rg =>
    intro v hv hw j hj
    by_cases e : v = u ∧ j = s
    · obtain ⟨rfl, rfl⟩ := e; rw [fs]; (lia)
    · rw [fe v j hv hj e]; exact g.rg v hv hw j hj
  case ij =>
    intro v w x y hv hw tv tw hx hy
    by_cases e : v = u ∧ x = s
    · by_cases e2 : w = u ∧ y = s
      · intro _ _; exact ⟨e.1.trans e2.1.symm, e.2.trans e2.2.symm⟩
      · obtain ⟨rfl, rfl⟩ := e
        rw [fs, fe w y hw hy e2]
        intro _ q; exact absurd q.symm (fresh w hw tw y hy)
    · by_cases e2 : w = u ∧ y = s
      · obtain ⟨rfl, rfl⟩ := e2
        rw [fs, fe v x hv hx e]
        intro _ q; exact absurd q (fresh v hv tv x hx)
      · rw [fe v x hv hx e, fe w y hw hy e2]
        exact g.ij v w x y hv hw tv tw hx hy
  case wb =>
    intro v hv hw x hx
    obtain ⟨a, b⟩ := g.wb v hv hw x hx
    refine ⟨a, ?_⟩
    by_cases e : v = u ∧ x / 2 = s
    · rw [e.1, e.2, fs]; (lia)
    · rw [fe v _ hv (by (lia)) e]; exact b
  case cln =>
    intro c b h b1 b2 h1 hh t ht'
    rw [upd_ne (by (lia))]
    refine g.cln c b h b1 b2 h1 (fun v j hv hw hj e => ?_) t ht'
    by_cases e2 : v = u ∧ j = s
    · rw [e2.1, e2.2, hz] at e; (lia)
    · exact hh v j hv hw hj (by rw [fe v j hv hj e2]; exact e)
/-- a record is written -/
theorem G.put (g : G f D T k wr cl) (hu : u < 2) (ht : T u = true) {x : Nat} {p : Nat → Int} (hx : x < 32) (hz : f (40 * u + 16 + x / 2) ≠ 0) (hp : ∀ i, i < 16 → 0 ≤ p i ∧ p i < 256) :
    G f (putAt D (32 * (f (40 * u + 16 + x / 2)).toNat + 16 * (x % 2)) 16 p) T k (updW wr u fun i => i = x ∨ wr u i) cl := by
  have r := (g.rg u hu ht (x / 2) (by (lia))).resolve_left hz
  constructor
  case fo => exact g.fo
  case Do =>
    intro i hi
    by_cases h : 32 * (f (40 * u + 16 + x / 2)).toNat + 16 * (x % 2) ≤ i ∧ i < 32 * (f (40 * u + 16 + x / 2)).toNat + 16 * (x % 2) + 16
    · rw [putAt_in h]; exact hp _ (by (lia))
    · rw [putAt_out h]; exact g.Do i hi
  case f12 => exact g.f12
  case f14 => exact g.f14
  case nm => exact g.nm
  case kl => exact g.kl
  case us => intro v hv hw; have := g.kl v hv hw; rw [putAt_out (by (lia))]; exact g.us v hv hw
  case dn => intro v hv hw i hi; have := g.kl v hv hw; rw [putAt_out (by (lia))]; exact g.dn v hv hw i hi
  case dz => intro v hv hw; have := g.kl v hv hw; rw [putAt_out (by (lia)), putAt_out (by (lia)), putAt_out (by (lia))]; exact g.dz v hv hw
  case mp => intro v hv hw i hi; have := g.kl v hv hw; rw [putAt_out (by (lia))]; exact g.mp v hv hw i hi
  case fr => intro i hi; rw [putAt_out (by (lia))]; exact g.fr i hi
  case rg => exact g.rg
  case ij => exact g.ij
  case wb =>
    intro v hv hw i hi
    unfold updW at hi
    by_cases e : v = u
    · subst e; rw [if_pos rfl] at hi
      rcases hi with rfl | hi
      · exact ⟨hx, hz⟩
      · exact g.wb v hv hw i hi
    · rw [if_neg e] at hi; exact g.wb v hv hw i hi
  case cln =>
    intro c b h b1 b2 h1 hh t ht'
    by_cases e : b = (f (40 * u + 16 + x / 2)).toNat ∧ h = x % 2
    · exfalso
      refine hh u (x / 2) hu ht (by (lia)) (by (lia)) ?_
      unfold updW; rw [if_pos rfl]; exact .inl (by (lia))
    · rw [putAt_out (by (lia))]
      refine g.cln c b h b1 b2 h1 (fun v j hv hw hj e2 w => ?_) t ht'
      refine hh v j hv hw hj e2 ?_
      unfold updW
      by_cases e3 : v = u
      · rw [if_pos e3]; subst e3; exact .inr w
      · rw [if_neg e3]; exact w
end
end Mine
end

section
set_option maxRecDepth 100000
open PySem
namespace Mine
noncomputable def nzl (f : Nat → Int) (u : Nat) : List Nat := (List.range 16).filter fun j => decide (f (40 * u + 16 + j) ≠ 0)
noncomputable def nz (f : Nat → Int) (u : Nat) : Nat := (nzl f u).length
noncomputable def bks (f : Nat → Int) (u : Nat) : List Nat := (nzl f u).map fun j => (f (40 * u + 16 + j)).toNat
noncomputable def tot (f : Nat → Int) (T : Nat → Bool) : Nat := (if T 0 = true then nz f 0 else 0) + (if T 1 = true then nz f 1 else 0)
theorem nzl_mem {f : Nat → Int} {u j : Nat} : j ∈ nzl f u ↔ j < 16 ∧ f (40 * u + 16 + j) ≠ 0 := by
  unfold nzl; rw [List.mem_filter, List.mem_range]; simp
theorem nz_congr {f g : Nat → Int} {u : Nat} (h : ∀ j, j < 16 → (f (40 * u + 16 + j) = 0 ↔ g (40 * u + 16 + j) = 0)) : nz f u = nz g u := by
  unfold nz nzl
  congr 1
  apply List.filter_congr
  intro j hj
  have := h j (List.mem_range.mp hj)
  simp [this]
theorem fl_one (p q : Nat → Bool) (s : Nat) (hp : p s = false) (hq : q s = true) (h : ∀ j, j ≠ s → q j = p j) : ∀ n, ((List.range n).filter q).length = ((List.range n).filter p).length + if s < n then 1 else 0 := fun n => by
  induction n with
  | zero => rfl
  | succ n ih =>
    rw [List.range_succ, List.filter_append, List.filter_append, List.length_append, List.length_append, ih]
    by_cases e : n = s
    · subst e; simp [hp, hq]
    · rw [show [n].filter q = [n].filter p by simp only [List.filter_cons, List.filter_nil, h n e]]
      by_cases e2 : s < n
      · rw [if_pos e2, if_pos (by (lia))]; (lia)
      · rw [if_neg e2, if_neg (by (lia))]; (lia)
theorem nz_set {f : Nat → Int} {u s : Nat} {v : Int} (hs : s < 16) (h0 : f (40 * u + 16 + s) = 0) (hv : v ≠ 0) : nz (upd f (40 * u + 16 + s) v) u = nz f u + 1 := by
  have := fl_one (fun j => decide (f (40 * u + 16 + j) ≠ 0)) (fun j => decide (upd f (40 * u + 16 + s) v (40 * u + 16 + j) ≠ 0)) s (by simp [h0]) (by simp [upd_eq, hv]) (fun j hj => by rw [upd_ne (by (lia))]) 16
  rw [if_pos hs] at this
  exact this
theorem fl_all (F : Nat → Bool) (l : List Nat) : (l.filter F).length + (l.filter fun i => !F i).length = l.length := by
  induction l with
  | nil => rfl
  | cons a l ih =>
    rw [List.filter_cons, List.filter_cons]
    cases F a <;> simp <;> (lia)
section
variable {f D : Nat → Int} {T : Nat → Bool} {k : Nat → Nat} {wr : Nat → Nat → Prop} {cl : Prop} {u : Nat}
theorem bks_mem {i : Nat} (g : G f D T k wr cl) (hu : u < 2) (ht : T u = true) : i ∈ bks f u ↔ 8 ≤ i ∧ i < 20 ∧ ∃ j, j < 16 ∧ f (40 * u + 16 + j) = (i : Int) := by
  unfold bks
  rw [List.mem_map]
  constructor
  · rintro ⟨j, hj, rfl⟩
    obtain ⟨a, b⟩ := nzl_mem.mp hj
    have r := (g.rg u hu ht j a).resolve_left b
    exact ⟨by (lia), by (lia), j, a, by (lia)⟩
  · rintro ⟨a, b, j, hj, e⟩
    exact ⟨j, nzl_mem.mpr ⟨hj, by (lia)⟩, by (lia)⟩
theorem bks_nodup (g : G f D T k wr cl) (hu : u < 2) (ht : T u = true) : (bks f u).Nodup := by
  unfold bks
  rw [List.Nodup, List.pairwise_map]
  refine ((List.pairwise_lt_range (n := 16)).filter _).imp_of_mem ?_
  intro a b ha hb h e
  obtain ⟨a1, a2⟩ := nzl_mem.mp ha
  obtain ⟨b1, b2⟩ := nzl_mem.mp hb
  have ra := (g.rg u hu ht a a1).resolve_left a2
  have rb := (g.rg u hu ht b b1).resolve_left b2
  have := (g.ij u u a b hu hu ht ht a1 b1 a2 (by (lia))).2
  (lia)
noncomputable def bkT (f : Nat → Int) (T : Nat → Bool) (u : Nat) : List Nat := if T u = true then bks f u else []
theorem bkT_mem {i : Nat} (g : G f D T k wr cl) (hu : u < 2) : i ∈ bkT f T u ↔ T u = true ∧ 8 ≤ i ∧ i < 20 ∧ ∃ j, j < 16 ∧ f (40 * u + 16 + j) = (i : Int) := by
  unfold bkT
  by_cases h : T u = true
  · rw [if_pos h, bks_mem g hu h]; simp [h]
  · rw [if_neg h]; simp [h]
theorem count_used (g : G f D T k wr cl) {F : Nat → Bool} (hF : ∀ i, i < 20 → (F i = true ↔ Used D i)) : ((List.range 20).filter fun i => !F i).length + tot f T = 12 := by
  have nodup : (List.range 8 ++ (bkT f T 0 ++ bkT f T 1)).Nodup := by
    rw [List.nodup_append]
    refine ⟨List.nodup_range, ?_, ?_⟩
    · rw [List.nodup_append]
      refine ⟨?_, ?_, ?_⟩
      · unfold bkT; split
        · exact bks_nodup g (by (lia)) (by assumption)
        · exact List.nodup_nil
      · unfold bkT; split
        · exact bks_nodup g (by (lia)) (by assumption)
        · exact List.nodup_nil
      · intro a ha b hb e
        subst e
        obtain ⟨t0, a8, _, i, hi, e1⟩ := (bkT_mem g (by (lia))).mp ha
        obtain ⟨t1, _, _, j, hj, e2⟩ := (bkT_mem g (by (lia))).mp hb
        have := (g.ij 0 1 i j (by (lia)) (by (lia)) t0 t1 hi hj (by (lia)) (by (lia))).1
        (lia)
    · intro a ha b hb e
      subst e
      rw [List.mem_range] at ha
      rcases List.mem_append.mp hb with hb | hb
      · have := ((bkT_mem g (by (lia))).mp hb).2.1; (lia)
      · have := ((bkT_mem g (by (lia))).mp hb).2.1; (lia)
  have mem : ∀ i, i ∈ (List.range 20).filter F ↔ i ∈ List.range 8 ++ (bkT f T 0 ++ bkT f T 1) := by
    intro i
    rw [List.mem_filter, List.mem_range, List.mem_append, List.mem_append, List.mem_range, bkT_mem g (by (lia)), bkT_mem g (by (lia))]
    constructor
    · rintro ⟨h1, h2⟩
      rcases (hF i h1).mp h2 with h | ⟨kk, k1, k2, j, hj, e⟩
      · exact .inl h
      · by_cases h8 : i < 8
        · exact .inl h8
        · rcases g.fr kk k1 with z | ⟨v, hv, tv, z⟩
          · exact absurd z k2
          · subst z
            rw [g.mp v hv tv j hj] at e
            have : v = 0 ∨ v = 1 := by (lia)
            rcases this with rfl | rfl
            · exact .inr (.inl ⟨tv, by (lia), h1, j, hj, e⟩)
            · exact .inr (.inr ⟨tv, by (lia), h1, j, hj, e⟩)
    · intro h
      have us : ∀ v, v < 2 → T v = true → ∀ j, j < 16 → f (40 * v + 16 + j) = (i : Int) → Used D i := fun v hv tv j hj e =>
        .inr ⟨k v, g.kl v hv tv, by rw [g.us v hv tv]; (lia), j, hj, by rw [g.mp v hv tv j hj]; exact e⟩
      rcases h with h | ⟨t, _, h2, j, hj, e⟩ | ⟨t, _, h2, j, hj, e⟩
      · exact ⟨by (lia), (hF i (by (lia))).mpr (.inl h)⟩
      · exact ⟨h2, (hF i h2).mpr (us 0 (by (lia)) t j hj e)⟩
      · exact ⟨h2, (hF i h2).mpr (us 1 (by (lia)) t j hj e)⟩
  have perm := (List.perm_ext_iff_of_nodup (List.nodup_range.filter F) nodup).mpr mem
  have len := perm.length_eq
  have all := fl_all F (List.range 20)
  have lb : ∀ v, (bkT f T v).length = if T v = true then nz f v else 0 := fun v => by
    unfold bkT; split
    · unfold bks nz; rw [List.length_map]
    · rfl
  rw [List.length_append, List.length_append, List.length_range, lb, lb] at len
  rw [List.length_range] at all
  unfold tot
  (lia)
/-- another free block -/
theorem G.other (g : G f D T k wr cl) (h : tot f T ≤ 10) (n : Nat) : ∃ i, i < 20 ∧ i ≠ n ∧ ¬ Used D i := by
  classical
  have c := count_used g (F := fun i => decide (Used D i)) (fun i _ => by simp)
  have two : 2 ≤ ((List.range 20).filter fun i => !decide (Used D i)).length := by (lia)
  have nd : ((List.range 20).filter fun i => !decide (Used D i)).Nodup := List.nodup_range.filter _
  match e : (List.range 20).filter fun i => !decide (Used D i) with
  | [] => rw [e] at two; simp at two
  | [_] => rw [e] at two; simp at two
  | a :: b :: r =>
    rw [e] at nd
    have hab : a ≠ b := by
      have := (List.nodup_cons.mp nd).1
      intro z; subst z; exact this (.head _)
    have ma : a ∈ (List.range 20).filter fun i => !decide (Used D i) := by rw [e]; exact .head _
    have mb : b ∈ (List.range 20).filter fun i => !decide (Used D i) := by rw [e]; exact .tail _ (.head _)
    rw [List.mem_filter, List.mem_range] at ma mb
    by_cases h : a = n
    · exact ⟨b, mb.1, by (lia), by simpa using mb.2⟩
    · exact ⟨a, ma.1, h, by simpa using ma.2⟩
end
end Mine
end

section
set_option maxRecDepth 100000
open PySem
namespace Mine
/-- the numbers of a file's life -/
structure Num (cr rc ec : Int) (sl : Nat → Int) (w : Nat → Prop) (d z : Nat) : Prop where
  c0 : 0 ≤ cr ∧ cr ≤ (d : Int) + 3
  r0 : 0 ≤ rc ∧ rc ≤ (d : Int) + 4
  e0 : 0 ≤ ec ∧ ec ≤ (d : Int) + 4
  E1 : sl 0 ≠ 0 → w 0
  E2 : 0 < cr → cr < 3 → w 0
  C : ∀ i : Nat, 3 ≤ i → ((i : Int) < rc ∨ (i : Int) < ec) → w i
  Dd : cr ≤ 3 ∨ cr ≤ rc
  a1 : 1 ≤ d
  a2 : 0 < cr → 2 ≤ d
  al : ∀ j, j < 16 → sl j ≠ 0 → 2 ≤ d
  J2 : ∀ i : Nat, i < 3 → ¬ w i → (i : Int) < rc → 3 ≤ d
  J3 : ∀ i : Nat, i < 3 → ¬ w i → (i : Int) < ec → 4 ≤ d
  J4 : cr < 3 → ∀ i : Nat, i < 3 → ¬ w i → ((i : Int) < rc ∨ (i : Int) < cr) → 5 + cr ≤ (d : Int)
  nb : z ≤ d
section
variable {cr rc ec : Int} {sl : Nat → Int} {w : Nat → Prop} {d z : Nat}
theorem Num.congr {sl' : Nat → Int} (N : Num cr rc ec sl w d z) (h : ∀ j, j < 16 → (sl j = 0 ↔ sl' j = 0)) : Num cr rc ec sl' w d z :=
  ⟨N.c0, N.r0, N.e0, fun e => N.E1 fun q => e ((h 0 (by (lia))).mp q), N.E2, N.C, N.Dd, N.a1, N.a2, fun j hj e => N.al j hj fun q => e ((h j hj).mp q), N.J2, N.J3, N.J4, N.nb⟩
theorem Num.make {sl : Nat → Int} (h : ∀ j, j < 16 → sl j = 0) : Num 0 0 0 sl (fun _ => False) 1 0 :=
  ⟨by (lia), by (lia), by (lia), fun e => absurd (h 0 (by (lia))) e, by (lia), by (lia), by (lia), by (lia), by (lia), fun j hj e => absurd (h j hj) e, by (lia), by (lia), by (lia), by (lia)⟩
theorem Num.idle (N : Num cr rc ec sl w d z) : Num cr rc ec sl w (d + 1) z :=
  ⟨by have := N.c0; (lia), by have := N.r0; (lia), by have := N.e0; (lia), N.E1, N.E2, N.C, N.Dd, by (lia), fun e => by have := N.a2 e; (lia), fun j hj e => by have := N.al j hj e; (lia),
    fun i a b c => by have := N.J2 i a b c; (lia), fun i a b c => by have := N.J3 i a b c; (lia), fun q i a b c => by have := N.J4 q i a b c; (lia), by have := N.nb; (lia)⟩
theorem Num.open_ (N : Num cr rc ec sl w d z) : Num 0 ec ec sl w (d + 1) z :=
  ⟨by (lia), by have := N.e0; (lia), by have := N.e0; (lia), N.E1, by (lia), fun i a b => N.C i a (by (lia)), by (lia), by (lia), by (lia), fun j hj e => by have := N.al j hj e; (lia),
    fun i a b c => by have := N.J3 i a b c; (lia), fun i a b c => by have := N.J3 i a b c; (lia), fun q i a b c => by have := N.J3 i a b (by (lia)); (lia), by have := N.nb; (lia)⟩
theorem Num.num (N : Num cr rc ec sl w d z) : Num 3 rc ec sl w (d + 1) z :=
  ⟨by (lia), by have := N.r0; (lia), by have := N.e0; (lia), N.E1, by (lia), N.C, by (lia), by (lia), fun e => by have := N.a1; (lia), fun j hj e => by have := N.al j hj e; (lia),
    fun i a b c => by have := N.J2 i a b c; (lia), fun i a b c => by have := N.J3 i a b c; (lia), by (lia), by have := N.nb; (lia)⟩
theorem Num.next (N : Num cr rc ec sl w d z) (h : cr < rc) (hs : sl (cr.toNat / 2) ≠ 0) : Num (cr + 1) rc ec sl w (d + 1) z := by
  have c0 := N.c0
  refine ⟨by (lia), by have := N.r0; (lia), by have := N.e0; (lia), N.E1, fun a b => ?_, N.C, by (lia), by (lia), fun e => by have := N.a1; (lia), fun j hj e => by have := N.al j hj e; (lia),
    fun i a b c => by have := N.J2 i a b c; (lia), fun i a b c => by have := N.J3 i a b c; (lia), fun q i a b c => ?_, by have := N.nb; (lia)⟩
  · by_cases e : cr = 0
    · subst e; exact N.E1 hs
    · exact N.E2 (by (lia)) (by (lia))
  · by_cases e : (i : Int) < rc
    · have := N.J4 (by (lia)) i a b (.inl e); (lia)
    · (lia)
theorem Num.close (N : Num cr rc ec sl w d z) : Num cr rc (max ec rc) sl w (d + 1) z := by
  have e0 := N.e0
  have r0 := N.r0
  refine ⟨by have := N.c0; (lia), by (lia), by (lia), N.E1, N.E2, fun i a b => N.C i a (by (lia)), N.Dd, by (lia), fun e => by have := N.a2 e; (lia), fun j hj e => by have := N.al j hj e; (lia),
    fun i a b c => by have := N.J2 i a b c; (lia), fun i a b c => ?_, fun q i a b c => by have := N.J4 q i a b c; (lia), by have := N.nb; (lia)⟩
  by_cases e : (i : Int) < rc
  · have := N.J2 i a b e; (lia)
  · have := N.J3 i a b (by (lia)); (lia)
theorem Num.write (N : Num cr rc ec sl w d z) {sl' : Nat → Int} {z' : Nat} (h : ∀ j, j ≠ cr.toNat / 2 → sl' j = sl j) (hz : z' ≤ z + 1) : Num (cr + 1) (max rc (cr + 1)) ec sl' (fun i => i = cr.toNat ∨ w i) (d + 1) z' := by
  have c0 := N.c0
  have r0 := N.r0
  have e0 := N.e0
  have a1 := N.a1
  refine ⟨by (lia), by (lia), by (lia), fun e => ?_, fun a b => ?_, fun i a b => ?_, by (lia), by (lia), by (lia), by (lia), fun i a b c => ?_, fun i a b c => ?_, fun q i a b c => ?_, by have := N.nb; (lia)⟩
  · by_cases q : cr.toNat = 0
    · exact .inl q.symm
    · by_cases q1 : cr = 1
      · exact .inr (N.E2 (by (lia)) (by (lia)))
      · exact .inr (N.E1 (by rw [h 0 (by (lia))] at e; exact e))
  · by_cases q : cr.toNat = 0
    · exact .inl q.symm
    · exact .inr (N.E2 (by (lia)) (by (lia)))
  · by_cases q : i = cr.toNat
    · exact .inl q
    · refine .inr (N.C i a ?_)
      rcases N.Dd with q1 | q1 <;> (lia)
  · have b1 : i ≠ cr.toNat := fun q => b (.inl q)
    have b2 : ¬ w i := fun q => b (.inr q)
    by_cases e : (i : Int) < rc
    · have := N.J2 i a b2 e; (lia)
    · by_cases q : cr < 3
      · have := N.J4 q i a b2 (.inr (by (lia))); (lia)
      · have := N.a2 (by (lia)); (lia)
  · have b2 : ¬ w i := fun q => b (.inr q)
    have := N.J3 i a b2 c; (lia)
  · have b1 : i ≠ cr.toNat := fun q => b (.inl q)
    have b2 : ¬ w i := fun q => b (.inr q)
    have := N.J4 (by (lia)) i a b2 (by (lia)); (lia)
theorem Num.read (N : Num cr rc ec sl w d z) (h : cr < rc) (hs : sl (cr.toNat / 2) ≠ 0) (hd : d ≤ 5) : w cr.toNat := by
  have c0 := N.c0
  by_cases q : cr < 3
  · by_cases e : cr = 0
    · subst e; exact N.E1 hs
    · by_cases k : w cr.toNat
      · exact k
      · have := N.J4 q cr.toNat (by (lia)) k (.inl (by (lia))); (lia)
  · exact N.C cr.toNat (by (lia)) (.inl (by (lia)))
end
end Mine
end

section
set_option maxRecDepth 100000
open PySem
namespace Mine
local macro_rules | `(tactic| wtm_at "p:ev") => `(tactic| repeat (first | rw [upd_ne (by (lia))] | rw [upd_eq (by (lia))] | rw [putAt_out (by (lia))] | rw [putAt_in (by (lia))]))
noncomputable def updG (g : Nat → Nat → Int) (u : Nat) (x : Nat → Int) : Nat → Nat → Int := fun v => if v = u then x else g v
theorem updG_self (g : Nat → Nat → Int) (u : Nat) : updG g u (g u) = g := by
  funext v; unfold updG; split
  · subst_vars; rfl
  · rfl
theorem updG_two (g : Nat → Nat → Int) (u : Nat) (x y : Nat → Int) : updG (updG g u x) u y = updG g u y := by
  funext v; unfold updG; split <;> rfl
noncomputable def alT (u : Nat) (T : Nat → Bool) : Nat → Bool := fun v => decide (v = u) && T v
theorem alT_self (u : Nat) (T : Nat → Bool) : alT u T u = T u := by unfold alT; simp
theorem alT_of {u v : Nat} {T : Nat → Bool} (h : alT u T v = true) : v = u ∧ T v = true := by unfold alT at h; simpa using h
theorem alT_upd (u : Nat) (T : Nat → Bool) (b : Bool) : alT u (updT T u b) = updT (alT u T) u b := by
  funext v; unfold alT updT
  by_cases h : v = u
  · simp [h]
  · simp [h]
structure Inv (t : Nat) (T : Nat → Bool) (f D : Nat → Int) (g E : Nat → Nat → Int) (k : Nat → Nat) (k' : Nat → Nat → Nat) (d : Nat → Nat) (wr : Nat → Nat → Prop) (cl : Prop) : Prop where
  s : G f D T k wr cl
  a : ∀ u, u < 2 → G (g u) (E u) (alT u T) (k' u) wr cl
  h : ∀ u, u < 2 → ∀ i, i < 36 → (i < 16 ∨ 32 ≤ i) → f (40 * u + i) = g u (40 * u + i)
  z : ∀ u, u < 2 → ∀ j, j < 16 → (f (40 * u + 16 + j) = 0 ↔ g u (40 * u + 16 + j) = 0)
  c : ∀ u, u < 2 → T u = true → D (32 * k u + 15) = E u (32 * k' u u + 15)
  w : ∀ u, u < 2 → T u = true → ∀ i, wr u i → ∀ x, x < 16 → D (32 * (f (40 * u + 16 + i / 2)).toNat + 16 * (i % 2) + x) = E u (32 * (g u (40 * u + 16 + i / 2)).toNat + 16 * (i % 2) + x)
  n : ∀ u, u < 2 → T u = true → Num (f (40 * u + 32)) (f (40 * u + 15)) (D (32 * k u + 15)) (fun j => f (40 * u + 16 + j)) (wr u) (d u) (nz f u)
  tt : d 0 + d 1 ≤ t
  t3 : cl ∨ d 0 + d 1 + 3 ≤ t
section
variable {t u : Nat} {T T' : Nat → Bool} {f D f' D' : Nat → Int} {g E : Nat → Nat → Int} {k : Nat → Nat} {k' : Nat → Nat → Nat} {d : Nat → Nat} {wr : Nat → Nat → Prop} {cl : Prop} {c c' : Int} {g' E' : Nat → Int}
theorem two_le (hu : u < 2) (d : Nat → Nat) : d u ≤ d 0 + d 1 := (show u = 0 ∨ u = 1 by (lia)).elim (fun e => e ▸ Nat.le_add_right ..) (fun e => e ▸ Nat.le_add_left ..)
/-- one user has done something: the invariant, put together again -/
theorem sum2 (hu : u < 2) (d : Nat → Nat) (x : Nat) : updK d u x 0 + updK d u x 1 + d u = d 0 + d 1 + x := by
  have : u = 0 ∨ u = 1 := by (lia)
  rcases this with e | e <;> subst e <;> simp [updK] <;> (lia)
theorem Inv.turn (I : Inv t T f D g E k k' d wr cl) (hu : u < 2) {t' dd x x' : Nat} {p : Nat → Prop} {cl' : Prop} {b : Bool}
    (S : G f' D' (updT T u b) (updK k u x) (updW wr u p) cl') (A : G g' E' (updT (alT u T) u b) (updK (k' u) u x') (updW wr u p) cl') (hc : cl' → cl)
    (hf : ∀ i, i < 96 → ¬ (40 * u ≤ i ∧ i < 40 * u + 36) → f' i = f i)
    (hD : ∀ v, v < 2 → v ≠ u → T v = true → D' (32 * k v + 15) = D (32 * k v + 15))
    (hw : ∀ v, v < 2 → v ≠ u → T v = true → ∀ i, wr v i → ∀ x, x < 16 → D' (32 * (f (40 * v + 16 + i / 2)).toNat + 16 * (i % 2) + x) = D (32 * (f (40 * v + 16 + i / 2)).toNat + 16 * (i % 2) + x))
    (h : ∀ i, i < 36 → (i < 16 ∨ 32 ≤ i) → f' (40 * u + i) = g' (40 * u + i))
    (z : ∀ j, j < 16 → (f' (40 * u + 16 + j) = 0 ↔ g' (40 * u + 16 + j) = 0))
    (uc : b = true → D' (32 * x + 15) = E' (32 * x' + 15))
    (uw : b = true → ∀ i, p i → ∀ x, x < 16 → D' (32 * (f' (40 * u + 16 + i / 2)).toNat + 16 * (i % 2) + x) = E' (32 * (g' (40 * u + 16 + i / 2)).toNat + 16 * (i % 2) + x))
    (n : b = true → Num (f' (40 * u + 32)) (f' (40 * u + 15)) (D' (32 * x + 15)) (fun j => f' (40 * u + 16 + j)) p dd (nz f' u))
    (tt : updK d u dd 0 + updK d u dd 1 ≤ t') (t3 : cl' ∨ updK d u dd 0 + updK d u dd 1 + 3 ≤ t') :
    Inv t' (updT T u b) f' D' (updG g u g') (updG E u E') (updK k u x) (fun v => if v = u then updK (k' u) u x' else k' v) (updK d u dd) (updW wr u p) cl' := by
  have Tu : updT T u b u = b := if_pos rfl
  have Tv : ∀ v, v ≠ u → updT T u b v = T v := fun v h => if_neg h
  have Gv : ∀ v, v ≠ u → updG g u g' v = g v := fun v h => if_neg h
  have Gu : updG g u g' u = g' := if_pos rfl
  have Ev : ∀ v, v ≠ u → updG E u E' v = E v := fun v h => if_neg h
  have Eu : updG E u E' u = E' := if_pos rfl
  have Wv : ∀ v, v ≠ u → updW wr u p v = wr v := fun v h => by funext i; exact propext (by unfold updW; rw [if_neg h])
  have Wu : updW wr u p u = p := by funext i; exact propext (by unfold updW; rw [if_pos rfl])
  have Kv : ∀ v, v ≠ u → updK k u x v = k v := fun v h => if_neg h
  have Ku : updK k u x u = x := if_pos rfl
  have ev : ∀ v, v < 2 → v ≠ u → ∀ i, i < 36 → f' (40 * v + i) = f (40 * v + i) := fun v hv hn i hi => hf _ (by (lia)) (by (lia))
  have ev2 : ∀ v, v < 2 → v ≠ u → ∀ i, i < 16 → f' (40 * v + 16 + i) = f (40 * v + 16 + i) := fun v hv hn i hi => hf _ (by (lia)) (by (lia))
  constructor
  case s => exact S
  case a =>
    intro v hv
    by_cases e : v = u
    · rcases e.symm with rfl; rw [Gu, Eu, if_pos rfl, alT_upd]; exact A
    · rw [Gv v e, Ev v e, if_neg e]
      have ta : alT v (updT T u b) = alT v T := by
        funext w; unfold alT
        by_cases q : w = v
        · subst q; rw [Tv w e]
        · simp [q]
      rw [ta]
      exact (I.a v hv).ghost (fun w hw hT i => by rw [(alT_of hT).1, Wv v e]) hc
  case h =>
    intro v hv i hi q
    by_cases e : v = u
    · rcases e.symm with rfl; rw [Gu]; exact h i hi q
    · rw [Gv v e, ev v hv e i hi]; exact I.h v hv i hi q
  case z =>
    intro v hv j hj
    by_cases e : v = u
    · rcases e.symm with rfl; rw [Gu]; exact z j hj
    · rw [Gv v e, ev2 v hv e j hj]; exact I.z v hv j hj
  case c =>
    intro v hv ht
    by_cases e : v = u
    · rcases e.symm with rfl; rw [Tu] at ht; rw [Eu, Ku, if_pos rfl, show updK (k' u) u x' u = x' from if_pos rfl]; exact uc ht
    · rw [Tv v e] at ht; rw [Ev v e, Kv v e, if_neg e, hD v hv e ht]; exact I.c v hv ht
  case w =>
    intro v hv ht i hi y hy
    by_cases e : v = u
    · rcases e.symm with rfl; rw [Tu] at ht; rw [Wu] at hi; rw [Eu, Gu]; exact uw ht i hi y hy
    · rw [Tv v e] at ht; rw [Wv v e] at hi; rw [Ev v e, Gv v e]
      have b := (I.s.wb v hv ht i hi).1
      rw [ev2 v hv e _ (by (lia)), hw v hv e ht i hi y hy]; exact I.w v hv ht i hi y hy
  case n =>
    intro v hv ht
    by_cases e : v = u
    · rcases e.symm with rfl; rw [Tu] at ht; rw [Ku, Wu, show updK d u dd u = dd from if_pos rfl]; exact n ht
    · rw [Tv v e] at ht; rw [Kv v e, Wv v e, show updK d u dd v = d v from if_neg e, hD v hv e ht, ev v hv e 32 (by (lia)), ev v hv e 15 (by (lia))]
      rw [nz_congr (g := f) fun j hj => by rw [ev2 v hv e j hj]]
      exact (I.n v hv ht).congr fun j hj => by rw [ev2 v hv e j hj]
  case tt => exact tt
  case t3 => exact t3
theorem updT_self (T : Nat → Bool) (u : Nat) : updT T u (T u) = T := by
  funext v; unfold updT; split
  · subst_vars; rfl
  · rfl
theorem updK_self (T : Nat → Nat) (u : Nat) : updK T u (T u) = T := by
  funext v; unfold updK; split
  · subst_vars; rfl
  · rfl
theorem updW_self (T : Nat → Nat → Prop) (u : Nat) : updW T u (T u) = T := by
  funext v i; unfold updW; refine propext ?_; split
  · subst_vars; rfl
  · rfl
theorem updKK_self (k' : Nat → Nat → Nat) (u : Nat) : (fun v => if v = u then updK (k' u) u (k' u u) else k' v) = k' := by
  funext v; rw [updK_self]; split
  · subst_vars; rfl
  · rfl
/-- a control block changes, but for what counts -/
structure Fr2 (u : Nat) (f f' : Nat → Int) (b : Bool) : Prop where
  oct : ∀ i, i < 112 → 0 ≤ f' i ∧ f' i < 256
  out : ∀ i, i < 96 → ¬ (40 * u ≤ i ∧ i < 40 * u + 36) → f' i = f i
  z12 : f' (40 * u + 12) = 0
  z14 : f' (40 * u + 14) = 0 ∨ f' (40 * u + 14) = 128
  nm : b = true → ∀ i, i < 11 → f' (40 * u + 1 + i) = f (40 * u + 1 + i)
  mp : b = true → ∀ i, i < 16 → f' (40 * u + 16 + i) = f (40 * u + 16 + i)
theorem G.fr2 (s : G f D T k wr cl) (hu : u < 2) (F : Fr2 u f f' (T u)) : G f' D T k wr cl := by
  refine s.frame F.oct (fun v hv => ?_) (fun v hv => ?_) (fun v hv ht i hi => ?_) (fun v hv ht i hi => ?_)
  · by_cases e : v = u
    · rcases e.symm with rfl; exact F.z12
    · rw [F.out _ (by (lia)) (by (lia))]; exact s.f12 v hv
  · by_cases e : v = u
    · rcases e.symm with rfl; exact F.z14
    · rw [F.out _ (by (lia)) (by (lia))]; exact s.f14 v hv
  · by_cases e : v = u
    · rcases e.symm with rfl; exact F.nm ht i hi
    · rw [F.out _ (by (lia)) (by (lia))]
  · by_cases e : v = u
    · rcases e.symm with rfl; exact F.mp ht i hi
    · rw [F.out _ (by (lia)) (by (lia))]
theorem G.refl2 (s : G f D T k wr cl) (hu : u < 2) (b : Bool) : Fr2 u f f b := ⟨s.fo, fun _ _ _ => rfl, s.f12 u hu, s.f14 u hu, fun _ _ _ => rfl, fun _ _ _ => rfl⟩
section
variable {b : Bool} {f1 : Nat → Int} {v : Int}
theorem Fr2.upd (F : Fr2 u f f1 b) {j : Nat} (hj : j = 15 ∨ j = 32) (h : 0 ≤ v ∧ v < 256) : Fr2 u f (upd f1 (40 * u + j) v) b where
  oct i hi := by
    by_cases e : i = 40 * u + j
    · rw [upd_eq e]; exact h
    · rw [upd_ne e]; exact F.oct i hi
  out i hi hn := by rw [upd_ne (by (lia))]; exact F.out i hi hn
  z12 := by rw [upd_ne (by (lia))]; exact F.z12
  z14 := by rw [upd_ne (by (lia))]; exact F.z14
  nm hb i hi := by rw [upd_ne (by (lia))]; exact F.nm hb i hi
  mp hb i hi := by rw [upd_ne (by (lia))]; exact F.mp hb i hi
theorem Fr2.s2 (F : Fr2 u f f1 b) (h : v = 0 ∨ v = 128) : Fr2 u f (Mine.upd f1 (40 * u + 14) v) b where
  oct i hi := by
    by_cases e : i = 40 * u + 14
    · rw [upd_eq e]; (lia)
    · rw [upd_ne e]; exact F.oct i hi
  out i hi hn := by rw [upd_ne (by (lia))]; exact F.out i hi hn
  z12 := by rw [upd_ne (by (lia))]; exact F.z12
  z14 := by rw [upd_eq rfl]; exact h
  nm hb i hi := by rw [upd_ne (by (lia))]; exact F.nm hb i hi
  mp hb i hi := by rw [upd_ne (by (lia))]; exact F.mp hb i hi
theorem Fr2.put (F : Fr2 u f f1 b) (hu : u < 2) {a m : Nat} {p : Nat → Int} (ha : (a = 40 * u + 33 ∧ m = 3) ∨ (a = 96 ∧ m = 16)) (h : ∀ i, i < m → 0 ≤ p i ∧ p i < 256) : Fr2 u f (putAt f1 a m p) b where
  oct i hi := by
    by_cases e : a ≤ i ∧ i < a + m
    · rw [putAt_in e]; exact h _ (by (lia))
    · rw [putAt_out e]; exact F.oct i hi
  out i hi hn := by rw [putAt_out (by (lia))]; exact F.out i hi hn
  z12 := by rw [putAt_out (by (lia))]; exact F.z12
  z14 := by rw [putAt_out (by (lia))]; exact F.z14
  nm hb i hi := by rw [putAt_out (by (lia))]; exact F.nm hb i hi
  mp hb i hi := by rw [putAt_out (by (lia))]; exact F.mp hb i hi
end
theorem Inv.same (I : Inv t T f D g E k k' d wr cl) (hu : u < 2) (F1 : Fr2 u f f' (T u)) (F2 : Fr2 u (g u) g' (T u))
    (h : ∀ i, i < 36 → (i < 16 ∨ 32 ≤ i) → f' (40 * u + i) = g' (40 * u + i)) (z : T u = false → ∀ j, j < 16 → (f' (40 * u + 16 + j) = 0 ↔ g' (40 * u + 16 + j) = 0))
    (n : T u = true → Num (f' (40 * u + 32)) (f' (40 * u + 15)) (D (32 * k u + 15)) (fun j => f (40 * u + 16 + j)) (wr u) (d u + 1) (nz f u)) :
    Inv (t + 1) T f' D (updG g u g') E k k' (updK d u (d u + 1)) wr cl := by
  have s2 := sum2 hu d (d u + 1)
  have := I.turn (f' := f') (D' := D) (g' := g') (E' := E u) (t' := t + 1) (dd := d u + 1) (x := k u) (x' := k' u u) (p := wr u) (cl' := cl) (b := T u) hu
    (by rw [updT_self, updK_self, updW_self]; exact I.s.fr2 hu F1)
    (by rw [← alT_self u T, updT_self, updK_self, updW_self]; exact (I.a u hu).fr2 hu (by rw [alT_self]; exact F2)) id
    (fun i hi hn => F1.out i hi hn) (fun _ _ _ _ => rfl) (fun _ _ _ _ _ _ _ _ => rfl) h
    (fun j hj => by
      cases ht : T u with
      | false => exact z ht j hj
      | true => rw [F1.mp ht j hj, F2.mp ht j hj]; exact I.z u hu j hj)
    (fun ht => I.c u hu ht)
    (fun ht i hi x hx => by
      have b := (I.s.wb u hu ht i hi).1
      rw [F1.mp ht _ (by (lia)), F2.mp ht _ (by (lia))]; exact I.w u hu ht i hi x hx)
    (fun ht => by
      rw [nz_congr (g := f) fun j hj => by rw [F1.mp ht j hj]]
      exact (n ht).congr fun j hj => by rw [F1.mp ht j hj])
    (by have := I.tt; (lia)) (by rcases I.t3 with q | q; exact .inl q; exact .inr (by (lia)))
  rw [updT_self, updK_self, updW_self, updG_self, updKK_self] at this
  exact this
end
end Mine
end

section
set_option maxRecDepth 100000
open PySem
namespace Mine
/-- what is asked of a turn -/
structure Out (t u : Nat) (T' : Nat → Bool) (f : Nat → Int) (g E : Nat → Nat → Int) (c c' : Int) (f' D' g' E' : Nat → Int) : Prop where
  code : c = c'
  mem : ∀ i, i < 16 → f' (96 + i) = g' (96 + i)
  oth : ∀ i, i < 96 → ¬ (40 * u ≤ i ∧ i < 40 * u + 36) → f' i = f i
  inv : ∃ k k' d wr cl, Inv (t + 1) T' f' D' (updG g u g') (updG E u E') k k' d wr cl
section
variable {t u : Nat} {T T' : Nat → Bool} {f D f' D' : Nat → Int} {g E : Nat → Nat → Int} {k : Nat → Nat} {k' : Nat → Nat → Nat} {d : Nat → Nat} {wr : Nat → Nat → Prop} {cl : Prop} {c c' : Int} {g' E' : Nat → Int}
theorem G.keq (s : G f D T k wr cl) (hu : u < 2) (ht : T u = true) {kk : Nat} {q : Nat → Int} (H : Has D u kk q) : kk = k u := by
  by_cases e : k u = kk
  · exact e.symm
  · exact absurd (s.us u hu ht) (H.h2 _ (s.kl u hu ht) e)
theorem G.some (s : G f D T k wr cl) (hu : u < 2) (h : ∀ k, k < 8 → D (32 * k) ≠ u) : T u = false := by
  cases ht : T u with
  | false => rfl
  | true => exact absurd (s.us u hu ht) (h _ (s.kl u hu ht))
theorem G.none (s : G f D T k wr cl) (hu : u < 2) {kk : Nat} {q : Nat → Int} (H : Has D u kk q) : T u = true := by
  cases ht : T u with
  | true => rfl
  | false => exact absurd H.h1 (s.no hu ht _ H.hk)
theorem Inv.out (I : Inv t T f D g E k k' d wr cl) (hu : u < 2) (F1 : Fr2 u f f' (T u)) (F2 : Fr2 u (g u) g' (T u)) (hm : ∀ i, i < 16 → f' (96 + i) = g' (96 + i))
    (h : ∀ i, i < 36 → (i < 16 ∨ 32 ≤ i) → f' (40 * u + i) = g' (40 * u + i)) (z : T u = false → ∀ j, j < 16 → (f' (40 * u + 16 + j) = 0 ↔ g' (40 * u + 16 + j) = 0))
    (n : T u = true → Num (f' (40 * u + 32)) (f' (40 * u + 15)) (D (32 * k u + 15)) (fun j => f (40 * u + 16 + j)) (wr u) (d u + 1) (nz f u)) : Out t u T f g E c c f' D g' (E u) :=
  ⟨rfl, hm, F1.out, k, k', _, wr, cl, by rw [updG_self]; exact I.same hu F1 F2 h z n⟩
theorem set3_h {a i : Nat} {v : Int} {f g : Nat → Int} (h : f (a + i) = g (a + i)) : putAt f (a + 33) 3 (fun i => if i = 0 then v else 0) (a + i) = putAt g (a + 33) 3 (fun i => if i = 0 then v else 0) (a + i) := by
  by_cases e : 33 ≤ i ∧ i < 36
  · rw [putAt_in (by (lia)), putAt_in (by (lia))]
  · rw [putAt_out (by (lia)), putAt_out (by (lia))]; exact h
theorem Inv.set3 (I : Inv t T f D g E k k' d wr cl) (hu : u < 2) (e96 : ∀ i, i < 16 → f (96 + i) = g u (96 + i)) {v : Int} (hv : 0 ≤ v ∧ v < 256) :
    Out t u T f g E c c (putAt f (40 * u + 33) 3 fun i => if i = 0 then v else 0) D (putAt (g u) (40 * u + 33) 3 fun i => if i = 0 then v else 0) (E u) := by
  have ho : ∀ i, i < 3 → 0 ≤ (if i = 0 then v else 0) ∧ (if i = 0 then v else 0) < 256 := fun i _ => by split; exact hv; decide
  refine I.out hu ((I.s.refl2 hu _).put hu (.inl ⟨rfl, rfl⟩) ho) (((I.a u hu).refl2 hu _).put hu (.inl ⟨rfl, rfl⟩) ho) (fun i hi => ?_) (fun i hi q => set3_h (I.h u hu i hi q)) (fun _ j hj => ?_) (fun ht => ?_)
  · rw [putAt_out (by (lia)), putAt_out (by (lia))]; exact e96 i hi
  · rw [putAt_out (by (lia)), putAt_out (by (lia))]; exact I.z u hu j hj
  · rw [putAt_out (by (lia)), putAt_out (by (lia))]; exact (I.n u hu ht).idle
theorem Inv.oct_c (I : Inv t T f D g E k k' d wr cl) (hu : u < 2) (ht : T u = true) : 0 ≤ D (32 * k u + 15) ∧ D (32 * k u + 15) < 256 := I.s.Do _ (by have := I.s.kl u hu ht; (lia))
theorem Inv.sz (I : Inv t T f D g E k k' d wr cl) (hu : u < 2) (e96 : ∀ i, i < 16 → f (96 + i) = g u (96 + i)) (s1 : Sz u f D c f' D') (s2 : Sz u (g u) (E u) c' g' E') : Out t u T f g E c c' f' D' g' E' := by
  obtain ⟨rfl, s1⟩ := s1
  obtain ⟨rfl, s2⟩ := s2
  rcases s1 with ⟨n1, rfl, rfl⟩ | ⟨k1, H1, rfl, rfl⟩
  · have ht := I.s.some hu n1
    rcases s2 with ⟨n2, rfl, rfl⟩ | ⟨k2, H2, rfl, rfl⟩
    · exact I.set3 hu e96 (by decide)
    · have := (I.a u hu).none hu H2; rw [alT_self, ht] at this; cases this
  · have ht := I.s.none hu H1
    rcases s2 with ⟨n2, rfl, rfl⟩ | ⟨k2, H2, rfl, rfl⟩
    · have := (I.a u hu).some hu n2; rw [alT_self, ht] at this; cases this
    · have e1 := I.s.keq hu ht H1
      have e2 := (I.a u hu).keq hu (by rw [alT_self]; exact ht) H2
      rw [e1, e2, ← I.c u hu ht]
      exact I.set3 hu e96 (I.oct_c hu ht)
theorem Inv.wh (I : Inv t T f D g E k k' d wr cl) (hu : u < 2) (e96 : ∀ i, i < 16 → f (96 + i) = g u (96 + i)) (s1 : Wh u f D c f' D') (s2 : Wh u (g u) (E u) c' g' E') : Out t u T f g E c c' f' D' g' E' := by
  obtain ⟨rfl, rfl, rfl⟩ := s1
  obtain ⟨rfl, rfl, rfl⟩ := s2
  rw [← I.h u hu 32 (by (lia)) (by (lia))]
  exact I.set3 hu e96 (I.s.fo _ (by (lia)))
theorem nf_out {f : Nat → Int} {a i : Nat} (h : ¬ (a ≤ i ∧ i < a + 36)) : NF f a i = f i := putAt_out h
theorem nf_in {f g : Nat → Int} {a i : Nat} (h : i < 36) : NF f a (a + i) = NF g a (a + i) := by
  unfold NF; rw [putAt_in (by (lia)), putAt_in (by (lia))]
theorem nf_oct {f : Nat → Int} {a i : Nat} (h : 0 ≤ f i ∧ f i < 256) : 0 ≤ NF f a i ∧ NF f a i < 256 := by
  unfold NF putAt
  split
  · dsimp only
    split
    · split
      · decide
      · split <;> decide
    · decide
  · exact h
theorem nf_hi {f : Nat → Int} {a i : Nat} (h : 12 ≤ i) (h2 : i < 36) : NF f a (a + i) = 0 := by
  unfold NF; rw [putAt_in (by (lia)), if_neg (by (lia))]
noncomputable def opN (f : Nat → Int) (a : Nat) : Nat → Int := upd (NF f a) (a + 14) 0
theorem opN_oct {f : Nat → Int} {a i : Nat} (h : 0 ≤ f i ∧ f i < 256) : 0 ≤ opN f a i ∧ opN f a i < 256 := by
  unfold opN upd; split
  · decide
  · exact nf_oct h
theorem opN_in {f g : Nat → Int} {a i : Nat} (h : i < 36) : opN f a (a + i) = opN g a (a + i) := by
  unfold opN
  by_cases e : i = 14
  · subst e; rw [upd_eq rfl, upd_eq rfl]
  · rw [upd_ne (by (lia)), upd_ne (by (lia))]; exact nf_in h
theorem opN_out {f : Nat → Int} {a i : Nat} (h : ¬ (a ≤ i ∧ i < a + 36)) : opN f a i = f i := by
  unfold opN; rw [upd_ne (by (lia)), nf_out h]
theorem opN_hi {f : Nat → Int} {a i : Nat} (h : 12 ≤ i) (h2 : i < 36) : opN f a (a + i) = 0 := by
  unfold opN
  by_cases e : i = 14
  · subst e; rw [upd_eq rfl]
  · rw [upd_ne (by (lia)), nf_hi h h2]
theorem opN_nm {f : Nat → Int} {a i : Nat} (h : i < 11) : opN f a (a + 1 + i) = if i = 0 then 65 else 32 := by
  unfold opN; rw [upd_ne (by (lia))]; exact nf_name f a i h
theorem G.opN (s : G f D T k wr cl) (hu : u < 2) (ht : T u = false) : Fr2 u f (opN f (40 * u)) (T u) where
  oct i hi := opN_oct (s.fo i hi)
  out i hi hn := opN_out hn
  z12 := opN_hi (by (lia)) (by (lia))
  z14 := .inl (opN_hi (by (lia)) (by (lia)))
  nm hb := by rw [ht] at hb; cases hb
  mp hb := by rw [ht] at hb; cases hb
noncomputable def opH (f D : Nat → Int) (a k : Nat) : Nat → Int := upd (putAt (Mine.opN f a) (a + 1) 31 fun i => D (32 * k + (1 + i))) (a + 14) 128
theorem opH_a {f D : Nat → Int} {a k i : Nat} (h : 1 ≤ i) (h2 : i < 32) (h3 : i ≠ 14) : opH f D a k (a + i) = D (32 * k + i) := by
  unfold opH; rw [upd_ne (by (lia)), putAt_in (by (lia))]; congr 1; (lia)
theorem opH_z {f D : Nat → Int} {a k i : Nat} (h : i = 0 ∨ 32 ≤ i) (h2 : i < 36) : opH f D a k (a + i) = Mine.opN f a (a + i) := by
  unfold opH; rw [upd_ne (by (lia)), putAt_out (by (lia))]
theorem opH_out {f D : Nat → Int} {a k i : Nat} (h : ¬ (a ≤ i ∧ i < a + 36)) : opH f D a k i = f i := by
  unfold opH; rw [upd_ne (by (lia)), putAt_out (by (lia)), opN_out h]
theorem opH_14 {f D : Nat → Int} {a k : Nat} : opH f D a k (a + 14) = 128 := upd_eq rfl
theorem G.opH (s : G f D T k wr cl) (hu : u < 2) (ht : T u = true) : Fr2 u f (opH f D (40 * u) (k u)) (T u) where
  oct i hi := by
    by_cases e : 40 * u ≤ i ∧ i < 40 * u + 36
    · obtain ⟨j, rfl⟩ : ∃ j, i = 40 * u + j := ⟨i - 40 * u, by (lia)⟩
      by_cases e1 : j = 14
      · subst e1; rw [opH_14]; decide
      · by_cases e2 : j = 0 ∨ 32 ≤ j
        · rw [opH_z e2 (by (lia))]; exact opN_oct (s.fo _ hi)
        · rw [opH_a (by (lia)) (by (lia)) e1]; exact s.Do _ (by have := s.kl u hu ht; (lia))
    · rw [opH_out e]; exact s.fo i hi
  out i hi hn := opH_out hn
  z12 := by rw [opH_a (by (lia)) (by (lia)) (by (lia))]; exact (s.dz u hu ht).1
  z14 := .inr opH_14
  nm hb i hi := by rw [Nat.add_assoc, opH_a (by (lia)) (by (lia)) (by (lia)), s.dn u hu ht i hi, ← Nat.add_assoc, s.nm u hu ht i hi]
  mp hb i hi := by rw [Nat.add_assoc, opH_a (by (lia)) (by (lia)) (by (lia)), ← Nat.add_assoc (40 * u), s.mp u hu ht i hi]
theorem Inv.op (I : Inv t T f D g E k k' d wr cl) (hu : u < 2) (e96 : ∀ i, i < 16 → f (96 + i) = g u (96 + i)) (s1 : Op u f D c f' D') (s2 : Op u (g u) (E u) c' g' E') : Out t u T f g E c c' f' D' g' E' := by
  obtain ⟨rfl, s1⟩ := s1
  obtain ⟨rfl, s2⟩ := s2
  rcases s1 with ⟨n1, rfl, rfl⟩ | ⟨k1, H1, rfl, rfl⟩
  · have ht := I.s.some hu n1
    rcases s2 with ⟨n2, rfl, rfl⟩ | ⟨k2, H2, rfl, rfl⟩
    · refine I.out hu (I.s.opN hu ht) (by have := (I.a u hu).opN hu (by rw [alT_self]; exact ht); rw [alT_self] at this; exact this) (fun i hi => ?_) (fun i hi q => opN_in hi) (fun _ j hj => ?_) (fun h => by rw [ht] at h; cases h)
      · show opN f (40 * u) (96 + i) = opN (g u) (40 * u) (96 + i)
        rw [opN_out (by (lia)), opN_out (by (lia))]; exact e96 i hi
      · show opN f (40 * u) (40 * u + 16 + j) = 0 ↔ opN (g u) (40 * u) (40 * u + 16 + j) = 0
        rw [Nat.add_assoc, opN_hi (by (lia)) (by (lia)), opN_hi (by (lia)) (by (lia))]
    · have := (I.a u hu).none hu H2; rw [alT_self, ht] at this; cases this
  · have ht := I.s.none hu H1
    have hta : alT u T u = true := by rw [alT_self]; exact ht
    rcases s2 with ⟨n2, rfl, rfl⟩ | ⟨k2, H2, rfl, rfl⟩
    · have := (I.a u hu).some hu n2; rw [alT_self, ht] at this; cases this
    · have e1 := I.s.keq hu ht H1
      have e2 := (I.a u hu).keq hu hta H2
      subst e1 e2
      show Out t u T f g E 0 0 (opH f D' (40 * u) (k u)) D' (opH (g u) (E u) (40 * u) (k' u u)) (E u)
      refine I.out hu (I.s.opH hu ht) (by have := (I.a u hu).opH hu hta; rw [alT_self] at this; exact this) (fun i hi => ?_) (fun i hi q => ?_) (fun h => by rw [ht] at h; cases h) (fun _ => ?_)
      · rw [opH_out (by (lia)), opH_out (by (lia))]; exact e96 i hi
      · by_cases q1 : i = 14
        · subst q1; rw [opH_14, opH_14]
        · by_cases q2 : i = 0 ∨ 32 ≤ i
          · rw [opH_z q2 hi, opH_z q2 hi]; exact opN_in hi
          · rw [opH_a (by (lia)) (by (lia)) q1, opH_a (by (lia)) (by (lia)) q1]
            by_cases q3 : i = 15
            · subst q3; exact I.c u hu ht
            · have z1 := I.s.dz u hu ht
              have z2 := (I.a u hu).dz u hu hta
              by_cases q4 : i < 12
              · obtain ⟨j, rfl⟩ : ∃ j, i = 1 + j := ⟨i - 1, by (lia)⟩
                rw [I.s.dn u hu ht j (by (lia)), (I.a u hu).dn u hu hta j (by (lia))]
              · have : i = 12 ∨ i = 13 := by (lia)
                rcases this with e | e <;> subst e
                · rw [z1.1, z2.1]
                · rw [z1.2.1, z2.2.1]
      · rw [opH_z (by (lia)) (by (lia)), opN_hi (by (lia)) (by (lia)), opH_a (by (lia)) (by (lia)) (by (lia))]
        exact (I.n u hu ht).open_
end
end Mine
end

section
set_option maxRecDepth 100000
open PySem
namespace Mine
section
variable {t u : Nat} {T T' : Nat → Bool} {f D f' D' : Nat → Int} {g E : Nat → Nat → Int} {k : Nat → Nat} {k' : Nat → Nat → Nat} {d : Nat → Nat} {wr : Nat → Nat → Prop} {cl : Prop} {c c' : Int} {g' E' : Nat → Int}
theorem G.clean (s : G f D T k wr cl) (hu : u < 2) (ht : T u = true) {x : Nat} (hx : x < 32) (hs : f (40 * u + 16 + x / 2) ≠ 0) (hw : ¬ wr u x) (hc : cl) : ∀ i, i < 16 → D (32 * (f (40 * u + 16 + x / 2)).toNat + 16 * (x % 2) + i) = 229 := fun i hi => by
  have r := (s.rg u hu ht (x / 2) (by (lia))).resolve_left hs
  refine s.cln hc _ _ (by (lia)) (by (lia)) (by (lia)) (fun v j hv hT hj e w => ?_) i hi
  obtain ⟨e1, e2⟩ := s.ij u v (x / 2) j hu hv ht hT (by (lia)) hj hs (by (lia))
  subst e1
  rw [← e2, show 2 * (x / 2) + x % 2 = x by (lia)] at w
  exact hw w
theorem Inv.rdata (I : Inv t T f D g E k k' d wr cl) (hu : u < 2) (ht : T u = true) (h8 : t ≤ 8) {x : Nat} (hx : x < 32) (hs : f (40 * u + 16 + x / 2) ≠ 0) (hr : d u ≤ 5 → wr u x) :
    ∀ i, i < 16 → D (32 * (f (40 * u + 16 + x / 2)).toNat + 16 * (x % 2) + i) = E u (32 * (g u (40 * u + 16 + x / 2)).toNat + 16 * (x % 2) + i) := fun i hi => by
  have hta : alT u T u = true := by rw [alT_self]; exact ht
  by_cases w : wr u x
  · exact I.w u hu ht x w i hi
  · rcases I.t3 with q | q
    · rw [I.s.clean hu ht hx hs w q i hi, (I.a u hu).clean hu hta hx (fun e => hs ((I.z u hu _ (by (lia))).mpr e)) w q i hi]
    · have : d u ≤ d 0 + d 1 := two_le hu d
      exact absurd (hr (by (lia))) w
theorem rdMem_lo {f D : Nat → Int} {a i : Nat} (h : i < 96) : rdMem f a D i = f i := by
  unfold rdMem; split
  · rw [putAt_out (by (lia))]
  · rfl
theorem Inv.rd (I : Inv t T f D g E k k' d wr cl) (hu : u < 2) (ht : T u = true) (h8 : t ≤ 8) {F H : Nat → Int} (F1 : Fr2 u f F (T u)) (F2 : Fr2 u (g u) H (T u))
    (e96 : ∀ i, i < 16 → F (96 + i) = H (96 + i)) (h15 : F (40 * u + 15) = H (40 * u + 15)) (h32 : F (40 * u + 32) = H (40 * u + 32)) (hc : 0 ≤ F (40 * u + 32) ∧ F (40 * u + 32) < 32)
    (hr : F (40 * u + 32) < F (40 * u + 15) → f (40 * u + 16 + (F (40 * u + 32)).toNat / 2) ≠ 0 → d u ≤ 5 → wr u (F (40 * u + 32)).toNat) :
    rdCode F (40 * u) = rdCode H (40 * u) ∧ Fr2 u f (rdMem F (40 * u) D) (T u) ∧ Fr2 u (g u) (rdMem H (40 * u) (E u)) (T u) ∧ (∀ i, i < 16 → rdMem F (40 * u) D (96 + i) = rdMem H (40 * u) (E u) (96 + i)) := by
  have z1 := F1.mp ht ((F (40 * u + 32)).toNat / 2) (by (lia))
  have z2 := F2.mp ht ((F (40 * u + 32)).toNat / 2) (by (lia))
  have zz := I.z u hu ((F (40 * u + 32)).toNat / 2) (by (lia))
  have hta : alT u T u = true := by rw [alT_self]; exact ht
  have ce : rdCode F (40 * u) = rdCode H (40 * u) := by
    unfold rdCode
    rw [← h15, ← h32, z1, z2]
    split
    · rfl
    · by_cases e : f (40 * u + 16 + (F (40 * u + 32)).toNat / 2) = 0
      · rw [if_pos e, if_pos (zz.mp e)]
      · rw [if_neg e, if_neg (fun q => e (zz.mpr q))]
  refine ⟨ce, ?_⟩
  by_cases q : rdCode F (40 * u) = 0
  · have q2 : rdCode H (40 * u) = 0 := by rw [← ce]; exact q
    unfold rdMem
    rw [if_pos q, if_pos q2]
    have lt : ¬ F (40 * u + 15) ≤ F (40 * u + 32) := fun e => by unfold rdCode at q; rw [if_pos e] at q; cases q
    have sz : F (40 * u + 16 + (F (40 * u + 32)).toNat / 2) ≠ 0 := fun e => by unfold rdCode at q; rw [if_neg lt, if_pos e] at q; cases q
    rw [z1] at sz
    have sz2 : g u (40 * u + 16 + (F (40 * u + 32)).toNat / 2) ≠ 0 := fun e => sz (zz.mpr e)
    have r1 := (I.s.rg u hu ht ((F (40 * u + 32)).toNat / 2) (by (lia))).resolve_left sz
    have r2 := ((I.a u hu).rg u hu hta ((F (40 * u + 32)).toNat / 2) (by (lia))).resolve_left sz2
    have a1 : rdAt F (40 * u) = 32 * (f (40 * u + 16 + (F (40 * u + 32)).toNat / 2)).toNat + 16 * ((F (40 * u + 32)).toNat % 2) := by unfold rdAt; rw [z1]
    have a2 : rdAt H (40 * u) = 32 * (g u (40 * u + 16 + (F (40 * u + 32)).toNat / 2)).toNat + 16 * ((F (40 * u + 32)).toNat % 2) := by unfold rdAt; rw [← h32, z2]
    refine ⟨F1.put hu (.inr ⟨rfl, rfl⟩) fun i hi => I.s.Do _ (by rw [a1]; (lia)), F2.put hu (.inr ⟨rfl, rfl⟩) fun i hi => (I.a u hu).Do _ (by rw [a2]; (lia)), fun i hi => ?_⟩
    rw [putAt_in (by (lia)), putAt_in (by (lia)), Nat.add_sub_cancel_left, a1, a2]
    exact I.rdata hu ht h8 (by (lia)) sz (hr (by (lia)) sz) i hi
  · have q2 : ¬ rdCode H (40 * u) = 0 := by rw [← ce]; exact q
    unfold rdMem
    rw [if_neg q, if_neg q2]
    exact ⟨F1, F2, e96⟩
theorem n3_at {f : Nat → Int} {a i : Nat} (h : i < 32 ∨ 36 ≤ i) : n3 f a (a + i) = f (a + i) := by
  unfold n3; rw [upd_ne (by (lia)), putAt_out (by (lia))]
theorem n3_32 {f : Nat → Int} {a : Nat} : n3 f a (a + 32) = 3 := upd_eq rfl
theorem n3_h {f h : Nat → Int} {a i : Nat} (e : f (a + i) = h (a + i)) : n3 f a (a + i) = n3 h a (a + i) := by
  unfold n3
  by_cases q : i = 32
  · subst q; rw [upd_eq rfl, upd_eq rfl]
  · rw [upd_ne (by (lia)), upd_ne (by (lia))]; exact set3_h e
theorem Fr2.n3 {b : Bool} (F : Fr2 u f f b) (hu : u < 2) : Fr2 u f (n3 f (40 * u)) b :=
  (F.put hu (.inl ⟨rfl, rfl⟩) fun i _ => by split <;> decide).upd (.inr rfl) (by decide)
theorem Inv.nu (I : Inv t T f D g E k k' d wr cl) (hu : u < 2) (ht : T u = true) (h8 : t ≤ 8) (e96 : ∀ i, i < 16 → f (96 + i) = g u (96 + i)) (s1 : Nu u f D c f' D') (s2 : Nu u (g u) (E u) c' g' E') : Out t u T f g E c c' f' D' g' E' := by
  obtain ⟨rfl, rfl, rfl⟩ := s1
  obtain ⟨rfl, rfl, rfl⟩ := s2
  have N := I.n u hu ht
  obtain ⟨r1, r2, r3, r4⟩ := I.rd (F := n3 f (40 * u)) (H := n3 (g u) (40 * u)) hu ht h8 ((I.s.refl2 hu _).n3 hu) (((I.a u hu).refl2 hu _).n3 hu)
    (fun i hi => by
      rw [show 96 + i = 40 * u + (96 + i - 40 * u) by (lia), n3_at (by (lia)), n3_at (by (lia)), show 40 * u + (96 + i - 40 * u) = 96 + i by (lia)]; exact e96 i hi)
    (n3_h (I.h u hu 15 (by (lia)) (by (lia)))) (by rw [n3_32, n3_32]) (by rw [n3_32]; decide)
    (fun a1 a2 _ => by
      rw [n3_32, n3_at (by (lia))] at a1
      rw [n3_32]
      exact N.C 3 (by (lia)) (.inl a1))
  rw [r1]
  refine I.out hu r2 r3 r4 (fun i hi q => ?_) (fun h => by rw [ht] at h; cases h) (fun _ => ?_)
  · rw [rdMem_lo (by (lia)), rdMem_lo (by (lia))]; exact n3_h (I.h u hu i hi q)
  · rw [rdMem_lo (by (lia)), rdMem_lo (by (lia)), n3_32, n3_at (by (lia))]; exact N.num
theorem Inv.rn (I : Inv t T f D g E k k' d wr cl) (hu : u < 2) (ht : T u = true) (h8 : t ≤ 8) (e96 : ∀ i, i < 16 → f (96 + i) = g u (96 + i)) (s1 : Rn u f D c f' D') (s2 : Rn u (g u) (E u) c' g' E') : Out t u T f g E c c' f' D' g' E' := by
  obtain ⟨rfl, rfl, rfl⟩ := s1
  obtain ⟨rfl, rfl, rfl⟩ := s2
  have N := I.n u hu ht
  have td : d u ≤ d 0 + d 1 := two_le hu d
  have tt := I.tt
  have c0 := N.c0
  have e32 := I.h u hu 32 (by (lia)) (by (lia))
  obtain ⟨r1, r2, r3, r4⟩ := I.rd (F := f) (H := g u) hu ht h8 (I.s.refl2 hu _) ((I.a u hu).refl2 hu _) e96 (I.h u hu 15 (by (lia)) (by (lia))) e32 (by (lia)) (fun a1 a2 a3 => N.read a1 a2 a3)
  rw [← r1]
  by_cases q : rdCode f (40 * u) = 0
  · rw [if_pos q, if_pos q]
    refine I.out hu (r2.upd (.inr rfl) (by (lia))) (r3.upd (.inr rfl) (by (lia))) (fun i hi => ?_) (fun i hi z => ?_) (fun h => by rw [ht] at h; cases h) (fun _ => ?_)
    · rw [upd_ne (by (lia)), upd_ne (by (lia))]; exact r4 i hi
    · by_cases e : i = 32
      · subst e; rw [upd_eq rfl, upd_eq rfl, e32]
      · rw [upd_ne (by (lia)), upd_ne (by (lia)), rdMem_lo (by (lia)), rdMem_lo (by (lia))]; exact I.h u hu i hi z
    · rw [upd_eq rfl, upd_ne (by (lia)), rdMem_lo (by (lia))]
      have lt : ¬ f (40 * u + 15) ≤ f (40 * u + 32) := fun e => by unfold rdCode at q; rw [if_pos e] at q; cases q
      have sz : f (40 * u + 16 + (f (40 * u + 32)).toNat / 2) ≠ 0 := fun e => by unfold rdCode at q; rw [if_neg lt, if_pos e] at q; cases q
      exact N.next (by (lia)) sz
  · rw [if_neg q, if_neg q]
    exact I.out hu (I.s.refl2 hu _) ((I.a u hu).refl2 hu _) e96 (I.h u hu) (fun h => by rw [ht] at h; cases h) (fun _ => N.idle)
/-- a live file's block is no part of the directory -/
theorem G.blk (s : G f D T k wr cl) {v : Nat} (hv : v < 2) (ht : T v = true) {i : Nat} (hi : wr v i) : 8 ≤ (f (40 * v + 16 + i / 2)).toNat := by
  obtain ⟨a, b⟩ := s.wb v hv ht i hi
  have := (s.rg v hv ht (i / 2) (by (lia))).resolve_left b
  (lia)
theorem Inv.clo (I : Inv t T f D g E k k' d wr cl) (hu : u < 2) (ht : T u = true) (h8 : t ≤ 8) (e96 : ∀ i, i < 16 → f (96 + i) = g u (96 + i)) (s1 : Cl u f D c f' D') (s2 : Cl u (g u) (E u) c' g' E') : Out t u T f g E c c' f' D' g' E' := by
  obtain ⟨rfl, s1⟩ := s1
  obtain ⟨rfl, s2⟩ := s2
  have N := I.n u hu ht
  have hta : alT u T u = true := by rw [alT_self]; exact ht
  have e14 := I.h u hu 14 (by (lia)) (by (lia))
  rcases s1 with ⟨a1, rfl, rfl⟩ | ⟨a1, k1, H1, rfl, rfl⟩
  · rcases s2 with ⟨a2, rfl, rfl⟩ | ⟨a2, k2, H2, rfl, rfl⟩
    · exact I.out hu (I.s.refl2 hu _) ((I.a u hu).refl2 hu _) e96 (I.h u hu) (fun h => by rw [ht] at h; cases h) (fun _ => N.idle)
    · (lia)
  · rcases s2 with ⟨a2, rfl, rfl⟩ | ⟨a2, k2, H2, rfl, rfl⟩
    · (lia)
    · have e1 := I.s.keq hu ht H1
      have e2 := (I.a u hu).keq hu hta H2
      subst e1 e2
      have td : d u ≤ d 0 + d 1 := two_le hu d
      have tt := I.tt
      have kl := I.s.kl u hu ht
      have ce := I.c u hu ht
      have e15 := I.h u hu 15 (by (lia)) (by (lia))
      have r0 := N.r0
      have e0 := N.e0
      have s2 := sum2 hu d (d u + 1)
      have F1 : Fr2 u f (upd f (40 * u + 14) 128) (T u) := (I.s.refl2 hu _).s2 (.inr rfl)
      have F2 : Fr2 u (g u) (upd (g u) (40 * u + 14) 128) (alT u T u) := ((I.a u hu).refl2 hu _).s2 (.inr rfl)
      have S := (I.s.cnt hu ht (c := max (D (32 * k u + 15)) (f (40 * u + 15))) (by (lia)) (by (lia))).fr2 hu F1
      have A := ((I.a u hu).cnt hu hta (c := max (E u (32 * k' u u + 15)) (g u (40 * u + 15))) (by (lia)) (by (lia))).fr2 hu F2
      refine ⟨rfl, fun i hi => ?_, F1.out, k, k', updK d u (d u + 1), wr, cl, ?_⟩
      · rw [upd_ne (by (lia)), upd_ne (by (lia))]; exact e96 i hi
      have := I.turn (t' := t + 1) (dd := d u + 1) (x := k u) (x' := k' u u) (p := wr u) (cl' := cl) (b := T u) hu
        (by rw [updT_self, updK_self, updW_self]; exact S)
        (by rw [← alT_self u T, updT_self, updK_self, updW_self]; exact A) id
        (fun i hi hn => F1.out i hi hn)
        (fun v hv hn hT => by
          have : k v ≠ k u := fun e => hn (I.s.kd hv hu hT ht e)
          rw [upd_ne (by (lia))])
        (fun v hv hn hT i hi x hx => by have := I.s.blk hv hT hi; rw [upd_ne (by (lia))])
        (fun i hi q => by
          by_cases q1 : i = 14
          · subst q1; rw [upd_eq rfl, upd_eq rfl]
          · rw [upd_ne (by (lia)), upd_ne (by (lia))]; exact I.h u hu i hi q)
        (fun j hj => by rw [upd_ne (by (lia)), upd_ne (by (lia))]; exact I.z u hu j hj)
        (fun _ => by rw [upd_eq rfl, upd_eq rfl, ce, e15])
        (fun _ i hi x hx => by
          have b1 := I.s.blk hu ht hi
          have b2 := (I.a u hu).blk hu hta hi
          have b := (I.s.wb u hu ht i hi).1
          have b3 := (I.a u hu).kl u hu hta
          rw [upd_ne (i := 40 * u + 16 + i / 2) (by (lia)), upd_ne (i := 40 * u + 16 + i / 2) (by (lia)), upd_ne (by (lia)), upd_ne (by (lia))]; exact I.w u hu ht i hi x hx)
        (fun _ => by
          rw [nz_congr (g := f) fun j hj => by rw [upd_ne (by (lia))]]
          rw [upd_ne (by (lia)), upd_ne (by (lia)), upd_eq rfl]
          exact N.close.congr fun j hj => by rw [upd_ne (by (lia))])
        (by (lia)) (by rcases I.t3 with q | q; exact .inl q; exact .inr (by (lia)))
      rw [updT_self, updK_self, updW_self, updKK_self] at this
      exact this
theorem Inv.de (I : Inv t T f D g E k k' d wr cl) (hu : u < 2) (ht : T u = true) (e96 : ∀ i, i < 16 → f (96 + i) = g u (96 + i)) (s1 : De u f D c f' D') (s2 : De u (g u) (E u) c' g' E') : Out t u (updT T u false) f g E c c' f' D' g' E' := by
  obtain ⟨rfl, rfl, k1, H1, rfl⟩ := s1
  obtain ⟨rfl, rfl, k2, H2, rfl⟩ := s2
  have N := I.n u hu ht
  have hta : alT u T u = true := by rw [alT_self]; exact ht
  have e1 := I.s.keq hu ht H1
  have e2 := (I.a u hu).keq hu hta H2
  subst e1 e2
  have s2 := sum2 hu d 0
  have td : d u ≤ d 0 + d 1 := two_le hu d
  have tt := I.tt
  refine ⟨rfl, e96, fun _ _ _ => rfl, k, k', updK d u 0, wr, (cl ∧ ∀ j, j < 16 → f' (40 * u + 16 + j) = 0), ?_⟩
  have := I.turn (f' := f') (g' := g u) (t' := t + 1) (dd := 0) (x := k u) (x' := k' u u) (p := wr u) (cl' := cl ∧ ∀ j, j < 16 → f' (40 * u + 16 + j) = 0) (b := false) hu
    (by rw [updK_self, updW_self]; exact I.s.del hu ht id)
    (by rw [updK_self, updW_self]; exact (I.a u hu).del hu hta fun q => ⟨q.1, fun j hj => (I.z u hu j hj).mp (q.2 j hj)⟩) (fun q => q.1)
    (fun i hi hn => rfl)
    (fun v hv hn hT => upd_ne (by (lia)))
    (fun v hv hn hT i hi x hx => by have := I.s.blk hv hT hi; have := I.s.kl u hu ht; rw [upd_ne (by (lia))])
    (I.h u hu) (I.z u hu) (fun q => by cases q) (fun q => by cases q) (fun q => by cases q) (by (lia))
    (by
      by_cases q : ∀ j, j < 16 → f' (40 * u + 16 + j) = 0
      · rcases I.t3 with z | z
        · exact .inl ⟨z, q⟩
        · exact .inr (by (lia))
      · have : ∃ j, j < 16 ∧ f' (40 * u + 16 + j) ≠ 0 := Classical.byContradiction fun h => q fun j hj => Classical.byContradiction fun e => h ⟨j, hj, e⟩
        obtain ⟨j, hj, e⟩ := this
        have := N.al j hj e
        exact .inr (by (lia)))
  rw [updK_self, updW_self, updKK_self] at this
  exact this
end
end Mine
end

section
set_option maxRecDepth 100000
open PySem
namespace Mine
section
variable {t u : Nat} {T T' : Nat → Bool} {f D f' D' : Nat → Int} {g E : Nat → Nat → Int} {k : Nat → Nat} {k' : Nat → Nat → Nat} {d : Nat → Nat} {wr : Nat → Nat → Prop} {cl : Prop} {c c' : Int} {g' E' : Nat → Int}
noncomputable def mkF (f : Nat → Int) (a : Nat) : Nat → Int := putAt (opN f a) (a + 12) 20 fun i => if i = 2 then 128 else 0
noncomputable def mkD (f D : Nat → Int) (u kk : Nat) : Nat → Int := putAt D (32 * kk) 32 (eoct u 0 (fun i => opN f (40 * u) (40 * u + 1 + i)) fun _ => 0)
theorem mkF_z {f : Nat → Int} {a i : Nat} (h : 12 ≤ i) (h2 : i < 32) (h3 : i ≠ 14) : mkF f a (a + i) = 0 := by
  unfold mkF; rw [putAt_in (by (lia)), if_neg (by (lia))]
theorem mkF_14 {f : Nat → Int} {a : Nat} : mkF f a (a + 14) = 128 := by
  unfold mkF; rw [putAt_in (by (lia)), if_pos (by (lia))]
theorem mkF_lo {f : Nat → Int} {a i : Nat} (h : i < 12 ∨ 32 ≤ i) : mkF f a (a + i) = opN f a (a + i) := by
  unfold mkF; rw [putAt_out (by (lia))]
theorem mkF_out {f : Nat → Int} {a i : Nat} (h : ¬ (a ≤ i ∧ i < a + 36)) : mkF f a i = f i := by
  unfold mkF; rw [putAt_out (by (lia)), opN_out h]
theorem G.mkN (s : G f D T k wr cl) (hu : u < 2) (ht : T u = false) {kk : Nat} (hk : kk < 8) (e1 : D (32 * kk) = 229) :
    G (mkF f (40 * u)) (mkD f D u kk) (updT T u true) (updK k u kk) (updW wr u fun _ => False) cl := by
  refine s.make hu ht hk e1 (c := 0) (fun i hi => ?_) (fun i hn hi => mkF_out hn) (mkF_z (by (lia)) (by (lia)) (by (lia))) (.inr mkF_14) (fun i hi => ?_) (fun i hi => ?_) (fun i hi => ?_) ?_ (fun i hi => ?_) (fun i h1 h2 => ?_)
  · by_cases e : 40 * u ≤ i ∧ i < 40 * u + 36
    · obtain ⟨j, rfl⟩ : ∃ j, i = 40 * u + j := ⟨i - 40 * u, by (lia)⟩
      by_cases e1 : j = 14
      · subst e1; rw [mkF_14]; decide
      · by_cases e2 : 12 ≤ j ∧ j < 32
        · rw [mkF_z e2.1 e2.2 e1]; decide
        · rw [mkF_lo (by (lia))]; exact opN_oct (s.fo _ hi)
    · rw [mkF_out e]; exact s.fo i hi
  · rw [Nat.add_assoc, mkF_lo (by (lia)), ← Nat.add_assoc]; exact opN_nm hi
  · rw [Nat.add_assoc, mkF_z (by (lia)) (by (lia)) (by (lia))]
  · unfold mkD; rw [putAt_out (by (lia))]
  · unfold mkD; rw [putAt_in (by (lia))]; unfold eoct; rw [if_pos (by (lia))]
  · unfold mkD; rw [putAt_in (by (lia))]; unfold eoct; rw [if_neg (by (lia)), if_pos (by (lia))]
    rw [show 32 * kk + (1 + i) - 32 * kk - 1 = i by (lia)]; exact opN_nm hi
  · unfold mkD; rw [putAt_in (by (lia))]; unfold eoct; rw [if_neg (by (lia)), if_neg (by (lia))]
    split
    · rfl
    · split <;> rfl
theorem nz_zero {f : Nat → Int} (h : ∀ j, j < 16 → f (40 * u + 16 + j) = 0) : nz f u = 0 := by
  unfold nz nzl
  rw [List.length_eq_zero_iff, List.filter_eq_nil_iff]
  intro j hj
  rw [h j (List.mem_range.mp hj)]
  decide
theorem Inv.mk_ (I : Inv t T f D g E k k' d wr cl) (hu : u < 2) (ht : T u = false) (e96 : ∀ i, i < 16 → f (96 + i) = g u (96 + i)) (s1 : Mk u f D c f' D') (s2 : Mk u (g u) (E u) c' g' E') : Out t u (updT T u true) f g E c c' f' D' g' E' := by
  obtain ⟨k1, hk1, z1, _, rfl, rfl, rfl⟩ := s1
  obtain ⟨k2, hk2, z2, _, rfl, rfl, rfl⟩ := s2
  have hta : alT u T u = false := by rw [alT_self]; exact ht
  have S := I.s.mkN hu ht hk1 z1
  have A := (I.a u hu).mkN hu hta hk2 z2
  have s2 := sum2 hu d 1
  have tt := I.tt
  have m0 : ∀ (q : Nat → Int) (j : Nat), j < 16 → mkF q (40 * u) (40 * u + 16 + j) = 0 := fun q j hj => by rw [Nat.add_assoc, mkF_z (by (lia)) (by (lia)) (by (lia))]
  have kn : ∀ v, v < 2 → T v = true → k v ≠ k1 := fun v hv hw e => by
    have := I.s.us v hv hw; rw [e] at this; (lia)
  have cc : ∀ q Q : Nat → Int, ∀ kk, mkD q Q u kk (32 * kk + 15) = 0 := fun q Q kk => by
    unfold mkD; rw [putAt_in (by (lia))]; unfold eoct; rw [if_neg (by (lia)), if_neg (by (lia)), if_neg (by (lia)), if_pos (by (lia))]
  show Out t u (updT T u true) f g E 0 0 (mkF f (40 * u)) (mkD f D u k1) (mkF (g u) (40 * u)) (mkD (g u) (E u) u k2)
  refine ⟨rfl, fun i hi => ?_, fun i _ hn => mkF_out hn, _, _, updK d u 1, _, cl, I.turn (t' := t + 1) (dd := 1) (x := k1) (x' := k2) (p := fun _ => False) (cl' := cl) (b := true) hu S A id
    (fun i _ hn => mkF_out hn) (fun v hv hn hT => ?_) (fun v hv hn hT i hi x hx => ?_) (fun i hi q => ?_) (fun j hj => ?_) (fun _ => ?_) (fun _ i hi => hi.elim) (fun _ => ?_) (by (lia)) (by rcases I.t3 with q | q; exact .inl q; exact .inr (by (lia)))⟩
  · rw [mkF_out (by (lia)), mkF_out (by (lia))]; exact e96 i hi
  · have := kn v hv hT
    unfold mkD; rw [putAt_out (by (lia))]
  · have := I.s.blk hv hT hi
    unfold mkD; rw [putAt_out (by (lia))]
  · by_cases q1 : i = 14
    · subst q1; rw [mkF_14, mkF_14]
    · by_cases q2 : 12 ≤ i ∧ i < 32
      · rw [mkF_z q2.1 q2.2 q1, mkF_z q2.1 q2.2 q1]
      · rw [mkF_lo (by (lia)), mkF_lo (by (lia))]; exact opN_in hi
  · rw [m0 _ j hj, m0 _ j hj]
  · rw [cc, cc]
  · rw [mkF_lo (by (lia)), opN_hi (by (lia)) (by (lia)), mkF_z (by (lia)) (by (lia)) (by (lia)), cc, nz_zero (m0 _)]
    exact Num.make (m0 _)
theorem wrF_at {f2 : Nat → Int} {a i : Nat} (h : i ≠ a + 14 ∧ i ≠ a + 15 ∧ i ≠ a + 32) : wrF f2 a i = f2 i := by
  unfold wrF; rw [upd_ne h.2.2, upd_ne h.1, upd_ne h.2.1]
theorem wrF_15 {f2 : Nat → Int} {a : Nat} : wrF f2 a (a + 15) = max (f2 (a + 15)) (f2 (a + 32) + 1) := by
  unfold wrF; rw [upd_ne (by (lia)), upd_ne (by (lia)), upd_eq rfl]
theorem wrF_14 {f2 : Nat → Int} {a : Nat} : wrF f2 a (a + 14) = 0 := by
  unfold wrF; rw [upd_ne (by (lia)), upd_eq rfl]
theorem wrF_32 {f2 : Nat → Int} {a : Nat} : wrF f2 a (a + 32) = f2 (a + 32) + 1 := upd_eq rfl
/-- one side of a write, the block being there -/
structure Wd (u s : Nat) (f f2 D D2 : Nat → Int) (T : Nat → Bool) (k : Nat → Nat) (wr : Nat → Nat → Prop) (cl : Prop) : Prop where
  S : G f2 D2 T k wr cl
  nz : f2 (40 * u + 16 + s) ≠ 0
  fe : ∀ i, i ≠ 40 * u + 16 + s → f2 i = f i
  fs : f (40 * u + 16 + s) ≠ 0 → f2 (40 * u + 16 + s) = f (40 * u + 16 + s)
  De : ∀ i, i ≠ 32 * k u + 16 + s → D2 i = D i
  n : Mine.nz f2 u ≤ Mine.nz f u + 1
theorem G.wd (g : G f D T k wr cl) (hu : u < 2) (ht : T u = true) {f2 D2 : Nat → Int} (h : Al u f D f2 D2) (hc : (f (40 * u + 32)).toNat / 2 < 16) : Wd u ((f (40 * u + 32)).toNat / 2) f f2 D D2 T k wr cl := by
  rcases h with ⟨h0, rfl, rfl⟩ | ⟨h0, kk, i, H, hi, hU, rfl, rfl⟩
  · exact ⟨g, h0, fun _ _ => rfl, fun _ => rfl, fun _ _ => rfl, by (lia)⟩
  · have e := g.keq hu ht H
    subst e
    have i8 := (g.unused hU).1
    refine ⟨g.alloc hu ht hc h0 hi hU, ?_, fun j hj => upd_ne hj, fun z => absurd h0 z, fun j hj => upd_ne hj, ?_⟩
    · rw [upd_eq rfl]; (lia)
    · rw [nz_set hc h0 (by (lia))]; (lia)
theorem Wd.fj {s : Nat} {f2 D2 : Nat → Int} (W : Wd u s f f2 D D2 T k wr cl) {v j : Nat} (hv : v < 2) (hu : u < 2) (hj : j < 16) (hs : s < 16) (h : f (40 * v + 16 + j) ≠ 0) : f2 (40 * v + 16 + j) = f (40 * v + 16 + j) := by
  by_cases e : 40 * v + 16 + j = 40 * u + 16 + s
  · rw [e] at h ⊢; exact W.fs h
  · exact W.fe _ e
theorem Inv.wn (I : Inv t T f D g E k k' d wr cl) (hu : u < 2) (ht : T u = true) (h8 : t ≤ 8) (e96 : ∀ i, i < 16 → f (96 + i) = g u (96 + i)) (s1 : Wn u f D c f' D') (s2 : Wn u (g u) (E u) c' g' E') : Out t u T f g E c c' f' D' g' E' := by
  obtain ⟨f2, D2, a1, rfl, rfl, rfl⟩ := s1
  obtain ⟨g2, E2, a2, rfl, rfl, rfl⟩ := s2
  have N := I.n u hu ht
  have hta : alT u T u = true := by rw [alT_self]; exact ht
  have td : d u ≤ d 0 + d 1 := two_le hu d
  have tt := I.tt
  have c0 := N.c0
  have r0 := N.r0
  have e32 := I.h u hu 32 (by (lia)) (by (lia))
  have e15 := I.h u hu 15 (by (lia)) (by (lia))
  have hs : (f (40 * u + 32)).toNat / 2 < 16 := by (lia)
  have W1 := I.s.wd hu ht a1 hs
  have W2 := (I.a u hu).wd hu hta a2 (by rw [← e32]; exact hs)
  rw [← e32] at W2
  generalize hx : (f (40 * u + 32)).toNat = x at *
  have x32 : x < 32 := by (lia)
  have f32 : f2 (40 * u + 32) = f (40 * u + 32) := W1.fe _ (by (lia))
  have g32 : g2 (40 * u + 32) = f (40 * u + 32) := by rw [W2.fe _ (by (lia)), e32]
  have f15 : f2 (40 * u + 15) = f (40 * u + 15) := W1.fe _ (by (lia))
  have g15 : g2 (40 * u + 15) = f (40 * u + 15) := by rw [W2.fe _ (by (lia)), e15]
  have P1 := W1.S.put hu ht (x := x) (p := fun i => f (96 + i)) x32 W1.nz (fun i hi => I.s.fo _ (by (lia)))
  have P2 := W2.S.put hu hta (x := x) (p := fun i => g u (96 + i)) x32 W2.nz (fun i hi => (I.a u hu).fo _ (by (lia)))
  have F1 : Fr2 u f2 (wrF f2 (40 * u)) (T u) := (((W1.S.refl2 hu _).upd (.inl rfl) (by rw [f32, f15]; (lia))).s2 (.inl rfl)).upd (.inr rfl) (by rw [f32]; (lia))
  have F2 : Fr2 u g2 (wrF g2 (40 * u)) (alT u T u) := (((W2.S.refl2 hu _).upd (.inl rfl) (by rw [g32, g15]; (lia))).s2 (.inl rfl)).upd (.inr rfl) (by rw [g32]; (lia))
  have S := P1.fr2 hu F1
  have A := P2.fr2 hu F2
  have d1 : wrD f2 D2 (40 * u) (fun i => f (96 + i)) = putAt D2 (32 * (f2 (40 * u + 16 + x / 2)).toNat + 16 * (x % 2)) 16 (fun i => f (96 + i)) := by unfold wrD; rw [f32, hx]
  have d2 : wrD g2 E2 (40 * u) (fun i => g u (96 + i)) = putAt E2 (32 * (g2 (40 * u + 16 + x / 2)).toNat + 16 * (x % 2)) 16 (fun i => g u (96 + i)) := by unfold wrD; rw [g32, hx]
  rw [d1, d2]
  have kl := I.s.kl u hu ht
  have kla := (I.a u hu).kl u hu hta
  have b1 := (W1.S.rg u hu ht (x / 2) (by (lia))).resolve_left W1.nz
  have b2 := (W2.S.rg u hu hta (x / 2) (by (lia))).resolve_left W2.nz
  have s2 := sum2 hu d (d u + 1)
  have zz : ∀ j, j < 16 → (f2 (40 * u + 16 + j) = 0 ↔ g2 (40 * u + 16 + j) = 0) := fun j hj => by
    by_cases e : j = x / 2
    · subst e; exact ⟨fun e => absurd e W1.nz, fun e => absurd e W2.nz⟩
    · rw [W1.fe _ (by (lia)), W2.fe _ (by (lia))]; exact I.z u hu j hj
  refine ⟨rfl, fun i hi => ?_, fun i hi hn => ?_, k, k', updK d u (d u + 1), updW wr u (fun i => i = x ∨ wr u i), cl, ?_⟩
  · rw [wrF_at (by (lia)), wrF_at (by (lia)), W1.fe _ (by (lia)), W2.fe _ (by (lia))]; exact e96 i hi
  · rw [F1.out i hi hn, W1.fe _ (by (lia))]
  have := I.turn (t' := t + 1) (dd := d u + 1) (x := k u) (x' := k' u u) (p := fun i => i = x ∨ wr u i) (cl' := cl) (b := T u) hu
    (by rw [updT_self, updK_self]; exact S)
    (by rw [← alT_self u T, updT_self, updK_self]; exact A) id
    (fun i hi hn => by rw [F1.out i hi hn, W1.fe _ (by (lia))])
    (fun v hv hn hT => by
      have : k v ≠ k u := fun e => hn (I.s.kd hv hu hT ht e)
      have := I.s.kl v hv hT
      rw [putAt_out (by (lia)), W1.De _ (by (lia))])
    (fun v hv hn hT i hi y hy => by
      have b8 := I.s.blk hv hT hi
      obtain ⟨i32, i0⟩ := I.s.wb v hv hT i hi
      have fv := W1.fe (40 * v + 16 + i / 2) (by (lia))
      have rv := (I.s.rg v hv hT (i / 2) (by (lia))).resolve_left i0
      have ne : (f (40 * v + 16 + i / 2)).toNat ≠ (f2 (40 * u + 16 + x / 2)).toNat := fun e =>
        hn (W1.S.ij v u (i / 2) (x / 2) hv hu hT ht (by (lia)) (by (lia)) (by rw [fv]; exact i0) (by rw [fv]; (lia))).1
      rw [putAt_out (by (lia)), W1.De _ (by (lia))])
    (fun i hi q => by
      by_cases q1 : i = 14
      · subst q1; rw [wrF_14, wrF_14]
      · by_cases q2 : i = 15
        · subst q2; rw [wrF_15, wrF_15, f15, f32, g15, g32]
        · by_cases q3 : i = 32
          · subst q3; rw [wrF_32, wrF_32, f32, g32]
          · rw [wrF_at (by (lia)), wrF_at (by (lia)), W1.fe _ (by (lia)), W2.fe _ (by (lia))]; exact I.h u hu i hi q)
    (fun j hj => by rw [wrF_at (by (lia)), wrF_at (by (lia))]; exact zz j hj)
    (fun _ => by rw [putAt_out (by (lia)), putAt_out (by (lia)), W1.De _ (by (lia)), W2.De _ (by (lia))]; exact I.c u hu ht)
    (fun _ i hi y hy => by
      by_cases e : i = x
      · rcases e.symm with rfl
        rw [wrF_at (by (lia)), wrF_at (by (lia)), putAt_in (by (lia)), putAt_in (by (lia)), Nat.add_sub_cancel_left, Nat.add_sub_cancel_left]
        exact e96 y hy
      · have wi := hi.resolve_left e
        obtain ⟨i32, i0⟩ := I.s.wb u hu ht i wi
        have j0 := ((I.a u hu).wb u hu hta i wi).2
        have b8 := I.s.blk hu ht wi
        have b9 := (I.a u hu).blk hu hta wi
        have f1 := W1.fj (j := i / 2) hu hu (by (lia)) hs i0
        have f3 := W2.fj (j := i / 2) hu hu (by (lia)) hs j0
        have n1 : ¬ ((f (40 * u + 16 + i / 2)).toNat = (f2 (40 * u + 16 + x / 2)).toNat ∧ i % 2 = x % 2) := fun q => by
          have := (W1.S.ij u u (i / 2) (x / 2) hu hu ht ht (by (lia)) (by (lia)) (by rw [f1]; exact i0) (by rw [f1]; (lia))).2
          (lia)
        have n2 : ¬ ((g u (40 * u + 16 + i / 2)).toNat = (g2 (40 * u + 16 + x / 2)).toNat ∧ i % 2 = x % 2) := fun q => by
          have := (W2.S.ij u u (i / 2) (x / 2) hu hu hta hta (by (lia)) (by (lia)) (by rw [f3]; exact j0) (by rw [f3]; (lia))).2
          (lia)
        rw [wrF_at (by (lia)), wrF_at (by (lia)), f1, f3, putAt_out (by (lia)), putAt_out (by (lia)), W1.De _ (by (lia)), W2.De _ (by (lia))]
        exact I.w u hu ht i wi y hy)
    (fun _ => by
      rw [wrF_32, wrF_15, f32, f15, putAt_out (by (lia)), W1.De _ (by (lia))]
      rw [nz_congr (g := f2) fun j hj => by rw [wrF_at (by (lia))]]
      have NW := N.write (sl' := fun j => f2 (40 * u + 16 + j)) (fun j hj => W1.fe _ (by (lia))) W1.n
      rw [hx] at NW
      exact NW.congr fun j hj => by rw [wrF_at (by (lia))])
    (by (lia)) (by rcases I.t3 with q | q; exact .inl q; exact .inr (by (lia)))
  rw [updT_self, updK_self, updKK_self] at this
  exact this
end
end Mine
end

section
set_option maxRecDepth 100000
open PySem
namespace Mine
section
variable {t u : Nat} {T T' : Nat → Bool} {f D f' D' : Nat → Int} {g E : Nat → Nat → Int} {k : Nat → Nat} {k' : Nat → Nat → Nat} {d : Nat → Nat} {wr : Nat → Nat → Prop} {cl : Prop} {c c' : Int} {g' E' : Nat → Int}
theorem Inv.mem (I : Inv t T f D g E k k' d wr cl) (hu : u < 2) (p q : Nat → Int) (hp : ∀ i, i < 16 → 0 ≤ p i ∧ p i < 256) (hq : ∀ i, i < 16 → 0 ≤ q i ∧ q i < 256) :
    Inv t T (putAt f 96 16 p) D (updG g u (putAt (g u) 96 16 q)) E k k' d wr cl := by
  have F1 : Fr2 u f (putAt f 96 16 p) (T u) := (I.s.refl2 hu _).put hu (.inr ⟨rfl, rfl⟩) hp
  have F2 : Fr2 u (g u) (putAt (g u) 96 16 q) (alT u T u) := ((I.a u hu).refl2 hu _).put hu (.inr ⟨rfl, rfl⟩) hq
  have s2 := sum2 hu d (d u)
  have tt := I.tt
  have := I.turn (f' := putAt f 96 16 p) (D' := D) (g' := putAt (g u) 96 16 q) (E' := E u) (t' := t) (dd := d u) (x := k u) (x' := k' u u) (p := wr u) (cl' := cl) (b := T u) hu
    (by rw [updT_self, updK_self, updW_self]; exact I.s.fr2 hu F1)
    (by rw [← alT_self u T, updT_self, updK_self, updW_self]; exact (I.a u hu).fr2 hu F2) id
    (fun i hi hn => F1.out i hi hn) (fun _ _ _ _ => rfl) (fun _ _ _ _ _ _ _ _ => rfl)
    (fun i hi q => by rw [putAt_out (by (lia)), putAt_out (by (lia))]; exact I.h u hu i hi q)
    (fun j hj => by rw [putAt_out (by (lia)), putAt_out (by (lia))]; exact I.z u hu j hj)
    (fun ht => I.c u hu ht)
    (fun ht i hi x hx => by
      have b := (I.s.wb u hu ht i hi).1
      rw [putAt_out (by (lia)), putAt_out (by (lia))]; exact I.w u hu ht i hi x hx)
    (fun ht => by
      rw [nz_congr (g := f) fun j hj => by rw [putAt_out (by (lia))]]
      rw [putAt_out (by (lia)), putAt_out (by (lia))]
      exact (I.n u hu ht).congr fun j hj => by rw [putAt_out (by (lia))])
    (by (lia)) (by rcases I.t3 with q | q; exact .inl q; exact .inr (by (lia)))
  rw [updT_self, updK_self, updW_self, updG_self, updKK_self] at this
  have e : updK d u (d u) = d := updK_self d u
  rw [e] at this
  exact this
theorem pat_oct (n : Int) (u i : Nat) : 0 ≤ pat n u i ∧ pat n u i < 256 := ⟨Int.fmod_nonneg_of_pos _ (by decide), Int.fmod_lt_of_pos _ (by decide)⟩
theorem G.rdy (s : G f D T k wr cl) (hu : u < 2) (ht : T u = true) (h1 : f (40 * u + 32) < 32) : Rd f (40 * u) D :=
  ⟨s.fcb hu, by (lia), h1, fun i hi => by rcases s.rg u hu ht i hi with e | e <;> (lia), s.Do⟩
theorem G.can (s : G f D T k wr cl) (hu : u < 2) (hc : T u = true → f (40 * u + 32) < 32 ∧ f (40 * u + 15) < 32) (h10 : tot f T ≤ 10) {n : Int} {q : Nat} (hq : T u = true ∨ q ≤ 2) (hn : q = 5 → n.fmod 5 = 3) : Can u n f D q := by
  have big : ¬ q ≤ 2 → T u = true := fun h => hq.resolve_right h
  match q, big, hn with
  | 0, _, _ => exact s.first
  | 1, _, _ =>
    cases ht : T u with
    | true => exact .inr ⟨_, s.hasN hu ht⟩
    | false => exact .inl (s.no hu ht)
  | 2, _, _ =>
    cases ht : T u with
    | true => exact .inr ⟨_, s.has hu ht⟩
    | false => exact .inl (s.no hu ht)
  | 3, b, _ =>
    have ht := b (by (lia))
    obtain ⟨h1, h2⟩ := hc ht
    have F : Fr2 u f (putAt f 96 16 (pat n u)) (T u) := (s.refl2 hu _).put hu (.inr ⟨rfl, rfl⟩) fun i _ => pat_oct n u i
    have s' := s.fr2 hu F
    refine ⟨s'.fcb hu, by rw [putAt_out (by (lia))]; exact h1, by rw [putAt_out (by (lia))]; exact h2, fun i hi => by rcases s'.rg u hu ht i hi with e | e <;> (lia), ⟨k u, s'.has hu ht, s'.mp u hu ht⟩, s.HL, fun n _ => s.other h10 n⟩
  | 4, b, _ => exact s.rdy hu (b (by (lia))) (hc (b (by (lia)))).1
  | 5, b, hn => exact ⟨hn rfl, s.fcb hu, (s.fr2 hu ((s.refl2 hu _).n3 hu)).rdy hu (b (by (lia))) (by rw [n3_32]; decide)⟩
  | 6, b, _ =>
    have ht := b (by (lia))
    rcases s.f14 u hu with e | e
    · exact .inr ⟨e, s.fcb hu, k u, s.has hu ht, fun i hi => (s.mp u hu ht i hi).symm⟩
    · exact .inl e
  | 7, b, _ => exact s.fcb hu
  | q + 8, b, _ => exact ⟨k u, s.has hu (b (by (lia)))⟩
theorem Inv.tot (I : Inv t T f D g E k k' d wr cl) : tot f T ≤ t := by
  have tt := I.tt
  unfold Mine.tot
  split
  · have := (I.n 0 (by (lia)) (by assumption)).nb
    split
    · have := (I.n 1 (by (lia)) (by assumption)).nb
      (lia)
    · (lia)
  · split
    · have := (I.n 1 (by (lia)) (by assumption)).nb
      (lia)
    · (lia)
theorem Inv.tots (I : Inv t T f D g E k k' d wr cl) : Mine.tot f T = Mine.tot (g 0) (alT 0 T) + Mine.tot (g 1) (alT 1 T) := by
  have e0 := nz_congr (f := f) (g := g 0) (u := 0) fun j hj => I.z 0 (by (lia)) j hj
  have e1 := nz_congr (f := f) (g := g 1) (u := 1) fun j hj => I.z 1 (by (lia)) j hj
  unfold Mine.tot
  rw [e0, e1, alT_self, alT_self, show alT 0 T 1 = false from by simp [alT], show alT 1 T 0 = false from by simp [alT]]
  simp
theorem Inv.bnd (I : Inv t T f D g E k k' d wr cl) (hu : u < 2) (h8 : t ≤ 8) (ht : T u = true) : f (40 * u + 32) < 32 ∧ f (40 * u + 15) < 32 := by
  have N := I.n u hu ht
  have td : d u ≤ d 0 + d 1 := two_le hu d
  have tt := I.tt
  have := N.c0
  have := N.r0
  (lia)
noncomputable def After (q u : Nat) (T : Nat → Bool) : Nat → Bool := if q = 0 then updT T u true else if q = 8 then updT T u false else T
theorem f0_out {f : Nat → Int} {i : Nat} (h : i < 96) : F0 f i = f i := putAt_out (by (lia))
theorem Out.back (O : Out t u T' (putAt f 96 16 p) (updG g u (putAt (g u) 96 16 q)) E c c' f' D' g' E') : Out t u T' f g E c c' f' D' g' E' :=
  ⟨O.code, O.mem, fun i hi hn => (O.oth i hi hn).trans (putAt_out (by (lia))), by
    have := O.inv
    rw [updG_two] at this
    exact this⟩
theorem updG_at (g : Nat → Nat → Int) (u : Nat) (x : Nat → Int) : updG g u x u = x := if_pos rfl
theorem nat8 {P : Nat → Prop} (h0 : P 0) (h1 : P 1) (h2 : P 2) (h3 : P 3) (h4 : P 4) (h5 : P 5) (h6 : P 6) (h7 : P 7) (h8 : P 8) (q : Nat) (hq : q ≤ 8) : P q := by
  rcases (by (lia) : q = 0 ∨ q = 1 ∨ q = 2 ∨ q = 3 ∨ q = 4 ∨ q = 5 ∨ q = 6 ∨ q = 7 ∨ q = 8) with rfl | rfl | rfl | rfl | rfl | rfl | rfl | rfl | rfl <;> assumption
theorem Inv.deed (I : Inv t T f D g E k k' d wr cl) (hu : u < 2) (h8 : t ≤ 8) {q : Nat} {n : Int} (hq : (T u = true ∧ 1 ≤ q ∧ q ≤ 8) ∨ (T u = false ∧ q ≤ 2))
    (s1 : Step u n (F0 f) D q c f' D') (s2 : Step u n (F0 (g u)) (E u) q c' g' E') : Out t u (After q u T) f g E c c' f' D' g' E' := by
  have J := I.mem hu (fun _ => 0) (fun _ => 0) (fun _ _ => by decide) (fun _ _ => by decide)
  have e96 : ∀ (p : Nat → Int) (i : Nat), i < 16 → putAt (F0 f) 96 16 p (96 + i) = putAt (F0 (g u)) 96 16 p (96 + i) := fun p i hi => by rw [putAt_in (by (lia)), putAt_in (by (lia))]
  have e0 : ∀ i : Nat, i < 16 → F0 f (96 + i) = F0 (g u) (96 + i) := fun i hi => by unfold F0; rw [putAt_in (by (lia)), putAt_in (by (lia))]
  have J' : Inv t T (F0 f) D (updG g u (F0 (g u))) E k k' d wr cl := J
  have e0' : ∀ i : Nat, i < 16 → F0 f (96 + i) = updG g u (F0 (g u)) u (96 + i) := by rw [updG_at]; exact e0
  have nf : T u = true → ¬ T u = false := fun a b => by rw [a] at b; cases b
  have big : ¬ q ≤ 2 → T u = true := fun h => by rcases hq with a | a; exact a.1; exact absurd a.2 h
  have q8 : q ≤ 8 := by rcases hq with a | a <;> (lia)
  have small : q = 0 → T u = false := fun h => by rcases hq with a | a; (lia); exact a.1
  refine nat8 (P := fun q => Step u n (F0 f) D q c f' D' → Step u n (F0 (g u)) (E u) q c' g' E' → (¬ q ≤ 2 → T u = true) → (q = 0 → T u = false) → Out t u (After q u T) f g E c c' f' D' g' E') ?_ ?_ ?_ ?_ ?_ ?_ ?_ ?_ ?_ q q8 s1 s2 big small
  · intro s1 s2 b s
    exact Out.back (p := fun _ => 0) (q := fun _ => 0) (J'.mk_ hu (s rfl) e0' s1 (by rw [updG_at]; exact s2))
  · intro s1 s2 b s
    exact Out.back (p := fun _ => 0) (q := fun _ => 0) (J'.op hu e0' s1 (by rw [updG_at]; exact s2))
  · intro s1 s2 b s
    exact Out.back (p := fun _ => 0) (q := fun _ => 0) (J'.sz hu e0' s1 (by rw [updG_at]; exact s2))
  · intro s1 s2 b s
    have K := J'.mem hu (pat n u) (pat n u) (fun i _ => pat_oct n u i) (fun i _ => pat_oct n u i)
    rw [updG_at, updG_two] at K
    have := K.wn hu (b (by (lia))) h8 (by rw [updG_at]; exact e96 _) s1 (by rw [updG_at]; exact s2)
    have := Out.back (p := fun _ => 0) (q := fun _ => 0) (f := f) (g := g) (u := u) (Out.back (p := pat n u) (q := pat n u) (f := F0 f) (g := updG g u (F0 (g u))) (u := u) (by rw [updG_at, updG_two]; exact this))
    exact this
  · intro s1 s2 b s
    exact Out.back (p := fun _ => 0) (q := fun _ => 0) (J'.rn hu (b (by (lia))) h8 e0' s1 (by rw [updG_at]; exact s2))
  · intro s1 s2 b s
    exact Out.back (p := fun _ => 0) (q := fun _ => 0) (J'.nu hu (b (by (lia))) h8 e0' s1 (by rw [updG_at]; exact s2))
  · intro s1 s2 b s
    exact Out.back (p := fun _ => 0) (q := fun _ => 0) (J'.clo hu (b (by (lia))) h8 e0' s1 (by rw [updG_at]; exact s2))
  · intro s1 s2 b s
    exact Out.back (p := fun _ => 0) (q := fun _ => 0) (J'.wh hu e0' s1 (by rw [updG_at]; exact s2))
  · intro s1 s2 b s
    exact Out.back (p := fun _ => 0) (q := fun _ => 0) (J'.de hu (b (by (lia))) e0' s1 (by rw [updG_at]; exact s2))
theorem Inv.can1 (I : Inv t T f D g E k k' d wr cl) (hu : u < 2) (h8 : t ≤ 8) {q : Nat} {n : Int} (hq : T u = true ∨ q ≤ 2) (hn : q = 5 → n.fmod 5 = 3) : Can u n (F0 f) D q := by
  have J : Inv t T (F0 f) D _ E k k' d wr cl := I.mem hu (fun _ => 0) (fun _ => 0) (fun _ _ => by decide) (fun _ _ => by decide)
  exact J.s.can hu (J.bnd hu h8) (by have := J.tot; (lia)) hq hn
theorem Inv.can2 (I : Inv t T f D g E k k' d wr cl) (hu : u < 2) (h8 : t ≤ 8) {q : Nat} {n : Int} (hq : T u = true ∨ q ≤ 2) (hn : q = 5 → n.fmod 5 = 3) : Can u n (F0 (g u)) (E u) q := by
  have J : Inv t T (F0 f) D (updG g u (F0 (g u))) E k k' d wr cl := I.mem hu (fun _ => 0) (fun _ => 0) (fun _ _ => by decide) (fun _ _ => by decide)
  have a := J.a u hu
  have h32 := J.h u hu 32 (by (lia)) (by (lia))
  have h15 := J.h u hu 15 (by (lia)) (by (lia))
  rw [updG_at] at a h32 h15
  refine a.can hu (fun ht => ?_) ?_ (by rw [alT_self]; exact hq) hn
  · rw [alT_self] at ht; rw [← h32, ← h15]; exact J.bnd hu h8 ht
  · have := J.tots
    have := J.tot
    have : u = 0 ∨ u = 1 := by (lia)
    rcases this with e | e <;> subst e
    · rw [updG_at] at *; (lia)
    · rw [updG_at] at *; (lia)
theorem Inv.init : Inv 0 (fun _ => false) (fun _ => 0) (fun _ => 229) (fun _ _ => 0) (fun _ _ => 229) (fun _ => 0) (fun _ _ => 0) (fun _ => 0) (fun _ _ => False) True := by
  have gg : ∀ T : Nat → Bool, (∀ u, T u = false) → G (fun _ => 0) (fun _ => 229) T (fun _ => 0) (fun _ _ => False) True := fun T hT => by
    have no : ∀ u, T u = true → False := fun u h => by rw [hT] at h; cases h
    exact ⟨fun _ _ => by decide, fun _ _ => by decide, fun _ _ => rfl, fun _ _ => .inl rfl, fun u _ h => (no u h).elim, fun u _ h => (no u h).elim, fun u _ h => (no u h).elim, fun u _ h => (no u h).elim, fun u _ h => (no u h).elim, fun u _ h => (no u h).elim,
      fun _ _ => .inl rfl, fun u _ h => (no u h).elim, fun u v i j _ _ h => (no u h).elim, fun u _ h => (no u h).elim, fun _ _ _ _ _ _ _ _ _ => rfl⟩
  exact ⟨gg _ fun _ => rfl, fun u _ => gg _ fun v => by simp [alT], fun _ _ _ _ _ => rfl, fun _ _ _ _ => Iff.rfl, fun _ _ h => (by cases h), fun _ _ h => (by cases h), fun _ _ h => (by cases h), (by decide), .inl trivial⟩
theorem Inv.taken (I : Inv t T f D g E k k' d wr cl) {A B C : Nat → Bool} (hA : ∀ i, i < 20 → (A i = true ↔ Used D i)) (hB : ∀ i, i < 20 → (B i = true ↔ Used (E 0) i)) (hC : ∀ i, i < 20 → (C i = true ↔ Used (E 1) i)) :
    (12 - (((List.range 20).filter fun i => !A i).length : Int)) = (12 - (((List.range 20).filter fun i => !B i).length : Int)) + (12 - (((List.range 20).filter fun i => !C i).length : Int)) := by
  have a := count_used I.s hA
  have b := count_used (I.a 0 (by (lia))) hB
  have c := count_used (I.a 1 (by (lia))) hC
  have := I.tots
  (lia)
end
end Mine
end

section
set_option maxRecDepth 100000
open PySem
namespace Mine
theorem Al.facts {u : Nat} {f D f2 D2 : Nat → Int} (h : Al u f D f2 D2) (W : Wr u f D) : (∀ i, i ≠ 40 * u + 16 + (f (40 * u + 32)).toNat / 2 → f2 i = f i) ∧ 0 ≤ f2 (40 * u + 16 + (f (40 * u + 32)).toNat / 2) ∧ f2 (40 * u + 16 + (f (40 * u + 32)).toNat / 2) < 20 := by
  have hu := W.F.ha
  have cr := W.cr
  rcases h with ⟨h0, rfl, rfl⟩ | ⟨h0, kk, i, H, hi, hU, rfl, rfl⟩
  · exact ⟨fun _ _ => rfl, (W.F.oct _ (by (lia))).1, W.mp _ (by (lia))⟩
  · exact ⟨fun j hj => upd_ne hj, by rw [upd_eq rfl]; (lia)⟩
theorem Wr.slot {u : Nat} {f D : Nat → Int} (W : Wr u f D) : (f (40 * u + 32)).fdiv 2 = (((f (40 * u + 32)).toNat / 2 : Nat) : Int) ∧ (f (40 * u + 32)).fmod 2 = (((f (40 * u + 32)).toNat % 2 : Nat) : Int) ∧ (f (40 * u + 32)).toNat / 2 < 16 := by
  have hu := W.F.ha
  have cr := W.cr
  have c0 := (W.F.oct (40 * u + 32) (by (lia))).1
  refine ⟨?_, ?_, by (lia)⟩
  · rw [Int.fdiv_eq_ediv_of_nonneg _ (by decide)]; (lia)
  · rw [Int.fmod_eq_emod_of_nonneg _ (by decide)]; (lia)
theorem no_t {b : Bool} {P : Prop} (h : b = false) : b = true → P := fun e => by rw [h] at e; cases e
theorem no_f {b : Bool} {P : Prop} (h : b = true) : b = false → P := fun e => by rw [h] at e; cases e
theorem Fcb.rnd {f : Nat → Int} {a : Nat} {v : Int} (F : Fcb f a) (hv : 0 ≤ v ∧ v < 256) : Fcb (putAt f (a + 33) 3 fun i => if i = 0 then v else 0) a := by
  have ha := F.ha
  refine ⟨fun i hi => ?_, ha, by rw [putAt_out (by (lia))]; exact F.h12, by rw [putAt_out (by (lia))]; exact F.h14⟩
  unfold putAt
  split
  · dsimp only
    split
    · exact hv
    · decide
  · exact F.oct i hi
theorem putAt_ext {f g g' : Nat → Int} {a m : Nat} (h : ∀ i, i < m → g i = g' i) : putAt f a m g = putAt f a m g' := by
  funext i
  unfold putAt
  split
  · exact h _ (by (lia))
  · rfl
end Mine
end

section
set_option maxRecDepth 100000
open PySem PySem.W PySem.Calls PyProof.Rows PySem.Spec
namespace Mine
theorem key_inj : ∀ {S : Led}, (S.map (·.1)).Nodup → ∀ {a : Addr} {o o' : O}, (a, o) ∈ S → (a, o') ∈ S → o = o'
  | [], _, _, _, _, h, _ => by cases h
  | p :: S, nd, a, o, o', h, h' => by
    rw [List.map_cons, List.nodup_cons] at nd
    have no : ∀ x : O, (a, x) ∈ S → a ∈ S.map (·.1) := fun x hx => List.mem_map.mpr ⟨_, hx, rfl⟩
    rcases List.mem_cons.mp h with e | h
    · rcases List.mem_cons.mp h' with e' | h'
      · rw [← e] at e'; injection e' with _ q; exact q.symm
      · exact absurd (by rw [← e]; exact no _ h') nd.1
    · rcases List.mem_cons.mp h' with e' | h'
      · exact absurd (by rw [← e']; exact no _ h) nd.1
      · exact key_inj nd.2 h h'
section
variable {T : TC} {c : Cx} {y : Fx} {r : Loc} {S : Led} {K : V → Led → Prop} {B : Bool → Led → Prop} {Kn : Loc → Led → Prop} {Kr : V → Led → Prop}
noncomputable def SlA (Kn : Loc → Led → Prop) (r : Loc) (S₃ : Led) (ov v : V) (a b : Option Int) : Prop := ∃ (l l2 : Addr) (vs ws : List V) (S₄ : Led), ov = .ref l ∧ v = .ref l2 ∧ (l2, O.list ws) ∈ S₃ ∧ vs.length ≠ ws.length ∧ vs.length + ws.length ≤ 1000000 ∧ Chg l (.list vs) (.list (paste vs ws a b)) S₃ S₄ ∧ Kn r S₄
theorem SlA.mk {l l2 : Addr} {vs ws : List V} {S₄ : Led} {a b : Option Int} (h1 : (l2, O.list ws) ∈ S) (h2 : vs.length ≠ ws.length) (h3 : vs.length + ws.length ≤ 1000000) (h4 : Chg l (.list vs) (.list (paste vs ws a b)) S S₄) (k : Kn r S₄) : SlA Kn r S (.ref l) (.ref l2) a b := ⟨l, l2, vs, ws, S₄, rfl, rfl, h1, h2, h3, h4, k⟩
theorem WA.slice2 {o : Expr} {lo hi : Option Expr} {p q : Pos} {v : V} (h : WE T c r S o fun ov S₁ => WP T c r S₁ lo fun a S₂ => WP T c r S₂ hi fun b S₃ => SlA Kn r S₃ ov v a b) : WA T c r S (.Subscript o (.Slice lo hi Option.none q) p) v Kn := fun y oy s v' X rv => by
  rw [arm_assign_Subscript]
  refine wpAny_bind (wpAny_holding (wpAny_mono (h y oy s X) (fun o' s₁ q => q.elim fun ov S₁ ro X₁ k => wpAny_bind (wpAny_holding (wpAny_Slice (wpAny_mono (k y oy s₁ X₁) (fun v₁ s₂ q => q.elim fun a S₂ pa X₂ k2 => wpAny_mono (k2 y oy s₂ X₂) (fun v₂ s₃ q => q.elim fun b S₃ pb X₃ kk => by
    obtain ⟨l, l2, vs, ws, S₄, e1, e2, hm2, hne, hz, hc, k3⟩ := kk
    subst e1 e2
    cases ro; cases rv
    refine wpAny_pure ?_
    have hne : l ≠ l2 := fun q => by
      subst q
      have := key_inj X₃.own.nodup hc.mem hm2
      injection this with this
      exact hne (by rw [this])
    have hp : ∀ b ob, s₃.heap.get? b = Option.some ob → (s₃.heap.push { cls := .type "slice", data := .fields #[v₁, v₂, .none] }).get? b = Option.some ob := fun b ob e => Heap.get?_push_of_some _ e
    have Y := X₃.ext (t := s₃.toks) hp
    obtain ⟨its, n, e, a2⟩ := Y.own.at_ _ hc.mem
    obtain ⟨jts, jl, b2⟩ := isList Y hm2
    refine wpAny_bind (wpAny_standAt (wpAny_bind (wpAny_holding ?_)))
    refine setSlice e jl (Heap.IsSliceOf.new ..) pa pb (by rw [← a2.length, ← b2.length]; exact hz) hne fun h' hs ⟨n', e'⟩ => wpAny_release' ⟨r, S₄, Y.upd (t := s₃.toks) hc hs ⟨_, n', e', ?_⟩, k3⟩
    unfold paste
    rw [a2.length]
    exact ((a2.take _).append b2).append (a2.drop _)) fun _ _ e => e) fun _ _ e => e)))) fun _ _ e => e))
end
end Mine
end

section
set_option maxRecDepth 100000
open PySem
namespace Mine
noncomputable def StOk (b : Bool) (s : Str) : Prop := (b = true ∧ s = Str.ofString "there") ∨ (b = false ∧ (s = Str.ofString "none" ∨ s = Str.ofString "gone"))
noncomputable def OlOk (b : Bool) (ol : List Nat) : Prop := (b = false ∧ (ol = [0, 1, 2, 0] ∨ ol = [1, 0, 2, 0])) ∨ (b = true ∧ ol = [3, 3, 4, 5, 6, 1, 2, 7, 8, 3])
theorem Cut.app {A B S R R' : Led} (h : Cut A S R) (h' : Cut B R R') : Cut (A ++ B) S R' := by
  induction h with
  | nil => exact h'
  | cons t _ ih => exact .cons t (ih h')
theorem pick_q {b : Bool} {ol : List Nat} (h : OlOk b ol) {n : Int} (n0 : 0 ≤ n) : 0 < ol.length ∧ ol.length ≤ 10 ∧ ∃ q, ol[(n.fmod ol.length).toNat]? = some q ∧ q ≤ 8 ∧ ((b = true ∧ 1 ≤ q ∧ q ≤ 8) ∨ (b = false ∧ q ≤ 2)) ∧ (q = 5 → n.fmod 5 = 3) := by
  obtain ⟨m, rfl⟩ : ∃ m : Nat, n = m := ⟨n.toNat, by (lia)⟩
  have f4 : ((m : Int).fmod 4).toNat = m % 4 := by rw [Int.fmod_eq_emod_of_nonneg _ (by decide)]; (lia)
  have f10 : ((m : Int).fmod 10).toNat = m % 10 := by rw [Int.fmod_eq_emod_of_nonneg _ (by decide)]; (lia)
  have f5 : (m : Int).fmod 5 = ((m % 5 : Nat) : Int) := by rw [Int.fmod_eq_emod_of_nonneg _ (by decide)]; (lia)
  rcases h with ⟨rfl, rfl | rfl⟩ | ⟨rfl, rfl⟩
  · refine ⟨by decide, by decide, ?_⟩
    rw [show (([0, 1, 2, 0] : List Nat).length : Int) = 4 from rfl, f4]
    have : m % 4 = 0 ∨ m % 4 = 1 ∨ m % 4 = 2 ∨ m % 4 = 3 := by (lia)
    rcases this with e | e | e | e <;> rw [e] <;> exact ⟨_, rfl, by decide, by decide, fun h => by (lia)⟩
  · refine ⟨by decide, by decide, ?_⟩
    rw [show (([1, 0, 2, 0] : List Nat).length : Int) = 4 from rfl, f4]
    have : m % 4 = 0 ∨ m % 4 = 1 ∨ m % 4 = 2 ∨ m % 4 = 3 := by (lia)
    rcases this with e | e | e | e <;> rw [e] <;> exact ⟨_, rfl, by decide, by decide, fun h => by (lia)⟩
  · refine ⟨by decide, by decide, ?_⟩
    rw [show (([3, 3, 4, 5, 6, 1, 2, 7, 8, 3] : List Nat).length : Int) = 10 from rfl, f10, f5]
    have : m % 10 = 0 ∨ m % 10 = 1 ∨ m % 10 = 2 ∨ m % 10 = 3 ∨ m % 10 = 4 ∨ m % 10 = 5 ∨ m % 10 = 6 ∨ m % 10 = 7 ∨ m % 10 = 8 ∨ m % 10 = 9 := by (lia)
    rcases this with e | e | e | e | e | e | e | e | e | e
    all_goals rw [e]
    case inr.inr.inr.inl => exact ⟨_, rfl, by decide, by decide, fun _ => by (lia)⟩
    all_goals exact ⟨_, rfl, by decide, by decide, fun h => by (lia)⟩
theorem dn_two {q : Nat} (h : q ≤ 8) : ([Str.ofString "make", Str.ofString "delete"].any (· == dn q)) = decide (q = 0 ∨ q = 8) :=
  nat8 (P := fun q => ([Str.ofString "make", Str.ofString "delete"].any (· == dn q)) = decide (q = 0 ∨ q = 8)) (by kernel_rfl) (by kernel_rfl) (by kernel_rfl) (by kernel_rfl) (by kernel_rfl) (by kernel_rfl) (by kernel_rfl) (by kernel_rfl) (by kernel_rfl) q h
theorem dn_make {q : Nat} (h : q ≤ 8) : (dn q == Str.ofString "make") = decide (q = 0) :=
  nat8 (P := fun q => (dn q == Str.ofString "make") = decide (q = 0)) (by kernel_rfl) (by kernel_rfl) (by kernel_rfl) (by kernel_rfl) (by kernel_rfl) (by kernel_rfl) (by kernel_rfl) (by kernel_rfl) (by kernel_rfl) q h
theorem pick_take (xs : List Int) : ∃ ys : List Int, pick (zs xs) Option.none (some 30) = zs ys ∧ ys.length ≤ 30 := by
  refine ⟨xs.take (min 30 xs.length), ?_, by rw [List.length_take]; (lia)⟩
  unfold pick
  show ((zs xs).drop 0).take (W.kms_hi (some 30) (zs xs).length - 0) = _
  have : W.kms_hi (some 30) (zs xs).length = min 30 xs.length := by
    rw [show (zs xs).length = xs.length by simp]; rfl
  rw [this, List.drop_zero, Nat.sub_zero]
  unfold zs
  rw [List.map_take]
theorem two_at {α : Type} {h : Nat → α} {u : Nat} (hu : u < 2) : [h 0, h 1][((u : Nat) : Int).toNat]? = some (h u) := by
  rw [Int.toNat_natCast]
  have : u = 0 ∨ u = 1 := by (lia)
  rcases this with e | e <;> subst e <;> rfl
/-- the invariant, its ghosts away -/
noncomputable def InvE (t : Nat) (T : Nat → Bool) (f D : Nat → Int) (g E : Nat → Nat → Int) : Prop := ∃ k k' d wr cl, Inv t T f D g E k k' d wr cl
noncomputable def updS (s : Nat → Str) (u : Nat) (x : Str) : Nat → Str := fun i => if i = u then x else s i
theorem stAfter {T : Nat → Bool} {sg : Nat → Str} {u q : Nat} (h : ∀ v, v < 2 → StOk (T v) (sg v)) (hq : (T u = true ∧ 1 ≤ q ∧ q ≤ 8) ∨ (T u = false ∧ q ≤ 2)) : ∀ v, v < 2 → StOk (After q u T v) ((if q = 0 then updS sg u (Str.ofString "there") else if q = 8 then updS sg u (Str.ofString "gone") else sg) v) := fun v hv => by
  unfold After
  by_cases h0 : q = 0
  · rw [if_pos h0, if_pos h0]
    by_cases e : v = u
    · subst e; unfold updT updS; rw [if_pos rfl, if_pos rfl]; exact .inl ⟨rfl, rfl⟩
    · unfold updT updS; rw [if_neg e, if_neg e]; exact h v hv
  · rw [if_neg h0, if_neg h0]
    by_cases h8 : q = 8
    · rw [if_pos h8, if_pos h8]
      by_cases e : v = u
      · subst e; unfold updT updS; rw [if_pos rfl, if_pos rfl]; exact .inr ⟨rfl, .inr rfl⟩
      · unfold updT updS; rw [if_neg e, if_neg e]; exact h v hv
    · rw [if_neg h8, if_neg h8]; exact h v hv
open PySem.W PySem.Calls PyProof.Rows PySem.Spec
theorem swaps_sub {a b : Expr} {p : Pos} {t : Option Expr} {line : Nat} {env : Env} : swapsWith (.Subscript a b p) t line env = pure false := rfl
theorem scr_sub {a b : Expr} {p : Pos} (o : Addr) (x : Str) (t : Tok) : subscripted (.Subscript a b p) false (.ref o) (.str x t) = operate [.ref o, .str x t] (getItem (.ref o) (.str x t)) := rfl
theorem scr_name {a : Str} {p : Pos} (o : Addr) (x : Str) (t : Tok) : subscripted (.Name a p) false (.ref o) (.str x t) = operate [.ref o, .str x t] (getItem (.ref o) (.str x t)) := rfl
noncomputable def updA (g : Nat → Addr) (u : Nat) (x : Addr) : Nat → Addr := fun v => if v = u then x else g v
theorem updA_at (g : Nat → Addr) (u : Nat) (x : Addr) : updA g u x u = x := if_pos rfl
theorem updA_ne (g : Nat → Addr) {u v : Nat} (x : Addr) (h : v ≠ u) : updA g u x v = g v := if_neg h
theorem updG_ne (g : Nat → Nat → Int) {u v : Nat} (x : Nat → Int) (h : v ≠ u) : updG g u x v = g v := if_neg h
theorem st_set {sg : Nat → Str} {u : Nat} (hu : u < 2) (s : Str) : [V.str (sg 0), V.str (sg 1)].set ((u : Nat) : Int).toNat (V.str s) = [V.str (updS sg u s 0), V.str (updS sg u s 1)] := by
  rw [Int.toNat_natCast]
  have : u = 0 ∨ u = 1 := by (lia)
  rcases this with e | e <;> subst e <;> rfl
theorem WSs.merge {T : TC} {c : Cx} {r : Loc} {S : Led} {st : Stmt} {sts : List Stmt} {Kn : Loc → Led → Prop} {Kr : V → Led → Prop} (P : Led → Prop) (h : WS T c r S st (fun r'' S'' => r'' = r ∧ P S'') Kr) (k : ∀ S'', P S'' → WSs T c r S'' sts Kn Kr) : WSs T c r S (st :: sts) Kn Kr :=
  WSs.cons (WS.mono h (fun r'' S'' ⟨e, p⟩ => by subst e; exact k _ p) fun _ _ q => q)
theorem WSs.retOf {T : TC} {c : Cx} {r : Loc} {S : Led} {e : Expr} {pos : Pos} {sts : List Stmt} {Kn : Loc → Led → Prop} {Kr : V → Led → Prop} (h : WE T c r S e fun v S' => Kr v S') : WSs T c r S (.Return (some e) pos :: sts) Kn Kr := WSs.cons (WS.ret h)
theorem WSs.ifOf {T : TC} {c : Cx} {r : Loc} {S : Led} {t : Expr} {b e : List Stmt} {pos : Pos} {sts : List Stmt} {Kn : Loc → Led → Prop} {Kr : V → Led → Prop} (h : WT T c r S t fun d S' => (d = true → WSs T c r S' b (fun r' S' => WSs T c r' S' sts Kn Kr) Kr) ∧ (d = false → WSs T c r S' e (fun r' S' => WSs T c r' S' sts Kn Kr) Kr)) : WSs T c r S (.If t b e pos :: sts) Kn Kr := WSs.cons (WS.ifs h)
end Mine
end

section
noncomputable section
open PySem PySem.W PySem.Calls PyProof.Rows
set_option maxRecDepth 100000
set_option maxHeartbeats 0
namespace Mine
/-! the text and its parts, by their places -/
noncomputable abbrev pw : Program := PySem.Challenge.pw_sm0126_01
noncomputable abbrev rw_ : OpenLaw := PySem.Challenge.rw_sm0126_01
namespace Hp
noncomputable def C (n : Nat) : Stmt := (pw.main.body.drop n).headD (.Pass ⟨0, 0, 0, 0⟩)
noncomputable def K (n m : Nat) : Stmt := match C n with
  | .ClassDef _ _ _ b .. => (b.drop m).headD (.Pass ⟨0, 0, 0, 0⟩)
  | x => x
noncomputable abbrev z := Str.ofString
noncomputable def s (x : String) (t : Nat) : Value := .str (z x) t
noncomputable def i (n t : Nat) : Value := .int (.ofNat n) t
noncomputable abbrev r := Value.ref
noncomputable abbrev y := Value.type
noncomputable abbrev b := Value.builtin
noncomputable abbrev N := Value.none
noncomputable def e (P : Params) (x : String) (t : Nat) (v : Value) : DictEntry := ⟨PyData.keyHash P (z x), .str (z x) t, v⟩
noncomputable def T (l : Array Value) : Obj := ⟨y "tuple", .none, .seq l 0, #[]⟩
noncomputable def D (l : Array DictEntry) (n : Nat) : Obj := ⟨y "dict", .none, .dict l n, #[]⟩
noncomputable def Q (x : String) (t1 : Nat) (q : String) (t2 t3 l a f : Nat) (v1 : Value) (c : Bool) (v2 v3 v4 v5 : Value) (k t4 : Nat) : Obj := ⟨y "code", .none, .fields #[s x t1, s q t2, s "/claim/cut.py" t3, i l 0, i a 0, i 0 0, i 0 0, i f 0, v1, .bool c, i 181 0, v2, N, v3, v4, v5, i k 0, i l 0, s "/claim/cut.py" t4], #[]⟩
noncomputable def F (x : Stmt) (n q : Str) (g : Addr) (cl : List (Str × Addr)) (d k doc pm : Value) (an : Option Addr) (cd ct : Value) (bi : Addr) : Data := match x with
  | .FunctionDef _ a b _ _ _ s _ _ _ => .func ⟨n, q, a, .stmts b, s, g, cl, d, k, doc, pm, an, cd, ct, bi⟩
  | _ => .plain
noncomputable def G (x : Stmt) (n q : Str) (g : Addr) (cl : List (Str × Addr)) (d k doc pm : Value) (an : Option Addr) (cd ct : Value) (bi : Addr) : Obj := ⟨y "function", .none, F x n q g cl d k doc pm an cd ct bi, #[]⟩
noncomputable def H (x : Stmt) (n q : Str) (g : Addr) (cl : List (Str × Addr)) (d k doc pm : Value) (an : Option Addr) (cd ct : Value) (bi : Addr) : Obj := ⟨N, .none, F x n q g cl d k doc pm an cd ct bi, #[]⟩
noncomputable abbrev B := BT.node
noncomputable abbrev E := BT.nil
noncomputable def L (o : Obj) : BT := .node o .nil .nil
noncomputable def o43 (P : Params) : Obj := T #[]
noncomputable def o44 (P : Params) : Obj := ⟨N, .none, (.fields #[]), #[]⟩
noncomputable def o45 (P : Params) : Obj := Q "<module>" 182 "<module>" 183 184 1 0 0 (r 11) false (r 12) N N N 185 186
noncomputable def o46 (P : Params) : Obj := ⟨(y "frame"), .none, Data.plain, #[(.some (r 13)), (.some (r 3)), (.some (r 3)), .none, (.some (s "__main__" 164)), .none, (.some (r 0))]⟩
noncomputable def o49 (P : Params) : Obj := ⟨N, .none, (.dict #[e P "type.__subclasses__.Exception.0" 228 (i 33 0), e P "type.__subclasses__.Exception.n" 229 (i 1 0)] 2), #[]⟩
noncomputable def o50 (P : Params) : Obj := D #[e P "__name__" 165 (s "z80.disk" 187), e P "__doc__" 166 N, e P "__package__" 167 N, e P "__loader__" 168 (b "__main__.__loader__#opaque"), e P "__spec__" 169 N, e P "__annotations__" 170 (r 6), e P "__builtins__" 171 (r 4), e P "__file__" 173 (s "/claim/cut.py" 172), e P "__cached__" 174 N, e P "FREE" 190 (i 229 189), e P "ENTRY_SIZE" 192 (i 32 191), e P "NAME_SIZE" 194 (i 11 193), e P "MAP_AT" 196 (i 16 195), e P "MOST_RECORDS" 198 (i 128 197), e P "EXTENTS_LOW" 200 (i 32 199), e P "DiskError" 231 (r 33)] 16
noncomputable def o51 (P : Params) : Obj := ⟨N, .none, (.fields #[(i 8 0), (i 0 0), (r 21)]), #[]⟩
noncomputable def o52 (P : Params) : Obj := T #[(y "Exception")]
noncomputable def o53 (P : Params) : Obj := ⟨(y "builtin_function_or_method"), .none, (.fields #[(b "type.__prepare__"), (y "type")]), #[]⟩
noncomputable def o54 (P : Params) : Obj := D #[e P "__module__" 208 (s "z80.disk" 187), e P "__qualname__" 210 (s "DiskError" 209), e P "__firstlineno__" 212 (i 8 211), e P "__init__" 221 (r 30), e P "__static_attributes__" 223 (r 31), e P "__classcell__" 224 (r 18)] 6
noncomputable def o55 (P : Params) : Obj := ⟨(y "cell"), .none, (.cell (.some (r 33))), #[]⟩
noncomputable def o57 (P : Params) : Obj := ⟨N, .none, (.fields #[(i 10 0), (i 4 0), (r 29)]), #[]⟩
noncomputable def o58 (P : Params) : Obj := Q "DiskError" 203 "DiskError" 204 205 8 0 0 (r 19) false (r 20) N N N 206 207
noncomputable def o59 (P : Params) : Obj := ⟨(y "frame"), .none, Data.plain, #[(.some (r 21)), (.some (r 3)), (.some (r 17)), .none, (.some (s "z80.disk" 187)), .none, (.some (r 0))]⟩
noncomputable def o60 (P : Params) : Obj := T #[(r 18)]
noncomputable def o61 (P : Params) : Obj := T #[(s "__class__" 216)]
noncomputable def o63 (P : Params) : Obj := T #[(s "self" 217), (s "word" 218)]
noncomputable def o65 (P : Params) : Obj := H (K 7 0) (z "__init__") (z "DiskError.__init__") 0 [] N N N N .none N N 0
noncomputable def o66 (P : Params) : Obj := Q "__init__" 213 "DiskError.__init__" 214 215 10 2 3 (r 24) true (r 25) (r 26) (r 27) (r 28) 219 220
noncomputable def o67 (P : Params) : Obj := G (K 7 0) (z "__init__") (z "DiskError.__init__") 3 [((z "__class__"), 18)] N N N (s "z80.disk" 187) .none (r 29) (r 23) 0
noncomputable def o68 (P : Params) : Obj := T #[(s "word" 222)]
noncomputable def o69 (P : Params) : Obj := D #[e P "__module__" 208 (s "z80.disk" 187), e P "__firstlineno__" 212 (i 8 211), e P "__init__" 221 (r 30), e P "__static_attributes__" 223 (r 31), e P "__weakref__" 226 (r 34), e P "__doc__" 227 N] 4
noncomputable def o70 (P : Params) : Obj := ⟨(y "type"), .none, (.cls ⟨(z "DiskError"), [(y "Exception")], [(r 33), (y "Exception"), (y "BaseException"), (y "object")], 32, (z "DiskError"), Bool.true, [], [], Bool.false, .none, Bool.false⟩), #[(.some (r 15)), .none, (.some (s "DiskError" 201)), (.some (s "DiskError" 209)), (.some (b "Exception.__new__")), (.some (.bool Bool.true))]⟩
noncomputable def o71 (P : Params) : Obj := ⟨(y "getset_descriptor"), .none, (.fields #[(s "__weakref__" 225), (r 33), (b "ExceptionGroup.__weakref__"), N]), #[]⟩
noncomputable def o72 (P : Params) : Obj := ⟨(y "super"), .none, (.fields #[(r 33), (r 33), (r 33)]), #[]⟩
noncomputable def o73 (P : Params) : Obj := ⟨(y "builtin_function_or_method"), .none, (.fields #[(b "object.__init_subclass__"), (r 33)]), #[]⟩
noncomputable def o74 (P : Params) : Obj := D #[e P "__name__" 165 (s "z80.disk" 187), e P "__doc__" 166 N, e P "__package__" 167 N, e P "__loader__" 168 (b "__main__.__loader__#opaque"), e P "__spec__" 169 N, e P "__annotations__" 170 (r 6), e P "__builtins__" 171 (r 4), e P "__file__" 173 (s "/claim/cut.py" 172), e P "__cached__" 174 N, e P "FREE" 190 (i 229 189), e P "ENTRY_SIZE" 192 (i 32 191), e P "NAME_SIZE" 194 (i 11 193), e P "MAP_AT" 196 (i 16 195), e P "MOST_RECORDS" 198 (i 128 197), e P "EXTENTS_LOW" 200 (i 32 199), e P "DiskError" 231 (r 33), e P "Disk" 269 (r 53)] 17
noncomputable def o75 (P : Params) : Obj := ⟨N, .none, (.fields #[(i 8 0), (i 0 0), (r 21), (i 13 0), (i 0 0), (r 42)]), #[]⟩
noncomputable def o78 (P : Params) : Obj := D #[e P "__module__" 239 (s "z80.disk" 187), e P "__qualname__" 241 (s "Disk" 240), e P "__firstlineno__" 243 (i 13 242), e P "__init__" 254 (r 50), e P "__static_attributes__" 262 (r 51)] 5
noncomputable def o80 (P : Params) : Obj := ⟨N, .none, (.fields #[(i 15 0), (i 4 0), (r 49)]), #[]⟩
noncomputable def o81 (P : Params) : Obj := Q "Disk" 234 "Disk" 235 236 13 0 0 (r 40) false (r 41) N N N 237 238
noncomputable def o82 (P : Params) : Obj := ⟨(y "frame"), .none, Data.plain, #[(.some (r 42)), (.some (r 3)), (.some (r 39)), .none, (.some (s "z80.disk" 187)), .none, (.some (r 0))]⟩
noncomputable def o85 (P : Params) : Obj := T #[(s "self" 247), (s "blocks" 248), (s "block" 249), (s "record" 250), (s "entries" 251)]
noncomputable def o87 (P : Params) : Obj := H (K 8 0) (z "__init__") (z "Disk.__init__") 0 [] N N N N .none N N 0
noncomputable def o88 (P : Params) : Obj := Q "__init__" 244 "Disk.__init__" 245 246 15 5 3 (r 44) true (r 45) (r 46) (r 47) (r 48) 252 253
noncomputable def o89 (P : Params) : Obj := G (K 8 0) (z "__init__") (z "Disk.__init__") 3 [] N N N (s "z80.disk" 187) .none (r 49) N 0
noncomputable def o90 (P : Params) : Obj := T #[(s "block" 255), (s "blocks" 256), (s "data" 257), (s "entries" 258), (s "given" 259), (s "is_read_only" 260), (s "record" 261)]
noncomputable def o91 (P : Params) : Obj := D #[e P "__module__" 239 (s "z80.disk" 187), e P "__firstlineno__" 243 (i 13 242), e P "__init__" 254 (r 50), e P "__static_attributes__" 262 (r 51), e P "__dict__" 264 (r 54), e P "__weakref__" 266 (r 55), e P "__doc__" 267 N] 4
noncomputable def o92 (P : Params) : Obj := ⟨(y "type"), .none, (.cls ⟨(z "Disk"), [(y "object")], [(r 53), (y "object")], 52, (z "Disk"), Bool.true, [], [], Bool.false, .none, Bool.false⟩), #[.none, .none, (.some (s "Disk" 232)), (.some (s "Disk" 240)), (.some (b "object.__new__")), (.some (.bool Bool.true))]⟩
noncomputable def o93 (P : Params) : Obj := ⟨(y "getset_descriptor"), .none, (.fields #[(s "__dict__" 263), (r 53), (b "function.__dict__"), (b "function.__dict__#set")]), #[]⟩
noncomputable def o94 (P : Params) : Obj := ⟨(y "getset_descriptor"), .none, (.fields #[(s "__weakref__" 265), (r 53), (b "ExceptionGroup.__weakref__"), N]), #[]⟩
noncomputable def o95 (P : Params) : Obj := ⟨(y "super"), .none, (.fields #[(r 53), (r 53), (r 53)]), #[]⟩
noncomputable def o96 (P : Params) : Obj := ⟨(y "builtin_function_or_method"), .none, (.fields #[(b "object.__init_subclass__"), (r 53)]), #[]⟩
noncomputable def o97 (P : Params) : Obj := D #[e P "__name__" 165 (s "z80.disk" 187), e P "__doc__" 166 N, e P "__package__" 167 N, e P "__loader__" 168 (b "__main__.__loader__#opaque"), e P "__spec__" 169 N, e P "__annotations__" 170 (r 6), e P "__builtins__" 171 (r 4), e P "__file__" 173 (s "/claim/cut.py" 172), e P "__cached__" 174 N, e P "FREE" 190 (i 229 189), e P "ENTRY_SIZE" 192 (i 32 191), e P "NAME_SIZE" 194 (i 11 193), e P "MAP_AT" 196 (i 16 195), e P "MOST_RECORDS" 198 (i 128 197), e P "EXTENTS_LOW" 200 (i 32 199), e P "DiskError" 231 (r 33), e P "Disk" 269 (r 53), e P "Entry" 305 (r 74), e P "map_slots" 312 (r 85), e P "records_of_block" 319 (r 92), e P "records_of_extent" 326 (r 99), e P "directory_blocks" 333 (r 106), e P "need_writable" 340 (r 113)] 23
noncomputable def o98 (P : Params) : Obj := ⟨N, .none, (.fields #[(i 8 0), (i 0 0), (r 21), (i 13 0), (i 0 0), (r 42), (i 25 0), (i 0 0), (r 63), (i 34 0), (i 0 0), (r 84), (i 36 0), (i 0 0), (r 91), (i 38 0), (i 0 0), (r 98), (i 40 0), (i 0 0), (r 105), (i 42 0), (i 0 0), (r 112)]), #[]⟩
noncomputable def o101 (P : Params) : Obj := D #[e P "__module__" 277 (s "z80.disk" 187), e P "__qualname__" 279 (s "Entry" 278), e P "__firstlineno__" 281 (i 25 280), e P "__init__" 291 (r 71), e P "__static_attributes__" 298 (r 72)] 5
noncomputable def o103 (P : Params) : Obj := ⟨N, .none, (.fields #[(i 27 0), (i 4 0), (r 70)]), #[]⟩
noncomputable def o104 (P : Params) : Obj := Q "Entry" 272 "Entry" 273 274 25 0 0 (r 61) false (r 62) N N N 275 276
noncomputable def o105 (P : Params) : Obj := ⟨(y "frame"), .none, Data.plain, #[(.some (r 63)), (.some (r 3)), (.some (r 60)), .none, (.some (s "z80.disk" 187)), .none, (.some (r 0))]⟩
noncomputable def o108 (P : Params) : Obj := T #[(s "self" 285), (s "user" 286), (s "raw" 287), (s "extent" 288)]
noncomputable def o110 (P : Params) : Obj := H (K 9 0) (z "__init__") (z "Entry.__init__") 0 [] N N N N .none N N 0
noncomputable def o111 (P : Params) : Obj := Q "__init__" 282 "Entry.__init__" 283 284 27 4 3 (r 65) true (r 66) (r 67) (r 68) (r 69) 289 290
noncomputable def o112 (P : Params) : Obj := G (K 9 0) (z "__init__") (z "Entry.__init__") 3 [] N N N (s "z80.disk" 187) .none (r 70) N 0
noncomputable def o113 (P : Params) : Obj := T #[(s "count" 292), (s "extent" 293), (s "map" 294), (s "raw" 295), (s "spare" 296), (s "user" 297)]
noncomputable def o114 (P : Params) : Obj := D #[e P "__module__" 277 (s "z80.disk" 187), e P "__firstlineno__" 281 (i 25 280), e P "__init__" 291 (r 71), e P "__static_attributes__" 298 (r 72), e P "__dict__" 300 (r 75), e P "__weakref__" 302 (r 76), e P "__doc__" 303 N] 4
noncomputable def o115 (P : Params) : Obj := ⟨(y "type"), .none, (.cls ⟨(z "Entry"), [(y "object")], [(r 74), (y "object")], 73, (z "Entry"), Bool.true, [], [], Bool.false, .none, Bool.false⟩), #[.none, .none, (.some (s "Entry" 270)), (.some (s "Entry" 278)), (.some (b "object.__new__")), (.some (.bool Bool.true))]⟩
noncomputable def o116 (P : Params) : Obj := ⟨(y "getset_descriptor"), .none, (.fields #[(s "__dict__" 299), (r 74), (b "function.__dict__"), (b "function.__dict__#set")]), #[]⟩
noncomputable def o117 (P : Params) : Obj := ⟨(y "getset_descriptor"), .none, (.fields #[(s "__weakref__" 301), (r 74), (b "ExceptionGroup.__weakref__"), N]), #[]⟩
noncomputable def o118 (P : Params) : Obj := ⟨(y "super"), .none, (.fields #[(r 74), (r 74), (r 74)]), #[]⟩
noncomputable def o119 (P : Params) : Obj := ⟨(y "builtin_function_or_method"), .none, (.fields #[(b "object.__init_subclass__"), (r 74)]), #[]⟩
noncomputable def o122 (P : Params) : Obj := T #[(s "disk" 309)]
noncomputable def o124 (P : Params) : Obj := H (C 10) (z "map_slots") (z "map_slots") 0 [] N N N N .none N N 0
noncomputable def o125 (P : Params) : Obj := Q "map_slots" 306 "map_slots" 307 308 34 1 3 (r 79) true (r 80) (r 81) (r 82) (r 83) 310 311
noncomputable def o126 (P : Params) : Obj := G (C 10) (z "map_slots") (z "map_slots") 3 [] N N N (s "z80.disk" 187) .none (r 84) N 0
noncomputable def o129 (P : Params) : Obj := T #[(s "disk" 316)]
noncomputable def o131 (P : Params) : Obj := H (C 11) (z "records_of_block") (z "records_of_block") 0 [] N N N N .none N N 0
noncomputable def o132 (P : Params) : Obj := Q "records_of_block" 313 "records_of_block" 314 315 36 1 3 (r 86) true (r 87) (r 88) (r 89) (r 90) 317 318
noncomputable def o133 (P : Params) : Obj := G (C 11) (z "records_of_block") (z "records_of_block") 3 [] N N N (s "z80.disk" 187) .none (r 91) N 0
noncomputable def o136 (P : Params) : Obj := T #[(s "disk" 323)]
noncomputable def o138 (P : Params) : Obj := H (C 12) (z "records_of_extent") (z "records_of_extent") 0 [] N N N N .none N N 0
noncomputable def o139 (P : Params) : Obj := Q "records_of_extent" 320 "records_of_extent" 321 322 38 1 3 (r 93) true (r 94) (r 95) (r 96) (r 97) 324 325
noncomputable def o140 (P : Params) : Obj := G (C 12) (z "records_of_extent") (z "records_of_extent") 3 [] N N N (s "z80.disk" 187) .none (r 98) N 0
noncomputable def o143 (P : Params) : Obj := T #[(s "disk" 330)]
noncomputable def o145 (P : Params) : Obj := H (C 13) (z "directory_blocks") (z "directory_blocks") 0 [] N N N N .none N N 0
noncomputable def o146 (P : Params) : Obj := Q "directory_blocks" 327 "directory_blocks" 328 329 40 1 3 (r 100) true (r 101) (r 102) (r 103) (r 104) 331 332
noncomputable def o147 (P : Params) : Obj := G (C 13) (z "directory_blocks") (z "directory_blocks") 3 [] N N N (s "z80.disk" 187) .none (r 105) N 0
noncomputable def o150 (P : Params) : Obj := T #[(s "disk" 337)]
noncomputable def o152 (P : Params) : Obj := H (C 14) (z "need_writable") (z "need_writable") 0 [] N N N N .none N N 0
noncomputable def o153 (P : Params) : Obj := Q "need_writable" 334 "need_writable" 335 336 42 1 3 (r 107) true (r 108) (r 109) (r 110) (r 111) 338 339
noncomputable def o154 (P : Params) : Obj := G (C 14) (z "need_writable") (z "need_writable") 3 [] N N N (s "z80.disk" 187) .none (r 112) N 0
noncomputable def o155 (P : Params) : Obj := D #[e P "__name__" 165 (s "z80.disk" 187), e P "__doc__" 166 N, e P "__package__" 167 N, e P "__loader__" 168 (b "__main__.__loader__#opaque"), e P "__spec__" 169 N, e P "__annotations__" 170 (r 6), e P "__builtins__" 171 (r 4), e P "__file__" 173 (s "/claim/cut.py" 172), e P "__cached__" 174 N, e P "FREE" 190 (i 229 189), e P "ENTRY_SIZE" 192 (i 32 191), e P "NAME_SIZE" 194 (i 11 193), e P "MAP_AT" 196 (i 16 195), e P "MOST_RECORDS" 198 (i 128 197), e P "EXTENTS_LOW" 200 (i 32 199), e P "DiskError" 231 (r 33), e P "Disk" 269 (r 53), e P "Entry" 305 (r 74), e P "map_slots" 312 (r 85), e P "records_of_block" 319 (r 92), e P "records_of_extent" 326 (r 99), e P "directory_blocks" 333 (r 106), e P "need_writable" 340 (r 113), e P "new_entry" 351 (r 120), e P "entry_octets" 360 (r 127), e P "entry_from" 369 (r 134), e P "raw_entry" 377 (r 141), e P "read_entry" 385 (r 148), e P "put_entry" 396 (r 155), e P "erase_entry" 404 (r 162), e P "free_entry" 412 (r 169), e P "live_entries" 422 (r 176), e P "used_blocks" 428 (r 181), e P "free_blocks" 434 (r 186), e P "map_of" 440 (r 191), e P "map_octets" 450 (r 198)] 36
noncomputable def o156 (P : Params) : Obj := ⟨N, .none, (.fields #[(i 8 0), (i 0 0), (r 21), (i 13 0), (i 0 0), (r 42), (i 25 0), (i 0 0), (r 63), (i 34 0), (i 0 0), (r 84), (i 36 0), (i 0 0), (r 91), (i 38 0), (i 0 0), (r 98), (i 40 0), (i 0 0), (r 105), (i 42 0), (i 0 0), (r 112), (i 45 0), (i 0 0), (r 119), (i 49 0), (i 0 0), (r 126), (i 53 0), (i 0 0), (r 133), (i 61 0), (i 0 0), (r 140), (i 65 0), (i 0 0), (r 147), (i 67 0), (i 0 0), (r 154), (i 72 0), (i 0 0), (r 161), (i 76 0), (i 0 0), (r 168), (i 81 0), (i 0 0), (r 175), (i 88 0), (i 0 0), (r 180), (i 95 0), (i 0 0), (r 185), (i 97 0), (i 0 0), (r 190), (i 101 0), (i 0 0), (r 197)]), #[]⟩
noncomputable def o159 (P : Params) : Obj := T #[(s "disk" 344), (s "user" 345), (s "raw" 346), (s "extent" 347), (s "found" 348)]
noncomputable def o161 (P : Params) : Obj := H (C 15) (z "new_entry") (z "new_entry") 0 [] N N N N .none N N 0
noncomputable def o162 (P : Params) : Obj := Q "new_entry" 341 "new_entry" 342 343 45 4 3 (r 114) true (r 115) (r 116) (r 117) (r 118) 349 350
noncomputable def o163 (P : Params) : Obj := G (C 15) (z "new_entry") (z "new_entry") 3 [] N N N (s "z80.disk" 187) .none (r 119) N 0
noncomputable def o166 (P : Params) : Obj := T #[(s "disk" 355), (s "entry" 356), (s "found" 357)]
noncomputable def o168 (P : Params) : Obj := H (C 16) (z "entry_octets") (z "entry_octets") 0 [] N N N N .none N N 0
noncomputable def o169 (P : Params) : Obj := Q "entry_octets" 352 "entry_octets" 353 354 49 2 3 (r 121) true (r 122) (r 123) (r 124) (r 125) 358 359
noncomputable def o170 (P : Params) : Obj := G (C 16) (z "entry_octets") (z "entry_octets") 3 [] N N N (s "z80.disk" 187) .none (r 126) N 0
noncomputable def o173 (P : Params) : Obj := T #[(s "disk" 364), (s "octets" 365), (s "found" 366)]
noncomputable def o175 (P : Params) : Obj := H (C 17) (z "entry_from") (z "entry_from") 0 [] N N N N .none N N 0
noncomputable def o176 (P : Params) : Obj := Q "entry_from" 361 "entry_from" 362 363 53 2 3 (r 128) true (r 129) (r 130) (r 131) (r 132) 367 368
noncomputable def o177 (P : Params) : Obj := G (C 17) (z "entry_from") (z "entry_from") 3 [] N N N (s "z80.disk" 187) .none (r 133) N 0
noncomputable def o180 (P : Params) : Obj := T #[(s "disk" 373), (s "number" 374)]
noncomputable def o182 (P : Params) : Obj := H (C 18) (z "raw_entry") (z "raw_entry") 0 [] N N N N .none N N 0
noncomputable def o183 (P : Params) : Obj := Q "raw_entry" 370 "raw_entry" 371 372 61 2 3 (r 135) true (r 136) (r 137) (r 138) (r 139) 375 376
noncomputable def o184 (P : Params) : Obj := G (C 18) (z "raw_entry") (z "raw_entry") 3 [] N N N (s "z80.disk" 187) .none (r 140) N 0
noncomputable def o187 (P : Params) : Obj := T #[(s "disk" 381), (s "number" 382)]
noncomputable def o189 (P : Params) : Obj := H (C 19) (z "read_entry") (z "read_entry") 0 [] N N N N .none N N 0
noncomputable def o190 (P : Params) : Obj := Q "read_entry" 378 "read_entry" 379 380 65 2 3 (r 142) true (r 143) (r 144) (r 145) (r 146) 383 384
noncomputable def o191 (P : Params) : Obj := G (C 19) (z "read_entry") (z "read_entry") 3 [] N N N (s "z80.disk" 187) .none (r 147) N 0
noncomputable def o194 (P : Params) : Obj := T #[(s "disk" 389), (s "number" 390), (s "octets" 391), (s "at" 392), (s "octet" 393)]
noncomputable def o196 (P : Params) : Obj := H (C 20) (z "put_entry") (z "put_entry") 0 [] N N N N .none N N 0
noncomputable def o197 (P : Params) : Obj := Q "put_entry" 386 "put_entry" 387 388 67 3 3 (r 149) true (r 150) (r 151) (r 152) (r 153) 394 395
noncomputable def o198 (P : Params) : Obj := G (C 20) (z "put_entry") (z "put_entry") 3 [] N N N (s "z80.disk" 187) .none (r 154) N 0
noncomputable def o201 (P : Params) : Obj := T #[(s "disk" 400), (s "number" 401)]
noncomputable def o203 (P : Params) : Obj := H (C 21) (z "erase_entry") (z "erase_entry") 0 [] N N N N .none N N 0
noncomputable def o204 (P : Params) : Obj := Q "erase_entry" 397 "erase_entry" 398 399 72 2 3 (r 156) true (r 157) (r 158) (r 159) (r 160) 402 403
noncomputable def o205 (P : Params) : Obj := G (C 21) (z "erase_entry") (z "erase_entry") 3 [] N N N (s "z80.disk" 187) .none (r 161) N 0
noncomputable def o208 (P : Params) : Obj := T #[(s "disk" 408), (s "number" 409)]
noncomputable def o210 (P : Params) : Obj := H (C 22) (z "free_entry") (z "free_entry") 0 [] N N N N .none N N 0
noncomputable def o211 (P : Params) : Obj := Q "free_entry" 405 "free_entry" 406 407 76 1 3 (r 163) true (r 164) (r 165) (r 166) (r 167) 410 411
noncomputable def o212 (P : Params) : Obj := G (C 22) (z "free_entry") (z "free_entry") 3 [] N N N (s "z80.disk" 187) .none (r 168) N 0
noncomputable def o215 (P : Params) : Obj := T #[(s "disk" 416), (s "found" 417), (s "number" 418), (s "entry" 419)]
noncomputable def o217 (P : Params) : Obj := H (C 23) (z "live_entries") (z "live_entries") 0 [] N N N N .none N N 0
noncomputable def o218 (P : Params) : Obj := Q "live_entries" 413 "live_entries" 414 415 81 1 3 (r 170) true (r 171) (r 172) (r 173) (r 174) 420 421
noncomputable def o219 (P : Params) : Obj := G (C 23) (z "live_entries") (z "live_entries") 3 [] N N N (s "z80.disk" 187) .none (r 175) N 0
noncomputable def o222 (P : Params) : Obj := H (C 24) (z "used_blocks") (z "used_blocks") 0 [] N N N N .none N N 0
noncomputable def o223 (P : Params) : Obj := Q "used_blocks" 423 "used_blocks" 424 425 88 1 3 (r 177) true (r 178) N N (r 179) 426 427
noncomputable def o224 (P : Params) : Obj := G (C 24) (z "used_blocks") (z "used_blocks") 3 [] N N N (s "z80.disk" 187) .none (r 180) N 0
noncomputable def o227 (P : Params) : Obj := H (C 25) (z "free_blocks") (z "free_blocks") 0 [] N N N N .none N N 0
noncomputable def o228 (P : Params) : Obj := Q "free_blocks" 429 "free_blocks" 430 431 95 1 3 (r 182) true (r 183) N N (r 184) 432 433
noncomputable def o229 (P : Params) : Obj := G (C 25) (z "free_blocks") (z "free_blocks") 3 [] N N N (s "z80.disk" 187) .none (r 185) N 0
noncomputable def o232 (P : Params) : Obj := H (C 26) (z "map_of") (z "map_of") 0 [] N N N N .none N N 0
noncomputable def o233 (P : Params) : Obj := Q "map_of" 435 "map_of" 436 437 97 2 3 (r 187) true (r 188) N N (r 189) 438 439
noncomputable def o234 (P : Params) : Obj := G (C 26) (z "map_of") (z "map_of") 3 [] N N N (s "z80.disk" 187) .none (r 190) N 0
noncomputable def o237 (P : Params) : Obj := T #[(s "disk" 444), (s "blocks" 445), (s "found" 446), (s "block" 447)]
noncomputable def o239 (P : Params) : Obj := H (C 27) (z "map_octets") (z "map_octets") 0 [] N N N N .none N N 0
noncomputable def o240 (P : Params) : Obj := Q "map_octets" 441 "map_octets" 442 443 101 2 3 (r 192) true (r 193) (r 194) (r 195) (r 196) 448 449
noncomputable def o241 (P : Params) : Obj := G (C 27) (z "map_octets") (z "map_octets") 3 [] N N N (s "z80.disk" 187) .none (r 197) N 0
noncomputable def o242 (P : Params) : Obj := D #[e P "__name__" 165 (s "z80.fcb" 521), e P "__doc__" 166 N, e P "__package__" 167 N, e P "__loader__" 168 (b "__main__.__loader__#opaque"), e P "__spec__" 169 N, e P "__annotations__" 170 (r 6), e P "__builtins__" 171 (r 4), e P "__file__" 173 (s "/claim/cut.py" 172), e P "__cached__" 174 N, e P "FREE" 190 (i 229 189), e P "ENTRY_SIZE" 192 (i 32 191), e P "NAME_SIZE" 194 (i 11 193), e P "MAP_AT" 196 (i 16 195), e P "MOST_RECORDS" 198 (i 128 197), e P "EXTENTS_LOW" 200 (i 32 199), e P "DiskError" 231 (r 33), e P "Disk" 269 (r 53), e P "Entry" 305 (r 74), e P "map_slots" 312 (r 85), e P "records_of_block" 319 (r 92), e P "records_of_extent" 326 (r 99), e P "directory_blocks" 333 (r 106), e P "need_writable" 340 (r 113), e P "new_entry" 351 (r 120), e P "entry_octets" 360 (r 127), e P "entry_from" 369 (r 134), e P "raw_entry" 377 (r 141), e P "read_entry" 385 (r 148), e P "put_entry" 396 (r 155), e P "erase_entry" 404 (r 162), e P "free_entry" 412 (r 169), e P "live_entries" 422 (r 176), e P "used_blocks" 428 (r 181), e P "free_blocks" 434 (r 186), e P "map_of" 440 (r 191), e P "map_octets" 450 (r 198), e P "nearest_free" 460 (r 205), e P "allocate" 469 (r 212), e P "record_place" 478 (r 219), e P "read_record" 488 (r 226), e P "write_record" 501 (r 233), e P "peek" 511 (r 240), e P "poke" 520 (r 247), e P "EX_AT" 524 (i 12 523), e P "S2_AT" 526 (i 14 525), e P "RC_AT" 528 (i 15 527), e P "CR_AT" 530 (i 32 529), e P "R_AT" 532 (i 33 531), e P "FCB_SIZE" 534 (i 36 533), e P "UNCHANGED" 536 (i 128 535), e P "octets_at" 542 (r 252), e P "put_octets" 553 (r 259), e P "name_at" 561 (r 266)] 53
noncomputable def o243 (P : Params) : Obj := ⟨N, .none, (.fields #[(i 8 0), (i 0 0), (r 21), (i 13 0), (i 0 0), (r 42), (i 25 0), (i 0 0), (r 63), (i 34 0), (i 0 0), (r 84), (i 36 0), (i 0 0), (r 91), (i 38 0), (i 0 0), (r 98), (i 40 0), (i 0 0), (r 105), (i 42 0), (i 0 0), (r 112), (i 45 0), (i 0 0), (r 119), (i 49 0), (i 0 0), (r 126), (i 53 0), (i 0 0), (r 133), (i 61 0), (i 0 0), (r 140), (i 65 0), (i 0 0), (r 147), (i 67 0), (i 0 0), (r 154), (i 72 0), (i 0 0), (r 161), (i 76 0), (i 0 0), (r 168), (i 81 0), (i 0 0), (r 175), (i 88 0), (i 0 0), (r 180), (i 95 0), (i 0 0), (r 185), (i 97 0), (i 0 0), (r 190), (i 101 0), (i 0 0), (r 197), (i 108 0), (i 0 0), (r 204), (i 120 0), (i 0 0), (r 211), (i 125 0), (i 0 0), (r 218), (i 129 0), (i 0 0), (r 225), (i 132 0), (i 0 0), (r 232), (i 140 0), (i 0 0), (r 239), (i 142 0), (i 0 0), (r 246), (i 152 0), (i 0 0), (r 251), (i 154 0), (i 0 0), (r 258), (i 157 0), (i 0 0), (r 265)]), #[]⟩
noncomputable def o246 (P : Params) : Obj := T #[(s "is_used" 454), (s "near" 455), (s "left" 456), (s "right" 457)]
noncomputable def o248 (P : Params) : Obj := H (C 28) (z "nearest_free") (z "nearest_free") 0 [] N N N N .none N N 0
noncomputable def o249 (P : Params) : Obj := Q "nearest_free" 451 "nearest_free" 452 453 108 2 3 (r 199) true (r 200) (r 201) (r 202) (r 203) 458 459
noncomputable def o250 (P : Params) : Obj := G (C 28) (z "nearest_free") (z "nearest_free") 3 [] N N N (s "z80.disk" 187) .none (r 204) N 0
noncomputable def o253 (P : Params) : Obj := T #[(s "disk" 464), (s "near" 465), (s "found" 466)]
noncomputable def o255 (P : Params) : Obj := H (C 29) (z "allocate") (z "allocate") 0 [] N N N N .none N N 0
noncomputable def o256 (P : Params) : Obj := Q "allocate" 461 "allocate" 462 463 120 2 3 (r 206) true (r 207) (r 208) (r 209) (r 210) 467 468
noncomputable def o257 (P : Params) : Obj := G (C 29) (z "allocate") (z "allocate") 3 [] N N N (s "z80.disk" 187) .none (r 211) N 0
noncomputable def o260 (P : Params) : Obj := T #[(s "disk" 473), (s "block" 474), (s "index" 475)]
noncomputable def o262 (P : Params) : Obj := H (C 30) (z "record_place") (z "record_place") 0 [] N N N N .none N N 0
noncomputable def o263 (P : Params) : Obj := Q "record_place" 470 "record_place" 471 472 125 3 3 (r 213) true (r 214) (r 215) (r 216) (r 217) 476 477
noncomputable def o264 (P : Params) : Obj := G (C 30) (z "record_place") (z "record_place") 3 [] N N N (s "z80.disk" 187) .none (r 218) N 0
noncomputable def o267 (P : Params) : Obj := T #[(s "disk" 482), (s "block" 483), (s "index" 484), (s "begin" 485)]
noncomputable def o269 (P : Params) : Obj := H (C 31) (z "read_record") (z "read_record") 0 [] N N N N .none N N 0
noncomputable def o270 (P : Params) : Obj := Q "read_record" 479 "read_record" 480 481 129 3 3 (r 220) true (r 221) (r 222) (r 223) (r 224) 486 487
noncomputable def o271 (P : Params) : Obj := G (C 31) (z "read_record") (z "read_record") 3 [] N N N (s "z80.disk" 187) .none (r 225) N 0
noncomputable def o274 (P : Params) : Obj := T #[(s "disk" 492), (s "block" 493), (s "index" 494), (s "octets" 495), (s "begin" 496), (s "at" 497), (s "octet" 498)]
noncomputable def o276 (P : Params) : Obj := H (C 32) (z "write_record") (z "write_record") 0 [] N N N N .none N N 0
noncomputable def o277 (P : Params) : Obj := Q "write_record" 489 "write_record" 490 491 132 4 3 (r 227) true (r 228) (r 229) (r 230) (r 231) 499 500
noncomputable def o278 (P : Params) : Obj := G (C 32) (z "write_record") (z "write_record") 3 [] N N N (s "z80.disk" 187) .none (r 232) N 0
noncomputable def o281 (P : Params) : Obj := T #[(s "memory" 507), (s "at" 508)]
noncomputable def o283 (P : Params) : Obj := H (C 34) (z "peek") (z "peek") 0 [] N N N N .none N N 0
noncomputable def o284 (P : Params) : Obj := Q "peek" 504 "peek" 505 506 140 2 3 (r 234) true (r 235) (r 236) (r 237) (r 238) 509 510
noncomputable def o285 (P : Params) : Obj := G (C 34) (z "peek") (z "peek") 3 [] N N N (s "z80.cpu" 502) .none (r 239) N 0
noncomputable def o288 (P : Params) : Obj := T #[(s "memory" 515), (s "at" 516), (s "octet" 517)]
noncomputable def o290 (P : Params) : Obj := H (C 35) (z "poke") (z "poke") 0 [] N N N N .none N N 0
noncomputable def o291 (P : Params) : Obj := Q "poke" 512 "poke" 513 514 142 3 3 (r 241) true (r 242) (r 243) (r 244) (r 245) 518 519
noncomputable def o292 (P : Params) : Obj := G (C 35) (z "poke") (z "poke") 3 [] N N N (s "z80.cpu" 502) .none (r 246) N 0
noncomputable def o295 (P : Params) : Obj := H (C 44) (z "octets_at") (z "octets_at") 0 [] N N N N .none N N 0
noncomputable def o296 (P : Params) : Obj := Q "octets_at" 537 "octets_at" 538 539 152 3 3 (r 248) true (r 249) N N (r 250) 540 541
noncomputable def o297 (P : Params) : Obj := G (C 44) (z "octets_at") (z "octets_at") 3 [] N N N (s "z80.fcb" 521) .none (r 251) N 0
noncomputable def o300 (P : Params) : Obj := T #[(s "memory" 546), (s "at" 547), (s "octets" 548), (s "spot" 549), (s "octet" 550)]
noncomputable def o302 (P : Params) : Obj := H (C 45) (z "put_octets") (z "put_octets") 0 [] N N N N .none N N 0
noncomputable def o303 (P : Params) : Obj := Q "put_octets" 543 "put_octets" 544 545 154 3 3 (r 253) true (r 254) (r 255) (r 256) (r 257) 551 552
noncomputable def o304 (P : Params) : Obj := G (C 45) (z "put_octets") (z "put_octets") 3 [] N N N (s "z80.fcb" 521) .none (r 258) N 0
noncomputable def o307 (P : Params) : Obj := T #[(s "memory" 557), (s "at" 558)]
noncomputable def o309 (P : Params) : Obj := H (C 46) (z "name_at") (z "name_at") 0 [] N N N N .none N N 0
noncomputable def o310 (P : Params) : Obj := Q "name_at" 554 "name_at" 555 556 157 2 3 (r 260) true (r 261) (r 262) (r 263) (r 264) 559 560
noncomputable def o311 (P : Params) : Obj := G (C 46) (z "name_at") (z "name_at") 3 [] N N N (s "z80.fcb" 521) .none (r 265) N 0
noncomputable def o312 (P : Params) : Obj := D #[e P "__name__" 165 (s "z80.fcb" 521), e P "__doc__" 166 N, e P "__package__" 167 N, e P "__loader__" 168 (b "__main__.__loader__#opaque"), e P "__spec__" 169 N, e P "__annotations__" 170 (r 6), e P "__builtins__" 171 (r 4), e P "__file__" 173 (s "/claim/cut.py" 172), e P "__cached__" 174 N, e P "FREE" 190 (i 229 189), e P "ENTRY_SIZE" 192 (i 32 191), e P "NAME_SIZE" 194 (i 11 193), e P "MAP_AT" 196 (i 16 195), e P "MOST_RECORDS" 198 (i 128 197), e P "EXTENTS_LOW" 200 (i 32 199), e P "DiskError" 231 (r 33), e P "Disk" 269 (r 53), e P "Entry" 305 (r 74), e P "map_slots" 312 (r 85), e P "records_of_block" 319 (r 92), e P "records_of_extent" 326 (r 99), e P "directory_blocks" 333 (r 106), e P "need_writable" 340 (r 113), e P "new_entry" 351 (r 120), e P "entry_octets" 360 (r 127), e P "entry_from" 369 (r 134), e P "raw_entry" 377 (r 141), e P "read_entry" 385 (r 148), e P "put_entry" 396 (r 155), e P "erase_entry" 404 (r 162), e P "free_entry" 412 (r 169), e P "live_entries" 422 (r 176), e P "used_blocks" 428 (r 181), e P "free_blocks" 434 (r 186), e P "map_of" 440 (r 191), e P "map_octets" 450 (r 198), e P "nearest_free" 460 (r 205), e P "allocate" 469 (r 212), e P "record_place" 478 (r 219), e P "read_record" 488 (r 226), e P "write_record" 501 (r 233), e P "peek" 511 (r 240), e P "poke" 520 (r 247), e P "EX_AT" 524 (i 12 523), e P "S2_AT" 526 (i 14 525), e P "RC_AT" 528 (i 15 527), e P "CR_AT" 530 (i 32 529), e P "R_AT" 532 (i 33 531), e P "FCB_SIZE" 534 (i 36 533), e P "UNCHANGED" 536 (i 128 535), e P "octets_at" 542 (r 252), e P "put_octets" 553 (r 259), e P "name_at" 561 (r 266), e P "extent_at" 569 (r 273), e P "set_extent" 578 (r 280), e P "is_changed" 586 (r 287), e P "mark_changed" 596 (r 294), e P "count_at" 604 (r 301), e P "set_count" 613 (r 308), e P "current_at" 621 (r 315), e P "set_current" 630 (r 322), e P "blocks_at" 639 (r 329), e P "set_block" 651 (r 336), e P "take_entry" 660 (r 343), e P "begin_extent" 669 (r 350)] 65
noncomputable def o313 (P : Params) : Obj := ⟨N, .none, (.fields #[(i 8 0), (i 0 0), (r 21), (i 13 0), (i 0 0), (r 42), (i 25 0), (i 0 0), (r 63), (i 34 0), (i 0 0), (r 84), (i 36 0), (i 0 0), (r 91), (i 38 0), (i 0 0), (r 98), (i 40 0), (i 0 0), (r 105), (i 42 0), (i 0 0), (r 112), (i 45 0), (i 0 0), (r 119), (i 49 0), (i 0 0), (r 126), (i 53 0), (i 0 0), (r 133), (i 61 0), (i 0 0), (r 140), (i 65 0), (i 0 0), (r 147), (i 67 0), (i 0 0), (r 154), (i 72 0), (i 0 0), (r 161), (i 76 0), (i 0 0), (r 168), (i 81 0), (i 0 0), (r 175), (i 88 0), (i 0 0), (r 180), (i 95 0), (i 0 0), (r 185), (i 97 0), (i 0 0), (r 190), (i 101 0), (i 0 0), (r 197), (i 108 0), (i 0 0), (r 204), (i 120 0), (i 0 0), (r 211), (i 125 0), (i 0 0), (r 218), (i 129 0), (i 0 0), (r 225), (i 132 0), (i 0 0), (r 232), (i 140 0), (i 0 0), (r 239), (i 142 0), (i 0 0), (r 246), (i 152 0), (i 0 0), (r 251), (i 154 0), (i 0 0), (r 258), (i 157 0), (i 0 0), (r 265), (i 159 0), (i 0 0), (r 272), (i 161 0), (i 0 0), (r 279), (i 164 0), (i 0 0), (r 286), (i 166 0), (i 0 0), (r 293), (i 169 0), (i 0 0), (r 300), (i 171 0), (i 0 0), (r 307), (i 173 0), (i 0 0), (r 314), (i 175 0), (i 0 0), (r 321), (i 177 0), (i 0 0), (r 328), (i 179 0), (i 0 0), (r 335), (i 183 0), (i 0 0), (r 342), (i 186 0), (i 0 0), (r 349)]), #[]⟩
noncomputable def o316 (P : Params) : Obj := T #[(s "memory" 565), (s "at" 566)]
noncomputable def o318 (P : Params) : Obj := H (C 47) (z "extent_at") (z "extent_at") 0 [] N N N N .none N N 0
noncomputable def o319 (P : Params) : Obj := Q "extent_at" 562 "extent_at" 563 564 159 2 3 (r 267) true (r 268) (r 269) (r 270) (r 271) 567 568
noncomputable def o320 (P : Params) : Obj := G (C 47) (z "extent_at") (z "extent_at") 3 [] N N N (s "z80.fcb" 521) .none (r 272) N 0
noncomputable def o323 (P : Params) : Obj := T #[(s "memory" 573), (s "at" 574), (s "extent" 575)]
noncomputable def o325 (P : Params) : Obj := H (C 48) (z "set_extent") (z "set_extent") 0 [] N N N N .none N N 0
noncomputable def o326 (P : Params) : Obj := Q "set_extent" 570 "set_extent" 571 572 161 3 3 (r 274) true (r 275) (r 276) (r 277) (r 278) 576 577
noncomputable def o327 (P : Params) : Obj := G (C 48) (z "set_extent") (z "set_extent") 3 [] N N N (s "z80.fcb" 521) .none (r 279) N 0
noncomputable def o330 (P : Params) : Obj := T #[(s "memory" 582), (s "at" 583)]
noncomputable def o332 (P : Params) : Obj := H (C 49) (z "is_changed") (z "is_changed") 0 [] N N N N .none N N 0
noncomputable def o333 (P : Params) : Obj := Q "is_changed" 579 "is_changed" 580 581 164 2 3 (r 281) true (r 282) (r 283) (r 284) (r 285) 584 585
noncomputable def o334 (P : Params) : Obj := G (C 49) (z "is_changed") (z "is_changed") 3 [] N N N (s "z80.fcb" 521) .none (r 286) N 0
noncomputable def o337 (P : Params) : Obj := T #[(s "memory" 590), (s "at" 591), (s "is_now" 592), (s "kept" 593)]
noncomputable def o339 (P : Params) : Obj := H (C 50) (z "mark_changed") (z "mark_changed") 0 [] N N N N .none N N 0
noncomputable def o340 (P : Params) : Obj := Q "mark_changed" 587 "mark_changed" 588 589 166 3 3 (r 288) true (r 289) (r 290) (r 291) (r 292) 594 595
noncomputable def o341 (P : Params) : Obj := G (C 50) (z "mark_changed") (z "mark_changed") 3 [] N N N (s "z80.fcb" 521) .none (r 293) N 0
noncomputable def o344 (P : Params) : Obj := T #[(s "memory" 600), (s "at" 601)]
noncomputable def o346 (P : Params) : Obj := H (C 51) (z "count_at") (z "count_at") 0 [] N N N N .none N N 0
noncomputable def o347 (P : Params) : Obj := Q "count_at" 597 "count_at" 598 599 169 2 3 (r 295) true (r 296) (r 297) (r 298) (r 299) 602 603
noncomputable def o348 (P : Params) : Obj := G (C 51) (z "count_at") (z "count_at") 3 [] N N N (s "z80.fcb" 521) .none (r 300) N 0
noncomputable def o351 (P : Params) : Obj := T #[(s "memory" 608), (s "at" 609), (s "count" 610)]
noncomputable def o353 (P : Params) : Obj := H (C 52) (z "set_count") (z "set_count") 0 [] N N N N .none N N 0
noncomputable def o354 (P : Params) : Obj := Q "set_count" 605 "set_count" 606 607 171 3 3 (r 302) true (r 303) (r 304) (r 305) (r 306) 611 612
noncomputable def o355 (P : Params) : Obj := G (C 52) (z "set_count") (z "set_count") 3 [] N N N (s "z80.fcb" 521) .none (r 307) N 0
noncomputable def o358 (P : Params) : Obj := T #[(s "memory" 617), (s "at" 618)]
noncomputable def o360 (P : Params) : Obj := H (C 53) (z "current_at") (z "current_at") 0 [] N N N N .none N N 0
noncomputable def o361 (P : Params) : Obj := Q "current_at" 614 "current_at" 615 616 173 2 3 (r 309) true (r 310) (r 311) (r 312) (r 313) 619 620
noncomputable def o362 (P : Params) : Obj := G (C 53) (z "current_at") (z "current_at") 3 [] N N N (s "z80.fcb" 521) .none (r 314) N 0
noncomputable def o365 (P : Params) : Obj := T #[(s "memory" 625), (s "at" 626), (s "record" 627)]
noncomputable def o367 (P : Params) : Obj := H (C 54) (z "set_current") (z "set_current") 0 [] N N N N .none N N 0
noncomputable def o368 (P : Params) : Obj := Q "set_current" 622 "set_current" 623 624 175 3 3 (r 316) true (r 317) (r 318) (r 319) (r 320) 628 629
noncomputable def o369 (P : Params) : Obj := G (C 54) (z "set_current") (z "set_current") 3 [] N N N (s "z80.fcb" 521) .none (r 321) N 0
noncomputable def o372 (P : Params) : Obj := T #[(s "disk" 634), (s "memory" 635), (s "at" 636)]
noncomputable def o374 (P : Params) : Obj := H (C 55) (z "blocks_at") (z "blocks_at") 0 [] N N N N .none N N 0
noncomputable def o375 (P : Params) : Obj := Q "blocks_at" 631 "blocks_at" 632 633 177 3 3 (r 323) true (r 324) (r 325) (r 326) (r 327) 637 638
noncomputable def o376 (P : Params) : Obj := G (C 55) (z "blocks_at") (z "blocks_at") 3 [] N N N (s "z80.fcb" 521) .none (r 328) N 0
noncomputable def o379 (P : Params) : Obj := T #[(s "disk" 643), (s "memory" 644), (s "at" 645), (s "slot" 646), (s "block" 647), (s "blocks" 648)]
noncomputable def o381 (P : Params) : Obj := H (C 56) (z "set_block") (z "set_block") 0 [] N N N N .none N N 0
noncomputable def o382 (P : Params) : Obj := Q "set_block" 640 "set_block" 641 642 179 5 3 (r 330) true (r 331) (r 332) (r 333) (r 334) 649 650
noncomputable def o383 (P : Params) : Obj := G (C 56) (z "set_block") (z "set_block") 3 [] N N N (s "z80.fcb" 521) .none (r 335) N 0
noncomputable def o386 (P : Params) : Obj := T #[(s "memory" 655), (s "at" 656), (s "octets" 657)]
noncomputable def o388 (P : Params) : Obj := H (C 57) (z "take_entry") (z "take_entry") 0 [] N N N N .none N N 0
noncomputable def o389 (P : Params) : Obj := Q "take_entry" 652 "take_entry" 653 654 183 3 3 (r 337) true (r 338) (r 339) (r 340) (r 341) 658 659
noncomputable def o390 (P : Params) : Obj := G (C 57) (z "take_entry") (z "take_entry") 3 [] N N N (s "z80.fcb" 521) .none (r 342) N 0
noncomputable def o393 (P : Params) : Obj := T #[(s "memory" 664), (s "at" 665), (s "extent" 666)]
noncomputable def o395 (P : Params) : Obj := H (C 58) (z "begin_extent") (z "begin_extent") 0 [] N N N N .none N N 0
noncomputable def o396 (P : Params) : Obj := Q "begin_extent" 661 "begin_extent" 662 663 186 3 3 (r 344) true (r 345) (r 346) (r 347) (r 348) 667 668
noncomputable def o397 (P : Params) : Obj := G (C 58) (z "begin_extent") (z "begin_extent") 3 [] N N N (s "z80.fcb" 521) .none (r 349) N 0
noncomputable def o398 (P : Params) : Obj := D #[e P "__name__" 165 (s "z80.filecalls" 765), e P "__doc__" 166 N, e P "__package__" 167 N, e P "__loader__" 168 (b "__main__.__loader__#opaque"), e P "__spec__" 169 N, e P "__annotations__" 170 (r 6), e P "__builtins__" 171 (r 4), e P "__file__" 173 (s "/claim/cut.py" 172), e P "__cached__" 174 N, e P "FREE" 190 (i 229 189), e P "ENTRY_SIZE" 192 (i 32 191), e P "NAME_SIZE" 194 (i 11 193), e P "MAP_AT" 196 (i 16 195), e P "MOST_RECORDS" 198 (i 128 197), e P "EXTENTS_LOW" 200 (i 32 199), e P "DiskError" 231 (r 33), e P "Disk" 269 (r 53), e P "Entry" 305 (r 74), e P "map_slots" 312 (r 85), e P "records_of_block" 319 (r 92), e P "records_of_extent" 326 (r 99), e P "directory_blocks" 333 (r 106), e P "need_writable" 340 (r 113), e P "new_entry" 351 (r 120), e P "entry_octets" 360 (r 127), e P "entry_from" 369 (r 134), e P "raw_entry" 377 (r 141), e P "read_entry" 385 (r 148), e P "put_entry" 396 (r 155), e P "erase_entry" 404 (r 162), e P "free_entry" 412 (r 169), e P "live_entries" 422 (r 176), e P "used_blocks" 428 (r 181), e P "free_blocks" 434 (r 186), e P "map_of" 440 (r 191), e P "map_octets" 450 (r 198), e P "nearest_free" 460 (r 205), e P "allocate" 469 (r 212), e P "record_place" 478 (r 219), e P "read_record" 488 (r 226), e P "write_record" 501 (r 233), e P "peek" 511 (r 240), e P "poke" 520 (r 247), e P "EX_AT" 524 (i 12 523), e P "S2_AT" 526 (i 14 525), e P "RC_AT" 528 (i 15 527), e P "CR_AT" 530 (i 32 529), e P "R_AT" 532 (i 33 531), e P "FCB_SIZE" 534 (i 36 533), e P "UNCHANGED" 536 (i 128 535), e P "octets_at" 542 (r 252), e P "put_octets" 553 (r 259), e P "name_at" 561 (r 266), e P "extent_at" 569 (r 273), e P "set_extent" 578 (r 280), e P "is_changed" 586 (r 287), e P "mark_changed" 596 (r 294), e P "count_at" 604 (r 301), e P "set_count" 613 (r 308), e P "current_at" 621 (r 315), e P "set_current" 630 (r 322), e P "blocks_at" 639 (r 329), e P "set_block" 651 (r 336), e P "take_entry" 660 (r 343), e P "begin_extent" 669 (r 350), e P "random_at" 680 (r 357), e P "set_random" 689 (r 364), e P "new_fcb" 697 (r 371), e P "ANY" 701 (i 63 700), e P "READ_ONLY_AT" 703 (i 8 702), e P "matches" 709 (r 376), e P "has_flag" 717 (r 383), e P "find" 729 (r 390), e P "find_extent" 740 (r 397), e P "need_changeable" 746 (r 402), e P "delete" 758 (r 409), e P "size_of" 764 (r 414), e P "DONE" 768 (i 0 767), e P "NOT_FOUND" 770 (i 255 769), e P "NO_DATA" 772 (i 1 771), e P "NO_ROOM" 774 (i 2 773), e P "NOT_CLOSED" 776 (i 3 775), e P "NO_EXTENT" 778 (i 4 777)] 83
noncomputable def o399 (P : Params) : Obj := ⟨N, .none, (.fields #[(i 8 0), (i 0 0), (r 21), (i 13 0), (i 0 0), (r 42), (i 25 0), (i 0 0), (r 63), (i 34 0), (i 0 0), (r 84), (i 36 0), (i 0 0), (r 91), (i 38 0), (i 0 0), (r 98), (i 40 0), (i 0 0), (r 105), (i 42 0), (i 0 0), (r 112), (i 45 0), (i 0 0), (r 119), (i 49 0), (i 0 0), (r 126), (i 53 0), (i 0 0), (r 133), (i 61 0), (i 0 0), (r 140), (i 65 0), (i 0 0), (r 147), (i 67 0), (i 0 0), (r 154), (i 72 0), (i 0 0), (r 161), (i 76 0), (i 0 0), (r 168), (i 81 0), (i 0 0), (r 175), (i 88 0), (i 0 0), (r 180), (i 95 0), (i 0 0), (r 185), (i 97 0), (i 0 0), (r 190), (i 101 0), (i 0 0), (r 197), (i 108 0), (i 0 0), (r 204), (i 120 0), (i 0 0), (r 211), (i 125 0), (i 0 0), (r 218), (i 129 0), (i 0 0), (r 225), (i 132 0), (i 0 0), (r 232), (i 140 0), (i 0 0), (r 239), (i 142 0), (i 0 0), (r 246), (i 152 0), (i 0 0), (r 251), (i 154 0), (i 0 0), (r 258), (i 157 0), (i 0 0), (r 265), (i 159 0), (i 0 0), (r 272), (i 161 0), (i 0 0), (r 279), (i 164 0), (i 0 0), (r 286), (i 166 0), (i 0 0), (r 293), (i 169 0), (i 0 0), (r 300), (i 171 0), (i 0 0), (r 307), (i 173 0), (i 0 0), (r 314), (i 175 0), (i 0 0), (r 321), (i 177 0), (i 0 0), (r 328), (i 179 0), (i 0 0), (r 335), (i 183 0), (i 0 0), (r 342), (i 186 0), (i 0 0), (r 349), (i 190 0), (i 0 0), (r 356), (i 193 0), (i 0 0), (r 363), (i 195 0), (i 0 0), (r 370), (i 200 0), (i 0 0), (r 375), (i 202 0), (i 0 0), (r 382), (i 204 0), (i 0 0), (r 389), (i 211 0), (i 0 0), (r 396), (i 216 0), (i 0 0), (r 401), (i 219 0), (i 0 0), (r 408), (i 226 0), (i 0 0), (r 413)]), #[]⟩
noncomputable def o402 (P : Params) : Obj := T #[(s "memory" 673), (s "at" 674), (s "under" 675), (s "middle" 676), (s "over" 677)]
noncomputable def o404 (P : Params) : Obj := H (C 59) (z "random_at") (z "random_at") 0 [] N N N N .none N N 0
noncomputable def o405 (P : Params) : Obj := Q "random_at" 670 "random_at" 671 672 190 2 3 (r 351) true (r 352) (r 353) (r 354) (r 355) 678 679
noncomputable def o406 (P : Params) : Obj := G (C 59) (z "random_at") (z "random_at") 3 [] N N N (s "z80.fcb" 521) .none (r 356) N 0
noncomputable def o409 (P : Params) : Obj := T #[(s "memory" 684), (s "at" 685), (s "record" 686)]
noncomputable def o411 (P : Params) : Obj := H (C 60) (z "set_random") (z "set_random") 0 [] N N N N .none N N 0
noncomputable def o412 (P : Params) : Obj := Q "set_random" 681 "set_random" 682 683 193 3 3 (r 358) true (r 359) (r 360) (r 361) (r 362) 687 688
noncomputable def o413 (P : Params) : Obj := G (C 60) (z "set_random") (z "set_random") 3 [] N N N (s "z80.fcb" 521) .none (r 363) N 0
noncomputable def o416 (P : Params) : Obj := T #[(s "drive" 693), (s "name" 694)]
noncomputable def o418 (P : Params) : Obj := H (C 61) (z "new_fcb") (z "new_fcb") 0 [] N N N N .none N N 0
noncomputable def o419 (P : Params) : Obj := Q "new_fcb" 690 "new_fcb" 691 692 195 2 3 (r 365) true (r 366) (r 367) (r 368) (r 369) 695 696
noncomputable def o420 (P : Params) : Obj := G (C 61) (z "new_fcb") (z "new_fcb") 3 [] N N N (s "z80.fcb" 521) .none (r 370) N 0
noncomputable def o423 (P : Params) : Obj := H (C 65) (z "matches") (z "matches") 0 [] N N N N .none N N 0
noncomputable def o424 (P : Params) : Obj := Q "matches" 704 "matches" 705 706 200 2 3 (r 372) true (r 373) N N (r 374) 707 708
noncomputable def o425 (P : Params) : Obj := G (C 65) (z "matches") (z "matches") 3 [] N N N (s "z80.files" 698) .none (r 375) N 0
noncomputable def o428 (P : Params) : Obj := T #[(s "raw" 713), (s "at" 714)]
noncomputable def o430 (P : Params) : Obj := H (C 66) (z "has_flag") (z "has_flag") 0 [] N N N N .none N N 0
noncomputable def o431 (P : Params) : Obj := Q "has_flag" 710 "has_flag" 711 712 202 2 3 (r 377) true (r 378) (r 379) (r 380) (r 381) 715 716
noncomputable def o432 (P : Params) : Obj := G (C 66) (z "has_flag") (z "has_flag") 3 [] N N N (s "z80.files" 698) .none (r 382) N 0
noncomputable def o435 (P : Params) : Obj := T #[(s "disk" 721), (s "user" 722), (s "pattern" 723), (s "found" 724), (s "number" 725), (s "octets" 726)]
noncomputable def o437 (P : Params) : Obj := H (C 67) (z "find") (z "find") 0 [] N N N N .none N N 0
noncomputable def o438 (P : Params) : Obj := Q "find" 718 "find" 719 720 204 3 3 (r 384) true (r 385) (r 386) (r 387) (r 388) 727 728
noncomputable def o439 (P : Params) : Obj := G (C 67) (z "find") (z "find") 3 [] N N N (s "z80.files" 698) .none (r 389) N 0
noncomputable def o442 (P : Params) : Obj := T #[(s "disk" 733), (s "user" 734), (s "raw" 735), (s "extent" 736), (s "pair" 737)]
noncomputable def o444 (P : Params) : Obj := H (C 68) (z "find_extent") (z "find_extent") 0 [] N N N N .none N N 0
noncomputable def o445 (P : Params) : Obj := Q "find_extent" 730 "find_extent" 731 732 211 4 3 (r 391) true (r 392) (r 393) (r 394) (r 395) 738 739
noncomputable def o446 (P : Params) : Obj := G (C 68) (z "find_extent") (z "find_extent") 3 [] N N N (s "z80.files" 698) .none (r 396) N 0
noncomputable def o449 (P : Params) : Obj := H (C 69) (z "need_changeable") (z "need_changeable") 0 [] N N N N .none N N 0
noncomputable def o450 (P : Params) : Obj := Q "need_changeable" 741 "need_changeable" 742 743 216 1 3 (r 398) true (r 399) N N (r 400) 744 745
noncomputable def o451 (P : Params) : Obj := G (C 69) (z "need_changeable") (z "need_changeable") 3 [] N N N (s "z80.files" 698) .none (r 401) N 0
noncomputable def o454 (P : Params) : Obj := T #[(s "disk" 750), (s "user" 751), (s "pattern" 752), (s "pairs" 753), (s "number" 754), (s "entry" 755)]
noncomputable def o456 (P : Params) : Obj := H (C 70) (z "delete") (z "delete") 0 [] N N N N .none N N 0
noncomputable def o457 (P : Params) : Obj := Q "delete" 747 "delete" 748 749 219 3 3 (r 403) true (r 404) (r 405) (r 406) (r 407) 756 757
noncomputable def o458 (P : Params) : Obj := G (C 70) (z "delete") (z "delete") 3 [] N N N (s "z80.files" 698) .none (r 408) N 0
noncomputable def o461 (P : Params) : Obj := H (C 71) (z "size_of") (z "size_of") 0 [] N N N N .none N N 0
noncomputable def o462 (P : Params) : Obj := Q "size_of" 759 "size_of" 760 761 226 3 3 (r 410) true (r 411) N N (r 412) 762 763
noncomputable def o463 (P : Params) : Obj := G (C 71) (z "size_of") (z "size_of") 3 [] N N N (s "z80.files" 698) .none (r 413) N 0
noncomputable def o464 (P : Params) : Obj := D #[e P "__name__" 165 (s "z80.filecalls" 765), e P "__doc__" 166 N, e P "__package__" 167 N, e P "__loader__" 168 (b "__main__.__loader__#opaque"), e P "__spec__" 169 N, e P "__annotations__" 170 (r 6), e P "__builtins__" 171 (r 4), e P "__file__" 173 (s "/claim/cut.py" 172), e P "__cached__" 174 N, e P "FREE" 190 (i 229 189), e P "ENTRY_SIZE" 192 (i 32 191), e P "NAME_SIZE" 194 (i 11 193), e P "MAP_AT" 196 (i 16 195), e P "MOST_RECORDS" 198 (i 128 197), e P "EXTENTS_LOW" 200 (i 32 199), e P "DiskError" 231 (r 33), e P "Disk" 269 (r 53), e P "Entry" 305 (r 74), e P "map_slots" 312 (r 85), e P "records_of_block" 319 (r 92), e P "records_of_extent" 326 (r 99), e P "directory_blocks" 333 (r 106), e P "need_writable" 340 (r 113), e P "new_entry" 351 (r 120), e P "entry_octets" 360 (r 127), e P "entry_from" 369 (r 134), e P "raw_entry" 377 (r 141), e P "read_entry" 385 (r 148), e P "put_entry" 396 (r 155), e P "erase_entry" 404 (r 162), e P "free_entry" 412 (r 169), e P "live_entries" 422 (r 176), e P "used_blocks" 428 (r 181), e P "free_blocks" 434 (r 186), e P "map_of" 440 (r 191), e P "map_octets" 450 (r 198), e P "nearest_free" 460 (r 205), e P "allocate" 469 (r 212), e P "record_place" 478 (r 219), e P "read_record" 488 (r 226), e P "write_record" 501 (r 233), e P "peek" 511 (r 240), e P "poke" 520 (r 247), e P "EX_AT" 524 (i 12 523), e P "S2_AT" 526 (i 14 525), e P "RC_AT" 528 (i 15 527), e P "CR_AT" 530 (i 32 529), e P "R_AT" 532 (i 33 531), e P "FCB_SIZE" 534 (i 36 533), e P "UNCHANGED" 536 (i 128 535), e P "octets_at" 542 (r 252), e P "put_octets" 553 (r 259), e P "name_at" 561 (r 266), e P "extent_at" 569 (r 273), e P "set_extent" 578 (r 280), e P "is_changed" 586 (r 287), e P "mark_changed" 596 (r 294), e P "count_at" 604 (r 301), e P "set_count" 613 (r 308), e P "current_at" 621 (r 315), e P "set_current" 630 (r 322), e P "blocks_at" 639 (r 329), e P "set_block" 651 (r 336), e P "take_entry" 660 (r 343), e P "begin_extent" 669 (r 350), e P "random_at" 680 (r 357), e P "set_random" 689 (r 364), e P "new_fcb" 697 (r 371), e P "ANY" 701 (i 63 700), e P "READ_ONLY_AT" 703 (i 8 702), e P "matches" 709 (r 376), e P "has_flag" 717 (r 383), e P "find" 729 (r 390), e P "find_extent" 740 (r 397), e P "need_changeable" 746 (r 402), e P "delete" 758 (r 409), e P "size_of" 764 (r 414), e P "DONE" 768 (i 0 767), e P "NOT_FOUND" 770 (i 255 769), e P "NO_DATA" 772 (i 1 771), e P "NO_ROOM" 774 (i 2 773), e P "NOT_CLOSED" 776 (i 3 775), e P "NO_EXTENT" 778 (i 4 777), e P "NO_ENTRY" 780 (i 5 779), e P "TOO_FAR" 782 (i 6 781), e P "GREATEST_EXTENT" 785 (i 2048 784), e P "code_of" 793 (r 421), e P "need_writable_file" 800 (r 428), e P "need_writable_disk" 807 (r 435), e P "open_file" 818 (r 442), e P "merged" 829 (r 449), e P "close_file" 835 (r 454), e P "make_file" 847 (r 461), e P "code_for" 854 (r 468), e P "delete_file" 864 (r 475), e P "size_file" 874 (r 482), e P "tell_random" 883 (r 489)] 97
noncomputable def o465 (P : Params) : Obj := ⟨N, .none, (.fields #[(i 8 0), (i 0 0), (r 21), (i 13 0), (i 0 0), (r 42), (i 25 0), (i 0 0), (r 63), (i 34 0), (i 0 0), (r 84), (i 36 0), (i 0 0), (r 91), (i 38 0), (i 0 0), (r 98), (i 40 0), (i 0 0), (r 105), (i 42 0), (i 0 0), (r 112), (i 45 0), (i 0 0), (r 119), (i 49 0), (i 0 0), (r 126), (i 53 0), (i 0 0), (r 133), (i 61 0), (i 0 0), (r 140), (i 65 0), (i 0 0), (r 147), (i 67 0), (i 0 0), (r 154), (i 72 0), (i 0 0), (r 161), (i 76 0), (i 0 0), (r 168), (i 81 0), (i 0 0), (r 175), (i 88 0), (i 0 0), (r 180), (i 95 0), (i 0 0), (r 185), (i 97 0), (i 0 0), (r 190), (i 101 0), (i 0 0), (r 197), (i 108 0), (i 0 0), (r 204), (i 120 0), (i 0 0), (r 211), (i 125 0), (i 0 0), (r 218), (i 129 0), (i 0 0), (r 225), (i 132 0), (i 0 0), (r 232), (i 140 0), (i 0 0), (r 239), (i 142 0), (i 0 0), (r 246), (i 152 0), (i 0 0), (r 251), (i 154 0), (i 0 0), (r 258), (i 157 0), (i 0 0), (r 265), (i 159 0), (i 0 0), (r 272), (i 161 0), (i 0 0), (r 279), (i 164 0), (i 0 0), (r 286), (i 166 0), (i 0 0), (r 293), (i 169 0), (i 0 0), (r 300), (i 171 0), (i 0 0), (r 307), (i 173 0), (i 0 0), (r 314), (i 175 0), (i 0 0), (r 321), (i 177 0), (i 0 0), (r 328), (i 179 0), (i 0 0), (r 335), (i 183 0), (i 0 0), (r 342), (i 186 0), (i 0 0), (r 349), (i 190 0), (i 0 0), (r 356), (i 193 0), (i 0 0), (r 363), (i 195 0), (i 0 0), (r 370), (i 200 0), (i 0 0), (r 375), (i 202 0), (i 0 0), (r 382), (i 204 0), (i 0 0), (r 389), (i 211 0), (i 0 0), (r 396), (i 216 0), (i 0 0), (r 401), (i 219 0), (i 0 0), (r 408), (i 226 0), (i 0 0), (r 413), (i 239 0), (i 0 0), (r 420), (i 241 0), (i 0 0), (r 427), (i 244 0), (i 0 0), (r 434), (i 247 0), (i 0 0), (r 441), (i 254 0), (i 0 0), (r 448), (i 261 0), (i 0 0), (r 453), (i 276 0), (i 0 0), (r 460), (i 286 0), (i 0 0), (r 467), (i 288 0), (i 0 0), (r 474), (i 290 0), (i 0 0), (r 481), (i 293 0), (i 0 0), (r 488)]), #[]⟩
noncomputable def o468 (P : Params) : Obj := T #[(s "disk" 789), (s "number" 790)]
noncomputable def o470 (P : Params) : Obj := H (C 82) (z "code_of") (z "code_of") 0 [] N N N N .none N N 0
noncomputable def o471 (P : Params) : Obj := Q "code_of" 786 "code_of" 787 788 239 2 3 (r 415) true (r 416) (r 417) (r 418) (r 419) 791 792
noncomputable def o472 (P : Params) : Obj := G (C 82) (z "code_of") (z "code_of") 3 [] N N N (s "z80.filecalls" 765) .none (r 420) N 0
noncomputable def o475 (P : Params) : Obj := T #[(s "raw" 797)]
noncomputable def o477 (P : Params) : Obj := H (C 83) (z "need_writable_file") (z "need_writable_file") 0 [] N N N N .none N N 0
noncomputable def o478 (P : Params) : Obj := Q "need_writable_file" 794 "need_writable_file" 795 796 241 1 3 (r 422) true (r 423) (r 424) (r 425) (r 426) 798 799
noncomputable def o479 (P : Params) : Obj := G (C 83) (z "need_writable_file") (z "need_writable_file") 3 [] N N N (s "z80.filecalls" 765) .none (r 427) N 0
noncomputable def o482 (P : Params) : Obj := T #[(s "disk" 804)]
noncomputable def o484 (P : Params) : Obj := H (C 84) (z "need_writable_disk") (z "need_writable_disk") 0 [] N N N N .none N N 0
noncomputable def o485 (P : Params) : Obj := Q "need_writable_disk" 801 "need_writable_disk" 802 803 244 1 3 (r 429) true (r 430) (r 431) (r 432) (r 433) 805 806
noncomputable def o486 (P : Params) : Obj := G (C 84) (z "need_writable_disk") (z "need_writable_disk") 3 [] N N N (s "z80.filecalls" 765) .none (r 434) N 0
noncomputable def o489 (P : Params) : Obj := T #[(s "disk" 811), (s "user" 812), (s "memory" 813), (s "at" 814), (s "pair" 815)]
noncomputable def o491 (P : Params) : Obj := H (C 85) (z "open_file") (z "open_file") 0 [] N N N N .none N N 0
noncomputable def o492 (P : Params) : Obj := Q "open_file" 808 "open_file" 809 810 247 4 3 (r 436) true (r 437) (r 438) (r 439) (r 440) 816 817
noncomputable def o493 (P : Params) : Obj := G (C 85) (z "open_file") (z "open_file") 3 [] N N N (s "z80.filecalls" 765) .none (r 441) N 0
noncomputable def o496 (P : Params) : Obj := T #[(s "ours" 822), (s "theirs" 823), (s "found" 824), (s "one" 825), (s "other" 826)]
noncomputable def o498 (P : Params) : Obj := H (C 86) (z "merged") (z "merged") 0 [] N N N N .none N N 0
noncomputable def o499 (P : Params) : Obj := Q "merged" 819 "merged" 820 821 254 2 3 (r 443) true (r 444) (r 445) (r 446) (r 447) 827 828
noncomputable def o500 (P : Params) : Obj := G (C 86) (z "merged") (z "merged") 3 [] N N N (s "z80.filecalls" 765) .none (r 448) N 0
noncomputable def o503 (P : Params) : Obj := H (C 87) (z "close_file") (z "close_file") 0 [] N N N N .none N N 0
noncomputable def o504 (P : Params) : Obj := Q "close_file" 830 "close_file" 831 832 261 4 3 (r 450) true (r 451) N N (r 452) 833 834
noncomputable def o505 (P : Params) : Obj := G (C 87) (z "close_file") (z "close_file") 3 [] N N N (s "z80.filecalls" 765) .none (r 453) N 0
noncomputable def o508 (P : Params) : Obj := T #[(s "disk" 839), (s "user" 840), (s "memory" 841), (s "at" 842), (s "number" 843), (s "extent" 844)]
noncomputable def o510 (P : Params) : Obj := H (C 88) (z "make_file") (z "make_file") 0 [] N N N N .none N N 0
noncomputable def o511 (P : Params) : Obj := Q "make_file" 836 "make_file" 837 838 276 4 3 (r 455) true (r 456) (r 457) (r 458) (r 459) 845 846
noncomputable def o512 (P : Params) : Obj := G (C 88) (z "make_file") (z "make_file") 3 [] N N N (s "z80.filecalls" 765) .none (r 460) N 0
noncomputable def o515 (P : Params) : Obj := T #[(s "many" 851)]
noncomputable def o517 (P : Params) : Obj := H (C 89) (z "code_for") (z "code_for") 0 [] N N N N .none N N 0
noncomputable def o518 (P : Params) : Obj := Q "code_for" 848 "code_for" 849 850 286 1 3 (r 462) true (r 463) (r 464) (r 465) (r 466) 852 853
noncomputable def o519 (P : Params) : Obj := G (C 89) (z "code_for") (z "code_for") 3 [] N N N (s "z80.filecalls" 765) .none (r 467) N 0
noncomputable def o522 (P : Params) : Obj := T #[(s "disk" 858), (s "user" 859), (s "memory" 860), (s "at" 861)]
noncomputable def o524 (P : Params) : Obj := H (C 90) (z "delete_file") (z "delete_file") 0 [] N N N N .none N N 0
noncomputable def o525 (P : Params) : Obj := Q "delete_file" 855 "delete_file" 856 857 288 4 3 (r 469) true (r 470) (r 471) (r 472) (r 473) 862 863
noncomputable def o526 (P : Params) : Obj := G (C 90) (z "delete_file") (z "delete_file") 3 [] N N N (s "z80.filecalls" 765) .none (r 474) N 0
noncomputable def o529 (P : Params) : Obj := T #[(s "disk" 868), (s "user" 869), (s "memory" 870), (s "at" 871)]
noncomputable def o531 (P : Params) : Obj := H (C 91) (z "size_file") (z "size_file") 0 [] N N N N .none N N 0
noncomputable def o532 (P : Params) : Obj := Q "size_file" 865 "size_file" 866 867 290 4 3 (r 476) true (r 477) (r 478) (r 479) (r 480) 872 873
noncomputable def o533 (P : Params) : Obj := G (C 91) (z "size_file") (z "size_file") 3 [] N N N (s "z80.filecalls" 765) .none (r 481) N 0
noncomputable def o536 (P : Params) : Obj := T #[(s "disk" 878), (s "memory" 879), (s "at" 880)]
noncomputable def o538 (P : Params) : Obj := H (C 92) (z "tell_random") (z "tell_random") 0 [] N N N N .none N N 0
noncomputable def o539 (P : Params) : Obj := Q "tell_random" 875 "tell_random" 876 877 293 3 3 (r 483) true (r 484) (r 485) (r 486) (r 487) 881 882
noncomputable def o540 (P : Params) : Obj := G (C 92) (z "tell_random") (z "tell_random") 3 [] N N N (s "z80.filecalls" 765) .none (r 488) N 0
noncomputable def o541 (P : Params) : Obj := D #[e P "__name__" 165 (s "law_sm0126_01" 1008), e P "__doc__" 166 N, e P "__package__" 167 N, e P "__loader__" 168 (b "__main__.__loader__#opaque"), e P "__spec__" 169 N, e P "__annotations__" 170 (r 6), e P "__builtins__" 171 (r 4), e P "__file__" 173 (s "/claim/cut.py" 172), e P "__cached__" 174 N, e P "FREE" 190 (i 229 189), e P "ENTRY_SIZE" 192 (i 32 191), e P "NAME_SIZE" 194 (i 11 193), e P "MAP_AT" 196 (i 16 195), e P "MOST_RECORDS" 198 (i 128 197), e P "EXTENTS_LOW" 200 (i 32 199), e P "DiskError" 231 (r 33), e P "Disk" 269 (r 53), e P "Entry" 305 (r 74), e P "map_slots" 312 (r 85), e P "records_of_block" 319 (r 92), e P "records_of_extent" 326 (r 99), e P "directory_blocks" 333 (r 106), e P "need_writable" 340 (r 113), e P "new_entry" 351 (r 120), e P "entry_octets" 360 (r 127), e P "entry_from" 369 (r 134), e P "raw_entry" 377 (r 141), e P "read_entry" 385 (r 148), e P "put_entry" 396 (r 155), e P "erase_entry" 404 (r 162), e P "free_entry" 412 (r 169), e P "live_entries" 422 (r 176), e P "used_blocks" 428 (r 181), e P "free_blocks" 434 (r 186), e P "map_of" 440 (r 191), e P "map_octets" 450 (r 198), e P "nearest_free" 460 (r 205), e P "allocate" 469 (r 212), e P "record_place" 478 (r 219), e P "read_record" 488 (r 226), e P "write_record" 501 (r 233), e P "peek" 511 (r 240), e P "poke" 520 (r 247), e P "EX_AT" 524 (i 12 523), e P "S2_AT" 526 (i 14 525), e P "RC_AT" 528 (i 15 527), e P "CR_AT" 530 (i 32 529), e P "R_AT" 532 (i 33 531), e P "FCB_SIZE" 534 (i 36 533), e P "UNCHANGED" 536 (i 128 535), e P "octets_at" 542 (r 252), e P "put_octets" 553 (r 259), e P "name_at" 561 (r 266), e P "extent_at" 569 (r 273), e P "set_extent" 578 (r 280), e P "is_changed" 586 (r 287), e P "mark_changed" 596 (r 294), e P "count_at" 604 (r 301), e P "set_count" 613 (r 308), e P "current_at" 621 (r 315), e P "set_current" 630 (r 322), e P "blocks_at" 639 (r 329), e P "set_block" 651 (r 336), e P "take_entry" 660 (r 343), e P "begin_extent" 669 (r 350), e P "random_at" 680 (r 357), e P "set_random" 689 (r 364), e P "new_fcb" 697 (r 371), e P "ANY" 701 (i 63 700), e P "READ_ONLY_AT" 703 (i 8 702), e P "matches" 709 (r 376), e P "has_flag" 717 (r 383), e P "find" 729 (r 390), e P "find_extent" 740 (r 397), e P "need_changeable" 746 (r 402), e P "delete" 758 (r 409), e P "size_of" 764 (r 414), e P "DONE" 768 (i 0 767), e P "NOT_FOUND" 770 (i 255 769), e P "NO_DATA" 772 (i 1 771), e P "NO_ROOM" 774 (i 2 773), e P "NOT_CLOSED" 776 (i 3 775), e P "NO_EXTENT" 778 (i 4 777), e P "NO_ENTRY" 780 (i 5 779), e P "TOO_FAR" 782 (i 6 781), e P "GREATEST_EXTENT" 785 (i 2048 784), e P "code_of" 793 (r 421), e P "need_writable_file" 800 (r 428), e P "need_writable_disk" 807 (r 435), e P "open_file" 818 (r 442), e P "merged" 829 (r 449), e P "close_file" 835 (r 454), e P "make_file" 847 (r 461), e P "code_for" 854 (r 468), e P "delete_file" 864 (r 475), e P "size_file" 874 (r 482), e P "tell_random" 883 (r 489), e P "leave_extent" 897 (r 496), e P "read_here" 909 (r 503), e P "blank_block" 918 (r 510), e P "block_for" 932 (r 517), e P "write_here" 946 (r 524), e P "go_on" 957 (r 531), e P "read_next" 969 (r 538), e P "write_next" 981 (r 545), e P "seek_record" 995 (r 552), e P "read_random" 1007 (r 559), e P "_law_next" 1019 (r 566)] 108
noncomputable def o542 (P : Params) : Obj := ⟨N, .none, (.fields #[(i 8 0), (i 0 0), (r 21), (i 13 0), (i 0 0), (r 42), (i 25 0), (i 0 0), (r 63), (i 34 0), (i 0 0), (r 84), (i 36 0), (i 0 0), (r 91), (i 38 0), (i 0 0), (r 98), (i 40 0), (i 0 0), (r 105), (i 42 0), (i 0 0), (r 112), (i 45 0), (i 0 0), (r 119), (i 49 0), (i 0 0), (r 126), (i 53 0), (i 0 0), (r 133), (i 61 0), (i 0 0), (r 140), (i 65 0), (i 0 0), (r 147), (i 67 0), (i 0 0), (r 154), (i 72 0), (i 0 0), (r 161), (i 76 0), (i 0 0), (r 168), (i 81 0), (i 0 0), (r 175), (i 88 0), (i 0 0), (r 180), (i 95 0), (i 0 0), (r 185), (i 97 0), (i 0 0), (r 190), (i 101 0), (i 0 0), (r 197), (i 108 0), (i 0 0), (r 204), (i 120 0), (i 0 0), (r 211), (i 125 0), (i 0 0), (r 218), (i 129 0), (i 0 0), (r 225), (i 132 0), (i 0 0), (r 232), (i 140 0), (i 0 0), (r 239), (i 142 0), (i 0 0), (r 246), (i 152 0), (i 0 0), (r 251), (i 154 0), (i 0 0), (r 258), (i 157 0), (i 0 0), (r 265), (i 159 0), (i 0 0), (r 272), (i 161 0), (i 0 0), (r 279), (i 164 0), (i 0 0), (r 286), (i 166 0), (i 0 0), (r 293), (i 169 0), (i 0 0), (r 300), (i 171 0), (i 0 0), (r 307), (i 173 0), (i 0 0), (r 314), (i 175 0), (i 0 0), (r 321), (i 177 0), (i 0 0), (r 328), (i 179 0), (i 0 0), (r 335), (i 183 0), (i 0 0), (r 342), (i 186 0), (i 0 0), (r 349), (i 190 0), (i 0 0), (r 356), (i 193 0), (i 0 0), (r 363), (i 195 0), (i 0 0), (r 370), (i 200 0), (i 0 0), (r 375), (i 202 0), (i 0 0), (r 382), (i 204 0), (i 0 0), (r 389), (i 211 0), (i 0 0), (r 396), (i 216 0), (i 0 0), (r 401), (i 219 0), (i 0 0), (r 408), (i 226 0), (i 0 0), (r 413), (i 239 0), (i 0 0), (r 420), (i 241 0), (i 0 0), (r 427), (i 244 0), (i 0 0), (r 434), (i 247 0), (i 0 0), (r 441), (i 254 0), (i 0 0), (r 448), (i 261 0), (i 0 0), (r 453), (i 276 0), (i 0 0), (r 460), (i 286 0), (i 0 0), (r 467), (i 288 0), (i 0 0), (r 474), (i 290 0), (i 0 0), (r 481), (i 293 0), (i 0 0), (r 488), (i 296 0), (i 0 0), (r 495), (i 314 0), (i 0 0), (r 502), (i 323 0), (i 0 0), (r 509), (i 326 0), (i 0 0), (r 516), (i 341 0), (i 0 0), (r 523), (i 353 0), (i 0 0), (r 530), (i 360 0), (i 0 0), (r 537), (i 367 0), (i 0 0), (r 544), (i 376 0), (i 0 0), (r 551), (i 387 0), (i 0 0), (r 558), (i 391 0), (i 0 0), (r 565)]), #[]⟩
noncomputable def o545 (P : Params) : Obj := T #[(s "disk" 887), (s "user" 888), (s "memory" 889), (s "at" 890), (s "extent" 891), (s "is_writing" 892), (s "pair" 893), (s "number" 894)]
noncomputable def o547 (P : Params) : Obj := H (C 93) (z "leave_extent") (z "leave_extent") 0 [] N N N N .none N N 0
noncomputable def o548 (P : Params) : Obj := Q "leave_extent" 884 "leave_extent" 885 886 296 6 3 (r 490) true (r 491) (r 492) (r 493) (r 494) 895 896
noncomputable def o549 (P : Params) : Obj := G (C 93) (z "leave_extent") (z "leave_extent") 3 [] N N N (s "z80.filecalls" 765) .none (r 495) N 0
noncomputable def o552 (P : Params) : Obj := T #[(s "disk" 901), (s "memory" 902), (s "at" 903), (s "dma" 904), (s "index" 905), (s "block" 906)]
noncomputable def o554 (P : Params) : Obj := H (C 94) (z "read_here") (z "read_here") 0 [] N N N N .none N N 0
noncomputable def o555 (P : Params) : Obj := Q "read_here" 898 "read_here" 899 900 314 4 3 (r 497) true (r 498) (r 499) (r 500) (r 501) 907 908
noncomputable def o556 (P : Params) : Obj := G (C 94) (z "read_here") (z "read_here") 3 [] N N N (s "z80.filecalls" 765) .none (r 502) N 0
noncomputable def o559 (P : Params) : Obj := T #[(s "disk" 913), (s "block" 914), (s "index" 915)]
noncomputable def o561 (P : Params) : Obj := H (C 95) (z "blank_block") (z "blank_block") 0 [] N N N N .none N N 0
noncomputable def o562 (P : Params) : Obj := Q "blank_block" 910 "blank_block" 911 912 323 2 3 (r 504) true (r 505) (r 506) (r 507) (r 508) 916 917
noncomputable def o563 (P : Params) : Obj := G (C 95) (z "blank_block") (z "blank_block") 3 [] N N N (s "z80.filecalls" 765) .none (r 509) N 0
noncomputable def o566 (P : Params) : Obj := T #[(s "disk" 922), (s "user" 923), (s "memory" 924), (s "at" 925), (s "slot" 926), (s "is_blanked" 927), (s "block" 928), (s "pair" 929)]
noncomputable def o568 (P : Params) : Obj := H (C 96) (z "block_for") (z "block_for") 0 [] N N N N .none N N 0
noncomputable def o569 (P : Params) : Obj := Q "block_for" 919 "block_for" 920 921 326 6 3 (r 511) true (r 512) (r 513) (r 514) (r 515) 930 931
noncomputable def o570 (P : Params) : Obj := G (C 96) (z "block_for") (z "block_for") 3 [] N N N (s "z80.filecalls" 765) .none (r 516) N 0
noncomputable def o573 (P : Params) : Obj := T #[(s "disk" 936), (s "user" 937), (s "memory" 938), (s "at" 939), (s "dma" 940), (s "is_blanked" 941), (s "index" 942), (s "block" 943)]
noncomputable def o575 (P : Params) : Obj := H (C 97) (z "write_here") (z "write_here") 0 [] N N N N .none N N 0
noncomputable def o576 (P : Params) : Obj := Q "write_here" 933 "write_here" 934 935 341 6 3 (r 518) true (r 519) (r 520) (r 521) (r 522) 944 945
noncomputable def o577 (P : Params) : Obj := G (C 97) (z "write_here") (z "write_here") 3 [] N N N (s "z80.filecalls" 765) .none (r 523) N 0
noncomputable def o580 (P : Params) : Obj := T #[(s "disk" 950), (s "user" 951), (s "memory" 952), (s "at" 953), (s "is_writing" 954)]
noncomputable def o582 (P : Params) : Obj := H (C 98) (z "go_on") (z "go_on") 0 [] N N N N .none N N 0
noncomputable def o583 (P : Params) : Obj := Q "go_on" 947 "go_on" 948 949 353 5 3 (r 525) true (r 526) (r 527) (r 528) (r 529) 955 956
noncomputable def o584 (P : Params) : Obj := G (C 98) (z "go_on") (z "go_on") 3 [] N N N (s "z80.filecalls" 765) .none (r 530) N 0
noncomputable def o587 (P : Params) : Obj := T #[(s "disk" 961), (s "user" 962), (s "memory" 963), (s "at" 964), (s "dma" 965), (s "found" 966)]
noncomputable def o589 (P : Params) : Obj := H (C 99) (z "read_next") (z "read_next") 0 [] N N N N .none N N 0
noncomputable def o590 (P : Params) : Obj := Q "read_next" 958 "read_next" 959 960 360 5 3 (r 532) true (r 533) (r 534) (r 535) (r 536) 967 968
noncomputable def o591 (P : Params) : Obj := G (C 99) (z "read_next") (z "read_next") 3 [] N N N (s "z80.filecalls" 765) .none (r 537) N 0
noncomputable def o594 (P : Params) : Obj := T #[(s "disk" 973), (s "user" 974), (s "memory" 975), (s "at" 976), (s "dma" 977), (s "found" 978)]
noncomputable def o596 (P : Params) : Obj := H (C 100) (z "write_next") (z "write_next") 0 [] N N N N .none N N 0
noncomputable def o597 (P : Params) : Obj := Q "write_next" 970 "write_next" 971 972 367 5 3 (r 539) true (r 540) (r 541) (r 542) (r 543) 979 980
noncomputable def o598 (P : Params) : Obj := G (C 100) (z "write_next") (z "write_next") 3 [] N N N (s "z80.filecalls" 765) .none (r 544) N 0
noncomputable def o601 (P : Params) : Obj := T #[(s "disk" 985), (s "user" 986), (s "memory" 987), (s "at" 988), (s "is_writing" 989), (s "record" 990), (s "extent" 991), (s "found" 992)]
noncomputable def o603 (P : Params) : Obj := H (C 101) (z "seek_record") (z "seek_record") 0 [] N N N N .none N N 0
noncomputable def o604 (P : Params) : Obj := Q "seek_record" 982 "seek_record" 983 984 376 5 3 (r 546) true (r 547) (r 548) (r 549) (r 550) 993 994
noncomputable def o605 (P : Params) : Obj := G (C 101) (z "seek_record") (z "seek_record") 3 [] N N N (s "z80.filecalls" 765) .none (r 551) N 0
noncomputable def o608 (P : Params) : Obj := T #[(s "disk" 999), (s "user" 1000), (s "memory" 1001), (s "at" 1002), (s "dma" 1003), (s "found" 1004)]
noncomputable def o610 (P : Params) : Obj := H (C 102) (z "read_random") (z "read_random") 0 [] N N N N .none N N 0
noncomputable def o611 (P : Params) : Obj := Q "read_random" 996 "read_random" 997 998 387 5 3 (r 553) true (r 554) (r 555) (r 556) (r 557) 1005 1006
noncomputable def o612 (P : Params) : Obj := G (C 102) (z "read_random") (z "read_random") 3 [] N N N (s "z80.filecalls" 765) .none (r 558) N 0
noncomputable def o615 (P : Params) : Obj := T #[(s "feed" 1013), (s "many" 1014), (s "cells" 1015), (s "turn" 1016)]
noncomputable def o617 (P : Params) : Obj := H (C 104) (z "_law_next") (z "_law_next") 0 [] N N N N .none N N 0
noncomputable def o618 (P : Params) : Obj := Q "_law_next" 1010 "_law_next" 1011 1012 391 2 3 (r 560) true (r 561) (r 562) (r 563) (r 564) 1017 1018
noncomputable def o619 (P : Params) : Obj := G (C 104) (z "_law_next") (z "_law_next") 3 [] N N N (s "law_sm0126_01" 1008) .none (r 565) N 0
noncomputable def o620 (P : Params) : Obj := D #[e P "__name__" 165 (s "law_sm0126_01" 1008), e P "__doc__" 166 N, e P "__package__" 167 N, e P "__loader__" 168 (b "__main__.__loader__#opaque"), e P "__spec__" 169 N, e P "__annotations__" 170 (r 6), e P "__builtins__" 171 (r 4), e P "__file__" 173 (s "/claim/cut.py" 172), e P "__cached__" 174 N, e P "FREE" 190 (i 229 189), e P "ENTRY_SIZE" 192 (i 32 191), e P "NAME_SIZE" 194 (i 11 193), e P "MAP_AT" 196 (i 16 195), e P "MOST_RECORDS" 198 (i 128 197), e P "EXTENTS_LOW" 200 (i 32 199), e P "DiskError" 231 (r 33), e P "Disk" 269 (r 53), e P "Entry" 305 (r 74), e P "map_slots" 312 (r 85), e P "records_of_block" 319 (r 92), e P "records_of_extent" 326 (r 99), e P "directory_blocks" 333 (r 106), e P "need_writable" 340 (r 113), e P "new_entry" 351 (r 120), e P "entry_octets" 360 (r 127), e P "entry_from" 369 (r 134), e P "raw_entry" 377 (r 141), e P "read_entry" 385 (r 148), e P "put_entry" 396 (r 155), e P "erase_entry" 404 (r 162), e P "free_entry" 412 (r 169), e P "live_entries" 422 (r 176), e P "used_blocks" 428 (r 181), e P "free_blocks" 434 (r 186), e P "map_of" 440 (r 191), e P "map_octets" 450 (r 198), e P "nearest_free" 460 (r 205), e P "allocate" 469 (r 212), e P "record_place" 478 (r 219), e P "read_record" 488 (r 226), e P "write_record" 501 (r 233), e P "peek" 511 (r 240), e P "poke" 520 (r 247), e P "EX_AT" 524 (i 12 523), e P "S2_AT" 526 (i 14 525), e P "RC_AT" 528 (i 15 527), e P "CR_AT" 530 (i 32 529), e P "R_AT" 532 (i 33 531), e P "FCB_SIZE" 534 (i 36 533), e P "UNCHANGED" 536 (i 128 535), e P "octets_at" 542 (r 252), e P "put_octets" 553 (r 259), e P "name_at" 561 (r 266), e P "extent_at" 569 (r 273), e P "set_extent" 578 (r 280), e P "is_changed" 586 (r 287), e P "mark_changed" 596 (r 294), e P "count_at" 604 (r 301), e P "set_count" 613 (r 308), e P "current_at" 621 (r 315), e P "set_current" 630 (r 322), e P "blocks_at" 639 (r 329), e P "set_block" 651 (r 336), e P "take_entry" 660 (r 343), e P "begin_extent" 669 (r 350), e P "random_at" 680 (r 357), e P "set_random" 689 (r 364), e P "new_fcb" 697 (r 371), e P "ANY" 701 (i 63 700), e P "READ_ONLY_AT" 703 (i 8 702), e P "matches" 709 (r 376), e P "has_flag" 717 (r 383), e P "find" 729 (r 390), e P "find_extent" 740 (r 397), e P "need_changeable" 746 (r 402), e P "delete" 758 (r 409), e P "size_of" 764 (r 414), e P "DONE" 768 (i 0 767), e P "NOT_FOUND" 770 (i 255 769), e P "NO_DATA" 772 (i 1 771), e P "NO_ROOM" 774 (i 2 773), e P "NOT_CLOSED" 776 (i 3 775), e P "NO_EXTENT" 778 (i 4 777), e P "NO_ENTRY" 780 (i 5 779), e P "TOO_FAR" 782 (i 6 781), e P "GREATEST_EXTENT" 785 (i 2048 784), e P "code_of" 793 (r 421), e P "need_writable_file" 800 (r 428), e P "need_writable_disk" 807 (r 435), e P "open_file" 818 (r 442), e P "merged" 829 (r 449), e P "close_file" 835 (r 454), e P "make_file" 847 (r 461), e P "code_for" 854 (r 468), e P "delete_file" 864 (r 475), e P "size_file" 874 (r 482), e P "tell_random" 883 (r 489), e P "leave_extent" 897 (r 496), e P "read_here" 909 (r 503), e P "blank_block" 918 (r 510), e P "block_for" 932 (r 517), e P "write_here" 946 (r 524), e P "go_on" 957 (r 531), e P "read_next" 969 (r 538), e P "write_next" 981 (r 545), e P "seek_record" 995 (r 552), e P "read_random" 1007 (r 559), e P "_law_next" 1019 (r 566), e P "_law_done" 1025 (r 571), e P "_law_seen" 1031 (r 576), e P "law" 1037 (r 581)] 111
noncomputable def o621 (P : Params) : Obj := ⟨N, .none, (.fields #[(i 8 0), (i 0 0), (r 21), (i 13 0), (i 0 0), (r 42), (i 25 0), (i 0 0), (r 63), (i 34 0), (i 0 0), (r 84), (i 36 0), (i 0 0), (r 91), (i 38 0), (i 0 0), (r 98), (i 40 0), (i 0 0), (r 105), (i 42 0), (i 0 0), (r 112), (i 45 0), (i 0 0), (r 119), (i 49 0), (i 0 0), (r 126), (i 53 0), (i 0 0), (r 133), (i 61 0), (i 0 0), (r 140), (i 65 0), (i 0 0), (r 147), (i 67 0), (i 0 0), (r 154), (i 72 0), (i 0 0), (r 161), (i 76 0), (i 0 0), (r 168), (i 81 0), (i 0 0), (r 175), (i 88 0), (i 0 0), (r 180), (i 95 0), (i 0 0), (r 185), (i 97 0), (i 0 0), (r 190), (i 101 0), (i 0 0), (r 197), (i 108 0), (i 0 0), (r 204), (i 120 0), (i 0 0), (r 211), (i 125 0), (i 0 0), (r 218), (i 129 0), (i 0 0), (r 225), (i 132 0), (i 0 0), (r 232), (i 140 0), (i 0 0), (r 239), (i 142 0), (i 0 0), (r 246), (i 152 0), (i 0 0), (r 251), (i 154 0), (i 0 0), (r 258), (i 157 0), (i 0 0), (r 265), (i 159 0), (i 0 0), (r 272), (i 161 0), (i 0 0), (r 279), (i 164 0), (i 0 0), (r 286), (i 166 0), (i 0 0), (r 293), (i 169 0), (i 0 0), (r 300), (i 171 0), (i 0 0), (r 307), (i 173 0), (i 0 0), (r 314), (i 175 0), (i 0 0), (r 321), (i 177 0), (i 0 0), (r 328), (i 179 0), (i 0 0), (r 335), (i 183 0), (i 0 0), (r 342), (i 186 0), (i 0 0), (r 349), (i 190 0), (i 0 0), (r 356), (i 193 0), (i 0 0), (r 363), (i 195 0), (i 0 0), (r 370), (i 200 0), (i 0 0), (r 375), (i 202 0), (i 0 0), (r 382), (i 204 0), (i 0 0), (r 389), (i 211 0), (i 0 0), (r 396), (i 216 0), (i 0 0), (r 401), (i 219 0), (i 0 0), (r 408), (i 226 0), (i 0 0), (r 413), (i 239 0), (i 0 0), (r 420), (i 241 0), (i 0 0), (r 427), (i 244 0), (i 0 0), (r 434), (i 247 0), (i 0 0), (r 441), (i 254 0), (i 0 0), (r 448), (i 261 0), (i 0 0), (r 453), (i 276 0), (i 0 0), (r 460), (i 286 0), (i 0 0), (r 467), (i 288 0), (i 0 0), (r 474), (i 290 0), (i 0 0), (r 481), (i 293 0), (i 0 0), (r 488), (i 296 0), (i 0 0), (r 495), (i 314 0), (i 0 0), (r 502), (i 323 0), (i 0 0), (r 509), (i 326 0), (i 0 0), (r 516), (i 341 0), (i 0 0), (r 523), (i 353 0), (i 0 0), (r 530), (i 360 0), (i 0 0), (r 537), (i 367 0), (i 0 0), (r 544), (i 376 0), (i 0 0), (r 551), (i 387 0), (i 0 0), (r 558), (i 391 0), (i 0 0), (r 565), (i 397 0), (i 0 0), (r 570), (i 414 0), (i 0 0), (r 575), (i 416 0), (i 0 0), (r 580)]), #[]⟩
noncomputable def o624 (P : Params) : Obj := H (C 105) (z "_law_done") (z "_law_done") 0 [] N N N N .none N N 0
noncomputable def o625 (P : Params) : Obj := Q "_law_done" 1020 "_law_done" 1021 1022 397 5 3 (r 567) true (r 568) N N (r 569) 1023 1024
noncomputable def o626 (P : Params) : Obj := G (C 105) (z "_law_done") (z "_law_done") 3 [] N N N (s "law_sm0126_01" 1008) .none (r 570) N 0
noncomputable def o629 (P : Params) : Obj := H (C 106) (z "_law_seen") (z "_law_seen") 0 [] N N N N .none N N 0
noncomputable def o630 (P : Params) : Obj := Q "_law_seen" 1026 "_law_seen" 1027 1028 414 2 3 (r 572) true (r 573) N N (r 574) 1029 1030
noncomputable def o631 (P : Params) : Obj := G (C 106) (z "_law_seen") (z "_law_seen") 3 [] N N N (s "law_sm0126_01" 1008) .none (r 575) N 0
noncomputable def o634 (P : Params) : Obj := H (C 107) (z "law") (z "law") 0 [] N N N N .none N N 0
noncomputable def o635 (P : Params) : Obj := Q "law" 1032 "law" 1033 1034 416 1 3 (r 577) true (r 578) N N (r 579) 1035 1036
noncomputable def o636 (P : Params) : Obj := G (C 107) (z "law") (z "law") 3 [] N N N (s "law_sm0126_01" 1008) .none (r 580) N 0
noncomputable def t47 (P : Params) : BT := (B (boot_o_0 P) (B (boot_o_1 P) (B (boot_o_3 P) (L (boot_o_7 P)) (L (o43 P))) (B (boot_o_5 P) (L (boot_o_9 P)) (L (o45 P)))) (B (boot_o_2 P) (B (boot_o_4 P) (L (boot_o_8 P)) (L (o44 P))) (B (boot_o_6 P) (L (boot_o_10 P)) (L (o46 P)))))
noncomputable def t73 (P : Params) : BT := (B (boot_o_0 P) (B (boot_o_1 P) (B (o50 P) (B (boot_o_7 P) (B (o52 P) (L (o68 P)) E) (L (o60 P))) (B (o43 P) (B (o43 P) (L (o72 P)) E) (L (o43 P)))) (B (boot_o_5 P) (B (boot_o_9 P) (B (o54 P) (L (o70 P)) E) (L (o44 P))) (B (o45 P) (L (o58 P)) (L (o66 P))))) (B (o49 P) (B (boot_o_4 P) (B (boot_o_8 P) (B (o53 P) (L (o69 P)) E) (L (o61 P))) (B (o51 P) (B (o57 P) (L (o73 P)) E) (L (o65 P)))) (B (boot_o_6 P) (B (boot_o_10 P) (B (o55 P) (L (o71 P)) E) (L (o63 P))) (B (o46 P) (L (o59 P)) (L (o67 P))))))
noncomputable def t96 (P : Params) : BT := (B (boot_o_0 P) (B (boot_o_1 P) (B (o74 P) (B (boot_o_7 P) (B (o52 P) (L (o68 P)) (L (o43 P))) (B (o60 P) (L (o78 P)) (L (o94 P)))) (B (o43 P) (B (o43 P) (L (o72 P)) (L (o90 P))) (B (o43 P) (L (o82 P)) E))) (B (boot_o_5 P) (B (boot_o_9 P) (B (o54 P) (L (o70 P)) (L (o88 P))) (B (o44 P) (L (o80 P)) (L (o96 P)))) (B (o45 P) (B (o58 P) (L (o43 P)) (L (o92 P))) (B (o66 P) (L (o44 P)) E)))) (B (o49 P) (B (boot_o_4 P) (B (boot_o_8 P) (B (o53 P) (L (o69 P)) (L (o87 P))) (B (o61 P) (L (o43 P)) (L (o95 P)))) (B (o75 P) (B (o57 P) (L (o73 P)) (L (o91 P))) (B (o65 P) (L (o43 P)) E))) (B (boot_o_6 P) (B (boot_o_10 P) (B (o55 P) (L (o71 P)) (L (o89 P))) (B (o63 P) (L (o81 P)) E)) (B (o46 P) (B (o59 P) (L (o53 P)) (L (o93 P))) (B (o67 P) (L (o85 P)) E)))))
noncomputable def t154 (P : Params) : BT := (B (boot_o_0 P) (B (boot_o_1 P) (B (o97 P) (B (boot_o_7 P) (B (o52 P) (B (o68 P) (L (o104 P)) (L (o136 P))) (B (o43 P) (L (o43 P)) (L (o152 P)))) (B (o60 P) (B (o78 P) (L (o112 P)) (L (o43 P))) (B (o94 P) (L (o44 P)) E))) (B (o43 P) (B (o43 P) (B (o72 P) (L (o108 P)) (L (o140 P))) (B (o90 P) (L (o124 P)) E)) (B (o43 P) (B (o82 P) (L (o116 P)) (L (o43 P))) (B (o53 P) (L (o132 P)) E)))) (B (boot_o_5 P) (B (boot_o_9 P) (B (o54 P) (B (o70 P) (L (o43 P)) (L (o138 P))) (B (o88 P) (L (o122 P)) (L (o154 P)))) (B (o44 P) (B (o80 P) (L (o114 P)) (L (o146 P))) (B (o96 P) (L (o43 P)) E))) (B (o45 P) (B (o58 P) (B (o43 P) (L (o110 P)) (L (o44 P))) (B (o92 P) (L (o126 P)) E)) (B (o66 P) (B (o44 P) (L (o118 P)) (L (o150 P))) (B (o43 P) (L (o43 P)) E))))) (B (o49 P) (B (boot_o_4 P) (B (boot_o_8 P) (B (o53 P) (B (o69 P) (L (o105 P)) (L (o43 P))) (B (o87 P) (L (o44 P)) (L (o153 P)))) (B (o61 P) (B (o43 P) (L (o113 P)) (L (o145 P))) (B (o95 P) (L (o129 P)) E))) (B (o98 P) (B (o57 P) (B (o73 P) (L (o43 P)) (L (o43 P))) (B (o91 P) (L (o125 P)) E)) (B (o65 P) (B (o43 P) (L (o117 P)) (L (o44 P))) (B (o101 P) (L (o133 P)) E)))) (B (boot_o_6 P) (B (boot_o_10 P) (B (o55 P) (B (o71 P) (L (o44 P)) (L (o139 P))) (B (o89 P) (L (o43 P)) E)) (B (o63 P) (B (o81 P) (L (o115 P)) (L (o147 P))) (B (o43 P) (L (o131 P)) E))) (B (o46 P) (B (o59 P) (B (o53 P) (L (o111 P)) (L (o143 P))) (B (o93 P) (L (o43 P)) E)) (B (o67 P) (B (o85 P) (L (o119 P)) (L (o43 P))) (B (o103 P) (L (o44 P)) E))))))
noncomputable def t241 (P : Params) : BT := (B (boot_o_0 P) (B (boot_o_1 P) (B (o155 P) (B (boot_o_7 P) (B (o52 P) (B (o68 P) (B (o104 P) (L (o170 P)) (L (o234 P))) (B (o136 P) (L (o43 P)) E)) (B (o43 P) (B (o43 P) (L (o44 P)) E) (B (o152 P) (L (o218 P)) E))) (B (o60 P) (B (o78 P) (B (o112 P) (L (o43 P)) E) (B (o43 P) (L (o210 P)) E)) (B (o94 P) (B (o44 P) (L (o194 P)) E) (B (o162 P) (L (o44 P)) E)))) (B (o43 P) (B (o43 P) (B (o72 P) (B (o108 P) (L (o43 P)) (L (o43 P))) (B (o140 P) (L (o43 P)) E)) (B (o90 P) (B (o124 P) (L (o190 P)) E) (B (o44 P) (L (o222 P)) E))) (B (o43 P) (B (o82 P) (B (o116 P) (L (o182 P)) E) (B (o43 P) (L (o44 P)) E)) (B (o53 P) (B (o132 P) (L (o198 P)) E) (B (o166 P) (L (o43 P)) E))))) (B (boot_o_5 P) (B (boot_o_9 P) (B (o54 P) (B (o70 P) (B (o43 P) (L (o44 P)) (L (o44 P))) (B (o138 P) (L (o204 P)) E)) (B (o88 P) (B (o122 P) (L (o43 P)) E) (B (o154 P) (L (o43 P)) E))) (B (o44 P) (B (o80 P) (B (o114 P) (L (o180 P)) E) (B (o146 P) (L (o212 P)) E)) (B (o96 P) (B (o43 P) (L (o196 P)) E) (B (o43 P) (L (o228 P)) E)))) (B (o45 P) (B (o58 P) (B (o43 P) (B (o110 P) (L (o176 P)) (L (o240 P))) (B (o44 P) (L (o208 P)) E)) (B (o92 P) (B (o126 P) (L (o43 P)) E) (B (o43 P) (L (o224 P)) E))) (B (o66 P) (B (o44 P) (B (o118 P) (L (o184 P)) E) (B (o150 P) (L (o43 P)) E)) (B (o43 P) (B (o43 P) (L (o44 P)) E) (B (o168 P) (L (o232 P)) E)))))) (B (o49 P) (B (boot_o_4 P) (B (boot_o_8 P) (B (o53 P) (B (o69 P) (B (o105 P) (L (o43 P)) (L (o43 P))) (B (o43 P) (L (o203 P)) E)) (B (o87 P) (B (o44 P) (L (o187 P)) E) (B (o153 P) (L (o219 P)) E))) (B (o61 P) (B (o43 P) (B (o113 P) (L (o44 P)) E) (B (o145 P) (L (o211 P)) E)) (B (o95 P) (B (o129 P) (L (o43 P)) E) (B (o163 P) (L (o227 P)) E)))) (B (o156 P) (B (o57 P) (B (o73 P) (B (o43 P) (L (o175 P)) (L (o239 P))) (B (o43 P) (L (o44 P)) E)) (B (o91 P) (B (o125 P) (L (o191 P)) E) (B (o159 P) (L (o223 P)) E))) (B (o65 P) (B (o43 P) (B (o117 P) (L (o183 P)) E) (B (o44 P) (L (o215 P)) E)) (B (o101 P) (B (o133 P) (L (o43 P)) E) (B (o43 P) (L (o44 P)) E))))) (B (boot_o_6 P) (B (boot_o_10 P) (B (o55 P) (B (o71 P) (B (o44 P) (L (o173 P)) (L (o237 P))) (B (o139 P) (L (o205 P)) E)) (B (o89 P) (B (o43 P) (L (o189 P)) E) (B (o43 P) (L (o44 P)) E))) (B (o63 P) (B (o81 P) (B (o115 P) (L (o43 P)) E) (B (o147 P) (L (o43 P)) E)) (B (o43 P) (B (o131 P) (L (o197 P)) E) (B (o44 P) (L (o229 P)) E)))) (B (o46 P) (B (o59 P) (B (o53 P) (B (o111 P) (L (o177 P)) (L (o241 P))) (B (o143 P) (L (o43 P)) E)) (B (o93 P) (B (o43 P) (L (o44 P)) E) (B (o161 P) (L (o43 P)) E))) (B (o67 P) (B (o85 P) (B (o119 P) (L (o43 P)) E) (B (o43 P) (L (o217 P)) E)) (B (o103 P) (B (o44 P) (L (o201 P)) E) (B (o169 P) (L (o233 P)) E)))))))
noncomputable def t311 (P : Params) : BT := (B (boot_o_0 P) (B (boot_o_1 P) (B (o242 P) (B (boot_o_7 P) (B (o52 P) (B (o68 P) (B (o104 P) (B (o170 P) (L (o300 P)) E) (L (o234 P))) (B (o136 P) (L (o43 P)) (L (o43 P)))) (B (o43 P) (B (o43 P) (L (o44 P)) (L (o44 P))) (B (o152 P) (L (o218 P)) (L (o284 P))))) (B (o60 P) (B (o78 P) (B (o112 P) (B (o43 P) (L (o43 P)) E) (L (o43 P))) (B (o43 P) (L (o210 P)) (L (o276 P)))) (B (o94 P) (B (o44 P) (L (o194 P)) (L (o260 P))) (B (o162 P) (L (o44 P)) (L (o292 P)))))) (B (o43 P) (B (o43 P) (B (o72 P) (B (o108 P) (B (o43 P) (L (o304 P)) E) (L (o43 P))) (B (o140 P) (L (o43 P)) (L (o43 P)))) (B (o90 P) (B (o124 P) (L (o190 P)) (L (o256 P))) (B (o44 P) (L (o222 P)) (L (o288 P))))) (B (o43 P) (B (o82 P) (B (o116 P) (L (o182 P)) (L (o248 P))) (B (o43 P) (L (o44 P)) (L (o44 P)))) (B (o53 P) (B (o132 P) (L (o198 P)) (L (o264 P))) (B (o166 P) (L (o43 P)) (L (o296 P))))))) (B (boot_o_5 P) (B (boot_o_9 P) (B (o54 P) (B (o70 P) (B (o43 P) (B (o44 P) (L (o302 P)) E) (L (o44 P))) (B (o138 P) (L (o204 P)) (L (o270 P)))) (B (o88 P) (B (o122 P) (L (o43 P)) (L (o43 P))) (B (o154 P) (L (o43 P)) (L (o43 P))))) (B (o44 P) (B (o80 P) (B (o114 P) (B (o180 P) (L (o310 P)) E) (L (o246 P))) (B (o146 P) (L (o212 P)) (L (o278 P)))) (B (o96 P) (B (o43 P) (L (o196 P)) (L (o262 P))) (B (o43 P) (L (o228 P)) (L (o44 P)))))) (B (o45 P) (B (o58 P) (B (o43 P) (B (o110 P) (B (o176 P) (L (o44 P)) E) (L (o240 P))) (B (o44 P) (L (o208 P)) (L (o274 P)))) (B (o92 P) (B (o126 P) (L (o43 P)) (L (o43 P))) (B (o43 P) (L (o224 P)) (L (o290 P))))) (B (o66 P) (B (o44 P) (B (o118 P) (L (o184 P)) (L (o250 P))) (B (o150 P) (L (o43 P)) (L (o43 P)))) (B (o43 P) (B (o43 P) (L (o44 P)) (L (o44 P))) (B (o168 P) (L (o232 P)) (L (o43 P)))))))) (B (o49 P) (B (boot_o_4 P) (B (boot_o_8 P) (B (o53 P) (B (o69 P) (B (o105 P) (B (o43 P) (L (o43 P)) E) (L (o43 P))) (B (o43 P) (L (o203 P)) (L (o269 P)))) (B (o87 P) (B (o44 P) (L (o187 P)) (L (o253 P))) (B (o153 P) (L (o219 P)) (L (o285 P))))) (B (o61 P) (B (o43 P) (B (o113 P) (B (o44 P) (L (o309 P)) E) (L (o44 P))) (B (o145 P) (L (o211 P)) (L (o277 P)))) (B (o95 P) (B (o129 P) (L (o43 P)) (L (o43 P))) (B (o163 P) (L (o227 P)) (L (o43 P)))))) (B (o243 P) (B (o57 P) (B (o73 P) (B (o43 P) (B (o175 P) (L (o43 P)) E) (L (o239 P))) (B (o43 P) (L (o44 P)) (L (o44 P)))) (B (o91 P) (B (o125 P) (L (o191 P)) (L (o257 P))) (B (o159 P) (L (o223 P)) (L (o43 P))))) (B (o65 P) (B (o43 P) (B (o117 P) (L (o183 P)) (L (o249 P))) (B (o44 P) (L (o215 P)) (L (o281 P)))) (B (o101 P) (B (o133 P) (L (o43 P)) (L (o43 P))) (B (o43 P) (L (o44 P)) (L (o297 P))))))) (B (boot_o_6 P) (B (boot_o_10 P) (B (o55 P) (B (o71 P) (B (o44 P) (B (o173 P) (L (o303 P)) E) (L (o237 P))) (B (o139 P) (L (o205 P)) (L (o271 P)))) (B (o89 P) (B (o43 P) (L (o189 P)) (L (o255 P))) (B (o43 P) (L (o44 P)) (L (o44 P))))) (B (o63 P) (B (o81 P) (B (o115 P) (B (o43 P) (L (o311 P)) E) (L (o43 P))) (B (o147 P) (L (o43 P)) (L (o43 P)))) (B (o43 P) (B (o131 P) (L (o197 P)) (L (o263 P))) (B (o44 P) (L (o229 P)) (L (o295 P)))))) (B (o46 P) (B (o59 P) (B (o53 P) (B (o111 P) (B (o177 P) (L (o307 P)) E) (L (o241 P))) (B (o143 P) (L (o43 P)) (L (o43 P)))) (B (o93 P) (B (o43 P) (L (o44 P)) (L (o44 P))) (B (o161 P) (L (o43 P)) (L (o291 P))))) (B (o67 P) (B (o85 P) (B (o119 P) (L (o43 P)) (L (o43 P))) (B (o43 P) (L (o217 P)) (L (o283 P)))) (B (o103 P) (B (o44 P) (L (o201 P)) (L (o267 P))) (B (o169 P) (L (o233 P)) (L (o44 P)))))))))
noncomputable def t397 (P : Params) : BT := (B (boot_o_0 P) (B (boot_o_1 P) (B (o312 P) (B (boot_o_7 P) (B (o52 P) (B (o68 P) (B (o104 P) (B (o170 P) (L (o300 P)) E) (B (o234 P) (L (o43 P)) E)) (B (o136 P) (B (o43 P) (L (o334 P)) E) (L (o43 P)))) (B (o43 P) (B (o43 P) (B (o44 P) (L (o318 P)) E) (B (o44 P) (L (o382 P)) E)) (B (o152 P) (B (o218 P) (L (o44 P)) E) (L (o284 P))))) (B (o60 P) (B (o78 P) (B (o112 P) (B (o43 P) (L (o43 P)) E) (B (o43 P) (L (o374 P)) E)) (B (o43 P) (B (o210 P) (L (o43 P)) E) (L (o276 P)))) (B (o94 P) (B (o44 P) (B (o194 P) (L (o326 P)) E) (B (o260 P) (L (o390 P)) E)) (B (o162 P) (B (o44 P) (L (o358 P)) E) (L (o292 P)))))) (B (o43 P) (B (o43 P) (B (o72 P) (B (o108 P) (B (o43 P) (L (o304 P)) E) (B (o43 P) (L (o43 P)) E)) (B (o140 P) (B (o43 P) (L (o43 P)) E) (L (o43 P)))) (B (o90 P) (B (o124 P) (B (o190 P) (L (o44 P)) E) (B (o256 P) (L (o386 P)) E)) (B (o44 P) (B (o222 P) (L (o354 P)) E) (L (o288 P))))) (B (o43 P) (B (o82 P) (B (o116 P) (B (o182 P) (L (o43 P)) E) (B (o248 P) (L (o44 P)) E)) (B (o43 P) (B (o44 P) (L (o346 P)) E) (L (o44 P)))) (B (o53 P) (B (o132 P) (B (o198 P) (L (o330 P)) E) (B (o264 P) (L (o43 P)) E)) (B (o166 P) (B (o43 P) (L (o362 P)) E) (L (o296 P))))))) (B (boot_o_5 P) (B (boot_o_9 P) (B (o54 P) (B (o70 P) (B (o43 P) (B (o44 P) (L (o302 P)) E) (B (o44 P) (L (o368 P)) E)) (B (o138 P) (B (o204 P) (L (o44 P)) E) (L (o270 P)))) (B (o88 P) (B (o122 P) (B (o43 P) (L (o320 P)) E) (B (o43 P) (L (o43 P)) E)) (B (o154 P) (B (o43 P) (L (o43 P)) E) (L (o43 P))))) (B (o44 P) (B (o80 P) (B (o114 P) (B (o180 P) (L (o310 P)) E) (B (o246 P) (L (o376 P)) E)) (B (o146 P) (B (o212 P) (L (o344 P)) E) (L (o278 P)))) (B (o96 P) (B (o43 P) (B (o196 P) (L (o43 P)) E) (B (o262 P) (L (o44 P)) E)) (B (o43 P) (B (o228 P) (L (o360 P)) E) (L (o44 P)))))) (B (o45 P) (B (o58 P) (B (o43 P) (B (o110 P) (B (o176 P) (L (o44 P)) E) (B (o240 P) (L (o372 P)) E)) (B (o44 P) (B (o208 P) (L (o340 P)) E) (L (o274 P)))) (B (o92 P) (B (o126 P) (B (o43 P) (L (o43 P)) E) (B (o43 P) (L (o388 P)) E)) (B (o43 P) (B (o224 P) (L (o43 P)) E) (L (o290 P))))) (B (o66 P) (B (o44 P) (B (o118 P) (B (o184 P) (L (o316 P)) E) (B (o250 P) (L (o43 P)) E)) (B (o150 P) (B (o43 P) (L (o348 P)) E) (L (o43 P)))) (B (o43 P) (B (o43 P) (B (o44 P) (L (o332 P)) E) (B (o44 P) (L (o396 P)) E)) (B (o168 P) (B (o232 P) (L (o44 P)) E) (L (o43 P)))))))) (B (o49 P) (B (boot_o_4 P) (B (boot_o_8 P) (B (o53 P) (B (o69 P) (B (o105 P) (B (o43 P) (L (o43 P)) E) (B (o43 P) (L (o367 P)) E)) (B (o43 P) (B (o203 P) (L (o43 P)) E) (L (o269 P)))) (B (o87 P) (B (o44 P) (B (o187 P) (L (o319 P)) E) (B (o253 P) (L (o383 P)) E)) (B (o153 P) (B (o219 P) (L (o351 P)) E) (L (o285 P))))) (B (o61 P) (B (o43 P) (B (o113 P) (B (o44 P) (L (o309 P)) E) (B (o44 P) (L (o375 P)) E)) (B (o145 P) (B (o211 P) (L (o44 P)) E) (L (o277 P)))) (B (o95 P) (B (o129 P) (B (o43 P) (L (o327 P)) E) (B (o43 P) (L (o43 P)) E)) (B (o163 P) (B (o227 P) (L (o43 P)) E) (L (o43 P)))))) (B (o313 P) (B (o57 P) (B (o73 P) (B (o43 P) (B (o175 P) (L (o43 P)) E) (B (o239 P) (L (o44 P)) E)) (B (o43 P) (B (o44 P) (L (o339 P)) E) (L (o44 P)))) (B (o91 P) (B (o125 P) (B (o191 P) (L (o323 P)) E) (B (o257 P) (L (o43 P)) E)) (B (o159 P) (B (o223 P) (L (o355 P)) E) (L (o43 P))))) (B (o65 P) (B (o43 P) (B (o117 P) (B (o183 P) (L (o44 P)) E) (B (o249 P) (L (o379 P)) E)) (B (o44 P) (B (o215 P) (L (o347 P)) E) (L (o281 P)))) (B (o101 P) (B (o133 P) (B (o43 P) (L (o43 P)) E) (B (o43 P) (L (o395 P)) E)) (B (o43 P) (B (o44 P) (L (o43 P)) E) (L (o297 P))))))) (B (boot_o_6 P) (B (boot_o_10 P) (B (o55 P) (B (o71 P) (B (o44 P) (B (o173 P) (L (o303 P)) E) (B (o237 P) (L (o369 P)) E)) (B (o139 P) (B (o205 P) (L (o337 P)) E) (L (o271 P)))) (B (o89 P) (B (o43 P) (B (o189 P) (L (o43 P)) E) (B (o255 P) (L (o44 P)) E)) (B (o43 P) (B (o44 P) (L (o353 P)) E) (L (o44 P))))) (B (o63 P) (B (o81 P) (B (o115 P) (B (o43 P) (L (o311 P)) E) (B (o43 P) (L (o43 P)) E)) (B (o147 P) (B (o43 P) (L (o43 P)) E) (L (o43 P)))) (B (o43 P) (B (o131 P) (B (o197 P) (L (o44 P)) E) (B (o263 P) (L (o393 P)) E)) (B (o44 P) (B (o229 P) (L (o361 P)) E) (L (o295 P)))))) (B (o46 P) (B (o59 P) (B (o53 P) (B (o111 P) (B (o177 P) (L (o307 P)) E) (B (o241 P) (L (o43 P)) E)) (B (o143 P) (B (o43 P) (L (o341 P)) E) (L (o43 P)))) (B (o93 P) (B (o43 P) (B (o44 P) (L (o325 P)) E) (B (o44 P) (L (o389 P)) E)) (B (o161 P) (B (o43 P) (L (o44 P)) E) (L (o291 P))))) (B (o67 P) (B (o85 P) (B (o119 P) (B (o43 P) (L (o43 P)) E) (B (o43 P) (L (o381 P)) E)) (B (o43 P) (B (o217 P) (L (o43 P)) E) (L (o283 P)))) (B (o103 P) (B (o44 P) (B (o201 P) (L (o333 P)) E) (B (o267 P) (L (o397 P)) E)) (B (o169 P) (B (o233 P) (L (o365 P)) E) (L (o44 P)))))))))
noncomputable def t463 (P : Params) : BT := (B (boot_o_0 P) (B (boot_o_1 P) (B (o398 P) (B (boot_o_7 P) (B (o52 P) (B (o68 P) (B (o104 P) (B (o170 P) (L (o300 P)) (L (o432 P))) (B (o234 P) (L (o43 P)) E)) (B (o136 P) (B (o43 P) (L (o334 P)) E) (B (o43 P) (L (o43 P)) E))) (B (o43 P) (B (o43 P) (B (o44 P) (L (o318 P)) (L (o44 P))) (B (o44 P) (L (o382 P)) E)) (B (o152 P) (B (o218 P) (L (o44 P)) E) (B (o284 P) (L (o416 P)) E)))) (B (o60 P) (B (o78 P) (B (o112 P) (B (o43 P) (L (o43 P)) (L (o43 P))) (B (o43 P) (L (o374 P)) E)) (B (o43 P) (B (o210 P) (L (o43 P)) E) (B (o276 P) (L (o44 P)) E))) (B (o94 P) (B (o44 P) (B (o194 P) (L (o326 P)) (L (o456 P))) (B (o260 P) (L (o390 P)) E)) (B (o162 P) (B (o44 P) (L (o358 P)) E) (B (o292 P) (L (o424 P)) E))))) (B (o43 P) (B (o43 P) (B (o72 P) (B (o108 P) (B (o43 P) (L (o304 P)) (L (o43 P))) (B (o43 P) (L (o43 P)) E)) (B (o140 P) (B (o43 P) (L (o43 P)) E) (B (o43 P) (L (o404 P)) E))) (B (o90 P) (B (o124 P) (B (o190 P) (L (o44 P)) (L (o43 P))) (B (o256 P) (L (o386 P)) E)) (B (o44 P) (B (o222 P) (L (o354 P)) E) (B (o288 P) (L (o420 P)) E)))) (B (o43 P) (B (o82 P) (B (o116 P) (B (o182 P) (L (o43 P)) (L (o444 P))) (B (o248 P) (L (o44 P)) E)) (B (o43 P) (B (o44 P) (L (o346 P)) E) (B (o44 P) (L (o412 P)) E))) (B (o53 P) (B (o132 P) (B (o198 P) (L (o330 P)) (L (o44 P))) (B (o264 P) (L (o43 P)) E)) (B (o166 P) (B (o43 P) (L (o362 P)) E) (B (o296 P) (L (o428 P)) E)))))) (B (boot_o_5 P) (B (boot_o_9 P) (B (o54 P) (B (o70 P) (B (o43 P) (B (o44 P) (L (o302 P)) (L (o44 P))) (B (o44 P) (L (o368 P)) E)) (B (o138 P) (B (o204 P) (L (o44 P)) E) (B (o270 P) (L (o402 P)) E))) (B (o88 P) (B (o122 P) (B (o43 P) (L (o320 P)) (L (o450 P))) (B (o43 P) (L (o43 P)) E)) (B (o154 P) (B (o43 P) (L (o43 P)) E) (B (o43 P) (L (o418 P)) E)))) (B (o44 P) (B (o80 P) (B (o114 P) (B (o180 P) (L (o310 P)) (L (o442 P))) (B (o246 P) (L (o376 P)) E)) (B (o146 P) (B (o212 P) (L (o344 P)) E) (B (o278 P) (L (o43 P)) E))) (B (o96 P) (B (o43 P) (B (o196 P) (L (o43 P)) (L (o458 P))) (B (o262 P) (L (o44 P)) E)) (B (o43 P) (B (o228 P) (L (o360 P)) E) (B (o44 P) (L (o43 P)) E))))) (B (o45 P) (B (o58 P) (B (o43 P) (B (o110 P) (B (o176 P) (L (o44 P)) (L (o438 P))) (B (o240 P) (L (o372 P)) E)) (B (o44 P) (B (o208 P) (L (o340 P)) E) (B (o274 P) (L (o406 P)) E))) (B (o92 P) (B (o126 P) (B (o43 P) (L (o43 P)) (L (o454 P))) (B (o43 P) (L (o388 P)) E)) (B (o43 P) (B (o224 P) (L (o43 P)) E) (B (o290 P) (L (o44 P)) E)))) (B (o66 P) (B (o44 P) (B (o118 P) (B (o184 P) (L (o316 P)) (L (o446 P))) (B (o250 P) (L (o43 P)) E)) (B (o150 P) (B (o43 P) (L (o348 P)) E) (B (o43 P) (L (o43 P)) E))) (B (o43 P) (B (o43 P) (B (o44 P) (L (o332 P)) (L (o462 P))) (B (o44 P) (L (o396 P)) E)) (B (o168 P) (B (o232 P) (L (o44 P)) E) (B (o43 P) (L (o430 P)) E))))))) (B (o49 P) (B (boot_o_4 P) (B (boot_o_8 P) (B (o53 P) (B (o69 P) (B (o105 P) (B (o43 P) (L (o43 P)) (L (o43 P))) (B (o43 P) (L (o367 P)) E)) (B (o43 P) (B (o203 P) (L (o43 P)) E) (B (o269 P) (L (o44 P)) E))) (B (o87 P) (B (o44 P) (B (o187 P) (L (o319 P)) (L (o449 P))) (B (o253 P) (L (o383 P)) E)) (B (o153 P) (B (o219 P) (L (o351 P)) E) (B (o285 P) (L (o43 P)) E)))) (B (o61 P) (B (o43 P) (B (o113 P) (B (o44 P) (L (o309 P)) (L (o44 P))) (B (o44 P) (L (o375 P)) E)) (B (o145 P) (B (o211 P) (L (o44 P)) E) (B (o277 P) (L (o409 P)) E))) (B (o95 P) (B (o129 P) (B (o43 P) (L (o327 P)) (L (o457 P))) (B (o43 P) (L (o43 P)) E)) (B (o163 P) (B (o227 P) (L (o43 P)) E) (B (o43 P) (L (o425 P)) E))))) (B (o399 P) (B (o57 P) (B (o73 P) (B (o43 P) (B (o175 P) (L (o43 P)) (L (o437 P))) (B (o239 P) (L (o44 P)) E)) (B (o43 P) (B (o44 P) (L (o339 P)) E) (B (o44 P) (L (o405 P)) E))) (B (o91 P) (B (o125 P) (B (o191 P) (L (o323 P)) (L (o44 P))) (B (o257 P) (L (o43 P)) E)) (B (o159 P) (B (o223 P) (L (o355 P)) E) (B (o43 P) (L (o43 P)) E)))) (B (o65 P) (B (o43 P) (B (o117 P) (B (o183 P) (L (o44 P)) (L (o445 P))) (B (o249 P) (L (o379 P)) E)) (B (o44 P) (B (o215 P) (L (o347 P)) E) (B (o281 P) (L (o413 P)) E))) (B (o101 P) (B (o133 P) (B (o43 P) (L (o43 P)) (L (o461 P))) (B (o43 P) (L (o395 P)) E)) (B (o43 P) (B (o44 P) (L (o43 P)) E) (B (o297 P) (L (o43 P)) E)))))) (B (boot_o_6 P) (B (boot_o_10 P) (B (o55 P) (B (o71 P) (B (o44 P) (B (o173 P) (L (o303 P)) (L (o435 P))) (B (o237 P) (L (o369 P)) E)) (B (o139 P) (B (o205 P) (L (o337 P)) E) (B (o271 P) (L (o43 P)) E))) (B (o89 P) (B (o43 P) (B (o189 P) (L (o43 P)) (L (o451 P))) (B (o255 P) (L (o44 P)) E)) (B (o43 P) (B (o44 P) (L (o353 P)) E) (B (o44 P) (L (o419 P)) E)))) (B (o63 P) (B (o81 P) (B (o115 P) (B (o43 P) (L (o311 P)) (L (o43 P))) (B (o43 P) (L (o43 P)) E)) (B (o147 P) (B (o43 P) (L (o43 P)) E) (B (o43 P) (L (o411 P)) E))) (B (o43 P) (B (o131 P) (B (o197 P) (L (o44 P)) (L (o43 P))) (B (o263 P) (L (o393 P)) E)) (B (o44 P) (B (o229 P) (L (o361 P)) E) (B (o295 P) (L (o44 P)) E))))) (B (o46 P) (B (o59 P) (B (o53 P) (B (o111 P) (B (o177 P) (L (o307 P)) (L (o439 P))) (B (o241 P) (L (o43 P)) E)) (B (o143 P) (B (o43 P) (L (o341 P)) E) (B (o43 P) (L (o43 P)) E))) (B (o93 P) (B (o43 P) (B (o44 P) (L (o325 P)) (L (o43 P))) (B (o44 P) (L (o389 P)) E)) (B (o161 P) (B (o43 P) (L (o44 P)) E) (B (o291 P) (L (o423 P)) E)))) (B (o67 P) (B (o85 P) (B (o119 P) (B (o43 P) (L (o43 P)) (L (o43 P))) (B (o43 P) (L (o381 P)) E)) (B (o43 P) (B (o217 P) (L (o43 P)) E) (B (o283 P) (L (o44 P)) E))) (B (o103 P) (B (o44 P) (B (o201 P) (L (o333 P)) (L (o463 P))) (B (o267 P) (L (o397 P)) E)) (B (o169 P) (B (o233 P) (L (o365 P)) E) (B (o44 P) (L (o431 P)) E))))))))
noncomputable def t540 (P : Params) : BT := (B (boot_o_0 P) (B (boot_o_1 P) (B (o464 P) (B (boot_o_7 P) (B (o52 P) (B (o68 P) (B (o104 P) (B (o170 P) (L (o300 P)) (L (o432 P))) (B (o234 P) (L (o43 P)) (L (o498 P)))) (B (o136 P) (B (o43 P) (L (o334 P)) (L (o43 P))) (B (o43 P) (L (o43 P)) (L (o43 P))))) (B (o43 P) (B (o43 P) (B (o44 P) (L (o318 P)) (L (o44 P))) (B (o44 P) (L (o382 P)) (L (o44 P)))) (B (o152 P) (B (o218 P) (L (o44 P)) (L (o482 P))) (B (o284 P) (L (o416 P)) E)))) (B (o60 P) (B (o78 P) (B (o112 P) (B (o43 P) (L (o43 P)) (L (o43 P))) (B (o43 P) (L (o374 P)) (L (o43 P)))) (B (o43 P) (B (o210 P) (L (o43 P)) (L (o44 P))) (B (o276 P) (L (o44 P)) (L (o538 P))))) (B (o94 P) (B (o44 P) (B (o194 P) (L (o326 P)) (L (o456 P))) (B (o260 P) (L (o390 P)) (L (o522 P)))) (B (o162 P) (B (o44 P) (L (o358 P)) (L (o43 P))) (B (o292 P) (L (o424 P)) E))))) (B (o43 P) (B (o43 P) (B (o72 P) (B (o108 P) (B (o43 P) (L (o304 P)) (L (o43 P))) (B (o43 P) (L (o43 P)) (L (o44 P)))) (B (o140 P) (B (o43 P) (L (o43 P)) (L (o470 P))) (B (o43 P) (L (o404 P)) (L (o43 P))))) (B (o90 P) (B (o124 P) (B (o190 P) (L (o44 P)) (L (o43 P))) (B (o256 P) (L (o386 P)) (L (o518 P)))) (B (o44 P) (B (o222 P) (L (o354 P)) (L (o486 P))) (B (o288 P) (L (o420 P)) E)))) (B (o43 P) (B (o82 P) (B (o116 P) (B (o182 P) (L (o43 P)) (L (o444 P))) (B (o248 P) (L (o44 P)) (L (o510 P)))) (B (o43 P) (B (o44 P) (L (o346 P)) (L (o478 P))) (B (o44 P) (L (o412 P)) E))) (B (o53 P) (B (o132 P) (B (o198 P) (L (o330 P)) (L (o44 P))) (B (o264 P) (L (o43 P)) (L (o526 P)))) (B (o166 P) (B (o43 P) (L (o362 P)) (L (o43 P))) (B (o296 P) (L (o428 P)) E)))))) (B (boot_o_5 P) (B (boot_o_9 P) (B (o54 P) (B (o70 P) (B (o43 P) (B (o44 P) (L (o302 P)) (L (o44 P))) (B (o44 P) (L (o368 P)) (L (o500 P)))) (B (o138 P) (B (o204 P) (L (o44 P)) (L (o468 P))) (B (o270 P) (L (o402 P)) (L (o532 P))))) (B (o88 P) (B (o122 P) (B (o43 P) (L (o320 P)) (L (o450 P))) (B (o43 P) (L (o43 P)) (L (o43 P)))) (B (o154 P) (B (o43 P) (L (o43 P)) (L (o484 P))) (B (o43 P) (L (o418 P)) E)))) (B (o44 P) (B (o80 P) (B (o114 P) (B (o180 P) (L (o310 P)) (L (o442 P))) (B (o246 P) (L (o376 P)) (L (o508 P)))) (B (o146 P) (B (o212 P) (L (o344 P)) (L (o43 P))) (B (o278 P) (L (o43 P)) (L (o540 P))))) (B (o96 P) (B (o43 P) (B (o196 P) (L (o43 P)) (L (o458 P))) (B (o262 P) (L (o44 P)) (L (o524 P)))) (B (o43 P) (B (o228 P) (L (o360 P)) (L (o492 P))) (B (o44 P) (L (o43 P)) E))))) (B (o45 P) (B (o58 P) (B (o43 P) (B (o110 P) (B (o176 P) (L (o44 P)) (L (o438 P))) (B (o240 P) (L (o372 P)) (L (o504 P)))) (B (o44 P) (B (o208 P) (L (o340 P)) (L (o472 P))) (B (o274 P) (L (o406 P)) (L (o536 P))))) (B (o92 P) (B (o126 P) (B (o43 P) (L (o43 P)) (L (o454 P))) (B (o43 P) (L (o388 P)) (L (o43 P)))) (B (o43 P) (B (o224 P) (L (o43 P)) (L (o44 P))) (B (o290 P) (L (o44 P)) E)))) (B (o66 P) (B (o44 P) (B (o118 P) (B (o184 P) (L (o316 P)) (L (o446 P))) (B (o250 P) (L (o43 P)) (L (o512 P)))) (B (o150 P) (B (o43 P) (L (o348 P)) (L (o43 P))) (B (o43 P) (L (o43 P)) E))) (B (o43 P) (B (o43 P) (B (o44 P) (L (o332 P)) (L (o462 P))) (B (o44 P) (L (o396 P)) (L (o44 P)))) (B (o168 P) (B (o232 P) (L (o44 P)) (L (o496 P))) (B (o43 P) (L (o430 P)) E))))))) (B (o49 P) (B (boot_o_4 P) (B (boot_o_8 P) (B (o53 P) (B (o69 P) (B (o105 P) (B (o43 P) (L (o43 P)) (L (o43 P))) (B (o43 P) (L (o367 P)) (L (o499 P)))) (B (o43 P) (B (o203 P) (L (o43 P)) (L (o44 P))) (B (o269 P) (L (o44 P)) (L (o531 P))))) (B (o87 P) (B (o44 P) (B (o187 P) (L (o319 P)) (L (o449 P))) (B (o253 P) (L (o383 P)) (L (o515 P)))) (B (o153 P) (B (o219 P) (L (o351 P)) (L (o43 P))) (B (o285 P) (L (o43 P)) E)))) (B (o61 P) (B (o43 P) (B (o113 P) (B (o44 P) (L (o309 P)) (L (o44 P))) (B (o44 P) (L (o375 P)) (L (o44 P)))) (B (o145 P) (B (o211 P) (L (o44 P)) (L (o475 P))) (B (o277 P) (L (o409 P)) (L (o539 P))))) (B (o95 P) (B (o129 P) (B (o43 P) (L (o327 P)) (L (o457 P))) (B (o43 P) (L (o43 P)) (L (o43 P)))) (B (o163 P) (B (o227 P) (L (o43 P)) (L (o491 P))) (B (o43 P) (L (o425 P)) E))))) (B (o465 P) (B (o57 P) (B (o73 P) (B (o43 P) (B (o175 P) (L (o43 P)) (L (o437 P))) (B (o239 P) (L (o44 P)) (L (o503 P)))) (B (o43 P) (B (o44 P) (L (o339 P)) (L (o471 P))) (B (o44 P) (L (o405 P)) (L (o44 P))))) (B (o91 P) (B (o125 P) (B (o191 P) (L (o323 P)) (L (o44 P))) (B (o257 P) (L (o43 P)) (L (o519 P)))) (B (o159 P) (B (o223 P) (L (o355 P)) (L (o43 P))) (B (o43 P) (L (o43 P)) E)))) (B (o65 P) (B (o43 P) (B (o117 P) (B (o183 P) (L (o44 P)) (L (o445 P))) (B (o249 P) (L (o379 P)) (L (o511 P)))) (B (o44 P) (B (o215 P) (L (o347 P)) (L (o479 P))) (B (o281 P) (L (o413 P)) E))) (B (o101 P) (B (o133 P) (B (o43 P) (L (o43 P)) (L (o461 P))) (B (o43 P) (L (o395 P)) (L (o43 P)))) (B (o43 P) (B (o44 P) (L (o43 P)) (L (o44 P))) (B (o297 P) (L (o43 P)) E)))))) (B (boot_o_6 P) (B (boot_o_10 P) (B (o55 P) (B (o71 P) (B (o44 P) (B (o173 P) (L (o303 P)) (L (o435 P))) (B (o237 P) (L (o369 P)) (L (o43 P)))) (B (o139 P) (B (o205 P) (L (o337 P)) (L (o43 P))) (B (o271 P) (L (o43 P)) (L (o533 P))))) (B (o89 P) (B (o43 P) (B (o189 P) (L (o43 P)) (L (o451 P))) (B (o255 P) (L (o44 P)) (L (o517 P)))) (B (o43 P) (B (o44 P) (L (o353 P)) (L (o485 P))) (B (o44 P) (L (o419 P)) E)))) (B (o63 P) (B (o81 P) (B (o115 P) (B (o43 P) (L (o311 P)) (L (o43 P))) (B (o43 P) (L (o43 P)) (L (o43 P)))) (B (o147 P) (B (o43 P) (L (o43 P)) (L (o477 P))) (B (o43 P) (L (o411 P)) E))) (B (o43 P) (B (o131 P) (B (o197 P) (L (o44 P)) (L (o43 P))) (B (o263 P) (L (o393 P)) (L (o525 P)))) (B (o44 P) (B (o229 P) (L (o361 P)) (L (o493 P))) (B (o295 P) (L (o44 P)) E))))) (B (o46 P) (B (o59 P) (B (o53 P) (B (o111 P) (B (o177 P) (L (o307 P)) (L (o439 P))) (B (o241 P) (L (o43 P)) (L (o505 P)))) (B (o143 P) (B (o43 P) (L (o341 P)) (L (o43 P))) (B (o43 P) (L (o43 P)) (L (o43 P))))) (B (o93 P) (B (o43 P) (B (o44 P) (L (o325 P)) (L (o43 P))) (B (o44 P) (L (o389 P)) (L (o44 P)))) (B (o161 P) (B (o43 P) (L (o44 P)) (L (o489 P))) (B (o291 P) (L (o423 P)) E)))) (B (o67 P) (B (o85 P) (B (o119 P) (B (o43 P) (L (o43 P)) (L (o43 P))) (B (o43 P) (L (o381 P)) (L (o43 P)))) (B (o43 P) (B (o217 P) (L (o43 P)) (L (o44 P))) (B (o283 P) (L (o44 P)) E))) (B (o103 P) (B (o44 P) (B (o201 P) (L (o333 P)) (L (o463 P))) (B (o267 P) (L (o397 P)) (L (o529 P)))) (B (o169 P) (B (o233 P) (L (o365 P)) (L (o43 P))) (B (o44 P) (L (o431 P)) E))))))))
noncomputable def t619 (P : Params) : BT := (B (boot_o_0 P) (B (boot_o_1 P) (B (o541 P) (B (boot_o_7 P) (B (o52 P) (B (o68 P) (B (o104 P) (B (o170 P) (B (o300 P) (L (o43 P)) E) (L (o432 P))) (B (o234 P) (L (o43 P)) (L (o498 P)))) (B (o136 P) (B (o43 P) (B (o334 P) (L (o596 P)) E) (L (o43 P))) (B (o43 P) (L (o43 P)) (L (o43 P))))) (B (o43 P) (B (o43 P) (B (o44 P) (B (o318 P) (L (o580 P)) E) (L (o44 P))) (B (o44 P) (L (o382 P)) (L (o44 P)))) (B (o152 P) (B (o218 P) (B (o44 P) (L (o612 P)) E) (L (o482 P))) (B (o284 P) (L (o416 P)) (L (o548 P)))))) (B (o60 P) (B (o78 P) (B (o112 P) (B (o43 P) (B (o43 P) (L (o44 P)) E) (L (o43 P))) (B (o43 P) (L (o374 P)) (L (o43 P)))) (B (o43 P) (B (o210 P) (B (o43 P) (L (o604 P)) E) (L (o44 P))) (B (o276 P) (L (o44 P)) (L (o538 P))))) (B (o94 P) (B (o44 P) (B (o194 P) (B (o326 P) (L (o43 P)) E) (L (o456 P))) (B (o260 P) (L (o390 P)) (L (o522 P)))) (B (o162 P) (B (o44 P) (L (o358 P)) (L (o43 P))) (B (o292 P) (L (o424 P)) (L (o556 P))))))) (B (o43 P) (B (o43 P) (B (o72 P) (B (o108 P) (B (o43 P) (B (o304 P) (L (o568 P)) E) (L (o43 P))) (B (o43 P) (L (o43 P)) (L (o44 P)))) (B (o140 P) (B (o43 P) (B (o43 P) (L (o44 P)) E) (L (o470 P))) (B (o43 P) (L (o404 P)) (L (o43 P))))) (B (o90 P) (B (o124 P) (B (o190 P) (B (o44 P) (L (o584 P)) E) (L (o43 P))) (B (o256 P) (L (o386 P)) (L (o518 P)))) (B (o44 P) (B (o222 P) (B (o354 P) (L (o43 P)) E) (L (o486 P))) (B (o288 P) (L (o420 P)) (L (o552 P)))))) (B (o43 P) (B (o82 P) (B (o116 P) (B (o182 P) (B (o43 P) (L (o576 P)) E) (L (o444 P))) (B (o248 P) (L (o44 P)) (L (o510 P)))) (B (o43 P) (B (o44 P) (B (o346 P) (L (o608 P)) E) (L (o478 P))) (B (o44 P) (L (o412 P)) (L (o44 P))))) (B (o53 P) (B (o132 P) (B (o198 P) (B (o330 P) (L (o43 P)) E) (L (o44 P))) (B (o264 P) (L (o43 P)) (L (o526 P)))) (B (o166 P) (B (o43 P) (L (o362 P)) (L (o43 P))) (B (o296 P) (L (o428 P)) (L (o43 P)))))))) (B (boot_o_5 P) (B (boot_o_9 P) (B (o54 P) (B (o70 P) (B (o43 P) (B (o44 P) (B (o302 P) (L (o566 P)) E) (L (o44 P))) (B (o44 P) (L (o368 P)) (L (o500 P)))) (B (o138 P) (B (o204 P) (B (o44 P) (L (o598 P)) E) (L (o468 P))) (B (o270 P) (L (o402 P)) (L (o532 P))))) (B (o88 P) (B (o122 P) (B (o43 P) (B (o320 P) (L (o582 P)) E) (L (o450 P))) (B (o43 P) (L (o43 P)) (L (o43 P)))) (B (o154 P) (B (o43 P) (B (o43 P) (L (o44 P)) E) (L (o484 P))) (B (o43 P) (L (o418 P)) (L (o43 P)))))) (B (o44 P) (B (o80 P) (B (o114 P) (B (o180 P) (B (o310 P) (L (o43 P)) E) (L (o442 P))) (B (o246 P) (L (o376 P)) (L (o508 P)))) (B (o146 P) (B (o212 P) (B (o344 P) (L (o43 P)) E) (L (o43 P))) (B (o278 P) (L (o43 P)) (L (o540 P))))) (B (o96 P) (B (o43 P) (B (o196 P) (B (o43 P) (L (o590 P)) E) (L (o458 P))) (B (o262 P) (L (o44 P)) (L (o524 P)))) (B (o43 P) (B (o228 P) (L (o360 P)) (L (o492 P))) (B (o44 P) (L (o43 P)) (L (o44 P))))))) (B (o45 P) (B (o58 P) (B (o43 P) (B (o110 P) (B (o176 P) (B (o44 P) (L (o570 P)) E) (L (o438 P))) (B (o240 P) (L (o372 P)) (L (o504 P)))) (B (o44 P) (B (o208 P) (B (o340 P) (L (o43 P)) E) (L (o472 P))) (B (o274 P) (L (o406 P)) (L (o536 P))))) (B (o92 P) (B (o126 P) (B (o43 P) (B (o43 P) (L (o44 P)) E) (L (o454 P))) (B (o43 P) (L (o388 P)) (L (o43 P)))) (B (o43 P) (B (o224 P) (B (o43 P) (L (o618 P)) E) (L (o44 P))) (B (o290 P) (L (o44 P)) (L (o554 P)))))) (B (o66 P) (B (o44 P) (B (o118 P) (B (o184 P) (B (o316 P) (L (o43 P)) E) (L (o446 P))) (B (o250 P) (L (o43 P)) (L (o512 P)))) (B (o150 P) (B (o43 P) (B (o348 P) (L (o610 P)) E) (L (o43 P))) (B (o43 P) (L (o43 P)) (L (o43 P))))) (B (o43 P) (B (o43 P) (B (o44 P) (B (o332 P) (L (o594 P)) E) (L (o462 P))) (B (o44 P) (L (o396 P)) (L (o44 P)))) (B (o168 P) (B (o232 P) (L (o44 P)) (L (o496 P))) (B (o43 P) (L (o430 P)) (L (o562 P))))))))) (B (o49 P) (B (boot_o_4 P) (B (boot_o_8 P) (B (o53 P) (B (o69 P) (B (o105 P) (B (o43 P) (B (o43 P) (L (o44 P)) E) (L (o43 P))) (B (o43 P) (L (o367 P)) (L (o499 P)))) (B (o43 P) (B (o203 P) (B (o43 P) (L (o597 P)) E) (L (o44 P))) (B (o269 P) (L (o44 P)) (L (o531 P))))) (B (o87 P) (B (o44 P) (B (o187 P) (B (o319 P) (L (o43 P)) E) (L (o449 P))) (B (o253 P) (L (o383 P)) (L (o515 P)))) (B (o153 P) (B (o219 P) (B (o351 P) (L (o43 P)) E) (L (o43 P))) (B (o285 P) (L (o43 P)) (L (o549 P)))))) (B (o61 P) (B (o43 P) (B (o113 P) (B (o44 P) (B (o309 P) (L (o573 P)) E) (L (o44 P))) (B (o44 P) (L (o375 P)) (L (o44 P)))) (B (o145 P) (B (o211 P) (B (o44 P) (L (o605 P)) E) (L (o475 P))) (B (o277 P) (L (o409 P)) (L (o539 P))))) (B (o95 P) (B (o129 P) (B (o43 P) (B (o327 P) (L (o589 P)) E) (L (o457 P))) (B (o43 P) (L (o43 P)) (L (o43 P)))) (B (o163 P) (B (o227 P) (L (o43 P)) (L (o491 P))) (B (o43 P) (L (o425 P)) (L (o43 P))))))) (B (o542 P) (B (o57 P) (B (o73 P) (B (o43 P) (B (o175 P) (B (o43 P) (L (o569 P)) E) (L (o437 P))) (B (o239 P) (L (o44 P)) (L (o503 P)))) (B (o43 P) (B (o44 P) (B (o339 P) (L (o601 P)) E) (L (o471 P))) (B (o44 P) (L (o405 P)) (L (o44 P))))) (B (o91 P) (B (o125 P) (B (o191 P) (B (o323 P) (L (o43 P)) E) (L (o44 P))) (B (o257 P) (L (o43 P)) (L (o519 P)))) (B (o159 P) (B (o223 P) (B (o355 P) (L (o617 P)) E) (L (o43 P))) (B (o43 P) (L (o43 P)) (L (o43 P)))))) (B (o65 P) (B (o43 P) (B (o117 P) (B (o183 P) (B (o44 P) (L (o577 P)) E) (L (o445 P))) (B (o249 P) (L (o379 P)) (L (o511 P)))) (B (o44 P) (B (o215 P) (B (o347 P) (L (o43 P)) E) (L (o479 P))) (B (o281 P) (L (o413 P)) (L (o545 P))))) (B (o101 P) (B (o133 P) (B (o43 P) (B (o43 P) (L (o44 P)) E) (L (o461 P))) (B (o43 P) (L (o395 P)) (L (o43 P)))) (B (o43 P) (B (o44 P) (L (o43 P)) (L (o44 P))) (B (o297 P) (L (o43 P)) (L (o561 P)))))))) (B (boot_o_6 P) (B (boot_o_10 P) (B (o55 P) (B (o71 P) (B (o44 P) (B (o173 P) (B (o303 P) (L (o43 P)) E) (L (o435 P))) (B (o237 P) (L (o369 P)) (L (o43 P)))) (B (o139 P) (B (o205 P) (B (o337 P) (L (o43 P)) E) (L (o43 P))) (B (o271 P) (L (o43 P)) (L (o533 P))))) (B (o89 P) (B (o43 P) (B (o189 P) (B (o43 P) (L (o583 P)) E) (L (o451 P))) (B (o255 P) (L (o44 P)) (L (o517 P)))) (B (o43 P) (B (o44 P) (B (o353 P) (L (o615 P)) E) (L (o485 P))) (B (o44 P) (L (o419 P)) (L (o44 P)))))) (B (o63 P) (B (o81 P) (B (o115 P) (B (o43 P) (B (o311 P) (L (o575 P)) E) (L (o43 P))) (B (o43 P) (L (o43 P)) (L (o43 P)))) (B (o147 P) (B (o43 P) (B (o43 P) (L (o44 P)) E) (L (o477 P))) (B (o43 P) (L (o411 P)) (L (o43 P))))) (B (o43 P) (B (o131 P) (B (o197 P) (B (o44 P) (L (o591 P)) E) (L (o43 P))) (B (o263 P) (L (o393 P)) (L (o525 P)))) (B (o44 P) (B (o229 P) (L (o361 P)) (L (o493 P))) (B (o295 P) (L (o44 P)) (L (o559 P))))))) (B (o46 P) (B (o59 P) (B (o53 P) (B (o111 P) (B (o177 P) (B (o307 P) (L (o43 P)) E) (L (o439 P))) (B (o241 P) (L (o43 P)) (L (o505 P)))) (B (o143 P) (B (o43 P) (B (o341 P) (L (o603 P)) E) (L (o43 P))) (B (o43 P) (L (o43 P)) (L (o43 P))))) (B (o93 P) (B (o43 P) (B (o44 P) (B (o325 P) (L (o587 P)) E) (L (o43 P))) (B (o44 P) (L (o389 P)) (L (o44 P)))) (B (o161 P) (B (o43 P) (B (o44 P) (L (o619 P)) E) (L (o489 P))) (B (o291 P) (L (o423 P)) (L (o555 P)))))) (B (o67 P) (B (o85 P) (B (o119 P) (B (o43 P) (B (o43 P) (L (o44 P)) E) (L (o43 P))) (B (o43 P) (L (o381 P)) (L (o43 P)))) (B (o43 P) (B (o217 P) (B (o43 P) (L (o611 P)) E) (L (o44 P))) (B (o283 P) (L (o44 P)) (L (o547 P))))) (B (o103 P) (B (o44 P) (B (o201 P) (B (o333 P) (L (o43 P)) E) (L (o463 P))) (B (o267 P) (L (o397 P)) (L (o529 P)))) (B (o169 P) (B (o233 P) (L (o365 P)) (L (o43 P))) (B (o44 P) (L (o431 P)) (L (o563 P))))))))))
noncomputable def t636 (P : Params) : BT := (B (boot_o_0 P) (B (boot_o_1 P) (B (o620 P) (B (boot_o_7 P) (B (o52 P) (B (o68 P) (B (o104 P) (B (o170 P) (B (o300 P) (L (o43 P)) E) (L (o432 P))) (B (o234 P) (B (o43 P) (L (o630 P)) E) (L (o498 P)))) (B (o136 P) (B (o43 P) (B (o334 P) (L (o596 P)) E) (L (o43 P))) (B (o43 P) (L (o43 P)) (L (o43 P))))) (B (o43 P) (B (o43 P) (B (o44 P) (B (o318 P) (L (o580 P)) E) (L (o44 P))) (B (o44 P) (L (o382 P)) (L (o44 P)))) (B (o152 P) (B (o218 P) (B (o44 P) (L (o612 P)) E) (L (o482 P))) (B (o284 P) (L (o416 P)) (L (o548 P)))))) (B (o60 P) (B (o78 P) (B (o112 P) (B (o43 P) (B (o43 P) (L (o44 P)) E) (L (o43 P))) (B (o43 P) (L (o374 P)) (L (o43 P)))) (B (o43 P) (B (o210 P) (B (o43 P) (L (o604 P)) E) (L (o44 P))) (B (o276 P) (L (o44 P)) (L (o538 P))))) (B (o94 P) (B (o44 P) (B (o194 P) (B (o326 P) (L (o43 P)) E) (L (o456 P))) (B (o260 P) (L (o390 P)) (L (o522 P)))) (B (o162 P) (B (o44 P) (B (o358 P) (L (o43 P)) E) (L (o43 P))) (B (o292 P) (L (o424 P)) (L (o556 P))))))) (B (o43 P) (B (o43 P) (B (o72 P) (B (o108 P) (B (o43 P) (B (o304 P) (L (o568 P)) E) (L (o43 P))) (B (o43 P) (B (o43 P) (L (o634 P)) E) (L (o44 P)))) (B (o140 P) (B (o43 P) (B (o43 P) (L (o44 P)) E) (L (o470 P))) (B (o43 P) (L (o404 P)) (L (o43 P))))) (B (o90 P) (B (o124 P) (B (o190 P) (B (o44 P) (L (o584 P)) E) (L (o43 P))) (B (o256 P) (L (o386 P)) (L (o518 P)))) (B (o44 P) (B (o222 P) (B (o354 P) (L (o43 P)) E) (L (o486 P))) (B (o288 P) (L (o420 P)) (L (o552 P)))))) (B (o43 P) (B (o82 P) (B (o116 P) (B (o182 P) (B (o43 P) (L (o576 P)) E) (L (o444 P))) (B (o248 P) (L (o44 P)) (L (o510 P)))) (B (o43 P) (B (o44 P) (B (o346 P) (L (o608 P)) E) (L (o478 P))) (B (o44 P) (L (o412 P)) (L (o44 P))))) (B (o53 P) (B (o132 P) (B (o198 P) (B (o330 P) (L (o43 P)) E) (L (o44 P))) (B (o264 P) (L (o43 P)) (L (o526 P)))) (B (o166 P) (B (o43 P) (B (o362 P) (L (o626 P)) E) (L (o43 P))) (B (o296 P) (L (o428 P)) (L (o43 P)))))))) (B (boot_o_5 P) (B (boot_o_9 P) (B (o54 P) (B (o70 P) (B (o43 P) (B (o44 P) (B (o302 P) (L (o566 P)) E) (L (o44 P))) (B (o44 P) (B (o368 P) (L (o43 P)) E) (L (o500 P)))) (B (o138 P) (B (o204 P) (B (o44 P) (L (o598 P)) E) (L (o468 P))) (B (o270 P) (L (o402 P)) (L (o532 P))))) (B (o88 P) (B (o122 P) (B (o43 P) (B (o320 P) (L (o582 P)) E) (L (o450 P))) (B (o43 P) (L (o43 P)) (L (o43 P)))) (B (o154 P) (B (o43 P) (B (o43 P) (L (o44 P)) E) (L (o484 P))) (B (o43 P) (L (o418 P)) (L (o43 P)))))) (B (o44 P) (B (o80 P) (B (o114 P) (B (o180 P) (B (o310 P) (L (o43 P)) E) (L (o442 P))) (B (o246 P) (L (o376 P)) (L (o508 P)))) (B (o146 P) (B (o212 P) (B (o344 P) (L (o43 P)) E) (L (o43 P))) (B (o278 P) (L (o43 P)) (L (o540 P))))) (B (o96 P) (B (o43 P) (B (o196 P) (B (o43 P) (L (o590 P)) E) (L (o458 P))) (B (o262 P) (L (o44 P)) (L (o524 P)))) (B (o43 P) (B (o228 P) (B (o360 P) (L (o624 P)) E) (L (o492 P))) (B (o44 P) (L (o43 P)) (L (o44 P))))))) (B (o45 P) (B (o58 P) (B (o43 P) (B (o110 P) (B (o176 P) (B (o44 P) (L (o570 P)) E) (L (o438 P))) (B (o240 P) (B (o372 P) (L (o636 P)) E) (L (o504 P)))) (B (o44 P) (B (o208 P) (B (o340 P) (L (o43 P)) E) (L (o472 P))) (B (o274 P) (L (o406 P)) (L (o536 P))))) (B (o92 P) (B (o126 P) (B (o43 P) (B (o43 P) (L (o44 P)) E) (L (o454 P))) (B (o43 P) (L (o388 P)) (L (o43 P)))) (B (o43 P) (B (o224 P) (B (o43 P) (L (o618 P)) E) (L (o44 P))) (B (o290 P) (L (o44 P)) (L (o554 P)))))) (B (o66 P) (B (o44 P) (B (o118 P) (B (o184 P) (B (o316 P) (L (o43 P)) E) (L (o446 P))) (B (o250 P) (L (o43 P)) (L (o512 P)))) (B (o150 P) (B (o43 P) (B (o348 P) (L (o610 P)) E) (L (o43 P))) (B (o43 P) (L (o43 P)) (L (o43 P))))) (B (o43 P) (B (o43 P) (B (o44 P) (B (o332 P) (L (o594 P)) E) (L (o462 P))) (B (o44 P) (L (o396 P)) (L (o44 P)))) (B (o168 P) (B (o232 P) (B (o44 P) (L (o44 P)) E) (L (o496 P))) (B (o43 P) (L (o430 P)) (L (o562 P))))))))) (B (o49 P) (B (boot_o_4 P) (B (boot_o_8 P) (B (o53 P) (B (o69 P) (B (o105 P) (B (o43 P) (B (o43 P) (L (o44 P)) E) (L (o43 P))) (B (o43 P) (B (o367 P) (L (o631 P)) E) (L (o499 P)))) (B (o43 P) (B (o203 P) (B (o43 P) (L (o597 P)) E) (L (o44 P))) (B (o269 P) (L (o44 P)) (L (o531 P))))) (B (o87 P) (B (o44 P) (B (o187 P) (B (o319 P) (L (o43 P)) E) (L (o449 P))) (B (o253 P) (L (o383 P)) (L (o515 P)))) (B (o153 P) (B (o219 P) (B (o351 P) (L (o43 P)) E) (L (o43 P))) (B (o285 P) (L (o43 P)) (L (o549 P)))))) (B (o61 P) (B (o43 P) (B (o113 P) (B (o44 P) (B (o309 P) (L (o573 P)) E) (L (o44 P))) (B (o44 P) (L (o375 P)) (L (o44 P)))) (B (o145 P) (B (o211 P) (B (o44 P) (L (o605 P)) E) (L (o475 P))) (B (o277 P) (L (o409 P)) (L (o539 P))))) (B (o95 P) (B (o129 P) (B (o43 P) (B (o327 P) (L (o589 P)) E) (L (o457 P))) (B (o43 P) (L (o43 P)) (L (o43 P)))) (B (o163 P) (B (o227 P) (B (o43 P) (L (o44 P)) E) (L (o491 P))) (B (o43 P) (L (o425 P)) (L (o43 P))))))) (B (o621 P) (B (o57 P) (B (o73 P) (B (o43 P) (B (o175 P) (B (o43 P) (L (o569 P)) E) (L (o437 P))) (B (o239 P) (B (o44 P) (L (o635 P)) E) (L (o503 P)))) (B (o43 P) (B (o44 P) (B (o339 P) (L (o601 P)) E) (L (o471 P))) (B (o44 P) (L (o405 P)) (L (o44 P))))) (B (o91 P) (B (o125 P) (B (o191 P) (B (o323 P) (L (o43 P)) E) (L (o44 P))) (B (o257 P) (L (o43 P)) (L (o519 P)))) (B (o159 P) (B (o223 P) (B (o355 P) (L (o617 P)) E) (L (o43 P))) (B (o43 P) (L (o43 P)) (L (o43 P)))))) (B (o65 P) (B (o43 P) (B (o117 P) (B (o183 P) (B (o44 P) (L (o577 P)) E) (L (o445 P))) (B (o249 P) (L (o379 P)) (L (o511 P)))) (B (o44 P) (B (o215 P) (B (o347 P) (L (o43 P)) E) (L (o479 P))) (B (o281 P) (L (o413 P)) (L (o545 P))))) (B (o101 P) (B (o133 P) (B (o43 P) (B (o43 P) (L (o44 P)) E) (L (o461 P))) (B (o43 P) (L (o395 P)) (L (o43 P)))) (B (o43 P) (B (o44 P) (B (o43 P) (L (o43 P)) E) (L (o44 P))) (B (o297 P) (L (o43 P)) (L (o561 P)))))))) (B (boot_o_6 P) (B (boot_o_10 P) (B (o55 P) (B (o71 P) (B (o44 P) (B (o173 P) (B (o303 P) (L (o43 P)) E) (L (o435 P))) (B (o237 P) (B (o369 P) (L (o44 P)) E) (L (o43 P)))) (B (o139 P) (B (o205 P) (B (o337 P) (L (o43 P)) E) (L (o43 P))) (B (o271 P) (L (o43 P)) (L (o533 P))))) (B (o89 P) (B (o43 P) (B (o189 P) (B (o43 P) (L (o583 P)) E) (L (o451 P))) (B (o255 P) (L (o44 P)) (L (o517 P)))) (B (o43 P) (B (o44 P) (B (o353 P) (L (o615 P)) E) (L (o485 P))) (B (o44 P) (L (o419 P)) (L (o44 P)))))) (B (o63 P) (B (o81 P) (B (o115 P) (B (o43 P) (B (o311 P) (L (o575 P)) E) (L (o43 P))) (B (o43 P) (L (o43 P)) (L (o43 P)))) (B (o147 P) (B (o43 P) (B (o43 P) (L (o44 P)) E) (L (o477 P))) (B (o43 P) (L (o411 P)) (L (o43 P))))) (B (o43 P) (B (o131 P) (B (o197 P) (B (o44 P) (L (o591 P)) E) (L (o43 P))) (B (o263 P) (L (o393 P)) (L (o525 P)))) (B (o44 P) (B (o229 P) (B (o361 P) (L (o625 P)) E) (L (o493 P))) (B (o295 P) (L (o44 P)) (L (o559 P))))))) (B (o46 P) (B (o59 P) (B (o53 P) (B (o111 P) (B (o177 P) (B (o307 P) (L (o43 P)) E) (L (o439 P))) (B (o241 P) (L (o43 P)) (L (o505 P)))) (B (o143 P) (B (o43 P) (B (o341 P) (L (o603 P)) E) (L (o43 P))) (B (o43 P) (L (o43 P)) (L (o43 P))))) (B (o93 P) (B (o43 P) (B (o44 P) (B (o325 P) (L (o587 P)) E) (L (o43 P))) (B (o44 P) (L (o389 P)) (L (o44 P)))) (B (o161 P) (B (o43 P) (B (o44 P) (L (o619 P)) E) (L (o489 P))) (B (o291 P) (L (o423 P)) (L (o555 P)))))) (B (o67 P) (B (o85 P) (B (o119 P) (B (o43 P) (B (o43 P) (L (o44 P)) E) (L (o43 P))) (B (o43 P) (L (o381 P)) (L (o43 P)))) (B (o43 P) (B (o217 P) (B (o43 P) (L (o611 P)) E) (L (o44 P))) (B (o283 P) (L (o44 P)) (L (o547 P))))) (B (o103 P) (B (o44 P) (B (o201 P) (B (o333 P) (L (o43 P)) E) (L (o463 P))) (B (o267 P) (L (o397 P)) (L (o529 P)))) (B (o169 P) (B (o233 P) (B (o365 P) (L (o629 P)) E) (L (o43 P))) (B (o44 P) (L (o431 P)) (L (o563 P))))))))))
noncomputable def h46 (P : Params) : Heap := ⟨#[(boot_o_0 P), (boot_o_1 P), (boot_o_2 P), (boot_o_3 P), (boot_o_4 P), (boot_o_5 P), (boot_o_6 P), (boot_o_7 P), (boot_o_8 P), (boot_o_9 P), (boot_o_10 P), (o43 P), (o44 P), (o45 P), (o46 P)], {}⟩
noncomputable def h637 (P : Params) : Heap := ⟨#[(boot_o_0 P), (boot_o_1 P), (o49 P), (o620 P), (boot_o_4 P), (boot_o_5 P), (boot_o_6 P), (boot_o_7 P), (boot_o_8 P), (boot_o_9 P), (boot_o_10 P), (o43 P), (o621 P), (o45 P), (o46 P), (o52 P), (o53 P), (o54 P), (o55 P), (o43 P), (o57 P), (o58 P), (o59 P), (o60 P), (o61 P), (o44 P), (o63 P), (o43 P), (o65 P), (o66 P), (o67 P), (o68 P), (o69 P), (o70 P), (o71 P), (o72 P), (o73 P), (o43 P), (o53 P), (o78 P), (o43 P), (o80 P), (o81 P), (o82 P), (o43 P), (o44 P), (o85 P), (o43 P), (o87 P), (o88 P), (o89 P), (o90 P), (o91 P), (o92 P), (o93 P), (o94 P), (o95 P), (o96 P), (o43 P), (o53 P), (o101 P), (o43 P), (o103 P), (o104 P), (o105 P), (o43 P), (o44 P), (o108 P), (o43 P), (o110 P), (o111 P), (o112 P), (o113 P), (o114 P), (o115 P), (o116 P), (o117 P), (o118 P), (o119 P), (o43 P), (o44 P), (o122 P), (o43 P), (o124 P), (o125 P), (o126 P), (o43 P), (o44 P), (o129 P), (o43 P), (o131 P), (o132 P), (o133 P), (o43 P), (o44 P), (o136 P), (o43 P), (o138 P), (o139 P), (o140 P), (o43 P), (o44 P), (o143 P), (o43 P), (o145 P), (o146 P), (o147 P), (o43 P), (o44 P), (o150 P), (o43 P), (o152 P), (o153 P), (o154 P), (o43 P), (o44 P), (o159 P), (o43 P), (o161 P), (o162 P), (o163 P), (o43 P), (o44 P), (o166 P), (o43 P), (o168 P), (o169 P), (o170 P), (o43 P), (o44 P), (o173 P), (o43 P), (o175 P), (o176 P), (o177 P), (o43 P), (o44 P), (o180 P), (o43 P), (o182 P), (o183 P), (o184 P), (o43 P), (o44 P), (o187 P), (o43 P), (o189 P), (o190 P), (o191 P), (o43 P), (o44 P), (o194 P), (o43 P), (o196 P), (o197 P), (o198 P), (o43 P), (o44 P), (o201 P), (o43 P), (o203 P), (o204 P), (o205 P), (o43 P), (o44 P), (o208 P), (o43 P), (o210 P), (o211 P), (o212 P), (o43 P), (o44 P), (o215 P), (o43 P), (o217 P), (o218 P), (o219 P), (o43 P), (o44 P), (o222 P), (o223 P), (o224 P), (o43 P), (o44 P), (o227 P), (o228 P), (o229 P), (o43 P), (o44 P), (o232 P), (o233 P), (o234 P), (o43 P), (o44 P), (o237 P), (o43 P), (o239 P), (o240 P), (o241 P), (o43 P), (o44 P), (o246 P), (o43 P), (o248 P), (o249 P), (o250 P), (o43 P), (o44 P), (o253 P), (o43 P), (o255 P), (o256 P), (o257 P), (o43 P), (o44 P), (o260 P), (o43 P), (o262 P), (o263 P), (o264 P), (o43 P), (o44 P), (o267 P), (o43 P), (o269 P), (o270 P), (o271 P), (o43 P), (o44 P), (o274 P), (o43 P), (o276 P), (o277 P), (o278 P), (o43 P), (o44 P), (o281 P), (o43 P), (o283 P), (o284 P), (o285 P), (o43 P), (o44 P), (o288 P), (o43 P), (o290 P), (o291 P), (o292 P), (o43 P), (o44 P), (o295 P), (o296 P), (o297 P), (o43 P), (o44 P), (o300 P), (o43 P), (o302 P), (o303 P), (o304 P), (o43 P), (o44 P), (o307 P), (o43 P), (o309 P), (o310 P), (o311 P), (o43 P), (o44 P), (o316 P), (o43 P), (o318 P), (o319 P), (o320 P), (o43 P), (o44 P), (o323 P), (o43 P), (o325 P), (o326 P), (o327 P), (o43 P), (o44 P), (o330 P), (o43 P), (o332 P), (o333 P), (o334 P), (o43 P), (o44 P), (o337 P), (o43 P), (o339 P), (o340 P), (o341 P), (o43 P), (o44 P), (o344 P), (o43 P), (o346 P), (o347 P), (o348 P), (o43 P), (o44 P), (o351 P), (o43 P), (o353 P), (o354 P), (o355 P), (o43 P), (o44 P), (o358 P), (o43 P), (o360 P), (o361 P), (o362 P), (o43 P), (o44 P), (o365 P), (o43 P), (o367 P), (o368 P), (o369 P), (o43 P), (o44 P), (o372 P), (o43 P), (o374 P), (o375 P), (o376 P), (o43 P), (o44 P), (o379 P), (o43 P), (o381 P), (o382 P), (o383 P), (o43 P), (o44 P), (o386 P), (o43 P), (o388 P), (o389 P), (o390 P), (o43 P), (o44 P), (o393 P), (o43 P), (o395 P), (o396 P), (o397 P), (o43 P), (o44 P), (o402 P), (o43 P), (o404 P), (o405 P), (o406 P), (o43 P), (o44 P), (o409 P), (o43 P), (o411 P), (o412 P), (o413 P), (o43 P), (o44 P), (o416 P), (o43 P), (o418 P), (o419 P), (o420 P), (o43 P), (o44 P), (o423 P), (o424 P), (o425 P), (o43 P), (o44 P), (o428 P), (o43 P), (o430 P), (o431 P), (o432 P), (o43 P), (o44 P), (o435 P), (o43 P), (o437 P), (o438 P), (o439 P), (o43 P), (o44 P), (o442 P), (o43 P), (o444 P), (o445 P), (o446 P), (o43 P), (o44 P), (o449 P), (o450 P), (o451 P), (o43 P), (o44 P), (o454 P), (o43 P), (o456 P), (o457 P), (o458 P), (o43 P), (o44 P), (o461 P), (o462 P), (o463 P), (o43 P), (o44 P), (o468 P), (o43 P), (o470 P), (o471 P), (o472 P), (o43 P), (o44 P), (o475 P), (o43 P), (o477 P), (o478 P), (o479 P), (o43 P), (o44 P), (o482 P), (o43 P), (o484 P), (o485 P), (o486 P), (o43 P), (o44 P), (o489 P), (o43 P), (o491 P), (o492 P), (o493 P), (o43 P), (o44 P), (o496 P), (o43 P), (o498 P), (o499 P), (o500 P), (o43 P), (o44 P), (o503 P), (o504 P), (o505 P), (o43 P), (o44 P), (o508 P), (o43 P), (o510 P), (o511 P), (o512 P), (o43 P), (o44 P), (o515 P), (o43 P), (o517 P), (o518 P), (o519 P), (o43 P), (o44 P), (o522 P), (o43 P), (o524 P), (o525 P), (o526 P), (o43 P), (o44 P), (o529 P), (o43 P), (o531 P), (o532 P), (o533 P), (o43 P), (o44 P), (o536 P), (o43 P), (o538 P), (o539 P), (o540 P), (o43 P), (o44 P), (o545 P), (o43 P), (o547 P), (o548 P), (o549 P), (o43 P), (o44 P), (o552 P), (o43 P), (o554 P), (o555 P), (o556 P), (o43 P), (o44 P), (o559 P), (o43 P), (o561 P), (o562 P), (o563 P), (o43 P), (o44 P), (o566 P), (o43 P), (o568 P), (o569 P), (o570 P), (o43 P), (o44 P), (o573 P), (o43 P), (o575 P), (o576 P), (o577 P), (o43 P), (o44 P), (o580 P), (o43 P), (o582 P), (o583 P), (o584 P), (o43 P), (o44 P), (o587 P), (o43 P), (o589 P), (o590 P), (o591 P), (o43 P), (o44 P), (o594 P), (o43 P), (o596 P), (o597 P), (o598 P), (o43 P), (o44 P), (o601 P), (o43 P), (o603 P), (o604 P), (o605 P), (o43 P), (o44 P), (o608 P), (o43 P), (o610 P), (o611 P), (o612 P), (o43 P), (o44 P), (o615 P), (o43 P), (o617 P), (o618 P), (o619 P), (o43 P), (o44 P), (o624 P), (o625 P), (o626 P), (o43 P), (o44 P), (o629 P), (o630 P), (o631 P), (o43 P), (o44 P), (o634 P), (o635 P), (o636 P)], {}⟩
end Hp
open Hp (z)
noncomputable def hd.heap_39 (P : Params) : Frag := (nat_lit 2, Hp.o49 P) :: (nat_lit 3, Hp.o620 P) :: (nat_lit 15, Hp.o52 P) :: (nat_lit 18, Hp.o55 P) :: (nat_lit 23, Hp.o60 P) :: (nat_lit 24, Hp.o61 P) :: (nat_lit 26, Hp.o63 P) :: (nat_lit 27, Hp.o43 P) :: (nat_lit 29, Hp.o66 P) :: (nat_lit 30, Hp.o67 P) :: (nat_lit 31, Hp.o68 P) :: (nat_lit 32, Hp.o69 P) :: (nat_lit 33, Hp.o70 P) :: (nat_lit 34, Hp.o71 P) :: (nat_lit 44, Hp.o43 P) :: (nat_lit 46, Hp.o85 P) :: (nat_lit 47, Hp.o43 P) :: (nat_lit 49, Hp.o88 P) :: (nat_lit 50, Hp.o89 P) :: (nat_lit 51, Hp.o90 P) :: (nat_lit 52, Hp.o91 P) :: (nat_lit 53, Hp.o92 P) :: (nat_lit 54, Hp.o93 P) :: (nat_lit 55, Hp.o94 P) :: (nat_lit 65, Hp.o43 P) :: (nat_lit 67, Hp.o108 P) :: (nat_lit 68, Hp.o43 P) :: (nat_lit 70, Hp.o111 P) :: (nat_lit 71, Hp.o112 P) :: (nat_lit 72, Hp.o113 P) :: (nat_lit 73, Hp.o114 P) :: (nat_lit 74, Hp.o115 P) :: (nat_lit 75, Hp.o116 P) :: (nat_lit 76, Hp.o117 P) :: (nat_lit 79, Hp.o43 P) :: (nat_lit 81, Hp.o122 P) :: (nat_lit 82, Hp.o43 P) :: (nat_lit 84, Hp.o125 P) :: (nat_lit 85, Hp.o126 P) :: (nat_lit 86, Hp.o43 P) :: (nat_lit 88, Hp.o129 P) :: (nat_lit 89, Hp.o43 P) :: (nat_lit 91, Hp.o132 P) :: (nat_lit 92, Hp.o133 P) :: (nat_lit 93, Hp.o43 P) :: (nat_lit 95, Hp.o136 P) :: (nat_lit 96, Hp.o43 P) :: (nat_lit 98, Hp.o139 P) :: (nat_lit 99, Hp.o140 P) :: (nat_lit 100, Hp.o43 P) :: (nat_lit 102, Hp.o143 P) :: (nat_lit 103, Hp.o43 P) :: (nat_lit 105, Hp.o146 P) :: (nat_lit 106, Hp.o147 P) :: (nat_lit 107, Hp.o43 P) :: (nat_lit 109, Hp.o150 P) :: (nat_lit 110, Hp.o43 P) :: (nat_lit 112, Hp.o153 P) :: (nat_lit 113, Hp.o154 P) :: (nat_lit 114, Hp.o43 P) :: (nat_lit 116, Hp.o159 P) :: (nat_lit 117, Hp.o43 P) :: (nat_lit 119, Hp.o162 P) :: (nat_lit 120, Hp.o163 P) :: (nat_lit 121, Hp.o43 P) :: (nat_lit 123, Hp.o166 P) :: (nat_lit 124, Hp.o43 P) :: (nat_lit 126, Hp.o169 P) :: (nat_lit 127, Hp.o170 P) :: (nat_lit 128, Hp.o43 P) :: (nat_lit 130, Hp.o173 P) :: (nat_lit 131, Hp.o43 P) :: (nat_lit 133, Hp.o176 P) :: (nat_lit 134, Hp.o177 P) :: (nat_lit 135, Hp.o43 P) :: (nat_lit 137, Hp.o180 P) :: (nat_lit 138, Hp.o43 P) :: (nat_lit 140, Hp.o183 P) :: (nat_lit 141, Hp.o184 P) :: (nat_lit 142, Hp.o43 P) :: (nat_lit 144, Hp.o187 P) :: (nat_lit 145, Hp.o43 P) :: (nat_lit 147, Hp.o190 P) :: (nat_lit 148, Hp.o191 P) :: (nat_lit 149, Hp.o43 P) :: (nat_lit 151, Hp.o194 P) :: (nat_lit 152, Hp.o43 P) :: (nat_lit 154, Hp.o197 P) :: (nat_lit 155, Hp.o198 P) :: (nat_lit 156, Hp.o43 P) :: (nat_lit 158, Hp.o201 P) :: (nat_lit 159, Hp.o43 P) :: (nat_lit 161, Hp.o204 P) :: (nat_lit 162, Hp.o205 P) :: (nat_lit 163, Hp.o43 P) :: (nat_lit 165, Hp.o208 P) :: (nat_lit 166, Hp.o43 P) :: (nat_lit 168, Hp.o211 P) :: (nat_lit 169, Hp.o212 P) :: (nat_lit 170, Hp.o43 P) :: (nat_lit 172, Hp.o215 P) :: (nat_lit 173, Hp.o43 P) :: (nat_lit 175, Hp.o218 P) :: (nat_lit 176, Hp.o219 P) :: (nat_lit 177, Hp.o43 P) :: (nat_lit 180, Hp.o223 P) :: (nat_lit 181, Hp.o224 P) :: (nat_lit 182, Hp.o43 P) :: (nat_lit 185, Hp.o228 P) :: (nat_lit 186, Hp.o229 P) :: (nat_lit 187, Hp.o43 P) :: (nat_lit 190, Hp.o233 P) :: (nat_lit 191, Hp.o234 P) :: (nat_lit 192, Hp.o43 P) :: (nat_lit 194, Hp.o237 P) :: (nat_lit 195, Hp.o43 P) :: (nat_lit 197, Hp.o240 P) :: (nat_lit 198, Hp.o241 P) :: (nat_lit 199, Hp.o43 P) :: (nat_lit 201, Hp.o246 P) :: (nat_lit 202, Hp.o43 P) :: (nat_lit 204, Hp.o249 P) :: (nat_lit 205, Hp.o250 P) :: (nat_lit 206, Hp.o43 P) :: (nat_lit 208, Hp.o253 P) :: (nat_lit 209, Hp.o43 P) :: (nat_lit 211, Hp.o256 P) :: (nat_lit 212, Hp.o257 P) :: (nat_lit 213, Hp.o43 P) :: (nat_lit 215, Hp.o260 P) :: (nat_lit 216, Hp.o43 P) :: (nat_lit 218, Hp.o263 P) :: (nat_lit 219, Hp.o264 P) :: (nat_lit 220, Hp.o43 P) :: (nat_lit 222, Hp.o267 P) :: (nat_lit 223, Hp.o43 P) :: (nat_lit 225, Hp.o270 P) :: (nat_lit 226, Hp.o271 P) :: (nat_lit 227, Hp.o43 P) :: (nat_lit 229, Hp.o274 P) :: (nat_lit 230, Hp.o43 P) :: (nat_lit 232, Hp.o277 P) :: (nat_lit 233, Hp.o278 P) :: (nat_lit 234, Hp.o43 P) :: (nat_lit 236, Hp.o281 P) :: (nat_lit 237, Hp.o43 P) :: (nat_lit 239, Hp.o284 P) :: (nat_lit 240, Hp.o285 P) :: (nat_lit 241, Hp.o43 P) :: (nat_lit 243, Hp.o288 P) :: (nat_lit 244, Hp.o43 P) :: (nat_lit 246, Hp.o291 P) :: (nat_lit 247, Hp.o292 P) :: (nat_lit 248, Hp.o43 P) :: (nat_lit 251, Hp.o296 P) :: (nat_lit 252, Hp.o297 P) :: (nat_lit 253, Hp.o43 P) :: (nat_lit 255, Hp.o300 P) :: (nat_lit 256, Hp.o43 P) :: (nat_lit 258, Hp.o303 P) :: (nat_lit 259, Hp.o304 P) :: (nat_lit 260, Hp.o43 P) :: (nat_lit 262, Hp.o307 P) :: (nat_lit 263, Hp.o43 P) :: (nat_lit 265, Hp.o310 P) :: (nat_lit 266, Hp.o311 P) :: (nat_lit 267, Hp.o43 P) :: (nat_lit 269, Hp.o316 P) :: (nat_lit 270, Hp.o43 P) :: (nat_lit 272, Hp.o319 P) :: (nat_lit 273, Hp.o320 P) :: (nat_lit 274, Hp.o43 P) :: (nat_lit 276, Hp.o323 P) :: (nat_lit 277, Hp.o43 P) :: (nat_lit 279, Hp.o326 P) :: (nat_lit 280, Hp.o327 P) :: (nat_lit 281, Hp.o43 P) :: (nat_lit 283, Hp.o330 P) :: (nat_lit 284, Hp.o43 P) :: (nat_lit 286, Hp.o333 P) :: (nat_lit 287, Hp.o334 P) :: (nat_lit 288, Hp.o43 P) :: (nat_lit 290, Hp.o337 P) :: (nat_lit 291, Hp.o43 P) :: (nat_lit 293, Hp.o340 P) :: (nat_lit 294, Hp.o341 P) :: (nat_lit 295, Hp.o43 P) :: (nat_lit 297, Hp.o344 P) :: (nat_lit 298, Hp.o43 P) :: (nat_lit 300, Hp.o347 P) :: (nat_lit 301, Hp.o348 P) :: (nat_lit 302, Hp.o43 P) :: (nat_lit 304, Hp.o351 P) :: (nat_lit 305, Hp.o43 P) :: (nat_lit 307, Hp.o354 P) :: (nat_lit 308, Hp.o355 P) :: (nat_lit 309, Hp.o43 P) :: (nat_lit 311, Hp.o358 P) :: (nat_lit 312, Hp.o43 P) :: (nat_lit 314, Hp.o361 P) :: (nat_lit 315, Hp.o362 P) :: (nat_lit 316, Hp.o43 P) :: (nat_lit 318, Hp.o365 P) :: (nat_lit 319, Hp.o43 P) :: (nat_lit 321, Hp.o368 P) :: (nat_lit 322, Hp.o369 P) :: (nat_lit 323, Hp.o43 P) :: (nat_lit 325, Hp.o372 P) :: (nat_lit 326, Hp.o43 P) :: (nat_lit 328, Hp.o375 P) :: (nat_lit 329, Hp.o376 P) :: (nat_lit 330, Hp.o43 P) :: (nat_lit 332, Hp.o379 P) :: (nat_lit 333, Hp.o43 P) :: (nat_lit 335, Hp.o382 P) :: (nat_lit 336, Hp.o383 P) :: (nat_lit 337, Hp.o43 P) :: (nat_lit 339, Hp.o386 P) :: (nat_lit 340, Hp.o43 P) :: (nat_lit 342, Hp.o389 P) :: (nat_lit 343, Hp.o390 P) :: (nat_lit 344, Hp.o43 P) :: (nat_lit 346, Hp.o393 P) :: (nat_lit 347, Hp.o43 P) :: (nat_lit 349, Hp.o396 P) :: (nat_lit 350, Hp.o397 P) :: (nat_lit 351, Hp.o43 P) :: (nat_lit 353, Hp.o402 P) :: (nat_lit 354, Hp.o43 P) :: (nat_lit 356, Hp.o405 P) :: (nat_lit 357, Hp.o406 P) :: (nat_lit 358, Hp.o43 P) :: (nat_lit 360, Hp.o409 P) :: (nat_lit 361, Hp.o43 P) :: (nat_lit 363, Hp.o412 P) :: (nat_lit 364, Hp.o413 P) :: (nat_lit 365, Hp.o43 P) :: (nat_lit 367, Hp.o416 P) :: (nat_lit 368, Hp.o43 P) :: (nat_lit 370, Hp.o419 P) :: (nat_lit 371, Hp.o420 P) :: (nat_lit 372, Hp.o43 P) :: (nat_lit 375, Hp.o424 P) :: (nat_lit 376, Hp.o425 P) :: (nat_lit 377, Hp.o43 P) :: (nat_lit 379, Hp.o428 P) :: (nat_lit 380, Hp.o43 P) :: (nat_lit 382, Hp.o431 P) :: (nat_lit 383, Hp.o432 P) :: (nat_lit 384, Hp.o43 P) :: (nat_lit 386, Hp.o435 P) :: (nat_lit 387, Hp.o43 P) :: (nat_lit 389, Hp.o438 P) :: (nat_lit 390, Hp.o439 P) :: (nat_lit 391, Hp.o43 P) :: (nat_lit 393, Hp.o442 P) :: (nat_lit 394, Hp.o43 P) :: (nat_lit 396, Hp.o445 P) :: (nat_lit 397, Hp.o446 P) :: (nat_lit 398, Hp.o43 P) :: (nat_lit 401, Hp.o450 P) :: (nat_lit 402, Hp.o451 P) :: (nat_lit 403, Hp.o43 P) :: (nat_lit 405, Hp.o454 P) :: (nat_lit 406, Hp.o43 P) :: (nat_lit 408, Hp.o457 P) :: (nat_lit 409, Hp.o458 P) :: (nat_lit 410, Hp.o43 P) :: (nat_lit 413, Hp.o462 P) :: (nat_lit 414, Hp.o463 P) :: (nat_lit 415, Hp.o43 P) :: (nat_lit 417, Hp.o468 P) :: (nat_lit 418, Hp.o43 P) :: (nat_lit 420, Hp.o471 P) :: (nat_lit 421, Hp.o472 P) :: (nat_lit 422, Hp.o43 P) :: (nat_lit 424, Hp.o475 P) :: (nat_lit 425, Hp.o43 P) :: (nat_lit 427, Hp.o478 P) :: (nat_lit 428, Hp.o479 P) :: (nat_lit 429, Hp.o43 P) :: (nat_lit 431, Hp.o482 P) :: (nat_lit 432, Hp.o43 P) :: (nat_lit 434, Hp.o485 P) :: (nat_lit 435, Hp.o486 P) :: (nat_lit 436, Hp.o43 P) :: (nat_lit 438, Hp.o489 P) :: (nat_lit 439, Hp.o43 P) :: (nat_lit 441, Hp.o492 P) :: (nat_lit 442, Hp.o493 P) :: (nat_lit 443, Hp.o43 P) :: (nat_lit 445, Hp.o496 P) :: (nat_lit 446, Hp.o43 P) :: (nat_lit 448, Hp.o499 P) :: (nat_lit 449, Hp.o500 P) :: (nat_lit 450, Hp.o43 P) :: (nat_lit 453, Hp.o504 P) :: (nat_lit 454, Hp.o505 P) :: (nat_lit 455, Hp.o43 P) :: (nat_lit 457, Hp.o508 P) :: (nat_lit 458, Hp.o43 P) :: (nat_lit 460, Hp.o511 P) :: (nat_lit 461, Hp.o512 P) :: (nat_lit 462, Hp.o43 P) :: (nat_lit 464, Hp.o515 P) :: (nat_lit 465, Hp.o43 P) :: (nat_lit 467, Hp.o518 P) :: (nat_lit 468, Hp.o519 P) :: (nat_lit 469, Hp.o43 P) :: (nat_lit 471, Hp.o522 P) :: (nat_lit 472, Hp.o43 P) :: (nat_lit 474, Hp.o525 P) :: (nat_lit 475, Hp.o526 P) :: (nat_lit 476, Hp.o43 P) :: (nat_lit 478, Hp.o529 P) :: (nat_lit 479, Hp.o43 P) :: (nat_lit 481, Hp.o532 P) :: (nat_lit 482, Hp.o533 P) :: (nat_lit 483, Hp.o43 P) :: (nat_lit 485, Hp.o536 P) :: (nat_lit 486, Hp.o43 P) :: (nat_lit 488, Hp.o539 P) :: (nat_lit 489, Hp.o540 P) :: (nat_lit 490, Hp.o43 P) :: (nat_lit 492, Hp.o545 P) :: (nat_lit 493, Hp.o43 P) :: (nat_lit 495, Hp.o548 P) :: (nat_lit 496, Hp.o549 P) :: (nat_lit 497, Hp.o43 P) :: (nat_lit 499, Hp.o552 P) :: (nat_lit 500, Hp.o43 P) :: (nat_lit 502, Hp.o555 P) :: (nat_lit 503, Hp.o556 P) :: (nat_lit 504, Hp.o43 P) :: (nat_lit 506, Hp.o559 P) :: (nat_lit 507, Hp.o43 P) :: (nat_lit 509, Hp.o562 P) :: (nat_lit 510, Hp.o563 P) :: (nat_lit 511, Hp.o43 P) :: (nat_lit 513, Hp.o566 P) :: (nat_lit 514, Hp.o43 P) :: (nat_lit 516, Hp.o569 P) :: (nat_lit 517, Hp.o570 P) :: (nat_lit 518, Hp.o43 P) :: (nat_lit 520, Hp.o573 P) :: (nat_lit 521, Hp.o43 P) :: (nat_lit 523, Hp.o576 P) :: (nat_lit 524, Hp.o577 P) :: (nat_lit 525, Hp.o43 P) :: (nat_lit 527, Hp.o580 P) :: (nat_lit 528, Hp.o43 P) :: (nat_lit 530, Hp.o583 P) :: (nat_lit 531, Hp.o584 P) :: (nat_lit 532, Hp.o43 P) :: (nat_lit 534, Hp.o587 P) :: (nat_lit 535, Hp.o43 P) :: (nat_lit 537, Hp.o590 P) :: (nat_lit 538, Hp.o591 P) :: (nat_lit 539, Hp.o43 P) :: (nat_lit 541, Hp.o594 P) :: (nat_lit 542, Hp.o43 P) :: (nat_lit 544, Hp.o597 P) :: (nat_lit 545, Hp.o598 P) :: (nat_lit 546, Hp.o43 P) :: (nat_lit 548, Hp.o601 P) :: (nat_lit 549, Hp.o43 P) :: (nat_lit 551, Hp.o604 P) :: (nat_lit 552, Hp.o605 P) :: (nat_lit 553, Hp.o43 P) :: (nat_lit 555, Hp.o608 P) :: (nat_lit 556, Hp.o43 P) :: (nat_lit 558, Hp.o611 P) :: (nat_lit 559, Hp.o612 P) :: (nat_lit 560, Hp.o43 P) :: (nat_lit 562, Hp.o615 P) :: (nat_lit 563, Hp.o43 P) :: (nat_lit 565, Hp.o618 P) :: (nat_lit 566, Hp.o619 P) :: (nat_lit 567, Hp.o43 P) :: (nat_lit 570, Hp.o625 P) :: (nat_lit 571, Hp.o626 P) :: (nat_lit 572, Hp.o43 P) :: (nat_lit 575, Hp.o630 P) :: (nat_lit 576, Hp.o631 P) :: (nat_lit 577, Hp.o43 P) :: (nat_lit 580, Hp.o635 P) :: (nat_lit 581, Hp.o636 P) :: []
noncomputable def hd.as_ : List Addr := [2, 3, 15, 18, 23, 24, 26, 27, 29, 30, 31, 32, 33, 34, 44, 46, 47, 49, 50, 51, 52, 53, 54, 55, 65, 67, 68, 70, 71, 72, 73, 74, 75, 76, 79, 81, 82, 84, 85, 86, 88, 89, 91, 92, 93, 95, 96, 98, 99, 100, 102, 103, 105, 106, 107, 109, 110, 112, 113, 114, 116, 117, 119, 120, 121, 123, 124, 126, 127, 128, 130, 131, 133, 134, 135, 137, 138, 140, 141, 142, 144, 145, 147, 148, 149, 151, 152, 154, 155, 156, 158, 159, 161, 162, 163, 165, 166, 168, 169, 170, 172, 173, 175, 176, 177, 180, 181, 182, 185, 186, 187, 190, 191, 192, 194, 195, 197, 198, 199, 201, 202, 204, 205, 206, 208, 209, 211, 212, 213, 215, 216, 218, 219, 220, 222, 223, 225, 226, 227, 229, 230, 232, 233, 234, 236, 237, 239, 240, 241, 243, 244, 246, 247, 248, 251, 252, 253, 255, 256, 258, 259, 260, 262, 263, 265, 266, 267, 269, 270, 272, 273, 274, 276, 277, 279, 280, 281, 283, 284, 286, 287, 288, 290, 291, 293, 294, 295, 297, 298, 300, 301, 302, 304, 305, 307, 308, 309, 311, 312, 314, 315, 316, 318, 319, 321, 322, 323, 325, 326, 328, 329, 330, 332, 333, 335, 336, 337, 339, 340, 342, 343, 344, 346, 347, 349, 350, 351, 353, 354, 356, 357, 358, 360, 361, 363, 364, 365, 367, 368, 370, 371, 372, 375, 376, 377, 379, 380, 382, 383, 384, 386, 387, 389, 390, 391, 393, 394, 396, 397, 398, 401, 402, 403, 405, 406, 408, 409, 410, 413, 414, 415, 417, 418, 420, 421, 422, 424, 425, 427, 428, 429, 431, 432, 434, 435, 436, 438, 439, 441, 442, 443, 445, 446, 448, 449, 450, 453, 454, 455, 457, 458, 460, 461, 462, 464, 465, 467, 468, 469, 471, 472, 474, 475, 476, 478, 479, 481, 482, 483, 485, 486, 488, 489, 490, 492, 493, 495, 496, 497, 499, 500, 502, 503, 504, 506, 507, 509, 510, 511, 513, 514, 516, 517, 518, 520, 521, 523, 524, 525, 527, 528, 530, 531, 532, 534, 535, 537, 538, 539, 541, 542, 544, 545, 546, 548, 549, 551, 552, 553, 555, 556, 558, 559, 560, 562, 563, 565, 566, 567, 570, 571, 572, 575, 576, 577, 580, 581]
noncomputable def hd.view_39 : Program := { pw with main := { pw.main with body := [Hp.C 1, Hp.C 2, Hp.C 3, Hp.C 4, Hp.C 5, Hp.C 6, Hp.C 7, Hp.C 8, Hp.C 9, Hp.C 10, Hp.C 11, Hp.C 12, Hp.C 13, Hp.C 14, Hp.C 15, Hp.C 16, Hp.C 17, Hp.C 18, Hp.C 19, Hp.C 20, Hp.C 21, Hp.C 22, Hp.C 23, Hp.C 24, Hp.C 25, Hp.C 26, Hp.C 27, Hp.C 28, Hp.C 29, Hp.C 30, Hp.C 31, Hp.C 32, Hp.C 34, Hp.C 35, Hp.C 37, Hp.C 38, Hp.C 39, Hp.C 40, Hp.C 41, Hp.C 42, Hp.C 43, Hp.C 44, Hp.C 45, Hp.C 46, Hp.C 47, Hp.C 48, Hp.C 49, Hp.C 50, Hp.C 51, Hp.C 52, Hp.C 53, Hp.C 54, Hp.C 55, Hp.C 56, Hp.C 57, Hp.C 58, Hp.C 59, Hp.C 60, Hp.C 61, Hp.C 63, Hp.C 64, Hp.C 65, Hp.C 66, Hp.C 67, Hp.C 68, Hp.C 69, Hp.C 70, Hp.C 71, Hp.C 73, Hp.C 74, Hp.C 75, Hp.C 76, Hp.C 77, Hp.C 78, Hp.C 79, Hp.C 80, Hp.C 81, Hp.C 82, Hp.C 83, Hp.C 84, Hp.C 85, Hp.C 86, Hp.C 87, Hp.C 88, Hp.C 89, Hp.C 90, Hp.C 91, Hp.C 92, Hp.C 93, Hp.C 94, Hp.C 95, Hp.C 96, Hp.C 97, Hp.C 98, Hp.C 99, Hp.C 100, Hp.C 101, Hp.C 102, Hp.C 104, Hp.C 105, Hp.C 106, Hp.C 107] } }
/-! the steps of the top -/
noncomputable abbrev an0 : Option Value := some (.ref 6)
noncomputable abbrev p0 : Pos := ⟨0, 0, 0, 0⟩
noncomputable def ev : Env := { scope := pw.main.scope, locals := mainNs, globals := mainNs, cells := [], code := .ref 13, frame := some 14 }
noncomputable abbrev cE : Code := .body (behindTheImports pw) ev
noncomputable abbrev BF : List Frame := [topFrame p0]
noncomputable def sl (n m : Nat) : List Stmt := (pw.main.body.drop n).take m
noncomputable abbrev ST (t : Params → BT) (n k : Nat) (w : World) (os : OsState) : SharedT := ⟨t w.params, n, {}, ⟨[]⟩, {}, k, os⟩
noncomputable def Seg (N : Nat) (t : Params → BT) (n k : Nat) (l : List Stmt) (p : Pos) (t' : Params → BT) (n' k' : Nat) (p' : Pos) : Prop := ∀ w : World,
  (fun os => segRunT treeTable pw w 11 an0 1 N (ST t n k w os) (piecesOf l ev cE p BF)) = fun os => some (Flow.next, ST t' n' k' w os, cE, p')
theorem Seg.of {N : Nat} {t : Params → BT} {n k : Nat} {l : List Stmt} {p : Pos} {t' : Params → BT} {n' k' : Nat} {p' : Pos} (h : ∀ w : World,
    (fun os => PySem.W.Fast.tw10110043849684766642 PySem.W.Fast.tw14364793385576792824 pw w 11 an0 1 N (ST t n k w os) (piecesOf l ev cE p BF)) = fun os => some (Flow.next, ST t' n' k' w os, cE, p')) : Seg N t n k l p t' n' k' p' := by
  intro w
  rw [PySem.W.Fast.te10110043849684766642, PySem.W.Fast.te14364793385576792824]
  exact h w
theorem seg0 : Seg 308 Hp.t47 15 187 (sl 0 8) ⟨0, 0, 0, 0⟩ Hp.t73 37 232 ⟨8, 0, 12, 24⟩ := Seg.of fun w => by kernel_rfl
theorem seg1 : Seg 232 Hp.t73 37 232 (sl 8 1) ⟨8, 0, 12, 24⟩ Hp.t96 58 270 ⟨13, 0, 24, 45⟩ := Seg.of fun w => by kernel_rfl
theorem seg2 : Seg 375 Hp.t96 58 270 (sl 9 6) ⟨13, 0, 24, 45⟩ Hp.t154 114 341 ⟨42, 0, 44, 36⟩ := Seg.of fun w => by kernel_rfl
theorem seg3 : Seg 391 Hp.t154 114 341 (sl 15 13) ⟨42, 0, 44, 36⟩ Hp.t241 199 451 ⟨101, 0, 107, 16⟩ := Seg.of fun w => by kernel_rfl
theorem seg4 : Seg 393 Hp.t241 199 451 (sl 28 19) ⟨101, 0, 107, 16⟩ Hp.t311 267 562 ⟨157, 0, 158, 47⟩ := Seg.of fun w => by kernel_rfl
theorem seg5 : Seg 373 Hp.t311 267 562 (sl 47 12) ⟨157, 0, 158, 47⟩ Hp.t397 351 670 ⟨186, 0, 189, 44⟩ := Seg.of fun w => by kernel_rfl
theorem seg6 : Seg 394 Hp.t397 351 670 (sl 59 20) ⟨186, 0, 189, 44⟩ Hp.t463 415 779 ⟨235, 0, 235, 9⟩ := Seg.of fun w => by kernel_rfl
theorem seg7 : Seg 373 Hp.t463 415 779 (sl 79 14) ⟨235, 0, 235, 9⟩ Hp.t540 490 884 ⟨293, 0, 295, 15⟩ := Seg.of fun w => by kernel_rfl
theorem seg8 : Seg 386 Hp.t540 490 884 (sl 93 12) ⟨293, 0, 295, 15⟩ Hp.t619 567 1020 ⟨391, 0, 396, 66⟩ := Seg.of fun w => by kernel_rfl
theorem seg9 : Seg 79 Hp.t619 567 1020 (sl 105 3) ⟨391, 0, 396, 66⟩ Hp.t636 582 1038 ⟨416, 0, 436, 15⟩ := Seg.of fun w => by kernel_rfl
theorem pre_ (w : World) : (fun os => topGo treeTable pw w 11 an0 12 ⟨boot_heap w.params, ⟨[]⟩, boot_drawn, boot_toks, os⟩ (topStub pw)) = fun os => some (⟨Hp.h46 w.params, ⟨[]⟩, {}, 187, os⟩, ⟨denote treeTable cE, cE, p0, BF⟩) := by
  rw [PySem.W.Fast.te15667345088766844465, PySem.W.Fast.te11892475500146522536, PySem.W.Fast.te14364793385576792824]
  kernel_rfl
theorem blk_ (w : World) : (fun os => segRun treeTable pw w 11 an0 1 1 ⟨Hp.h46 w.params, ⟨[]⟩, {}, 187, os⟩ (blockOf (behindTheImports pw) ev cE p0 BF)) = fun os => some (Flow.next, (ST Hp.t47 15 187 w os).abs, cE, p0) := by
  rw [PySem.W.Fast.te14374325043358763698, PySem.W.Fast.te14364793385576792824]
  kernel_rfl
theorem fin_ (w : World) : (fun os => topRun treeTable pw w 11 an0 2 (ST Hp.t636 582 1038 w os).abs ⟨doneF Flow.next, cE, ⟨416, 0, 436, 15⟩, BF⟩) = fun os => some ⟨Hp.h637 w.params, ⟨[]⟩, {}, 1038, os⟩ := by
  rw [PySem.W.Fast.te14082659384304107361, PySem.W.Fast.te14364793385576792824]
  kernel_rfl
theorem body_ : behindTheImports pw = sl 0 8 ++ (sl 8 1 ++ (sl 9 6 ++ (sl 15 13 ++ (sl 28 19 ++ (sl 47 12 ++ (sl 59 20 ++ (sl 79 14 ++ (sl 93 12 ++ (sl 105 3 ++ []))))))))) := by kernel_rfl
theorem run_ (w : World) (os : OsState) : topRun treeTable pw w 11 an0 (Nat.add 12 (Nat.add 1 (Nat.add 308 (Nat.add 232 (Nat.add 375 (Nat.add 391 (Nat.add 393 (Nat.add 373 (Nat.add 394 (Nat.add 373 (Nat.add 386 (Nat.add 79 (2))))))))))))) ⟨boot_heap w.params, ⟨[]⟩, boot_drawn, boot_toks, os⟩ (topStub pw) = some ⟨Hp.h637 w.params, ⟨[]⟩, {}, 1038, os⟩ := by
  refine go_top (congrFun (pre_ w) os) (piece_block (congrFun (blk_ w) os) ?_)
  rw [body_]
  exact piece_app (segRun_of (congrFun (seg0 w) os)) (piece_app (segRun_of (congrFun (seg1 w) os)) (piece_app (segRun_of (congrFun (seg2 w) os)) (piece_app (segRun_of (congrFun (seg3 w) os)) (piece_app (segRun_of (congrFun (seg4 w) os)) (piece_app (segRun_of (congrFun (seg5 w) os)) (piece_app (segRun_of (congrFun (seg6 w) os)) (piece_app (segRun_of (congrFun (seg7 w) os)) (piece_app (segRun_of (congrFun (seg8 w) os)) (piece_app (segRun_of (congrFun (seg9 w) os)) (congrFun (fin_ w) os))))))))))
end Mine
end
end

section
noncomputable section
open PySem PySem.W PySem.Calls PyProof.Rows
set_option maxRecDepth 100000
set_option maxHeartbeats 0
namespace Mine
open Hp (z)
theorem said_ : OpenLaw.wellSaid rw_ = true := by
  unfold OpenLaw.wellSaid OpenRow.wellSaid OpenRow.partSaid looksOpen
  repeat' (with_reducible refine look_both ?_ ?_)
  all_goals (
    (try rw [PySem.W.Fast.te2368527892694137696]); (try rw [PySem.W.Fast.te11788848310118352699]); (try rw [PySem.W.Fast.te9807087744658564304]); (try rw [PySem.W.Fast.te12862048085361865435]); (try rw [PySem.W.Fast.te8377067652309620493])
    (try rw [PySem.W.R.allR_eq]); (try rw [PySem.W.Fast.te18344453789297297638]); (try rw [PySem.W.Fast.te3471404346716756564]); (try rw [PySem.W.Fast.sDec_eq]); (try rw [PySem.W.Fast.te14412699480532031325])
    (try rw [PySem.W.Fast.te8326940854005059898]); (try rw [PySem.W.Fast.te5923862056798008813]); (try rw [PySem.W.Fast.te17691160309236699985]); (try rw [PySem.W.R.filterR_eq]); (try rw [PySem.W.Fast.te13343964577679436407])
    (try rw [PySem.W.Fast.te17119622794617984870]); (try rw [PySem.W.Fast.te17868728402115742887]); (try rw [PySem.W.Fast.te9706382859710513879]); (try rw [PySem.W.Fast.te2357444279172408678]); (try rw [PySem.W.R.mapR_eq]); (try rw [PySem.W.Fast.te4857012375875476094]); (try rw [PySem.W.Fast.named_eq])
    (try rw [PySem.W.Fast.te13582783067957832011]); (try rw [PySem.W.Fast.te5318747976498570220]); (try rw [PySem.W.R.anyR_eq]); (try rw [PySem.W.Fast.te4274047373036748609]); (try rw [PySem.W.Fast.te12749700546528644094])
    (try rw [PySem.W.Fast.te10501279942588096481]); (try rw [PySem.W.Fast.te8179353310426384613]); (try rw [PySem.W.Fast.te797321630700447069]); (try rw [PySem.W.Fast.te9572597257264208301]); (try rw [PySem.W.Fast.te9558739934217749035]); (try rw [PySem.W.Fast.te16286561074155671207])
    (try rw [PySem.W.Fast.te6984425678791042302]); (try rw [PySem.W.Fast.te17095254045102204799]); (try rw [PySem.W.Fast.te12879404354523853263]); (try rw [PySem.W.Fast.te482687673346738481]); (try rw [PySem.W.Fast.te10792542408131684335]); (try rw [PySem.W.Fast.te7723801398212525404])
    kernel_rfl)
theorem asE (P : Params) : hd.as_ = (hd.heap_39 P).map (·.1) := by kernel_rfl
noncomputable abbrev HK : Hook := kHook hd.heap_39 hd.as_ asE
noncomputable abbrev lo : List Str := [z "GREATEST_EXTENT"]
noncomputable abbrev xs_ : List (Str × WData) := [(z "GREATEST_EXTENT", WData.int 2048)]
noncomputable abbrev Sh (w : World) (os : OsState) : Shared := ⟨Hp.h637 w.params, ⟨[]⟩, {}, 1038, os⟩
noncomputable abbrev Xt_ : Shared → Bool := fun s => xlAt hd.view_39 xs_ s && recOk (RowW.records rw_.row.toRowW) s
theorem size_ (w : World) : ((boot_heap w.params).isNs mainGlobals && (⟨[]⟩ : Array GenState).size == 0, (boot_heap w.params).objs.size, (boot_heap w.params).nsMap mainGlobals "__annotations__") = (true, 11, an0) := by
  rw [PySem.W.Fast.te8920871248978507458]
  kernel_rfl
theorem lk1 (w : World) : (fun os => staticsOk (importedModules pw.main.body) (boot_heap w.params) (Hp.h637 w.params) && namesBound pw (Hp.h637 w.params) && gensDone (Sh w os) && laidKept (boot_heap w.params) (Hp.h637 w.params)) = fun os => true := by
  rw [PySem.W.Fast.te5923862056798008813]
  kernel_rfl
theorem lk2 (w : World) : (fun os => seen ((recsOf hd.view_39).map (·.name)) (ownsOf hd.view_39) [] { Sh w os with gens := #[] }) = fun os => expectedOf hd.view_39 := by
  rw [PySem.W.Fast.te5160383126252970620, PySem.W.R.mapR_eq, PySem.W.Fast.te3399658132070893891, PySem.W.Fast.te5991557255702980513]
  kernel_rfl
theorem lk3 (w : World) : (fun os => (Sh w os).heap.bltView) = fun os => bltViewBooted := by
  kernel_rfl
theorem lk4 (w : World) : (fun os => (Sh w os).heap.keysOk (looseW hd.view_39 lo) ((recsOf hd.view_39).map (·.name)) ((litsOf hd.view_39).map (·.1)) ((clssOf hd.view_39 (looseW hd.view_39 lo)).map (·.name)) && (Sh w os).heap.accountedOkI (importedModules pw.main.body) && (Sh w os).heap.isNs mainGlobals && (Sh w os).heap.isNs builtinsNs && tablesOk hd.view_39 (Sh w os).heap && Xt_ (Sh w os) && (if true = true then (Sh w os).gens.size == 0 else !leftWithCleanup (Sh w os).gens)) = fun os => true := by
  rw [PySem.W.Fast.te10880121769531294198, PySem.W.Fast.te821141287760084731, PySem.W.R.mapR_eq, PySem.W.Fast.te3399658132070893891, PySem.W.Fast.te7409074990110511671, PySem.W.Fast.te13664370479719496447, PySem.W.Fast.te14722251495701143533, PySem.W.Fast.te5923862056798008813, PySem.W.Fast.te10994771534591457954]
  kernel_rfl
theorem lk5 (w : World) : (fun os => tabsOk hd.view_39 (Sh w os)) = fun os => true := by
  rw [PySem.W.Fast.te479339242167458305]
  kernel_rfl
theorem lk6 (w : World) : (fun os => pinSeenD hd.view_39 (drecsOf hd.view_39) (Sh w os)) = fun os => pinGoodD (drecsOf hd.view_39) := by
  rw [PySem.W.Fast.te16090120013241838585, PySem.W.Fast.te3247288618530077131]
  kernel_rfl
theorem lk7 (w : World) : (fun os => plainSeenE hd.view_39 (looseW hd.view_39 lo) (Sh w os)) = fun os => plainGoodE hd.view_39 (looseW hd.view_39 lo) := by
  rw [PySem.W.Fast.te2386780881361962483, PySem.W.Fast.te821141287760084731]
  kernel_rfl
theorem lk8 (w : World) : (fun os => plainSeenD hd.view_39 lo (Sh w os)) = fun os => plainGoodD hd.view_39 lo := by
  rw [PySem.W.Fast.te11698064438423848299]
  kernel_rfl
theorem lk9 (w : World) : (fun os => wideSeen hd.view_39 (Sh w os)) = fun os => wideGood hd.view_39 := by
  rw [PySem.W.Fast.te7317090234206586261]
  kernel_rfl
theorem lk10 (w : World) : (fun os => clsSeenW hd.view_39 lo (Sh w os)) = fun os => clsGoodW hd.view_39 lo := by
  rw [PySem.W.Fast.te7369524293546568484]
  kernel_rfl
theorem lkH (w : World) : (fun os => HK.obs (Sh w os)) = fun os => HK.val w := by
  kernel_rfl
theorem open_ (w : World) (os : OsState) : openSeen hd.view_39 lo (importedModules pw.main.body) Xt_ true (Sh w os) = openGood hd.view_39 lo :=
  looks_pair (congrFun (lk2 w) os) (looks_pair (congrFun (lk3 w) os) (looks_pair (congrFun (lk4 w) os) (looks_pair (congrFun (lk5 w) os) (looks_pair (congrFun (lk6 w) os) (looks_pair (congrFun (lk7 w) os) (looks_pair (congrFun (lk8 w) os) (looks_pair (congrFun (lk9 w) os) (congrFun (lk10 w) os))))))))
theorem left_ : LeftO pw hd.view_39 lo Xt_ HK.obs HK.val 6714 :=
  LeftO.of_pieces (H₀ := boot_heap) (H₁ := Hp.h637) (boot_open (by kernel_rfl) (by decide) (fun s => by kernel_rfl)) size_ run_ (by decide)
    (fun w => funext fun os => looks_pair (congrFun (lk1 w) os) (looks_pair (open_ w os) (congrFun (lkH w) os)))
noncomputable def dL : DefRec := match Hp.C 107 with
  | .FunctionDef n a b _ _ _ s _ _ p => ⟨n, a, b, s, p⟩
  | _ => ⟨z "", ⟨[], [], .none, [], [], .none, []⟩, [], pw.main.scope, p0⟩
theorem hd (walk : WalkO hd.view_39 lo (XL hd.view_39 xs_) (kHook hd.heap_39 hd.as_ asE).says PySem.Challenge.rw_sm0126_01.row.toRowW dL [] fun f vs => PySem.call f vs) : PySem.Challenge.rw_sm0126_01.Holds :=
  holds_law said_ fun said => holds_open (r := rw_.row) (q := hd.view_39) (N := 6714) (Xt := Xt_) left_ HK.of HK.keeps (fun s e => xl_of s (Bool.and_eq_true_iff.mp e).1) XL.keeps (by kernel_rfl) (by kernel_rfl) (by kernel_rfl) (fun s e => recFacts_of (Bool.and_eq_true_iff.mp e).2) (by kernel_rfl) said (by kernel_rfl) ⟨rfl, rfl, rfl, rfl, rfl, by decide +kernel⟩ ⟨[WData.list []], by decide +kernel, by decide +kernel⟩ walk
end Mine
end
end

section
open PySem PySem.W PyProof.Rows PySem.Calls
set_option maxRecDepth 100000
set_option maxHeartbeats 0
namespace Mine
noncomputable abbrev TT (w : World) (mg mb : Str → Option Value) (os : OsState) : TC := ⟨Challenge.pw_sm0126_01, w, hd.heap_39 w.params, hd.view_39, looseW hd.view_39 [Str.ofString "GREATEST_EXTENT"], mg, mb, os⟩
theorem dummy (w : World) : (PySem.Challenge.rw_sm0126_01.foot = 4 ∧ (hd.heap_39 w.params).length = 387) ∨ True := by
  k_fill
  exact .inr trivial
section
variable {w : World} {mg mb : Str → Option Value} {os : OsState}

theorem g_FREE : GlobIs (TT w mg mb os) (Str.ofString "FREE") (.int 229) := ⟨.int 229 _, by (show nsIn (hd.heap_39 w.params) mainGlobals _ = _); k_is, _, rfl⟩
theorem g_ENTRY_SIZE : GlobIs (TT w mg mb os) (Str.ofString "ENTRY_SIZE") (.int 32) := ⟨.int 32 _, by (show nsIn (hd.heap_39 w.params) mainGlobals _ = _); k_is, _, rfl⟩
theorem g_NAME_SIZE : GlobIs (TT w mg mb os) (Str.ofString "NAME_SIZE") (.int 11) := ⟨.int 11 _, by (show nsIn (hd.heap_39 w.params) mainGlobals _ = _); k_is, _, rfl⟩
theorem g_MAP_AT : GlobIs (TT w mg mb os) (Str.ofString "MAP_AT") (.int 16) := ⟨.int 16 _, by (show nsIn (hd.heap_39 w.params) mainGlobals _ = _); k_is, _, rfl⟩
theorem g_MOST_RECORDS : GlobIs (TT w mg mb os) (Str.ofString "MOST_RECORDS") (.int 128) := ⟨.int 128 _, by (show nsIn (hd.heap_39 w.params) mainGlobals _ = _); k_is, _, rfl⟩
theorem g_EXTENTS_LOW : GlobIs (TT w mg mb os) (Str.ofString "EXTENTS_LOW") (.int 32) := ⟨.int 32 _, by (show nsIn (hd.heap_39 w.params) mainGlobals _ = _); k_is, _, rfl⟩
theorem g_EX_AT : GlobIs (TT w mg mb os) (Str.ofString "EX_AT") (.int 12) := ⟨.int 12 _, by (show nsIn (hd.heap_39 w.params) mainGlobals _ = _); k_is, _, rfl⟩
theorem g_S2_AT : GlobIs (TT w mg mb os) (Str.ofString "S2_AT") (.int 14) := ⟨.int 14 _, by (show nsIn (hd.heap_39 w.params) mainGlobals _ = _); k_is, _, rfl⟩
theorem g_RC_AT : GlobIs (TT w mg mb os) (Str.ofString "RC_AT") (.int 15) := ⟨.int 15 _, by (show nsIn (hd.heap_39 w.params) mainGlobals _ = _); k_is, _, rfl⟩
theorem g_CR_AT : GlobIs (TT w mg mb os) (Str.ofString "CR_AT") (.int 32) := ⟨.int 32 _, by (show nsIn (hd.heap_39 w.params) mainGlobals _ = _); k_is, _, rfl⟩
theorem g_R_AT : GlobIs (TT w mg mb os) (Str.ofString "R_AT") (.int 33) := ⟨.int 33 _, by (show nsIn (hd.heap_39 w.params) mainGlobals _ = _); k_is, _, rfl⟩
theorem g_FCB_SIZE : GlobIs (TT w mg mb os) (Str.ofString "FCB_SIZE") (.int 36) := ⟨.int 36 _, by (show nsIn (hd.heap_39 w.params) mainGlobals _ = _); k_is, _, rfl⟩
theorem g_UNCHANGED : GlobIs (TT w mg mb os) (Str.ofString "UNCHANGED") (.int 128) := ⟨.int 128 _, by (show nsIn (hd.heap_39 w.params) mainGlobals _ = _); k_is, _, rfl⟩
theorem g_ANY : GlobIs (TT w mg mb os) (Str.ofString "ANY") (.int 63) := ⟨.int 63 _, by (show nsIn (hd.heap_39 w.params) mainGlobals _ = _); k_is, _, rfl⟩
theorem g_READ_ONLY_AT : GlobIs (TT w mg mb os) (Str.ofString "READ_ONLY_AT") (.int 8) := ⟨.int 8 _, by (show nsIn (hd.heap_39 w.params) mainGlobals _ = _); k_is, _, rfl⟩
theorem g_DONE : GlobIs (TT w mg mb os) (Str.ofString "DONE") (.int 0) := ⟨.int 0 _, by (show nsIn (hd.heap_39 w.params) mainGlobals _ = _); k_is, _, rfl⟩
theorem g_NOT_FOUND : GlobIs (TT w mg mb os) (Str.ofString "NOT_FOUND") (.int 255) := ⟨.int 255 _, by (show nsIn (hd.heap_39 w.params) mainGlobals _ = _); k_is, _, rfl⟩
theorem g_NO_DATA : GlobIs (TT w mg mb os) (Str.ofString "NO_DATA") (.int 1) := ⟨.int 1 _, by (show nsIn (hd.heap_39 w.params) mainGlobals _ = _); k_is, _, rfl⟩
theorem g_TOO_FAR : GlobIs (TT w mg mb os) (Str.ofString "TOO_FAR") (.int 6) := ⟨.int 6 _, by (show nsIn (hd.heap_39 w.params) mainGlobals _ = _); k_is, _, rfl⟩
theorem g_Disk : GlobIs (TT w mg mb os) (Str.ofString "Disk") (.ref 53) := ⟨.ref 53, by (show nsIn (hd.heap_39 w.params) mainGlobals _ = _); k_is, rfl⟩
theorem g_DiskK : Callee (TT w mg mb os) (.ref 53) := by (show keepIn (hd.heap_39 w.params) _ = true); k_is
theorem g_Entry : GlobIs (TT w mg mb os) (Str.ofString "Entry") (.ref 74) := ⟨.ref 74, by (show nsIn (hd.heap_39 w.params) mainGlobals _ = _); k_is, rfl⟩
theorem g_EntryK : Callee (TT w mg mb os) (.ref 74) := by (show keepIn (hd.heap_39 w.params) _ = true); k_is
theorem g_map_slots : GlobIs (TT w mg mb os) (Str.ofString "map_slots") (.ref 85) := ⟨.ref 85, by (show nsIn (hd.heap_39 w.params) mainGlobals _ = _); k_is, rfl⟩
theorem g_map_slotsK : Callee (TT w mg mb os) (.ref 85) := by (show keepIn (hd.heap_39 w.params) _ = true); k_is
theorem g_records_of_block : GlobIs (TT w mg mb os) (Str.ofString "records_of_block") (.ref 92) := ⟨.ref 92, by (show nsIn (hd.heap_39 w.params) mainGlobals _ = _); k_is, rfl⟩
theorem g_records_of_blockK : Callee (TT w mg mb os) (.ref 92) := by (show keepIn (hd.heap_39 w.params) _ = true); k_is
theorem g_records_of_extent : GlobIs (TT w mg mb os) (Str.ofString "records_of_extent") (.ref 99) := ⟨.ref 99, by (show nsIn (hd.heap_39 w.params) mainGlobals _ = _); k_is, rfl⟩
theorem g_records_of_extentK : Callee (TT w mg mb os) (.ref 99) := by (show keepIn (hd.heap_39 w.params) _ = true); k_is
theorem g_directory_blocks : GlobIs (TT w mg mb os) (Str.ofString "directory_blocks") (.ref 106) := ⟨.ref 106, by (show nsIn (hd.heap_39 w.params) mainGlobals _ = _); k_is, rfl⟩
theorem g_directory_blocksK : Callee (TT w mg mb os) (.ref 106) := by (show keepIn (hd.heap_39 w.params) _ = true); k_is
theorem g_need_writable : GlobIs (TT w mg mb os) (Str.ofString "need_writable") (.ref 113) := ⟨.ref 113, by (show nsIn (hd.heap_39 w.params) mainGlobals _ = _); k_is, rfl⟩
theorem g_need_writableK : Callee (TT w mg mb os) (.ref 113) := by (show keepIn (hd.heap_39 w.params) _ = true); k_is
theorem g_new_entry : GlobIs (TT w mg mb os) (Str.ofString "new_entry") (.ref 120) := ⟨.ref 120, by (show nsIn (hd.heap_39 w.params) mainGlobals _ = _); k_is, rfl⟩
theorem g_new_entryK : Callee (TT w mg mb os) (.ref 120) := by (show keepIn (hd.heap_39 w.params) _ = true); k_is
theorem g_entry_octets : GlobIs (TT w mg mb os) (Str.ofString "entry_octets") (.ref 127) := ⟨.ref 127, by (show nsIn (hd.heap_39 w.params) mainGlobals _ = _); k_is, rfl⟩
theorem g_entry_octetsK : Callee (TT w mg mb os) (.ref 127) := by (show keepIn (hd.heap_39 w.params) _ = true); k_is
theorem g_entry_from : GlobIs (TT w mg mb os) (Str.ofString "entry_from") (.ref 134) := ⟨.ref 134, by (show nsIn (hd.heap_39 w.params) mainGlobals _ = _); k_is, rfl⟩
theorem g_entry_fromK : Callee (TT w mg mb os) (.ref 134) := by (show keepIn (hd.heap_39 w.params) _ = true); k_is
theorem g_raw_entry : GlobIs (TT w mg mb os) (Str.ofString "raw_entry") (.ref 141) := ⟨.ref 141, by (show nsIn (hd.heap_39 w.params) mainGlobals _ = _); k_is, rfl⟩
theorem g_raw_entryK : Callee (TT w mg mb os) (.ref 141) := by (show keepIn (hd.heap_39 w.params) _ = true); k_is
theorem g_read_entry : GlobIs (TT w mg mb os) (Str.ofString "read_entry") (.ref 148) := ⟨.ref 148, by (show nsIn (hd.heap_39 w.params) mainGlobals _ = _); k_is, rfl⟩
theorem g_read_entryK : Callee (TT w mg mb os) (.ref 148) := by (show keepIn (hd.heap_39 w.params) _ = true); k_is
theorem g_put_entry : GlobIs (TT w mg mb os) (Str.ofString "put_entry") (.ref 155) := ⟨.ref 155, by (show nsIn (hd.heap_39 w.params) mainGlobals _ = _); k_is, rfl⟩
theorem g_put_entryK : Callee (TT w mg mb os) (.ref 155) := by (show keepIn (hd.heap_39 w.params) _ = true); k_is
theorem g_erase_entry : GlobIs (TT w mg mb os) (Str.ofString "erase_entry") (.ref 162) := ⟨.ref 162, by (show nsIn (hd.heap_39 w.params) mainGlobals _ = _); k_is, rfl⟩
theorem g_erase_entryK : Callee (TT w mg mb os) (.ref 162) := by (show keepIn (hd.heap_39 w.params) _ = true); k_is
theorem g_free_entry : GlobIs (TT w mg mb os) (Str.ofString "free_entry") (.ref 169) := ⟨.ref 169, by (show nsIn (hd.heap_39 w.params) mainGlobals _ = _); k_is, rfl⟩
theorem g_free_entryK : Callee (TT w mg mb os) (.ref 169) := by (show keepIn (hd.heap_39 w.params) _ = true); k_is
theorem g_live_entries : GlobIs (TT w mg mb os) (Str.ofString "live_entries") (.ref 176) := ⟨.ref 176, by (show nsIn (hd.heap_39 w.params) mainGlobals _ = _); k_is, rfl⟩
theorem g_live_entriesK : Callee (TT w mg mb os) (.ref 176) := by (show keepIn (hd.heap_39 w.params) _ = true); k_is
theorem g_used_blocks : GlobIs (TT w mg mb os) (Str.ofString "used_blocks") (.ref 181) := ⟨.ref 181, by (show nsIn (hd.heap_39 w.params) mainGlobals _ = _); k_is, rfl⟩
theorem g_used_blocksK : Callee (TT w mg mb os) (.ref 181) := by (show keepIn (hd.heap_39 w.params) _ = true); k_is
theorem g_free_blocks : GlobIs (TT w mg mb os) (Str.ofString "free_blocks") (.ref 186) := ⟨.ref 186, by (show nsIn (hd.heap_39 w.params) mainGlobals _ = _); k_is, rfl⟩
theorem g_free_blocksK : Callee (TT w mg mb os) (.ref 186) := by (show keepIn (hd.heap_39 w.params) _ = true); k_is
theorem g_map_of : GlobIs (TT w mg mb os) (Str.ofString "map_of") (.ref 191) := ⟨.ref 191, by (show nsIn (hd.heap_39 w.params) mainGlobals _ = _); k_is, rfl⟩
theorem g_map_ofK : Callee (TT w mg mb os) (.ref 191) := by (show keepIn (hd.heap_39 w.params) _ = true); k_is
theorem g_map_octets : GlobIs (TT w mg mb os) (Str.ofString "map_octets") (.ref 198) := ⟨.ref 198, by (show nsIn (hd.heap_39 w.params) mainGlobals _ = _); k_is, rfl⟩
theorem g_map_octetsK : Callee (TT w mg mb os) (.ref 198) := by (show keepIn (hd.heap_39 w.params) _ = true); k_is
theorem g_nearest_free : GlobIs (TT w mg mb os) (Str.ofString "nearest_free") (.ref 205) := ⟨.ref 205, by (show nsIn (hd.heap_39 w.params) mainGlobals _ = _); k_is, rfl⟩
theorem g_nearest_freeK : Callee (TT w mg mb os) (.ref 205) := by (show keepIn (hd.heap_39 w.params) _ = true); k_is
theorem g_allocate : GlobIs (TT w mg mb os) (Str.ofString "allocate") (.ref 212) := ⟨.ref 212, by (show nsIn (hd.heap_39 w.params) mainGlobals _ = _); k_is, rfl⟩
theorem g_allocateK : Callee (TT w mg mb os) (.ref 212) := by (show keepIn (hd.heap_39 w.params) _ = true); k_is
theorem g_record_place : GlobIs (TT w mg mb os) (Str.ofString "record_place") (.ref 219) := ⟨.ref 219, by (show nsIn (hd.heap_39 w.params) mainGlobals _ = _); k_is, rfl⟩
theorem g_record_placeK : Callee (TT w mg mb os) (.ref 219) := by (show keepIn (hd.heap_39 w.params) _ = true); k_is
theorem g_read_record : GlobIs (TT w mg mb os) (Str.ofString "read_record") (.ref 226) := ⟨.ref 226, by (show nsIn (hd.heap_39 w.params) mainGlobals _ = _); k_is, rfl⟩
theorem g_read_recordK : Callee (TT w mg mb os) (.ref 226) := by (show keepIn (hd.heap_39 w.params) _ = true); k_is
theorem g_write_record : GlobIs (TT w mg mb os) (Str.ofString "write_record") (.ref 233) := ⟨.ref 233, by (show nsIn (hd.heap_39 w.params) mainGlobals _ = _); k_is, rfl⟩
theorem g_write_recordK : Callee (TT w mg mb os) (.ref 233) := by (show keepIn (hd.heap_39 w.params) _ = true); k_is
theorem g_peek : GlobIs (TT w mg mb os) (Str.ofString "peek") (.ref 240) := ⟨.ref 240, by (show nsIn (hd.heap_39 w.params) mainGlobals _ = _); k_is, rfl⟩
theorem g_peekK : Callee (TT w mg mb os) (.ref 240) := by (show keepIn (hd.heap_39 w.params) _ = true); k_is
theorem g_poke : GlobIs (TT w mg mb os) (Str.ofString "poke") (.ref 247) := ⟨.ref 247, by (show nsIn (hd.heap_39 w.params) mainGlobals _ = _); k_is, rfl⟩
theorem g_pokeK : Callee (TT w mg mb os) (.ref 247) := by (show keepIn (hd.heap_39 w.params) _ = true); k_is
theorem g_octets_at : GlobIs (TT w mg mb os) (Str.ofString "octets_at") (.ref 252) := ⟨.ref 252, by (show nsIn (hd.heap_39 w.params) mainGlobals _ = _); k_is, rfl⟩
theorem g_octets_atK : Callee (TT w mg mb os) (.ref 252) := by (show keepIn (hd.heap_39 w.params) _ = true); k_is
theorem g_put_octets : GlobIs (TT w mg mb os) (Str.ofString "put_octets") (.ref 259) := ⟨.ref 259, by (show nsIn (hd.heap_39 w.params) mainGlobals _ = _); k_is, rfl⟩
theorem g_put_octetsK : Callee (TT w mg mb os) (.ref 259) := by (show keepIn (hd.heap_39 w.params) _ = true); k_is
theorem g_name_at : GlobIs (TT w mg mb os) (Str.ofString "name_at") (.ref 266) := ⟨.ref 266, by (show nsIn (hd.heap_39 w.params) mainGlobals _ = _); k_is, rfl⟩
theorem g_name_atK : Callee (TT w mg mb os) (.ref 266) := by (show keepIn (hd.heap_39 w.params) _ = true); k_is
theorem g_extent_at : GlobIs (TT w mg mb os) (Str.ofString "extent_at") (.ref 273) := ⟨.ref 273, by (show nsIn (hd.heap_39 w.params) mainGlobals _ = _); k_is, rfl⟩
theorem g_extent_atK : Callee (TT w mg mb os) (.ref 273) := by (show keepIn (hd.heap_39 w.params) _ = true); k_is
theorem g_set_extent : GlobIs (TT w mg mb os) (Str.ofString "set_extent") (.ref 280) := ⟨.ref 280, by (show nsIn (hd.heap_39 w.params) mainGlobals _ = _); k_is, rfl⟩
theorem g_set_extentK : Callee (TT w mg mb os) (.ref 280) := by (show keepIn (hd.heap_39 w.params) _ = true); k_is
theorem g_is_changed : GlobIs (TT w mg mb os) (Str.ofString "is_changed") (.ref 287) := ⟨.ref 287, by (show nsIn (hd.heap_39 w.params) mainGlobals _ = _); k_is, rfl⟩
theorem g_is_changedK : Callee (TT w mg mb os) (.ref 287) := by (show keepIn (hd.heap_39 w.params) _ = true); k_is
theorem g_mark_changed : GlobIs (TT w mg mb os) (Str.ofString "mark_changed") (.ref 294) := ⟨.ref 294, by (show nsIn (hd.heap_39 w.params) mainGlobals _ = _); k_is, rfl⟩
theorem g_mark_changedK : Callee (TT w mg mb os) (.ref 294) := by (show keepIn (hd.heap_39 w.params) _ = true); k_is
theorem g_count_at : GlobIs (TT w mg mb os) (Str.ofString "count_at") (.ref 301) := ⟨.ref 301, by (show nsIn (hd.heap_39 w.params) mainGlobals _ = _); k_is, rfl⟩
theorem g_count_atK : Callee (TT w mg mb os) (.ref 301) := by (show keepIn (hd.heap_39 w.params) _ = true); k_is
theorem g_set_count : GlobIs (TT w mg mb os) (Str.ofString "set_count") (.ref 308) := ⟨.ref 308, by (show nsIn (hd.heap_39 w.params) mainGlobals _ = _); k_is, rfl⟩
theorem g_set_countK : Callee (TT w mg mb os) (.ref 308) := by (show keepIn (hd.heap_39 w.params) _ = true); k_is
theorem g_current_at : GlobIs (TT w mg mb os) (Str.ofString "current_at") (.ref 315) := ⟨.ref 315, by (show nsIn (hd.heap_39 w.params) mainGlobals _ = _); k_is, rfl⟩
theorem g_current_atK : Callee (TT w mg mb os) (.ref 315) := by (show keepIn (hd.heap_39 w.params) _ = true); k_is
theorem g_set_current : GlobIs (TT w mg mb os) (Str.ofString "set_current") (.ref 322) := ⟨.ref 322, by (show nsIn (hd.heap_39 w.params) mainGlobals _ = _); k_is, rfl⟩
theorem g_set_currentK : Callee (TT w mg mb os) (.ref 322) := by (show keepIn (hd.heap_39 w.params) _ = true); k_is
theorem g_blocks_at : GlobIs (TT w mg mb os) (Str.ofString "blocks_at") (.ref 329) := ⟨.ref 329, by (show nsIn (hd.heap_39 w.params) mainGlobals _ = _); k_is, rfl⟩
theorem g_blocks_atK : Callee (TT w mg mb os) (.ref 329) := by (show keepIn (hd.heap_39 w.params) _ = true); k_is
theorem g_set_block : GlobIs (TT w mg mb os) (Str.ofString "set_block") (.ref 336) := ⟨.ref 336, by (show nsIn (hd.heap_39 w.params) mainGlobals _ = _); k_is, rfl⟩
theorem g_set_blockK : Callee (TT w mg mb os) (.ref 336) := by (show keepIn (hd.heap_39 w.params) _ = true); k_is
theorem g_take_entry : GlobIs (TT w mg mb os) (Str.ofString "take_entry") (.ref 343) := ⟨.ref 343, by (show nsIn (hd.heap_39 w.params) mainGlobals _ = _); k_is, rfl⟩
theorem g_take_entryK : Callee (TT w mg mb os) (.ref 343) := by (show keepIn (hd.heap_39 w.params) _ = true); k_is
theorem g_begin_extent : GlobIs (TT w mg mb os) (Str.ofString "begin_extent") (.ref 350) := ⟨.ref 350, by (show nsIn (hd.heap_39 w.params) mainGlobals _ = _); k_is, rfl⟩
theorem g_begin_extentK : Callee (TT w mg mb os) (.ref 350) := by (show keepIn (hd.heap_39 w.params) _ = true); k_is
theorem g_random_at : GlobIs (TT w mg mb os) (Str.ofString "random_at") (.ref 357) := ⟨.ref 357, by (show nsIn (hd.heap_39 w.params) mainGlobals _ = _); k_is, rfl⟩
theorem g_random_atK : Callee (TT w mg mb os) (.ref 357) := by (show keepIn (hd.heap_39 w.params) _ = true); k_is
theorem g_set_random : GlobIs (TT w mg mb os) (Str.ofString "set_random") (.ref 364) := ⟨.ref 364, by (show nsIn (hd.heap_39 w.params) mainGlobals _ = _); k_is, rfl⟩
theorem g_set_randomK : Callee (TT w mg mb os) (.ref 364) := by (show keepIn (hd.heap_39 w.params) _ = true); k_is
theorem g_new_fcb : GlobIs (TT w mg mb os) (Str.ofString "new_fcb") (.ref 371) := ⟨.ref 371, by (show nsIn (hd.heap_39 w.params) mainGlobals _ = _); k_is, rfl⟩
theorem g_new_fcbK : Callee (TT w mg mb os) (.ref 371) := by (show keepIn (hd.heap_39 w.params) _ = true); k_is
theorem g_matches : GlobIs (TT w mg mb os) (Str.ofString "matches") (.ref 376) := ⟨.ref 376, by (show nsIn (hd.heap_39 w.params) mainGlobals _ = _); k_is, rfl⟩
theorem g_matchesK : Callee (TT w mg mb os) (.ref 376) := by (show keepIn (hd.heap_39 w.params) _ = true); k_is
theorem g_has_flag : GlobIs (TT w mg mb os) (Str.ofString "has_flag") (.ref 383) := ⟨.ref 383, by (show nsIn (hd.heap_39 w.params) mainGlobals _ = _); k_is, rfl⟩
theorem g_has_flagK : Callee (TT w mg mb os) (.ref 383) := by (show keepIn (hd.heap_39 w.params) _ = true); k_is
theorem g_find : GlobIs (TT w mg mb os) (Str.ofString "find") (.ref 390) := ⟨.ref 390, by (show nsIn (hd.heap_39 w.params) mainGlobals _ = _); k_is, rfl⟩
theorem g_findK : Callee (TT w mg mb os) (.ref 390) := by (show keepIn (hd.heap_39 w.params) _ = true); k_is
theorem g_find_extent : GlobIs (TT w mg mb os) (Str.ofString "find_extent") (.ref 397) := ⟨.ref 397, by (show nsIn (hd.heap_39 w.params) mainGlobals _ = _); k_is, rfl⟩
theorem g_find_extentK : Callee (TT w mg mb os) (.ref 397) := by (show keepIn (hd.heap_39 w.params) _ = true); k_is
theorem g_need_changeable : GlobIs (TT w mg mb os) (Str.ofString "need_changeable") (.ref 402) := ⟨.ref 402, by (show nsIn (hd.heap_39 w.params) mainGlobals _ = _); k_is, rfl⟩
theorem g_need_changeableK : Callee (TT w mg mb os) (.ref 402) := by (show keepIn (hd.heap_39 w.params) _ = true); k_is
theorem g_delete : GlobIs (TT w mg mb os) (Str.ofString "delete") (.ref 409) := ⟨.ref 409, by (show nsIn (hd.heap_39 w.params) mainGlobals _ = _); k_is, rfl⟩
theorem g_deleteK : Callee (TT w mg mb os) (.ref 409) := by (show keepIn (hd.heap_39 w.params) _ = true); k_is
theorem g_size_of : GlobIs (TT w mg mb os) (Str.ofString "size_of") (.ref 414) := ⟨.ref 414, by (show nsIn (hd.heap_39 w.params) mainGlobals _ = _); k_is, rfl⟩
theorem g_size_ofK : Callee (TT w mg mb os) (.ref 414) := by (show keepIn (hd.heap_39 w.params) _ = true); k_is
theorem g_code_of : GlobIs (TT w mg mb os) (Str.ofString "code_of") (.ref 421) := ⟨.ref 421, by (show nsIn (hd.heap_39 w.params) mainGlobals _ = _); k_is, rfl⟩
theorem g_code_ofK : Callee (TT w mg mb os) (.ref 421) := by (show keepIn (hd.heap_39 w.params) _ = true); k_is
theorem g_need_writable_file : GlobIs (TT w mg mb os) (Str.ofString "need_writable_file") (.ref 428) := ⟨.ref 428, by (show nsIn (hd.heap_39 w.params) mainGlobals _ = _); k_is, rfl⟩
theorem g_need_writable_fileK : Callee (TT w mg mb os) (.ref 428) := by (show keepIn (hd.heap_39 w.params) _ = true); k_is
theorem g_need_writable_disk : GlobIs (TT w mg mb os) (Str.ofString "need_writable_disk") (.ref 435) := ⟨.ref 435, by (show nsIn (hd.heap_39 w.params) mainGlobals _ = _); k_is, rfl⟩
theorem g_need_writable_diskK : Callee (TT w mg mb os) (.ref 435) := by (show keepIn (hd.heap_39 w.params) _ = true); k_is
theorem g_open_file : GlobIs (TT w mg mb os) (Str.ofString "open_file") (.ref 442) := ⟨.ref 442, by (show nsIn (hd.heap_39 w.params) mainGlobals _ = _); k_is, rfl⟩
theorem g_open_fileK : Callee (TT w mg mb os) (.ref 442) := by (show keepIn (hd.heap_39 w.params) _ = true); k_is
theorem g_merged : GlobIs (TT w mg mb os) (Str.ofString "merged") (.ref 449) := ⟨.ref 449, by (show nsIn (hd.heap_39 w.params) mainGlobals _ = _); k_is, rfl⟩
theorem g_mergedK : Callee (TT w mg mb os) (.ref 449) := by (show keepIn (hd.heap_39 w.params) _ = true); k_is
theorem g_close_file : GlobIs (TT w mg mb os) (Str.ofString "close_file") (.ref 454) := ⟨.ref 454, by (show nsIn (hd.heap_39 w.params) mainGlobals _ = _); k_is, rfl⟩
theorem g_close_fileK : Callee (TT w mg mb os) (.ref 454) := by (show keepIn (hd.heap_39 w.params) _ = true); k_is
theorem g_make_file : GlobIs (TT w mg mb os) (Str.ofString "make_file") (.ref 461) := ⟨.ref 461, by (show nsIn (hd.heap_39 w.params) mainGlobals _ = _); k_is, rfl⟩
theorem g_make_fileK : Callee (TT w mg mb os) (.ref 461) := by (show keepIn (hd.heap_39 w.params) _ = true); k_is
theorem g_code_for : GlobIs (TT w mg mb os) (Str.ofString "code_for") (.ref 468) := ⟨.ref 468, by (show nsIn (hd.heap_39 w.params) mainGlobals _ = _); k_is, rfl⟩
theorem g_code_forK : Callee (TT w mg mb os) (.ref 468) := by (show keepIn (hd.heap_39 w.params) _ = true); k_is
theorem g_delete_file : GlobIs (TT w mg mb os) (Str.ofString "delete_file") (.ref 475) := ⟨.ref 475, by (show nsIn (hd.heap_39 w.params) mainGlobals _ = _); k_is, rfl⟩
theorem g_delete_fileK : Callee (TT w mg mb os) (.ref 475) := by (show keepIn (hd.heap_39 w.params) _ = true); k_is
theorem g_size_file : GlobIs (TT w mg mb os) (Str.ofString "size_file") (.ref 482) := ⟨.ref 482, by (show nsIn (hd.heap_39 w.params) mainGlobals _ = _); k_is, rfl⟩
theorem g_size_fileK : Callee (TT w mg mb os) (.ref 482) := by (show keepIn (hd.heap_39 w.params) _ = true); k_is
theorem g_tell_random : GlobIs (TT w mg mb os) (Str.ofString "tell_random") (.ref 489) := ⟨.ref 489, by (show nsIn (hd.heap_39 w.params) mainGlobals _ = _); k_is, rfl⟩
theorem g_tell_randomK : Callee (TT w mg mb os) (.ref 489) := by (show keepIn (hd.heap_39 w.params) _ = true); k_is
theorem g_read_here : GlobIs (TT w mg mb os) (Str.ofString "read_here") (.ref 503) := ⟨.ref 503, by (show nsIn (hd.heap_39 w.params) mainGlobals _ = _); k_is, rfl⟩
theorem g_read_hereK : Callee (TT w mg mb os) (.ref 503) := by (show keepIn (hd.heap_39 w.params) _ = true); k_is
theorem g_block_for : GlobIs (TT w mg mb os) (Str.ofString "block_for") (.ref 517) := ⟨.ref 517, by (show nsIn (hd.heap_39 w.params) mainGlobals _ = _); k_is, rfl⟩
theorem g_block_forK : Callee (TT w mg mb os) (.ref 517) := by (show keepIn (hd.heap_39 w.params) _ = true); k_is
theorem g_write_here : GlobIs (TT w mg mb os) (Str.ofString "write_here") (.ref 524) := ⟨.ref 524, by (show nsIn (hd.heap_39 w.params) mainGlobals _ = _); k_is, rfl⟩
theorem g_write_hereK : Callee (TT w mg mb os) (.ref 524) := by (show keepIn (hd.heap_39 w.params) _ = true); k_is
theorem g_go_on : GlobIs (TT w mg mb os) (Str.ofString "go_on") (.ref 531) := ⟨.ref 531, by (show nsIn (hd.heap_39 w.params) mainGlobals _ = _); k_is, rfl⟩
theorem g_go_onK : Callee (TT w mg mb os) (.ref 531) := by (show keepIn (hd.heap_39 w.params) _ = true); k_is
theorem g_read_next : GlobIs (TT w mg mb os) (Str.ofString "read_next") (.ref 538) := ⟨.ref 538, by (show nsIn (hd.heap_39 w.params) mainGlobals _ = _); k_is, rfl⟩
theorem g_read_nextK : Callee (TT w mg mb os) (.ref 538) := by (show keepIn (hd.heap_39 w.params) _ = true); k_is
theorem g_write_next : GlobIs (TT w mg mb os) (Str.ofString "write_next") (.ref 545) := ⟨.ref 545, by (show nsIn (hd.heap_39 w.params) mainGlobals _ = _); k_is, rfl⟩
theorem g_write_nextK : Callee (TT w mg mb os) (.ref 545) := by (show keepIn (hd.heap_39 w.params) _ = true); k_is
theorem g_seek_record : GlobIs (TT w mg mb os) (Str.ofString "seek_record") (.ref 552) := ⟨.ref 552, by (show nsIn (hd.heap_39 w.params) mainGlobals _ = _); k_is, rfl⟩
theorem g_seek_recordK : Callee (TT w mg mb os) (.ref 552) := by (show keepIn (hd.heap_39 w.params) _ = true); k_is
theorem g_read_random : GlobIs (TT w mg mb os) (Str.ofString "read_random") (.ref 559) := ⟨.ref 559, by (show nsIn (hd.heap_39 w.params) mainGlobals _ = _); k_is, rfl⟩
theorem g_read_randomK : Callee (TT w mg mb os) (.ref 559) := by (show keepIn (hd.heap_39 w.params) _ = true); k_is
theorem g_law : GlobIs (TT w mg mb os) (Str.ofString "law") (.ref 581) := ⟨.ref 581, by (show nsIn (hd.heap_39 w.params) mainGlobals _ = _); k_is, rfl⟩
theorem g_lawK : Callee (TT w mg mb os) (.ref 581) := by (show keepIn (hd.heap_39 w.params) _ = true); k_is
theorem g_law_next : GlobIs (TT w mg mb os) (Str.ofString "_law_next") (.ref 566) := ⟨.ref 566, by (show nsIn (hd.heap_39 w.params) mainGlobals _ = _); k_is, rfl⟩
theorem g_law_nextK : Callee (TT w mg mb os) (.ref 566) := by (show keepIn (hd.heap_39 w.params) _ = true); k_is
theorem g_law_done : GlobIs (TT w mg mb os) (Str.ofString "_law_done") (.ref 571) := ⟨.ref 571, by (show nsIn (hd.heap_39 w.params) mainGlobals _ = _); k_is, rfl⟩
theorem g_law_doneK : Callee (TT w mg mb os) (.ref 571) := by (show keepIn (hd.heap_39 w.params) _ = true); k_is
theorem g_law_seen : GlobIs (TT w mg mb os) (Str.ofString "_law_seen") (.ref 576) := ⟨.ref 576, by (show nsIn (hd.heap_39 w.params) mainGlobals _ = _); k_is, rfl⟩
theorem g_law_seenK : Callee (TT w mg mb os) (.ref 576) := by (show keepIn (hd.heap_39 w.params) _ = true); k_is
theorem g_len : GlobB (TT w mg mb os) (Str.ofString "len") (.bi "len") := ⟨by (show nsIn (hd.heap_39 w.params) mainGlobals _ = _); k_is, by decide, _, by boot_fast, rfl⟩
theorem g_min : GlobB (TT w mg mb os) (Str.ofString "min") (.bi "min") := ⟨by (show nsIn (hd.heap_39 w.params) mainGlobals _ = _); k_is, by decide, _, by boot_fast, rfl⟩
theorem g_max : GlobB (TT w mg mb os) (Str.ofString "max") (.bi "max") := ⟨by (show nsIn (hd.heap_39 w.params) mainGlobals _ = _); k_is, by decide, _, by boot_fast, rfl⟩
theorem g_all : GlobB (TT w mg mb os) (Str.ofString "all") (.bi "all") := ⟨by (show nsIn (hd.heap_39 w.params) mainGlobals _ = _); k_is, by decide, _, by boot_fast, rfl⟩
theorem g_any : GlobB (TT w mg mb os) (Str.ofString "any") (.bi "any") := ⟨by (show nsIn (hd.heap_39 w.params) mainGlobals _ = _); k_is, by decide, _, by boot_fast, rfl⟩
theorem g_abs : GlobB (TT w mg mb os) (Str.ofString "abs") (.bi "abs") := ⟨by (show nsIn (hd.heap_39 w.params) mainGlobals _ = _); k_is, by decide, _, by boot_fast, rfl⟩
theorem g_range : GlobB (TT w mg mb os) (Str.ofString "range") (.ty "range") := ⟨by (show nsIn (hd.heap_39 w.params) mainGlobals _ = _); k_is, by decide, _, by boot_fast, rfl⟩
theorem g_list : GlobB (TT w mg mb os) (Str.ofString "list") (.ty "list") := ⟨by (show nsIn (hd.heap_39 w.params) mainGlobals _ = _); k_is, by decide, _, by boot_fast, rfl⟩
theorem g_enumerate : GlobB (TT w mg mb os) (Str.ofString "enumerate") (.ty "enumerate") := ⟨by (show nsIn (hd.heap_39 w.params) mainGlobals _ = _); k_is, by decide, _, by boot_fast, rfl⟩
theorem g_zip : GlobB (TT w mg mb os) (Str.ofString "zip") (.ty "zip") := ⟨by (show nsIn (hd.heap_39 w.params) mainGlobals _ = _); k_is, by decide, _, by boot_fast, rfl⟩
theorem g_int : GlobB (TT w mg mb os) (Str.ofString "int") (.ty "int") := ⟨by (show nsIn (hd.heap_39 w.params) mainGlobals _ = _); k_is, by decide, _, by boot_fast, rfl⟩
theorem a53_blocks : AttrOk (TT w mg mb os) 53 (Str.ofString "blocks") := ⟨by (show plainGet (hd.heap_39 w.params) _ _ = _); k_is, by (show hasDictIn (hd.heap_39 w.params) _ = _); k_is, _, by (show findIn (hd.heap_39 w.params) _ _ = _); k_is, by (show noGet (hd.heap_39 w.params) _ = _); k_is⟩
theorem s53_blocks : SetOk (TT w mg mb os) 53 (Str.ofString "blocks") := ⟨by (show findIn (hd.heap_39 w.params) _ _ = _); k_is, by (show plainOver (hd.heap_39 w.params) _ = _); k_is, by (show takerIn (hd.heap_39 w.params) _ _ = _); k_is, by (show hasDictIn (hd.heap_39 w.params) _ = _); k_is⟩
theorem a53_block : AttrOk (TT w mg mb os) 53 (Str.ofString "block") := ⟨by (show plainGet (hd.heap_39 w.params) _ _ = _); k_is, by (show hasDictIn (hd.heap_39 w.params) _ = _); k_is, _, by (show findIn (hd.heap_39 w.params) _ _ = _); k_is, by (show noGet (hd.heap_39 w.params) _ = _); k_is⟩
theorem s53_block : SetOk (TT w mg mb os) 53 (Str.ofString "block") := ⟨by (show findIn (hd.heap_39 w.params) _ _ = _); k_is, by (show plainOver (hd.heap_39 w.params) _ = _); k_is, by (show takerIn (hd.heap_39 w.params) _ _ = _); k_is, by (show hasDictIn (hd.heap_39 w.params) _ = _); k_is⟩
theorem a53_record : AttrOk (TT w mg mb os) 53 (Str.ofString "record") := ⟨by (show plainGet (hd.heap_39 w.params) _ _ = _); k_is, by (show hasDictIn (hd.heap_39 w.params) _ = _); k_is, _, by (show findIn (hd.heap_39 w.params) _ _ = _); k_is, by (show noGet (hd.heap_39 w.params) _ = _); k_is⟩
theorem s53_record : SetOk (TT w mg mb os) 53 (Str.ofString "record") := ⟨by (show findIn (hd.heap_39 w.params) _ _ = _); k_is, by (show plainOver (hd.heap_39 w.params) _ = _); k_is, by (show takerIn (hd.heap_39 w.params) _ _ = _); k_is, by (show hasDictIn (hd.heap_39 w.params) _ = _); k_is⟩
theorem a53_entries : AttrOk (TT w mg mb os) 53 (Str.ofString "entries") := ⟨by (show plainGet (hd.heap_39 w.params) _ _ = _); k_is, by (show hasDictIn (hd.heap_39 w.params) _ = _); k_is, _, by (show findIn (hd.heap_39 w.params) _ _ = _); k_is, by (show noGet (hd.heap_39 w.params) _ = _); k_is⟩
theorem s53_entries : SetOk (TT w mg mb os) 53 (Str.ofString "entries") := ⟨by (show findIn (hd.heap_39 w.params) _ _ = _); k_is, by (show plainOver (hd.heap_39 w.params) _ = _); k_is, by (show takerIn (hd.heap_39 w.params) _ _ = _); k_is, by (show hasDictIn (hd.heap_39 w.params) _ = _); k_is⟩
theorem a53_is_read_only : AttrOk (TT w mg mb os) 53 (Str.ofString "is_read_only") := ⟨by (show plainGet (hd.heap_39 w.params) _ _ = _); k_is, by (show hasDictIn (hd.heap_39 w.params) _ = _); k_is, _, by (show findIn (hd.heap_39 w.params) _ _ = _); k_is, by (show noGet (hd.heap_39 w.params) _ = _); k_is⟩
theorem s53_is_read_only : SetOk (TT w mg mb os) 53 (Str.ofString "is_read_only") := ⟨by (show findIn (hd.heap_39 w.params) _ _ = _); k_is, by (show plainOver (hd.heap_39 w.params) _ = _); k_is, by (show takerIn (hd.heap_39 w.params) _ _ = _); k_is, by (show hasDictIn (hd.heap_39 w.params) _ = _); k_is⟩
theorem a53_given : AttrOk (TT w mg mb os) 53 (Str.ofString "given") := ⟨by (show plainGet (hd.heap_39 w.params) _ _ = _); k_is, by (show hasDictIn (hd.heap_39 w.params) _ = _); k_is, _, by (show findIn (hd.heap_39 w.params) _ _ = _); k_is, by (show noGet (hd.heap_39 w.params) _ = _); k_is⟩
theorem s53_given : SetOk (TT w mg mb os) 53 (Str.ofString "given") := ⟨by (show findIn (hd.heap_39 w.params) _ _ = _); k_is, by (show plainOver (hd.heap_39 w.params) _ = _); k_is, by (show takerIn (hd.heap_39 w.params) _ _ = _); k_is, by (show hasDictIn (hd.heap_39 w.params) _ = _); k_is⟩
theorem a53_data : AttrOk (TT w mg mb os) 53 (Str.ofString "data") := ⟨by (show plainGet (hd.heap_39 w.params) _ _ = _); k_is, by (show hasDictIn (hd.heap_39 w.params) _ = _); k_is, _, by (show findIn (hd.heap_39 w.params) _ _ = _); k_is, by (show noGet (hd.heap_39 w.params) _ = _); k_is⟩
theorem s53_data : SetOk (TT w mg mb os) 53 (Str.ofString "data") := ⟨by (show findIn (hd.heap_39 w.params) _ _ = _); k_is, by (show plainOver (hd.heap_39 w.params) _ = _); k_is, by (show takerIn (hd.heap_39 w.params) _ _ = _); k_is, by (show hasDictIn (hd.heap_39 w.params) _ = _); k_is⟩
theorem a74_user : AttrOk (TT w mg mb os) 74 (Str.ofString "user") := ⟨by (show plainGet (hd.heap_39 w.params) _ _ = _); k_is, by (show hasDictIn (hd.heap_39 w.params) _ = _); k_is, _, by (show findIn (hd.heap_39 w.params) _ _ = _); k_is, by (show noGet (hd.heap_39 w.params) _ = _); k_is⟩
theorem s74_user : SetOk (TT w mg mb os) 74 (Str.ofString "user") := ⟨by (show findIn (hd.heap_39 w.params) _ _ = _); k_is, by (show plainOver (hd.heap_39 w.params) _ = _); k_is, by (show takerIn (hd.heap_39 w.params) _ _ = _); k_is, by (show hasDictIn (hd.heap_39 w.params) _ = _); k_is⟩
theorem a74_raw : AttrOk (TT w mg mb os) 74 (Str.ofString "raw") := ⟨by (show plainGet (hd.heap_39 w.params) _ _ = _); k_is, by (show hasDictIn (hd.heap_39 w.params) _ = _); k_is, _, by (show findIn (hd.heap_39 w.params) _ _ = _); k_is, by (show noGet (hd.heap_39 w.params) _ = _); k_is⟩
theorem s74_raw : SetOk (TT w mg mb os) 74 (Str.ofString "raw") := ⟨by (show findIn (hd.heap_39 w.params) _ _ = _); k_is, by (show plainOver (hd.heap_39 w.params) _ = _); k_is, by (show takerIn (hd.heap_39 w.params) _ _ = _); k_is, by (show hasDictIn (hd.heap_39 w.params) _ = _); k_is⟩
theorem a74_extent : AttrOk (TT w mg mb os) 74 (Str.ofString "extent") := ⟨by (show plainGet (hd.heap_39 w.params) _ _ = _); k_is, by (show hasDictIn (hd.heap_39 w.params) _ = _); k_is, _, by (show findIn (hd.heap_39 w.params) _ _ = _); k_is, by (show noGet (hd.heap_39 w.params) _ = _); k_is⟩
theorem s74_extent : SetOk (TT w mg mb os) 74 (Str.ofString "extent") := ⟨by (show findIn (hd.heap_39 w.params) _ _ = _); k_is, by (show plainOver (hd.heap_39 w.params) _ = _); k_is, by (show takerIn (hd.heap_39 w.params) _ _ = _); k_is, by (show hasDictIn (hd.heap_39 w.params) _ = _); k_is⟩
theorem a74_spare : AttrOk (TT w mg mb os) 74 (Str.ofString "spare") := ⟨by (show plainGet (hd.heap_39 w.params) _ _ = _); k_is, by (show hasDictIn (hd.heap_39 w.params) _ = _); k_is, _, by (show findIn (hd.heap_39 w.params) _ _ = _); k_is, by (show noGet (hd.heap_39 w.params) _ = _); k_is⟩
theorem s74_spare : SetOk (TT w mg mb os) 74 (Str.ofString "spare") := ⟨by (show findIn (hd.heap_39 w.params) _ _ = _); k_is, by (show plainOver (hd.heap_39 w.params) _ = _); k_is, by (show takerIn (hd.heap_39 w.params) _ _ = _); k_is, by (show hasDictIn (hd.heap_39 w.params) _ = _); k_is⟩
theorem a74_count : AttrOk (TT w mg mb os) 74 (Str.ofString "count") := ⟨by (show plainGet (hd.heap_39 w.params) _ _ = _); k_is, by (show hasDictIn (hd.heap_39 w.params) _ = _); k_is, _, by (show findIn (hd.heap_39 w.params) _ _ = _); k_is, by (show noGet (hd.heap_39 w.params) _ = _); k_is⟩
theorem s74_count : SetOk (TT w mg mb os) 74 (Str.ofString "count") := ⟨by (show findIn (hd.heap_39 w.params) _ _ = _); k_is, by (show plainOver (hd.heap_39 w.params) _ = _); k_is, by (show takerIn (hd.heap_39 w.params) _ _ = _); k_is, by (show hasDictIn (hd.heap_39 w.params) _ = _); k_is⟩
theorem a74_map : AttrOk (TT w mg mb os) 74 (Str.ofString "map") := ⟨by (show plainGet (hd.heap_39 w.params) _ _ = _); k_is, by (show hasDictIn (hd.heap_39 w.params) _ = _); k_is, _, by (show findIn (hd.heap_39 w.params) _ _ = _); k_is, by (show noGet (hd.heap_39 w.params) _ = _); k_is⟩
theorem s74_map : SetOk (TT w mg mb os) 74 (Str.ofString "map") := ⟨by (show findIn (hd.heap_39 w.params) _ _ = _); k_is, by (show plainOver (hd.heap_39 w.params) _ = _); k_is, by (show takerIn (hd.heap_39 w.params) _ _ = _); k_is, by (show hasDictIn (hd.heap_39 w.params) _ = _); k_is⟩
theorem mk53 : makesIn (TT w mg mb os).K 53 = true := by (show makesIn (hd.heap_39 w.params) _ = true); k_is
theorem mk74 : makesIn (TT w mg mb os).K 74 = true := by (show makesIn (hd.heap_39 w.params) _ = true); k_is
end
end Mine
end

section
open PySem PySem.W PyProof.Rows PySem.Calls
set_option Elab.async false
set_option maxRecDepth 100000
set_option maxHeartbeats 0
namespace Mine
noncomputable abbrev TS (w : World) (mg mb : Str → Option Value) (os : OsState) (sc : Addr) (ob : Obj) : TC := ⟨Challenge.pw_sm0126_01, w, hd.heap_39 w.params ++ [(sc, ob)], hd.view_39, looseW hd.view_39 [Str.ofString "GREATEST_EXTENT"], mg, mb, os⟩
section
variable {w : World} {mg mb : Str → Option Value} {os : OsState} {sc : Addr} {ob : Obj}
theorem lookup_more {α : Type} {K L : List (Addr × α)} {a : Addr} {o : α} (h : K.lookup a = some o) : (K ++ L).lookup a = some o := by
  induction K with
  | nil => cases h
  | cons p K ih =>
    obtain ⟨b, x⟩ := p
    rw [List.cons_append, List.lookup_cons]
    rw [List.lookup_cons] at h
    split at h
    · exact h
    · exact ih h
theorem Call.lift {n : Nat} {f : V} {args : List V} {S : Led} {K : V → Led → Prop} (h : Call (TT w mg mb os) n f args S K) : Call (TS w mg mb os sc ob) n f args S K :=
  fun A g s f' args' h1 h2 h3 h4 h5 h6 h7 h8 h9 h10 => h A g s f' args' h1 h2 h3 ⟨fun a o e => h4.k a o (lookup_more e), h4.t⟩ h5 h6 h7 h8 h9 h10
theorem ns_more {K L : Frag} {ns : Addr} {x : Str} {r : Option Value} (h : nsIn K ns x = some r) : nsIn (K ++ L) ns x = some r := by
  cases e : K.lookup ns with
  | none => unfold nsIn at h; rw [e] at h; cases h
  | some o => unfold nsIn at h ⊢; rw [e] at h; rw [lookup_more e]; exact h
theorem GlobIs.lift {x : Str} {v : V} (g : GlobIs (TT w mg mb os) x v) : GlobIs (TS w mg mb os sc ob) x v := by
  obtain ⟨v', e, r⟩ := g
  exact ⟨v', ns_more e, r⟩
theorem GlobB.lift {x : Str} {v : V} (g : GlobB (TT w mg mb os) x v) : GlobB (TS w mg mb os sc ob) x v := ⟨ns_more g.1, g.2⟩
theorem fn_more {K L : Frag} {a : Addr} (h : fnIn K a = true) : keepIn (K ++ L) (.ref a) = true := by
  cases e : K.lookup a with
  | none => unfold fnIn at h; rw [e] at h; cases h
  | some o =>
    unfold fnIn at h
    rw [e] at h
    unfold keepIn
    dsimp only
    rw [lookup_more e]
    obtain ⟨a1, a2, a3, a4⟩ := o
    cases a3 <;> first | rfl | cases h
theorem code_more {K L : Frag} {cd : Value} {q : Str} (h : codeIn K cd q = true) : codeIn (K ++ L) cd q = true := by
  unfold codeIn at h ⊢
  cases cd with
  | ref c =>
    dsimp only at h ⊢
    cases e : K.lookup c with
    | none => rw [e] at h; cases h
    | some o => rw [lookup_more e]; rw [e] at h; exact h
  | _ => exact h
theorem k_nextS : Callee (TS w mg mb os sc ob) (.ref 566) := fn_more (by (show fnIn (hd.heap_39 w.params) _ = true); k_is)
theorem k_doneS : Callee (TS w mg mb os sc ob) (.ref 571) := fn_more (by (show fnIn (hd.heap_39 w.params) _ = true); k_is)
theorem k_seenS : Callee (TS w mg mb os sc ob) (.ref 576) := fn_more (by (show fnIn (hd.heap_39 w.params) _ = true); k_is)
theorem k_freeS : Callee (TS w mg mb os sc ob) (.ref 186) := fn_more (by (show fnIn (hd.heap_39 w.params) _ = true); k_is)
theorem lift_in {g : Heap} (h : (hd.heap_39 w.params).In g) (e : g.get? sc = some ob) : (TS w mg mb os sc ob).K.In g := fun a o q => by
  rw [show (TS w mg mb os sc ob).K = hd.heap_39 w.params ++ [(sc, ob)] from rfl] at q
  rw [List.lookup_append] at q
  cases z : (hd.heap_39 w.params).lookup a with
  | some o' => rw [z] at q; cases q; exact h _ _ z
  | none =>
    rw [z] at q
    rw [Option.none_or, List.lookup_cons] at q
    split at q
    · rename_i hab
      cases q
      rw [eq_of_beq hab]; exact e
    · cases q
theorem WE.callW {T : TC} {c : Cx} {r : Loc} {S : Led} {K : V → Led → Prop} {x : Str} {a : Addr} {np pos : Pos} {es : List PySem.Expr} (ok : c.Ok) (g : GlobIs T x (.ref a)) (kk : ∀ h, T.K.In h → ∃ k, (k = Keeper.frame ∨ k = Keeper.machine ∨ k = Keeper.boundFrame) ∧ Looks (model T.prog T.w) h (keeperOf (.ref a)) k) (hk : c.env.kindOf x = some .globalImplicit) (h : WL T c r S es fun vs S₂ => CallV T c r S₂ (.ref a) vs K)
    (he : eval (.Call (.Name x np) es [] pos) c.env = (do callWith pos (← eval (.Name x np) c.env) [] (backTo pos (starEach es c.env)) (backToKw pos (keywordEach [] c.env))) := by rfl) (hp : (backTo pos (starEach es c.env)).any (·.1) = false := by rfl) (hd : (x == ("__debug__" : Str)) = false := by decide) : WE T c r S (.Call (.Name x np) es [] pos) K := fun y oy s X => by
  rw [he]
  refine wpAny_bind (wpAny_mono (WE.glob (K := fun fv S₁ => fv = .ref a ∧ WL T c r S₁ es fun vs S₂ => CallV T c r S₂ fv vs K) ok g hk ⟨rfl, h⟩ hd y oy s X) (fun f' s₁ ⟨fv, S₁, rf, X₁, e, k⟩ => ?_) fun _ _ e => e)
  subst e
  cases rf
  show wpAny _ _ (callWith pos _ [] (backTo pos (starEach es c.env)) []) _ _ s₁
  refine callWith_of (P := T.K.In) (by rw [hp]; rfl) kk ?_
  refine evalArgs_any hp ?_
  exact wpAny_mono (k y oy s₁ pos X₁) (fun vs' s₂ ⟨vs, S₂, rvs, X₂, k2⟩ => ⟨X₂.k oy, k2 _ vs' rfl rvs y oy s₂ X₂⟩) fun _ _ e => e
theorem kk_Disk : ∀ h, (TS w mg mb os sc ob).K.In h → ∃ k, (k = Keeper.frame ∨ k = Keeper.machine ∨ k = Keeper.boundFrame) ∧ Looks (model (TS w mg mb os sc ob).prog (TS w mg mb os sc ob).w) h (keeperOf (.ref 53)) k :=
  fun h hk => keeps_K (f := .ref 53) (g_DiskK (w := w) (mg := mg) (mb := mb) (os := os)) h fun a o e => hk a o (lookup_more e)
/-- a stretch of the script, which stands in the base -/
theorem WE.sliceB {T : TC} {c : Cx} {r : Loc} {S : Led} {K : V → Led → Prop} {e : PySem.Expr} {lo hi : Option PySem.Expr} {p pos : Pos} (h : WE T c r S e fun o S₁ => WP T c r S₁ lo fun a S₂ => WP T c r S₂ hi fun b S₃ => ∃ (l : Addr) (vs : List V), o = .ref l ∧ (∀ h, T.K.In h → ∃ its : List Value, Heap.IsList h l its.toArray ∧ All2 RV vs its) ∧ vs.length ≤ 1000000 ∧ ∀ x, K (.ref x) (S₃ ++ [(x, O.list (pick vs a b))])) : WE T c r S (.Subscript e (.Slice lo hi Option.none p) pos) K := fun y oy s X =>
  Subscript_ (wpAny_mono (h y oy s X) (fun o' s₁ q => q.elim fun o S₁ ro X₁ k => wpAny_Slice (wpAny_mono (k y oy s₁ X₁) (fun v₁ s₂ q => q.elim fun a S₂ pa X₂ k2 => wpAny_mono (k2 y oy s₂ X₂) (fun v₂ s₃ q => q.elim fun b S₃ pb X₃ kk => by
    obtain ⟨l, vs, e1, e2, e3, k3⟩ := kk
    subst e1
    cases ro
    refine wpAny_pure ?_
    have hp : ∀ b ob, s₃.heap.get? b = Option.some ob → (s₃.heap.push { cls := .type "slice", data := .fields #[v₁, v₂, .none] }).get? b = Option.some ob := fun b ob e => Heap.get?_push_of_some _ e
    have Y := X₃.ext (t := s₃.toks) hp
    obtain ⟨its, il, a2⟩ := e2 _ (Y.k oy)
    refine tail_any il.typeIs slot_list_getitem.lookup (wpAny_getItem_list_slice il (Heap.IsSliceOf.new ..) pa pb .none (by simp) ?_ (by rw [List.size_toArray, ← a2.length, sizeLine_eq]; (lia))) rfl
    refine Post.new (ob := .list (pick vs a b)) Y rfl (fun h x e => ?_) k3
    rw [kms_pick_eq] at e
    refine ⟨_, _, e, ?_⟩
    unfold kms_pick pick
    rw [a2.length]
    exact (a2.drop _).take _) fun _ _ e => e) fun _ _ e => e)) fun _ _ e => e)
end
end Mine
end

section
open PySem PySem.W PyProof.Rows PySem.Calls
set_option maxRecDepth 100000
set_option maxHeartbeats 0
namespace Mine
local macro_rules | `(tactic| wtm_at "m:mem") => `(tactic| with_reducible (first | exact mem_head | (refine mem_tail ?_; wtm_at "m:mem") | (refine List.mem_append_right _ ?_; wtm_at "m:mem") | (refine List.mem_append_left _ ?_; wtm_at "m:mem")))
local macro_rules | `(tactic| wtm_at "m:chg") => `(tactic| with_reducible (first | exact .head | ((show (_ : _ → _ → Prop) (_ :: _) _); exact .tail (by wtm_at "m:chg")) | ((show (_ : _ → _ → Prop) (_ ++ _) _); first | exact .app_right (by wtm_at "m:chg") | exact .app_left (by wtm_at "m:chg"))))
local macro_rules | `(tactic| wtm_at "m:cut") => `(tactic| with_reducible (first | exact .nil | exact .refl | ((show Cut (_ ++ _) _ _); exact .app (by wtm_at "m:cut") (by wtm_at "m:cut")) | ((show Cut (_ :: _) _ _); first | wtm_at "m:chg" | exact .cons (by wtm_at "m:chg") (by wtm_at "m:cut")) | exact cut_self (by with_unfolding_all simp only [List.nil_append, List.append_nil])))
local macro_rules | `(tactic| wtm_at "m:put") => `(tactic| first | exact put_old (by wtm_at "m:chg") | exact put_newK (by kernel_rfl))
local macro_rules | `(tactic| wtm_at "m:side") => `(tactic| first | decide | with_reducible rfl | (lia) | (intro i hi; dsimp only; split <;> (lia)) | assumption | exact rfl | (simp only [tl_length]; (lia)))
local macro_rules | `(tactic| wtm_at "m:sa") => `(tactic| refine SetV.own (by assumption) (by with_reducible assumption) (by wtm_at "m:mem") (by wtm_at "m:chg") (by wtm_at "m:put") (by simp) ?_)
local macro_rules | `(tactic| wtm_at "m:sub") => `(tactic| with_reducible (first | exact sub_refl | (refine sub_app ?_; wtm_at "m:sub")))
local macro_rules | `(tactic| wtm_at "m:kind") => `(tactic| first | exact Kinds.at (by assumption) (by wtm_at "m:mem") | exact Kinds.at (by assumption) (by with_unfolding_all decide))
local macro_rules | `(tactic| wtm_at "m:stm") => `(tactic| with_reducible (first
  | refine WSs.nil ?_
  | refine .retOf ?_
  | refine .ifOf ?_
  | (refine .asg ?_ ?_ ?_ ?_; assumption; wtm_at "m:kind"; with_unfolding_all rfl)
  | (refine .asgA ?_ ?_; with_unfolding_all rfl)
  | (refine .asgS ?_ ?_; with_unfolding_all rfl)
  | (refine .expr ?_ ?_ ?_; assumption; with_unfolding_all rfl)))
local macro_rules | `(tactic| wtm_at "m:sx") => `(tactic| with_reducible (first
  | exact .int | exact .str | exact .none | exact .bool
  | ((show SX _ _ _ _ (Expr.Name _ _) _); first | refine SX.name (by assumption) (by wtm_at "m:mem") (by with_unfolding_all decide) | refine SX.glob (by assumption) (by with_reducible assumption) (by wtm_at "m:kind") (by with_unfolding_all decide))
  | ((show SX _ _ _ _ (Expr.BinOp _ _ _ _) _); refine SX.bin (by wtm_at "m:sx") (by wtm_at "m:sx") (by constructor <;> (lia)))
  | ((show SX _ _ _ _ (Expr.Attribute _ _ _) _); refine SX.attr (by assumption) (by wtm_at "m:sx") (by with_reducible assumption) (by wtm_at "m:mem") (by wtm_at "m:mem") (by wtm_at "m:mem") (by with_unfolding_all exact trivial) (by with_unfolding_all rfl))))
local macro_rules | `(tactic| wtm_at "m:sxs") => `(tactic| with_reducible (first | exact .nil | refine SXs.cons (by wtm_at "m:sx") (by wtm_at "m:sxs")))
local macro_rules | `(tactic| wtm_at "m:exp") => `(tactic| with_reducible (first
  | refine .int ?_
  | refine .str ?_
  | refine .bool ?_
  | refine .none ?_
  | ((show WE _ _ _ _ (Expr.Name _ _) _); refine WE.name (by assumption) (by wtm_at "m:mem") ?_ (by with_unfolding_all decide))
  | ((show WE _ _ _ _ (Expr.Name _ _) _); refine WE.glob (by assumption) (by with_reducible assumption) (by wtm_at "m:kind") ?_ (by with_unfolding_all decide))
  | ((show WE _ _ _ _ (Expr.BinOp _ _ _ _) _); refine WE.sx (by wtm_at "m:sx") ?_)
  | refine .bin ?_
  | refine .ife ?_
  | ((show WE _ _ _ _ (Expr.Compare _ [_] _ _) _); refine WE.cmpS (by wtm_at "m:sx") (by wtm_at "m:sx") ?_ (by with_unfolding_all rfl))
  | (refine .cp ?_ ?_; with_unfolding_all rfl)
  | refine .slice ?_
  | ((show WE _ _ _ _ (Expr.Subscript _ _ _) _); refine WE.subS (by wtm_at "m:sx") (by wtm_at "m:sx") ?_)
  | ((show WE _ _ _ _ (Expr.Attribute _ _ _) _); refine WE.sx (by wtm_at "m:sx") ?_)
  | ((show WE _ _ _ _ (Expr.Attribute _ _ _) _); refine WE.attr ?_ (by with_unfolding_all rfl))
  | refine WE.list ?_
  | refine WE.tup ?_
  | ((show WE _ _ _ _ (Expr.Call (Expr.Name _ _) _ _ _) _); refine WE.callG (by assumption) (by with_reducible assumption) (by with_reducible assumption) (by wtm_at "m:kind") ?_ (by with_unfolding_all rfl) (by with_unfolding_all rfl) (by with_unfolding_all decide))
  | ((show WE _ _ _ _ (Expr.Call (Expr.Name _ _) _ _ _) _); refine WE.callB (by assumption) (by with_reducible assumption) (by with_unfolding_all exact trivial) (by wtm_at "m:kind") ?_ (by with_unfolding_all rfl) (by with_unfolding_all rfl) (by with_unfolding_all decide))
  | ((show WL _ _ _ _ (_ :: _) _); refine WL.sx (by wtm_at "m:sxs") ?_ (by with_unfolding_all rfl))
  | (refine .cs ?_ ?_; with_unfolding_all rfl)
  | refine WL.nil ?_
  | ((show WP _ _ _ _ (some _) _); refine WP.sx (by wtm_at "m:sx") ?_)
  | refine .some ?_
  | ((show WT _ _ _ _ (Expr.Compare _ [_] _ _) _); refine WT.cmpS (by wtm_at "m:sx") (by wtm_at "m:sx") ?_ (by with_unfolding_all rfl))
  | refine .not ?_
  | refine WT.or ?_
  | ((show WT _ _ _ _ (Expr.Compare _ [_, _] _ _) _); refine WT.chain ?_ (by with_unfolding_all rfl))))
local macro_rules | `(tactic| wtm_at "m:op") => `(tactic| with_reducible (first
  | refine .add ?_
  | refine .sub ?_
  | refine .and ?_
  | refine BinV.or ?_
  | (refine .mul ?_ ?_; exact ⟨by (lia), by (lia)⟩)
  | (refine .mod ?_ ?_; (lia))
  | (refine .div ?_ ?_ ?_; (lia); (lia))
  | (refine .shr ?_ ?_; (lia))
  | refine .lt ?_
  | refine .gt ?_
  | refine .le ?_
  | refine .ge ?_
  | refine .eq ?_
  | refine .ne ?_
  | refine .eqS ?_
  | refine .isNN ?_
  | refine .isNotNN ?_
  | refine .isR ?_
  | refine .isNotR ?_
  | refine .isI ?_
  | refine .max2 ?_
  | refine .min2 ?_
  | refine .intI ?_
  | refine .intB ?_
  | refine .abs ?_
  | ((show GetV _ _ _ _ _ _ _); refine GetV.own (by assumption) (by with_reducible assumption) (by wtm_at "m:mem") (by wtm_at "m:mem") (by wtm_at "m:mem") (by with_unfolding_all exact trivial) ?_)))
local macro_rules | `(tactic| wtm_at "m:w") => `(tactic| first | wtm_at "m:stm" | wtm_at "m:exp" | wtm_at "m:op")
local macro_rules | `(tactic| wtm_at "m:k") => `(tactic| with_reducible (first | refine toKr (by assumption) ?_ | refine toKn (by assumption) ?_))
local macro_rules | `(tactic| wtm_at "m:ws") => `(tactic| (repeat wtm_at "m:w"); (try wtm_at "m:k"))
local macro_rules | `(tactic| wtm_at "m:hr") => `(tactic| with_reducible (first | exact hr_nil | exact hr_cons (by wtm_at "m:mem") (by with_unfolding_all decide) (by wtm_at "m:hr")))
section
variable {w : World} {mg mb : Str → Option Value} {os : OsState}

theorem c_peek {m : Addr} {n : Nat} {f : Nat → Int} {x : Int} {a : Nat} (hx : x = a) (hz : n ≤ 1000) (h1 : a < n) :
    Call (TT w mg mb os) 1 (.ref 240) [.ref m, .int x] [(m, .list (tl n f))] fun v' S' => v' = .int (f a) ∧ S' = [(m, .list (tl n f))] := by
  subst hx
  refine CallC.call (n := 0 + 1) (CallC.drop ?_)
  refine' CallC.def (names := [Str.ofString "memory", Str.ofString "at"]) ?ho ?hcd ?hb rfl ?nd ?hk ?hc ?ha ?h ?c1 ?c2 ?c3
  case ho => (show List.lookup _ (hd.heap_39 _) = some _); k_is
  case hcd => (show codeIn (hd.heap_39 _) _ _ = true); k_is
  case c1 => exact rfl
  case c2 => exact rfl
  case c3 => exact rfl
  case nd => decide
  case hc => decide
  case ha => decide +kernel
  case hb => exact valsS fun _ => valsS fun _ => vals0 rfl
  case hk => exact kindsN (by decide)
  intro c ok hf hn hs hc
  dsimp only [List.zip_cons_cons, List.zip_nil_right, List.zip_nil_left]
  refine WSs.gen fun kn kr hkn hkr => ?_
  have G_len := @g_len w mg mb os
  wtm_at "m:ws"
  refine CallV.len (by wtm_at "m:mem") (by rw [tl_length]; (lia)) ?_
  rw [tl_length]
  wtm_at "m:ws"
  rw [fmod_small (by (lia)) (by (lia))]
  refine SubV.list (by wtm_at "m:mem") (by (lia)) (by (lia)) (tl_get (by (lia))) ?_
  rw [Int.toNat_natCast]
  try wtm_at "m:k"
  exact Endd.mk (by wtm_at "m:cut") ⟨rfl, rfl⟩
theorem c_poke {m : Addr} {n : Nat} {f : Nat → Int} {x v : Int} {a : Nat} (hx : x = a) (hz : n ≤ 1000) (h1 : a < n) (h2 : 0 ≤ v) (h3 : v < 256) :
    Call (TT w mg mb os) 1 (.ref 247) [.ref m, .int x, .int v] [(m, .list (tl n f))] fun v' S' => v' = .none ∧ S' = [(m, .list (tl n (upd f a v)))] := by
  subst hx
  refine CallC.call (n := 0 + 1) (CallC.drop ?_)
  refine' CallC.def (names := [Str.ofString "memory", Str.ofString "at", Str.ofString "octet"]) ?ho ?hcd ?hb rfl ?nd ?hk ?hc ?ha ?h ?c1 ?c2 ?c3
  case ho => (show List.lookup _ (hd.heap_39 _) = some _); k_is
  case hcd => (show codeIn (hd.heap_39 _) _ _ = true); k_is
  case c1 => exact rfl
  case c2 => exact rfl
  case c3 => exact rfl
  case nd => decide
  case hc => decide
  case ha => decide +kernel
  case hb => exact valsS fun _ => valsS fun _ => valsS fun _ => vals0 rfl
  case hk => exact kindsN (by decide)
  intro c ok hf hn hs hc
  dsimp only [List.zip_cons_cons, List.zip_nil_right, List.zip_nil_left]
  refine WSs.gen fun kn kr hkn hkr => ?_
  have G_len := @g_len w mg mb os
  wtm_at "m:ws"
  refine CallV.len (by wtm_at "m:mem") (by rw [tl_length]; (lia)) ?_
  rw [tl_length]
  wtm_at "m:ws"
  rw [fmod_small (by (lia)) (by (lia)), and255 h2 h3]
  refine SetI.list (by wtm_at "m:chg") (by (lia)) (by rw [tl_length]; (lia)) (by rw [tl_length]; (lia)) ?_
  wtm_at "m:ws"
  rw [tl_set, Int.toNat_natCast]
  try wtm_at "m:k"
  exact Endd.mk (by wtm_at "m:cut") ⟨rfl, rfl⟩
theorem c_octets_at {m : Addr} {n : Nat} {f : Nat → Int} {x y : Int} {a k : Nat} (hx : x = a) (hy : y = k) (hz : n ≤ 1000) (h1 : a + k ≤ n) :
    Call (TT w mg mb os) 2 (.ref 252) [.ref m, .int x, .int y] [(m, .list (tl n f))] fun v' S' => ∃ x, v' = .ref x ∧ S' = [(m, .list (tl n f)), (x, .list (tl k fun i => f (a + i)))] := by
  subst hx hy
  refine CallC.call (n := 1 + 1) (CallC.drop ?_)
  refine' CallC.def (names := [Str.ofString "memory", Str.ofString "at", Str.ofString "many"]) ?ho ?hcd ?hb rfl ?nd ?hk ?hc ?ha ?h ?c1 ?c2 ?c3
  case ho => (show List.lookup _ (hd.heap_39 _) = some _); k_is
  case hcd => (show codeIn (hd.heap_39 _) _ _ = true); k_is
  case c1 => exact rfl
  case c2 => exact rfl
  case c3 => exact rfl
  case nd => decide
  case hc => decide
  case ha => decide +kernel
  case hb => exact valsS fun _ => valsS fun _ => valsS fun _ => vals0 rfl
  case hk => exact kindsN (by decide)
  intro c ok hf hn hs hc
  dsimp only [List.zip_cons_cons, List.zip_nil_right, List.zip_nil_left]
  refine WSs.gen fun kn kr hkn hkr => ?_
  have G_peek := @g_peek w mg mb os
  have K_peek := @g_peekK w mg mb os
  have G_range := @g_range w mg mb os
  refine WSs.cons (WS.ret ?_)
  refine WE.comp (ext := fun a => [(Str.ofString "spot", a)]) ([(Str.ofString "memory", .ref m), (Str.ofString "at", .int a)] : Loc) ok (free_ok hs hc (by decide)) (by decide) (by decide) rfl ?hr ?nd (fun c₂ ok₂ k₂ => bnd_name ok₂ (Kinds.at k₂ (by decide))) (fun a => put_newK (by kernel_rfl)) ?_
  case hr => wtm_at "m:hr"
  case nd => exact nd_of (ns := [Str.ofString "memory", Str.ofString "at"]) rfl (by decide)
  refine WI.range (WE.bi ok g_range (by wtm_at "m:kind") ⟨rfl, ?_⟩)
  wtm_at "m:ws"
  refine ⟨_, rfl, by (lia), by (lia), ?_⟩
  intro c₂ ok₂ hf₂ hn₂ hs₂
  rw [Int.toNat_natCast, nums_map]
  refine comp_map (fun i => .int (f (a + i))) (by (lia)) trivial (fun i hi => ?_) (fun x => ?_)
  · wtm_at "m:ws"
    rw [and65535 (by (lia)) (by (lia))]
    refine CallV.same (c_peek (a := a + i) ?_ ?_ ?_) (by first | (rw [hn]; decide) | (lia)) (by wtm_at "m:cut") ?_
    · wtm_at "m:side"
    · wtm_at "m:side"
    · wtm_at "m:side"
    (try wtm_at "m:k"); exact ⟨rfl, _, by wtm_at "m:cut"⟩
  · rw [tl_map]
    try wtm_at "m:k"
    exact Endd.mk (by wtm_at "m:cut") ⟨x, rfl, rfl⟩
theorem c_put_octets {m l : Addr} {n : Nat} {f g : Nat → Int} {x : Int} {a k : Nat} (hx : x = a) (hz : n ≤ 1000) (h1 : a + k ≤ n) (hg : ∀ i, i < k → 0 ≤ g i ∧ g i < 256) :
    Call (TT w mg mb os) 2 (.ref 259) [.ref m, .int x, .ref l] [(m, .list (tl n f)), (l, .list (tl k g))] fun v' S' => v' = .none ∧ S' = [(m, .list (tl n (putAt f a k g))), (l, .list (tl k g))] := by
  subst hx
  refine CallC.call (n := 1 + 1) (CallC.drop ?_)
  refine' CallC.def (names := [Str.ofString "memory", Str.ofString "at", Str.ofString "octets"]) ?ho ?hcd ?hb rfl ?nd ?hk ?hc ?ha ?h ?c1 ?c2 ?c3
  case ho => (show List.lookup _ (hd.heap_39 _) = some _); k_is
  case hcd => (show codeIn (hd.heap_39 _) _ _ = true); k_is
  case c1 => exact rfl
  case c2 => exact rfl
  case c3 => exact rfl
  case nd => decide
  case hc => decide
  case ha => decide +kernel
  case hb => exact valsS fun _ => valsS fun _ => valsS fun _ => vals0 rfl
  case hk => exact kindsN (by decide)
  intro c ok hf hn hs hc
  dsimp only [List.zip_cons_cons, List.zip_nil_right, List.zip_nil_left]
  refine WSs.gen fun kn kr hkn hkr => ?_
  have G_enumerate := @g_enumerate w mg mb os
  have G_poke := @g_poke w mg mb os
  have K_poke := @g_pokeK w mg mb os
  refine WSs.cons (WS.for_ (bnd_two ok (.inl (by wtm_at "m:kind")) (.inl (by wtm_at "m:kind"))) ?_)
  refine WI.enum (WE.bi ok g_enumerate (by wtm_at "m:kind") ⟨rfl, ?_⟩)
  wtm_at "m:ws"
  refine ⟨l, tl k g, rfl, by wtm_at "m:mem", ?_⟩
  rw [enumd_tl]
  refine for_fix (fun j S => S = [(m, .list (tl n (putAt f a j g))), (l, .list (tl k g))]) (fun j S _ e => by subst e; wtm_at "m:mem") (fun j S hj e => ?_) (fun S e => ?_) (by rw [putAt_zero])
  · subst e
    refine ⟨_, ⟨_, put_newK (by kernel_rfl), put_newK (by kernel_rfl)⟩, ?_⟩
    wtm_at "m:ws"
    rw [and65535 (by (lia)) (by (lia))]
    have hgj := hg j hj
    refine CallV.fr (c_poke (a := a + j) ?_ ?_ ?_ hgj.1 hgj.2) (by first | (rw [hn]; decide) | (lia)) (by wtm_at "m:cut") ?_
    · wtm_at "m:side"
    · wtm_at "m:side"
    · wtm_at "m:side"
    refine ex0 ?_
    wtm_at "m:ws"
    rw [putAt_succ]
    (try wtm_at "m:k"); exact ⟨by wtm_at "m:sub", _, _, by wtm_at "m:cut", rfl⟩
  · subst e
    wtm_at "m:ws"
    try wtm_at "m:k"
    exact Endd.mk (by wtm_at "m:cut") ⟨rfl, rfl⟩
theorem c_name_at {m : Addr} {n : Nat} {f : Nat → Int} {x : Int} {a : Nat} (hx : x = a) (hz : n ≤ 1000) (h1 : a + 12 ≤ n) :
    Call (TT w mg mb os) 3 (.ref 266) [.ref m, .int x] [(m, .list (tl n f))] fun v' S' => ∃ x, v' = .ref x ∧ S' = [(m, .list (tl n f)), (x, .list (tl 11 fun i => f (a + 1 + i)))] := by
  subst hx
  refine CallC.call (n := 2 + 1) (CallC.drop ?_)
  refine' CallC.def (names := [Str.ofString "memory", Str.ofString "at"]) ?ho ?hcd ?hb rfl ?nd ?hk ?hc ?ha ?h ?c1 ?c2 ?c3
  case ho => (show List.lookup _ (hd.heap_39 _) = some _); k_is
  case hcd => (show codeIn (hd.heap_39 _) _ _ = true); k_is
  case c1 => exact rfl
  case c2 => exact rfl
  case c3 => exact rfl
  case nd => decide
  case hc => decide
  case ha => decide +kernel
  case hb => exact valsS fun _ => valsS fun _ => vals0 rfl
  case hk => exact kindsN (by decide)
  intro c ok hf hn hs hc
  dsimp only [List.zip_cons_cons, List.zip_nil_right, List.zip_nil_left]
  refine WSs.gen fun kn kr hkn hkr => ?_
  have G_octets_at := @g_octets_at w mg mb os
  have K_octets_at := @g_octets_atK w mg mb os
  have G_NAME_SIZE := @g_NAME_SIZE w mg mb os
  wtm_at "m:ws"
  refine CallV.fr (c_octets_at (a := a + 1) (k := 11) ?_ ?_ ?_ ?_) (by first | (rw [hn]; decide) | (lia)) (by wtm_at "m:cut") ?_
  · wtm_at "m:side"
  · wtm_at "m:side"
  · wtm_at "m:side"
  · wtm_at "m:side"
  refine ex1 fun x => ?_
  try wtm_at "m:k"
  exact Endd.mk (by wtm_at "m:cut") ⟨x, rfl, rfl⟩
theorem c_extent_at {m : Addr} {n : Nat} {f : Nat → Int} {x : Int} {a : Nat} (hx : x = a) (hz : n ≤ 1000) (h1 : a + 15 ≤ n) (h2 : f (a + 12) = 0) (h3 : f (a + 14) = 0 ∨ f (a + 14) = 128) :
    Call (TT w mg mb os) 2 (.ref 273) [.ref m, .int x] [(m, .list (tl n f))] fun v' S' => v' = .int 0 ∧ S' = [(m, .list (tl n f))] := by
  subst hx
  refine CallC.call (n := 1 + 1) (CallC.drop ?_)
  refine' CallC.def (names := [Str.ofString "memory", Str.ofString "at"]) ?ho ?hcd ?hb rfl ?nd ?hk ?hc ?ha ?h ?c1 ?c2 ?c3
  case ho => (show List.lookup _ (hd.heap_39 _) = some _); k_is
  case hcd => (show codeIn (hd.heap_39 _) _ _ = true); k_is
  case c1 => exact rfl
  case c2 => exact rfl
  case c3 => exact rfl
  case nd => decide
  case hc => decide
  case ha => decide +kernel
  case hb => exact valsS fun _ => valsS fun _ => vals0 rfl
  case hk => exact kindsN (by decide)
  intro c ok hf hn hs hc
  dsimp only [List.zip_cons_cons, List.zip_nil_right, List.zip_nil_left]
  refine WSs.gen fun kn kr hkn hkr => ?_
  have G_EXTENTS_LOW := @g_EXTENTS_LOW w mg mb os
  have G_peek := @g_peek w mg mb os
  have K_peek := @g_peekK w mg mb os
  have G_EX_AT := @g_EX_AT w mg mb os
  have G_S2_AT := @g_S2_AT w mg mb os
  wtm_at "m:ws"
  refine CallV.same (c_peek (a := a + 14) ?_ ?_ ?_) (by first | (rw [hn]; decide) | (lia)) (by wtm_at "m:cut") ?_
  · wtm_at "m:side"
  · wtm_at "m:side"
  · wtm_at "m:side"
  wtm_at "m:ws"
  refine CallV.same (c_peek (a := a + 12) ?_ ?_ ?_) (by first | (rw [hn]; decide) | (lia)) (by wtm_at "m:cut") ?_
  · wtm_at "m:side"
  · wtm_at "m:side"
  · wtm_at "m:side"
  wtm_at "m:ws"
  rw [h2]
  rcases h3 with h3 | h3 <;> rw [h3]
  · try wtm_at "m:k"
    exact Endd.mk (by wtm_at "m:cut") ⟨rfl, rfl⟩
  · try wtm_at "m:k"
    exact Endd.mk (by wtm_at "m:cut") ⟨rfl, rfl⟩
theorem c_set_extent {m : Addr} {n : Nat} {f : Nat → Int} {x : Int} {a : Nat} (hx : x = a) (hz : n ≤ 1000) (h1 : a + 15 ≤ n) :
    Call (TT w mg mb os) 2 (.ref 280) [.ref m, .int x, .int 0] [(m, .list (tl n f))] fun v' S' => v' = .none ∧ S' = [(m, .list (tl n (upd (upd f (a + 12) 0) (a + 14) 128)))] := by
  subst hx
  refine CallC.call (n := 1 + 1) (CallC.drop ?_)
  refine' CallC.def (names := [Str.ofString "memory", Str.ofString "at", Str.ofString "extent"]) ?ho ?hcd ?hb rfl ?nd ?hk ?hc ?ha ?h ?c1 ?c2 ?c3
  case ho => (show List.lookup _ (hd.heap_39 _) = some _); k_is
  case hcd => (show codeIn (hd.heap_39 _) _ _ = true); k_is
  case c1 => exact rfl
  case c2 => exact rfl
  case c3 => exact rfl
  case nd => decide
  case hc => decide
  case ha => decide +kernel
  case hb => exact valsS fun _ => valsS fun _ => valsS fun _ => vals0 rfl
  case hk => exact kindsN (by decide)
  intro c ok hf hn hs hc
  dsimp only [List.zip_cons_cons, List.zip_nil_right, List.zip_nil_left]
  refine WSs.gen fun kn kr hkn hkr => ?_
  have G_poke := @g_poke w mg mb os
  have K_poke := @g_pokeK w mg mb os
  have G_EX_AT := @g_EX_AT w mg mb os
  have G_EXTENTS_LOW := @g_EXTENTS_LOW w mg mb os
  have G_S2_AT := @g_S2_AT w mg mb os
  have G_UNCHANGED := @g_UNCHANGED w mg mb os
  wtm_at "m:ws"
  rw [show (0 : Int).fmod 32 = 0 from rfl]
  refine CallV.fr (c_poke (a := a + 12) ?_ ?_ ?_ ?_ ?_) (by first | (rw [hn]; decide) | (lia)) (by wtm_at "m:cut") ?_
  · wtm_at "m:side"
  · wtm_at "m:side"
  · wtm_at "m:side"
  · wtm_at "m:side"
  · wtm_at "m:side"
  refine ex0 ?_
  wtm_at "m:ws"
  rw [show Builtin.bitOr (Builtin.bitAnd ((0 : Int).fdiv 32) 63) 128 = 128 from by decide]
  refine CallV.fr (c_poke (a := a + 14) ?_ ?_ ?_ ?_ ?_) (by first | (rw [hn]; decide) | (lia)) (by wtm_at "m:cut") ?_
  · wtm_at "m:side"
  · wtm_at "m:side"
  · wtm_at "m:side"
  · wtm_at "m:side"
  · wtm_at "m:side"
  refine ex0 ?_
  wtm_at "m:ws"
  try wtm_at "m:k"
  exact Endd.mk (by wtm_at "m:cut") ⟨rfl, rfl⟩
theorem c_is_changed {m : Addr} {n : Nat} {f : Nat → Int} {x : Int} {a : Nat} (hx : x = a) (hz : n ≤ 1000) (h1 : a + 15 ≤ n) (h3 : f (a + 14) = 0 ∨ f (a + 14) = 128) :
    Call (TT w mg mb os) 2 (.ref 287) [.ref m, .int x] [(m, .list (tl n f))] fun v' S' => v' = .bool (decide (f (a + 14) = 0)) ∧ S' = [(m, .list (tl n f))] := by
  subst hx
  refine CallC.call (n := 1 + 1) (CallC.drop ?_)
  refine' CallC.def (names := [Str.ofString "memory", Str.ofString "at"]) ?ho ?hcd ?hb rfl ?nd ?hk ?hc ?ha ?h ?c1 ?c2 ?c3
  case ho => (show List.lookup _ (hd.heap_39 _) = some _); k_is
  case hcd => (show codeIn (hd.heap_39 _) _ _ = true); k_is
  case c1 => exact rfl
  case c2 => exact rfl
  case c3 => exact rfl
  case nd => decide
  case hc => decide
  case ha => decide +kernel
  case hb => exact valsS fun _ => valsS fun _ => vals0 rfl
  case hk => exact kindsN (by decide)
  intro c ok hf hn hs hc
  dsimp only [List.zip_cons_cons, List.zip_nil_right, List.zip_nil_left]
  refine WSs.gen fun kn kr hkn hkr => ?_
  have G_UNCHANGED := @g_UNCHANGED w mg mb os
  have G_peek := @g_peek w mg mb os
  have K_peek := @g_peekK w mg mb os
  have G_S2_AT := @g_S2_AT w mg mb os
  wtm_at "m:ws"
  refine CallV.same (c_peek (a := a + 14) ?_ ?_ ?_) (by first | (rw [hn]; decide) | (lia)) (by wtm_at "m:cut") ?_
  · wtm_at "m:side"
  · wtm_at "m:side"
  · wtm_at "m:side"
  wtm_at "m:ws"
  rcases h3 with h3 | h3 <;> rw [h3]
  · try wtm_at "m:k"
    exact Endd.mk (by wtm_at "m:cut") ⟨rfl, rfl⟩
  · try wtm_at "m:k"
    exact Endd.mk (by wtm_at "m:cut") ⟨rfl, rfl⟩
theorem c_mark_changed {m : Addr} {n : Nat} {f : Nat → Int} {x : Int} {a : Nat} {b : Bool} (hx : x = a) (hz : n ≤ 1000) (h1 : a + 15 ≤ n) (h3 : f (a + 14) = 0 ∨ f (a + 14) = 128) :
    Call (TT w mg mb os) 2 (.ref 294) [.ref m, .int x, .bool b] [(m, .list (tl n f))] fun v' S' => v' = .none ∧ S' = [(m, .list (tl n (upd f (a + 14) (if b then 0 else 128))))] := by
  subst hx
  refine CallC.call (n := 1 + 1) (CallC.drop ?_)
  refine' CallC.def (names := [Str.ofString "memory", Str.ofString "at", Str.ofString "is_now"]) ?ho ?hcd ?hb rfl ?nd ?hk ?hc ?ha ?h ?c1 ?c2 ?c3
  case ho => (show List.lookup _ (hd.heap_39 _) = some _); k_is
  case hcd => (show codeIn (hd.heap_39 _) _ _ = true); k_is
  case c1 => exact rfl
  case c2 => exact rfl
  case c3 => exact rfl
  case nd => decide
  case hc => decide
  case ha => decide +kernel
  case hb => exact valsS fun _ => valsS fun _ => valsS fun _ => vals0 rfl
  case hk => exact kindsN (by decide)
  intro c ok hf hn hs hc
  dsimp only [List.zip_cons_cons, List.zip_nil_right, List.zip_nil_left]
  refine WSs.gen fun kn kr hkn hkr => ?_
  have G_poke := @g_poke w mg mb os
  have K_poke := @g_pokeK w mg mb os
  have G_peek := @g_peek w mg mb os
  have K_peek := @g_peekK w mg mb os
  have G_S2_AT := @g_S2_AT w mg mb os
  have G_UNCHANGED := @g_UNCHANGED w mg mb os
  wtm_at "m:ws"
  refine CallV.same (c_peek (a := a + 14) ?_ ?_ ?_) (by first | (rw [hn]; decide) | (lia)) (by wtm_at "m:cut") ?_
  · wtm_at "m:side"
  · wtm_at "m:side"
  · wtm_at "m:side"
  wtm_at "m:ws"
  have e : Builtin.bitAnd (f (a + 14)) 127 = 0 := by rcases h3 with h3 | h3 <;> rw [h3] <;> decide
  rw [e]
  first | refine Asg.mk (put_newK (by kernel_rfl)) ?_ | refine ⟨_, put_newK (by kernel_rfl), ?_⟩
  wtm_at "m:ws"
  refine WT.val (WE.name ok (by wtm_at "m:mem") ⟨b, rfl, ?_, ?_⟩)
  · rintro rfl
    wtm_at "m:ws"
    refine CallV.fr (c_poke (a := a + 14) ?_ ?_ ?_ ?_ ?_) (by first | (rw [hn]; decide) | (lia)) (by wtm_at "m:cut") ?_
    · wtm_at "m:side"
    · wtm_at "m:side"
    · wtm_at "m:side"
    · wtm_at "m:side"
    · wtm_at "m:side"
    refine ex0 ?_
    wtm_at "m:ws"
    rw [if_pos rfl]
    try wtm_at "m:k"
    exact Endd.mk (by wtm_at "m:cut") ⟨rfl, rfl⟩
  · rintro rfl
    wtm_at "m:ws"
    rw [show Builtin.bitOr 0 128 = 128 from by decide]
    refine CallV.fr (c_poke (a := a + 14) ?_ ?_ ?_ ?_ ?_) (by first | (rw [hn]; decide) | (lia)) (by wtm_at "m:cut") ?_
    · wtm_at "m:side"
    · wtm_at "m:side"
    · wtm_at "m:side"
    · wtm_at "m:side"
    · wtm_at "m:side"
    refine ex0 ?_
    wtm_at "m:ws"
    rw [if_neg (by decide)]
    try wtm_at "m:k"
    exact Endd.mk (by wtm_at "m:cut") ⟨rfl, rfl⟩
theorem c_count_at {m : Addr} {n : Nat} {f : Nat → Int} {x : Int} {a : Nat} (hx : x = a) (hz : n ≤ 1000) (h1 : a + 16 ≤ n) :
    Call (TT w mg mb os) 2 (.ref 301) [.ref m, .int x] [(m, .list (tl n f))] fun v' S' => v' = .int (f (a + 15)) ∧ S' = [(m, .list (tl n f))] := by
  subst hx
  refine CallC.call (n := 1 + 1) (CallC.drop ?_)
  refine' CallC.def (names := [Str.ofString "memory", Str.ofString "at"]) ?ho ?hcd ?hb rfl ?nd ?hk ?hc ?ha ?h ?c1 ?c2 ?c3
  case ho => (show List.lookup _ (hd.heap_39 _) = some _); k_is
  case hcd => (show codeIn (hd.heap_39 _) _ _ = true); k_is
  case c1 => exact rfl
  case c2 => exact rfl
  case c3 => exact rfl
  case nd => decide
  case hc => decide
  case ha => decide +kernel
  case hb => exact valsS fun _ => valsS fun _ => vals0 rfl
  case hk => exact kindsN (by decide)
  intro c ok hf hn hs hc
  dsimp only [List.zip_cons_cons, List.zip_nil_right, List.zip_nil_left]
  refine WSs.gen fun kn kr hkn hkr => ?_
  have G_peek := @g_peek w mg mb os
  have K_peek := @g_peekK w mg mb os
  have G_RC_AT := @g_RC_AT w mg mb os
  wtm_at "m:ws"
  refine CallV.same (c_peek (a := a + 15) ?_ ?_ ?_) (by first | (rw [hn]; decide) | (lia)) (by wtm_at "m:cut") ?_
  · wtm_at "m:side"
  · wtm_at "m:side"
  · wtm_at "m:side"
  try wtm_at "m:k"
  exact Endd.mk (by wtm_at "m:cut") ⟨rfl, rfl⟩
theorem c_set_count {m : Addr} {n : Nat} {f : Nat → Int} {x v : Int} {a : Nat} (hx : x = a) (hz : n ≤ 1000) (h1 : a + 16 ≤ n) (h2 : 0 ≤ v) (h3 : v < 256) :
    Call (TT w mg mb os) 2 (.ref 308) [.ref m, .int x, .int v] [(m, .list (tl n f))] fun v' S' => v' = .none ∧ S' = [(m, .list (tl n (upd f (a + 15) v)))] := by
  subst hx
  refine CallC.call (n := 1 + 1) (CallC.drop ?_)
  refine' CallC.def (names := [Str.ofString "memory", Str.ofString "at", Str.ofString "count"]) ?ho ?hcd ?hb rfl ?nd ?hk ?hc ?ha ?h ?c1 ?c2 ?c3
  case ho => (show List.lookup _ (hd.heap_39 _) = some _); k_is
  case hcd => (show codeIn (hd.heap_39 _) _ _ = true); k_is
  case c1 => exact rfl
  case c2 => exact rfl
  case c3 => exact rfl
  case nd => decide
  case hc => decide
  case ha => decide +kernel
  case hb => exact valsS fun _ => valsS fun _ => valsS fun _ => vals0 rfl
  case hk => exact kindsN (by decide)
  intro c ok hf hn hs hc
  dsimp only [List.zip_cons_cons, List.zip_nil_right, List.zip_nil_left]
  refine WSs.gen fun kn kr hkn hkr => ?_
  have G_poke := @g_poke w mg mb os
  have K_poke := @g_pokeK w mg mb os
  have G_RC_AT := @g_RC_AT w mg mb os
  wtm_at "m:ws"
  refine CallV.fr (c_poke (a := a + 15) ?_ ?_ ?_ ?_ ?_) (by first | (rw [hn]; decide) | (lia)) (by wtm_at "m:cut") ?_
  · wtm_at "m:side"
  · wtm_at "m:side"
  · wtm_at "m:side"
  · wtm_at "m:side"
  · wtm_at "m:side"
  refine ex0 ?_
  wtm_at "m:ws"
  try wtm_at "m:k"
  exact Endd.mk (by wtm_at "m:cut") ⟨rfl, rfl⟩
theorem c_current_at {m : Addr} {n : Nat} {f : Nat → Int} {x : Int} {a : Nat} (hx : x = a) (hz : n ≤ 1000) (h1 : a + 33 ≤ n) :
    Call (TT w mg mb os) 2 (.ref 315) [.ref m, .int x] [(m, .list (tl n f))] fun v' S' => v' = .int (f (a + 32)) ∧ S' = [(m, .list (tl n f))] := by
  subst hx
  refine CallC.call (n := 1 + 1) (CallC.drop ?_)
  refine' CallC.def (names := [Str.ofString "memory", Str.ofString "at"]) ?ho ?hcd ?hb rfl ?nd ?hk ?hc ?ha ?h ?c1 ?c2 ?c3
  case ho => (show List.lookup _ (hd.heap_39 _) = some _); k_is
  case hcd => (show codeIn (hd.heap_39 _) _ _ = true); k_is
  case c1 => exact rfl
  case c2 => exact rfl
  case c3 => exact rfl
  case nd => decide
  case hc => decide
  case ha => decide +kernel
  case hb => exact valsS fun _ => valsS fun _ => vals0 rfl
  case hk => exact kindsN (by decide)
  intro c ok hf hn hs hc
  dsimp only [List.zip_cons_cons, List.zip_nil_right, List.zip_nil_left]
  refine WSs.gen fun kn kr hkn hkr => ?_
  have G_peek := @g_peek w mg mb os
  have K_peek := @g_peekK w mg mb os
  have G_CR_AT := @g_CR_AT w mg mb os
  wtm_at "m:ws"
  refine CallV.same (c_peek (a := a + 32) ?_ ?_ ?_) (by first | (rw [hn]; decide) | (lia)) (by wtm_at "m:cut") ?_
  · wtm_at "m:side"
  · wtm_at "m:side"
  · wtm_at "m:side"
  try wtm_at "m:k"
  exact Endd.mk (by wtm_at "m:cut") ⟨rfl, rfl⟩
theorem c_set_current {m : Addr} {n : Nat} {f : Nat → Int} {x v : Int} {a : Nat} (hx : x = a) (hz : n ≤ 1000) (h1 : a + 33 ≤ n) (h2 : 0 ≤ v) (h3 : v < 256) :
    Call (TT w mg mb os) 2 (.ref 322) [.ref m, .int x, .int v] [(m, .list (tl n f))] fun v' S' => v' = .none ∧ S' = [(m, .list (tl n (upd f (a + 32) v)))] := by
  subst hx
  refine CallC.call (n := 1 + 1) (CallC.drop ?_)
  refine' CallC.def (names := [Str.ofString "memory", Str.ofString "at", Str.ofString "record"]) ?ho ?hcd ?hb rfl ?nd ?hk ?hc ?ha ?h ?c1 ?c2 ?c3
  case ho => (show List.lookup _ (hd.heap_39 _) = some _); k_is
  case hcd => (show codeIn (hd.heap_39 _) _ _ = true); k_is
  case c1 => exact rfl
  case c2 => exact rfl
  case c3 => exact rfl
  case nd => decide
  case hc => decide
  case ha => decide +kernel
  case hb => exact valsS fun _ => valsS fun _ => valsS fun _ => vals0 rfl
  case hk => exact kindsN (by decide)
  intro c ok hf hn hs hc
  dsimp only [List.zip_cons_cons, List.zip_nil_right, List.zip_nil_left]
  refine WSs.gen fun kn kr hkn hkr => ?_
  have G_poke := @g_poke w mg mb os
  have K_poke := @g_pokeK w mg mb os
  have G_CR_AT := @g_CR_AT w mg mb os
  wtm_at "m:ws"
  refine CallV.fr (c_poke (a := a + 32) ?_ ?_ ?_ ?_ ?_) (by first | (rw [hn]; decide) | (lia)) (by wtm_at "m:cut") ?_
  · wtm_at "m:side"
  · wtm_at "m:side"
  · wtm_at "m:side"
  · wtm_at "m:side"
  · wtm_at "m:side"
  refine ex0 ?_
  wtm_at "m:ws"
  try wtm_at "m:k"
  exact Endd.mk (by wtm_at "m:cut") ⟨rfl, rfl⟩

theorem c_random_at {m : Addr} {n : Nat} {f : Nat → Int} {x : Int} {a : Nat} (hx : x = a) (hz : n ≤ 1000) (h1 : a + 36 ≤ n) (hb : ∀ i, i < 3 → 0 ≤ f (a + 33 + i) ∧ f (a + 33 + i) < 256) :
    Call (TT w mg mb os) 3 (.ref 357) [.ref m, .int x] [(m, .list (tl n f))] fun v' S' => v' = .int (f (a + 33) + 256 * f (a + 34) + 65536 * f (a + 35)) ∧ S' = [(m, .list (tl n f))] := by
  subst hx
  refine CallC.call (n := 2 + 1) (CallC.drop ?_)
  refine' CallC.def (names := [Str.ofString "memory", Str.ofString "at"]) ?ho ?hcd ?hb rfl ?nd ?hk ?hc ?ha ?h ?c1 ?c2 ?c3
  case ho => (show List.lookup _ (hd.heap_39 _) = some _); k_is
  case hcd => (show codeIn (hd.heap_39 _) _ _ = true); k_is
  case c1 => exact rfl
  case c2 => exact rfl
  case c3 => exact rfl
  case nd => decide
  case hc => decide
  case ha => decide +kernel
  case hb => exact valsS fun _ => valsS fun _ => vals0 rfl
  case hk => exact kindsN (by decide)
  intro c ok hf hn hs hc
  dsimp only [List.zip_cons_cons, List.zip_nil_right, List.zip_nil_left]
  refine WSs.gen fun kn kr hkn hkr => ?_
  have G_octets_at := @g_octets_at w mg mb os
  have K_octets_at := @g_octets_atK w mg mb os
  have G_R_AT := @g_R_AT w mg mb os
  refine WSs.cons (WS.unpack ?_)
  wtm_at "m:ws"
  refine CallV.fr (c_octets_at (a := a + 33) (k := 3) ?_ ?_ ?_ ?_) (by first | (rw [hn]; decide) | (lia)) (by wtm_at "m:cut") ?_
  · wtm_at "m:side"
  · wtm_at "m:side"
  · wtm_at "m:side"
  · wtm_at "m:side"
  refine ex1 fun x => ?_
  refine ⟨x, _, rfl, .inr (by wtm_at "m:mem"), rfl, ?_⟩
  show WAs _ _ _ _ [V.int (f (a + 33 + 0)), V.int (f (a + 33 + 1)), V.int (f (a + 33 + 2))] _ _
  refine WA.name ok (by wtm_at "m:kind") (put_newK (by kernel_rfl)) ?_
  refine WA.name ok (by wtm_at "m:kind") (put_newK (by kernel_rfl)) ?_
  refine WA.name ok (by wtm_at "m:kind") (put_newK (by kernel_rfl)) ?_
  show WSs _ _ _ _ _ _ _
  have q1 := hb 1 (by (lia))
  have q2 := hb 2 (by (lia))
  wtm_at "m:ws"
  try wtm_at "m:k"
  exact Endd.mk (by wtm_at "m:cut") ⟨rfl, rfl⟩
theorem c_set_random {m : Addr} {n : Nat} {f : Nat → Int} {x v : Int} {a : Nat} (hx : x = a) (hz : n ≤ 1000) (h1 : a + 36 ≤ n) (h2 : 0 ≤ v) (h3 : v < 256) :
    Call (TT w mg mb os) 3 (.ref 364) [.ref m, .int x, .int v] [(m, .list (tl n f))] fun v' S' => v' = .none ∧ S' = [(m, .list (tl n (putAt f (a + 33) 3 fun i => if i = 0 then v else 0)))] := by
  subst hx
  refine CallC.call (n := 2 + 1) (CallC.drop ?_)
  refine' CallC.def (names := [Str.ofString "memory", Str.ofString "at", Str.ofString "record"]) ?ho ?hcd ?hb rfl ?nd ?hk ?hc ?ha ?h ?c1 ?c2 ?c3
  case ho => (show List.lookup _ (hd.heap_39 _) = some _); k_is
  case hcd => (show codeIn (hd.heap_39 _) _ _ = true); k_is
  case c1 => exact rfl
  case c2 => exact rfl
  case c3 => exact rfl
  case nd => decide
  case hc => decide
  case ha => decide +kernel
  case hb => exact valsS fun _ => valsS fun _ => valsS fun _ => vals0 rfl
  case hk => exact kindsN (by decide)
  intro c ok hf hn hs hc
  dsimp only [List.zip_cons_cons, List.zip_nil_right, List.zip_nil_left]
  refine WSs.gen fun kn kr hkn hkr => ?_
  have G_put_octets := @g_put_octets w mg mb os
  have K_put_octets := @g_put_octetsK w mg mb os
  have G_R_AT := @g_R_AT w mg mb os
  wtm_at "m:ws"
  rw [and255 h2 h3]
  rw [show (v.fdiv (2 ^ (8 : Int).toNat)) = 0 from by rw [Int.fdiv_eq_ediv_of_nonneg _ (by decide)]; show v / 256 = 0; (lia), show (v.fdiv (2 ^ (16 : Int).toNat)) = 0 from by rw [Int.fdiv_eq_ediv_of_nonneg _ (by decide)]; show v / 65536 = 0; (lia), show Builtin.bitAnd 0 255 = 0 from by decide]
  refine ⟨by simp, fun l => ?_⟩
  rw [show [V.int v, V.int 0, V.int 0] = tl 3 (fun i => if i = 0 then v else 0) from rfl]
  wtm_at "m:ws"
  refine CallV.fr (c_put_octets (a := a + 33) ?_ ?_ ?_ ?_) (by first | (rw [hn]; decide) | (lia)) (by wtm_at "m:cut") ?_
  · wtm_at "m:side"
  · wtm_at "m:side"
  · wtm_at "m:side"
  · wtm_at "m:side"
  refine ex0 ?_
  wtm_at "m:ws"
  try wtm_at "m:k"
  exact Endd.mk (by wtm_at "m:cut") ⟨rfl, rfl⟩
theorem c_new_fcb {l : Addr} {g : Nat → Int} : 
    Call (TT w mg mb os) 1 (.ref 371) [.int 0, .ref l] [(l, .list (tl 11 g))] fun v' S' => ∃ x, v' = .ref x ∧ S' = [(l, .list (tl 11 g)), (x, .list (tl 36 fun i => if i < 12 then (if i < 1 then 0 else g (i - 1)) else 0))] := by
  refine CallC.call (n := 0 + 1) (CallC.drop ?_)
  refine' CallC.def (names := [Str.ofString "drive", Str.ofString "name"]) ?ho ?hcd ?hb rfl ?nd ?hk ?hc ?ha ?h ?c1 ?c2 ?c3
  case ho => (show List.lookup _ (hd.heap_39 _) = some _); k_is
  case hcd => (show codeIn (hd.heap_39 _) _ _ = true); k_is
  case c1 => exact rfl
  case c2 => exact rfl
  case c3 => exact rfl
  case nd => decide
  case hc => decide
  case ha => decide +kernel
  case hb => exact valsS fun _ => valsS fun _ => vals0 rfl
  case hk => exact kindsN (by decide)
  intro c ok hf hn hs hc
  dsimp only [List.zip_cons_cons, List.zip_nil_right, List.zip_nil_left]
  refine WSs.gen fun kn kr hkn hkr => ?_
  have G_NAME_SIZE := @g_NAME_SIZE w mg mb os
  have G_FCB_SIZE := @g_FCB_SIZE w mg mb os
  wtm_at "m:ws"
  refine ⟨by simp, fun a => ?_⟩
  wtm_at "m:ws"
  rw [show [V.int 0] = tl 1 (fun _ => 0) from rfl]
  refine BinV.cat (by wtm_at "m:mem") (by wtm_at "m:mem") (by simp [tl_length]) fun b => ?_
  wtm_at "m:ws"
  refine ⟨by simp, fun d => ?_⟩
  wtm_at "m:ws"
  refine BinV.rep (by wtm_at "m:mem") (by decide) fun e => ?_
  rw [rep_tl, app_tl]
  refine BinV.cat (by wtm_at "m:mem") (by wtm_at "m:mem") (by simp [tl_length]) fun x => ?_
  rw [app_tl]
  (try wtm_at "m:k"); refine ⟨[(l, .list (tl 11 g)), (x, .list _)], _, by wtm_at "m:cut", x, rfl, ?_⟩
  rfl
theorem c_map_slots {d dx gl dl : Addr} {D : Nat → Int} : 
    Call (TT w mg mb os) 1 (.ref 85) [.ref d] (DL d dx gl dl D) fun v' S' => v' = .int 16 ∧ S' = DL d dx gl dl D := by
  refine CallC.call (n := 0 + 1) (CallC.drop ?_)
  refine' CallC.def (names := [Str.ofString "disk"]) ?ho ?hcd ?hb rfl ?nd ?hk ?hc ?ha ?h ?c1 ?c2 ?c3
  case ho => (show List.lookup _ (hd.heap_39 _) = some _); k_is
  case hcd => (show codeIn (hd.heap_39 _) _ _ = true); k_is
  case c1 => exact rfl
  case c2 => exact rfl
  case c3 => exact rfl
  case nd => decide
  case hc => decide
  case ha => decide +kernel
  case hb => exact valsS fun _ => vals0 rfl
  case hk => exact kindsN (by decide)
  intro c ok hf hn hs hc
  dsimp only [List.zip_cons_cons, List.zip_nil_right, List.zip_nil_left]
  refine WSs.gen fun kn kr hkn hkr => ?_
  have A_blocks := @a53_blocks w mg mb os
  wtm_at "m:ws"
  refine ⟨fun _ => ?_, fun h => (by cases h)⟩
  wtm_at "m:ws"
  try wtm_at "m:k"
  exact Endd.mk (by wtm_at "m:cut") ⟨rfl, rfl⟩
theorem c_records_of_block {d dx gl dl : Addr} {D : Nat → Int} : 
    Call (TT w mg mb os) 1 (.ref 92) [.ref d] (DL d dx gl dl D) fun v' S' => v' = .int 2 ∧ S' = DL d dx gl dl D := by
  refine CallC.call (n := 0 + 1) (CallC.drop ?_)
  refine' CallC.def (names := [Str.ofString "disk"]) ?ho ?hcd ?hb rfl ?nd ?hk ?hc ?ha ?h ?c1 ?c2 ?c3
  case ho => (show List.lookup _ (hd.heap_39 _) = some _); k_is
  case hcd => (show codeIn (hd.heap_39 _) _ _ = true); k_is
  case c1 => exact rfl
  case c2 => exact rfl
  case c3 => exact rfl
  case nd => decide
  case hc => decide
  case ha => decide +kernel
  case hb => exact valsS fun _ => vals0 rfl
  case hk => exact kindsN (by decide)
  intro c ok hf hn hs hc
  dsimp only [List.zip_cons_cons, List.zip_nil_right, List.zip_nil_left]
  refine WSs.gen fun kn kr hkn hkr => ?_
  have A_block := @a53_block w mg mb os
  have A_record := @a53_record w mg mb os
  wtm_at "m:ws"
  try wtm_at "m:k"
  exact Endd.mk (by wtm_at "m:cut") ⟨rfl, rfl⟩
theorem c_records_of_extent {d dx gl dl : Addr} {D : Nat → Int} : 
    Call (TT w mg mb os) 2 (.ref 99) [.ref d] (DL d dx gl dl D) fun v' S' => v' = .int 32 ∧ S' = DL d dx gl dl D := by
  refine CallC.call (n := 1 + 1) (CallC.drop ?_)
  refine' CallC.def (names := [Str.ofString "disk"]) ?ho ?hcd ?hb rfl ?nd ?hk ?hc ?ha ?h ?c1 ?c2 ?c3
  case ho => (show List.lookup _ (hd.heap_39 _) = some _); k_is
  case hcd => (show codeIn (hd.heap_39 _) _ _ = true); k_is
  case c1 => exact rfl
  case c2 => exact rfl
  case c3 => exact rfl
  case nd => decide
  case hc => decide
  case ha => decide +kernel
  case hb => exact valsS fun _ => vals0 rfl
  case hk => exact kindsN (by decide)
  intro c ok hf hn hs hc
  dsimp only [List.zip_cons_cons, List.zip_nil_right, List.zip_nil_left]
  refine WSs.gen fun kn kr hkn hkr => ?_
  have G_min := @g_min w mg mb os
  have G_MOST_RECORDS := @g_MOST_RECORDS w mg mb os
  have G_map_slots := @g_map_slots w mg mb os
  have K_map_slots := @g_map_slotsK w mg mb os
  have G_records_of_block := @g_records_of_block w mg mb os
  have K_records_of_block := @g_records_of_blockK w mg mb os
  wtm_at "m:ws"
  refine CallV.same (c_map_slots) (by first | (rw [hn]; decide) | (lia)) (by wtm_at "m:cut") ?_
  wtm_at "m:ws"
  refine CallV.same (c_records_of_block) (by first | (rw [hn]; decide) | (lia)) (by wtm_at "m:cut") ?_
  wtm_at "m:ws"
  try wtm_at "m:k"
  exact Endd.mk (by wtm_at "m:cut") ⟨rfl, rfl⟩
theorem c_directory_blocks {d dx gl dl : Addr} {D : Nat → Int} : 
    Call (TT w mg mb os) 1 (.ref 106) [.ref d] (DL d dx gl dl D) fun v' S' => v' = .int 8 ∧ S' = DL d dx gl dl D := by
  refine CallC.call (n := 0 + 1) (CallC.drop ?_)
  refine' CallC.def (names := [Str.ofString "disk"]) ?ho ?hcd ?hb rfl ?nd ?hk ?hc ?ha ?h ?c1 ?c2 ?c3
  case ho => (show List.lookup _ (hd.heap_39 _) = some _); k_is
  case hcd => (show codeIn (hd.heap_39 _) _ _ = true); k_is
  case c1 => exact rfl
  case c2 => exact rfl
  case c3 => exact rfl
  case nd => decide
  case hc => decide
  case ha => decide +kernel
  case hb => exact valsS fun _ => vals0 rfl
  case hk => exact kindsN (by decide)
  intro c ok hf hn hs hc
  dsimp only [List.zip_cons_cons, List.zip_nil_right, List.zip_nil_left]
  refine WSs.gen fun kn kr hkn hkr => ?_
  have G_ENTRY_SIZE := @g_ENTRY_SIZE w mg mb os
  have A_block := @a53_block w mg mb os
  have A_entries := @a53_entries w mg mb os
  wtm_at "m:ws"
  try wtm_at "m:k"
  exact Endd.mk (by wtm_at "m:cut") ⟨rfl, rfl⟩
theorem c_need_writable {d dx gl dl : Addr} {D : Nat → Int} : 
    Call (TT w mg mb os) 1 (.ref 113) [.ref d] (DL d dx gl dl D) fun v' S' => v' = .none ∧ S' = DL d dx gl dl D := by
  refine CallC.call (n := 0 + 1) (CallC.drop ?_)
  refine' CallC.def (names := [Str.ofString "disk"]) ?ho ?hcd ?hb rfl ?nd ?hk ?hc ?ha ?h ?c1 ?c2 ?c3
  case ho => (show List.lookup _ (hd.heap_39 _) = some _); k_is
  case hcd => (show codeIn (hd.heap_39 _) _ _ = true); k_is
  case c1 => exact rfl
  case c2 => exact rfl
  case c3 => exact rfl
  case nd => decide
  case hc => decide
  case ha => decide +kernel
  case hb => exact valsS fun _ => vals0 rfl
  case hk => exact kindsN (by decide)
  intro c ok hf hn hs hc
  dsimp only [List.zip_cons_cons, List.zip_nil_right, List.zip_nil_left]
  refine WSs.gen fun kn kr hkn hkr => ?_
  have A_is_read_only := @a53_is_read_only w mg mb os
  wtm_at "m:ws"
  refine WT.val (WE.attr ?_)
  wtm_at "m:ws"
  refine ⟨false, rfl, fun h => (by cases h), fun _ => ?_⟩
  wtm_at "m:ws"
  try wtm_at "m:k"
  exact Endd.mk (by wtm_at "m:cut") ⟨rfl, rfl⟩
theorem c_need_writable_disk {d dx gl dl : Addr} {D : Nat → Int} : 
    Call (TT w mg mb os) 1 (.ref 435) [.ref d] (DL d dx gl dl D) fun v' S' => v' = .none ∧ S' = DL d dx gl dl D := by
  refine CallC.call (n := 0 + 1) (CallC.drop ?_)
  refine' CallC.def (names := [Str.ofString "disk"]) ?ho ?hcd ?hb rfl ?nd ?hk ?hc ?ha ?h ?c1 ?c2 ?c3
  case ho => (show List.lookup _ (hd.heap_39 _) = some _); k_is
  case hcd => (show codeIn (hd.heap_39 _) _ _ = true); k_is
  case c1 => exact rfl
  case c2 => exact rfl
  case c3 => exact rfl
  case nd => decide
  case hc => decide
  case ha => decide +kernel
  case hb => exact valsS fun _ => vals0 rfl
  case hk => exact kindsN (by decide)
  intro c ok hf hn hs hc
  dsimp only [List.zip_cons_cons, List.zip_nil_right, List.zip_nil_left]
  refine WSs.gen fun kn kr hkn hkr => ?_
  have A_is_read_only := @a53_is_read_only w mg mb os
  wtm_at "m:ws"
  refine WT.val (WE.attr ?_)
  wtm_at "m:ws"
  refine ⟨false, rfl, fun h => (by cases h), fun _ => ?_⟩
  wtm_at "m:ws"
  try wtm_at "m:k"
  exact Endd.mk (by wtm_at "m:cut") ⟨rfl, rfl⟩
theorem c_raw_entry {d dx gl dl : Addr} {D : Nat → Int} {x : Int} {k : Nat} (hx : x = k) (hk : k < 8) : 
    Call (TT w mg mb os) 1 (.ref 141) [.ref d, .int x] (DL d dx gl dl D) fun v' S' => ∃ a, v' = .ref a ∧ S' = (a, .list (tl 32 fun i => D (32 * k + i))) :: DL d dx gl dl D := by
  subst hx
  refine CallC.call (n := 0 + 1) (CallC.drop ?_)
  refine' CallC.def (names := [Str.ofString "disk", Str.ofString "number"]) ?ho ?hcd ?hb rfl ?nd ?hk ?hc ?ha ?h ?c1 ?c2 ?c3
  case ho => (show List.lookup _ (hd.heap_39 _) = some _); k_is
  case hcd => (show codeIn (hd.heap_39 _) _ _ = true); k_is
  case c1 => exact rfl
  case c2 => exact rfl
  case c3 => exact rfl
  case nd => decide
  case hc => decide
  case ha => decide +kernel
  case hb => exact valsS fun _ => valsS fun _ => vals0 rfl
  case hk => exact kindsN (by decide)
  intro c ok hf hn hs hc
  dsimp only [List.zip_cons_cons, List.zip_nil_right, List.zip_nil_left]
  refine WSs.gen fun kn kr hkn hkr => ?_
  have G_ENTRY_SIZE := @g_ENTRY_SIZE w mg mb os
  have A_data := @a53_data w mg mb os
  have A_entries := @a53_entries w mg mb os
  wtm_at "m:ws"
  refine ⟨fun _ => ?_, fun h => (by simp at h)⟩
  wtm_at "m:ws"
  have e1 : (!decide ((k : Int) < 8)) = false := by simp; (lia)
  rw [e1]
  refine ⟨fun h => (by cases h), fun _ => ?_⟩
  wtm_at "m:ws"
  refine SlE.mk (l := dl) (by wtm_at "m:mem") (by rw [tl_length]; (lia)) (pick_tlE (a := 32 * k) (b := 32 * k + 32) (m := 32) (by (lia)) (by (lia)) (by (lia)) (by (lia)) (by (lia))) fun a => ?_
  try wtm_at "m:k"
  exact Endd.mk (by wtm_at "m:cut") ⟨a, rfl, rfl⟩
theorem c_map_of {d dx gl dl l : Addr} {D g : Nat → Int} : 
    Call (TT w mg mb os) 2 (.ref 191) [.ref d, .ref l] ((l, .list (tl 32 g)) :: DL d dx gl dl D) fun v' S' => ∃ a, v' = .ref a ∧ S' = (a, .list (tl 16 fun i => g (16 + i))) :: (l, .list (tl 32 g)) :: DL d dx gl dl D := by
  refine CallC.call (n := 1 + 1) (CallC.drop ?_)
  refine' CallC.def (names := [Str.ofString "disk", Str.ofString "octets"]) ?ho ?hcd ?hb rfl ?nd ?hk ?hc ?ha ?h ?c1 ?c2 ?c3
  case ho => (show List.lookup _ (hd.heap_39 _) = some _); k_is
  case hcd => (show codeIn (hd.heap_39 _) _ _ = true); k_is
  case c1 => exact rfl
  case c2 => exact rfl
  case c3 => exact rfl
  case nd => decide
  case hc => decide
  case ha => decide +kernel
  case hb => exact valsS fun _ => valsS fun _ => vals0 rfl
  case hk => exact kindsN (by decide)
  intro c ok hf hn hs hc
  dsimp only [List.zip_cons_cons, List.zip_nil_right, List.zip_nil_left]
  refine WSs.gen fun kn kr hkn hkr => ?_
  have G_map_slots := @g_map_slots w mg mb os
  have K_map_slots := @g_map_slotsK w mg mb os
  have G_MAP_AT := @g_MAP_AT w mg mb os
  have G_ENTRY_SIZE := @g_ENTRY_SIZE w mg mb os
  have G_range := @g_range w mg mb os
  wtm_at "m:ws"
  refine CallV.same (c_map_slots) (by first | (rw [hn]; decide) | (lia)) (by wtm_at "m:cut") ?_
  wtm_at "m:ws"
  refine ⟨fun _ => ?_, fun h => (by cases h)⟩
  wtm_at "m:ws"
  refine SlE.mk (l := l) (by wtm_at "m:mem") (by rw [tl_length]; (lia)) (pick_tlE (a := 16) (b := 32) (m := 16) (by (lia)) (by (lia)) (by (lia)) (by (lia)) (by (lia))) fun a => ?_
  try wtm_at "m:k"
  exact Endd.mk (by wtm_at "m:cut") ⟨a, rfl, rfl⟩
theorem c_map_octets {d dx gl dl l : Addr} {D g : Nat → Int} : 
    Call (TT w mg mb os) 2 (.ref 198) [.ref d, .ref l] ((l, .list (tl 16 g)) :: DL d dx gl dl D) fun v' S' => ∃ a, v' = .ref a ∧ S' = (a, .list (tl 16 g)) :: (l, .list (tl 16 g)) :: DL d dx gl dl D := by
  refine CallC.call (n := 1 + 1) (CallC.drop ?_)
  refine' CallC.def (names := [Str.ofString "disk", Str.ofString "blocks"]) ?ho ?hcd ?hb rfl ?nd ?hk ?hc ?ha ?h ?c1 ?c2 ?c3
  case ho => (show List.lookup _ (hd.heap_39 _) = some _); k_is
  case hcd => (show codeIn (hd.heap_39 _) _ _ = true); k_is
  case c1 => exact rfl
  case c2 => exact rfl
  case c3 => exact rfl
  case nd => decide
  case hc => decide
  case ha => decide +kernel
  case hb => exact valsS fun _ => valsS fun _ => vals0 rfl
  case hk => exact kindsN (by decide)
  intro c ok hf hn hs hc
  dsimp only [List.zip_cons_cons, List.zip_nil_right, List.zip_nil_left]
  refine WSs.gen fun kn kr hkn hkr => ?_
  have G_map_slots := @g_map_slots w mg mb os
  have K_map_slots := @g_map_slotsK w mg mb os
  have G_list := @g_list w mg mb os
  wtm_at "m:ws"
  refine CallV.same (c_map_slots) (by first | (rw [hn]; decide) | (lia)) (by wtm_at "m:cut") ?_
  wtm_at "m:ws"
  refine ⟨fun _ => ?_, fun h => (by cases h)⟩
  wtm_at "m:ws"
  refine CallV.list (by wtm_at "m:mem") (by rw [tl_length]; (lia)) fun a => ?_
  try wtm_at "m:k"
  exact Endd.mk (by wtm_at "m:cut") ⟨a, rfl, rfl⟩
theorem c_blocks_at {d dx gl dl m : Addr} {D f : Nat → Int} {x : Int} {a : Nat} (hx : x = a) (h1 : a + 32 ≤ 112) : 
    Call (TT w mg mb os) 3 (.ref 329) [.ref d, .ref m, .int x] ((m, .list (tl 112 f)) :: DL d dx gl dl D) fun v' S' => ∃ b, v' = .ref b ∧ S' = (b, .list (tl 16 fun i => f (a + 16 + i))) :: (m, .list (tl 112 f)) :: DL d dx gl dl D := by
  subst hx
  refine CallC.call (n := 2 + 1) (CallC.drop ?_)
  refine' CallC.def (names := [Str.ofString "disk", Str.ofString "memory", Str.ofString "at"]) ?ho ?hcd ?hb rfl ?nd ?hk ?hc ?ha ?h ?c1 ?c2 ?c3
  case ho => (show List.lookup _ (hd.heap_39 _) = some _); k_is
  case hcd => (show codeIn (hd.heap_39 _) _ _ = true); k_is
  case c1 => exact rfl
  case c2 => exact rfl
  case c3 => exact rfl
  case nd => decide
  case hc => decide
  case ha => decide +kernel
  case hb => exact valsS fun _ => valsS fun _ => valsS fun _ => vals0 rfl
  case hk => exact kindsN (by decide)
  intro c ok hf hn hs hc
  dsimp only [List.zip_cons_cons, List.zip_nil_right, List.zip_nil_left]
  refine WSs.gen fun kn kr hkn hkr => ?_
  have G_map_of := @g_map_of w mg mb os
  have K_map_of := @g_map_ofK w mg mb os
  have G_octets_at := @g_octets_at w mg mb os
  have K_octets_at := @g_octets_atK w mg mb os
  have G_ENTRY_SIZE := @g_ENTRY_SIZE w mg mb os
  wtm_at "m:ws"
  refine CallV.fr (c_octets_at (a := a) (k := 32) ?_ ?_ ?_ ?_) (by first | (rw [hn]; decide) | (lia)) (by wtm_at "m:cut") ?_
  · wtm_at "m:side"
  · wtm_at "m:side"
  · wtm_at "m:side"
  · wtm_at "m:side"
  refine ex1 fun x => ?_
  wtm_at "m:ws"
  refine CallV.fr (c_map_of) (by first | (rw [hn]; decide) | (lia)) (by wtm_at "m:cut") ?_
  refine ex1 fun y => ?_
  have e : (fun i => f (a + (16 + i))) = fun i => f (a + 16 + i) := by funext i; congr 1; (lia)
  rw [e]
  try wtm_at "m:k"
  exact Endd.mk (by wtm_at "m:cut") ⟨y, rfl, rfl⟩
theorem c_set_block {d dx gl dl m : Addr} {D f : Nat → Int} {x y v : Int} {a k : Nat} (hx : x = a) (h1 : a + 32 ≤ 112) (hy : y = k) (hk : k < 16) (h2 : 0 ≤ v) (h3 : v < 256) (hb : ∀ i, i < 112 → 0 ≤ f i ∧ f i < 256) : 
    Call (TT w mg mb os) 4 (.ref 336) [.ref d, .ref m, .int x, .int y, .int v] ((m, .list (tl 112 f)) :: DL d dx gl dl D) fun v' S' => v' = .none ∧ S' = (m, .list (tl 112 (upd f (a + 16 + k) v))) :: DL d dx gl dl D := by
  subst hx hy
  refine CallC.call (n := 3 + 1) (CallC.drop ?_)
  refine' CallC.def (names := [Str.ofString "disk", Str.ofString "memory", Str.ofString "at", Str.ofString "slot", Str.ofString "block"]) ?ho ?hcd ?hb rfl ?nd ?hk ?hc ?ha ?h ?c1 ?c2 ?c3
  case ho => (show List.lookup _ (hd.heap_39 _) = some _); k_is
  case hcd => (show codeIn (hd.heap_39 _) _ _ = true); k_is
  case c1 => exact rfl
  case c2 => exact rfl
  case c3 => exact rfl
  case nd => decide
  case hc => decide
  case ha => decide +kernel
  case hb => exact valsS fun _ => valsS fun _ => valsS fun _ => valsS fun _ => valsS fun _ => vals0 rfl
  case hk => exact kindsN (by decide)
  intro c ok hf hn hs hc
  dsimp only [List.zip_cons_cons, List.zip_nil_right, List.zip_nil_left]
  refine WSs.gen fun kn kr hkn hkr => ?_
  have G_blocks_at := @g_blocks_at w mg mb os
  have K_blocks_at := @g_blocks_atK w mg mb os
  have G_put_octets := @g_put_octets w mg mb os
  have K_put_octets := @g_put_octetsK w mg mb os
  have G_MAP_AT := @g_MAP_AT w mg mb os
  have G_map_octets := @g_map_octets w mg mb os
  have K_map_octets := @g_map_octetsK w mg mb os
  wtm_at "m:ws"
  refine CallV.fr (c_blocks_at (a := a) ?_ ?_) (by first | (rw [hn]; decide) | (lia)) (by wtm_at "m:cut") ?_
  · wtm_at "m:side"
  · wtm_at "m:side"
  refine ex1 fun b => ?_
  first | refine Asg.mk (put_newK (by kernel_rfl)) ?_ | refine ⟨_, put_newK (by kernel_rfl), ?_⟩
  wtm_at "m:ws"
  refine SetI.list (by wtm_at "m:chg") (by (lia)) (by rw [tl_length]; (lia)) (by rw [tl_length]; (lia)) ?_
  rw [tl_set, Int.toNat_natCast]
  wtm_at "m:ws"
  refine CallV.fr (c_map_octets) (by first | (rw [hn]; decide) | (lia)) (by wtm_at "m:cut") ?_
  refine ex1 fun b2 => ?_
  wtm_at "m:ws"
  have hg : ∀ i, i < 16 → 0 ≤ upd (fun i => f (a + 16 + i)) k v i ∧ upd (fun i => f (a + 16 + i)) k v i < 256 := fun i hi => by
    unfold upd
    split
    · exact ⟨h2, h3⟩
    · exact hb _ (by (lia))
  refine CallV.fr (c_put_octets (a := a + 16) ?_ ?_ ?_ hg) (by first | (rw [hn]; decide) | (lia)) (by wtm_at "m:cut") ?_
  · wtm_at "m:side"
  · wtm_at "m:side"
  · wtm_at "m:side"
  refine ex0 ?_
  wtm_at "m:ws"
  have e : putAt f (a + 16) 16 (upd (fun i => f (a + 16 + i)) k v) = upd f (a + 16 + k) v := by
    funext i
    unfold putAt upd
    by_cases q : i = a + 16 + k
    · subst q; rw [if_pos (by (lia)), if_pos (by (lia)), if_pos rfl]
    · rw [if_neg q]
      split
      · dsimp only; rw [if_neg (by (lia))]; congr 1; (lia)
      · rfl
  rw [e]
  try wtm_at "m:k"
  exact Endd.mk (by wtm_at "m:cut") ⟨rfl, rfl⟩
theorem c_take_entry {m l : Addr} {f g : Nat → Int} {x : Int} {a : Nat} (hx : x = a) (h1 : a + 32 ≤ 112) (hg : ∀ i, i < 32 → 0 ≤ g i ∧ g i < 256) (h14 : g 14 = 0 ∨ g 14 = 128) :
    Call (TT w mg mb os) 3 (.ref 343) [.ref m, .int x, .ref l] [(m, .list (tl 112 f)), (l, .list (tl 32 g))] fun v' S' => v' = .none ∧ S' = [(m, .list (tl 112 (upd (putAt f (a + 1) 31 fun i => g (1 + i)) (a + 14) 128))), (l, .list (tl 32 g))] := by
  subst hx
  refine CallC.call (n := 2 + 1) (CallC.drop ?_)
  refine' CallC.def (names := [Str.ofString "memory", Str.ofString "at", Str.ofString "octets"]) ?ho ?hcd ?hb rfl ?nd ?hk ?hc ?ha ?h ?c1 ?c2 ?c3
  case ho => (show List.lookup _ (hd.heap_39 _) = some _); k_is
  case hcd => (show codeIn (hd.heap_39 _) _ _ = true); k_is
  case c1 => exact rfl
  case c2 => exact rfl
  case c3 => exact rfl
  case nd => decide
  case hc => decide
  case ha => decide +kernel
  case hb => exact valsS fun _ => valsS fun _ => valsS fun _ => vals0 rfl
  case hk => exact kindsN (by decide)
  intro c ok hf hn hs hc
  dsimp only [List.zip_cons_cons, List.zip_nil_right, List.zip_nil_left]
  refine WSs.gen fun kn kr hkn hkr => ?_
  have G_put_octets := @g_put_octets w mg mb os
  have K_put_octets := @g_put_octetsK w mg mb os
  have G_mark_changed := @g_mark_changed w mg mb os
  have K_mark_changed := @g_mark_changedK w mg mb os
  have G_ENTRY_SIZE := @g_ENTRY_SIZE w mg mb os
  wtm_at "m:ws"
  refine SlE.mk (l := l) (by wtm_at "m:mem") (by rw [tl_length]; (lia)) (pick_tlE (a := 1) (b := 32) (m := 31) (by (lia)) (by (lia)) (by (lia)) (by (lia)) (by (lia))) fun b => ?_
  wtm_at "m:ws"
  have hg' : ∀ i, i < 31 → 0 ≤ g (1 + i) ∧ g (1 + i) < 256 := fun i hi => hg _ (by (lia))
  refine CallV.fr (c_put_octets (a := a + 1) ?_ ?_ ?_ hg') (by first | (rw [hn]; decide) | (lia)) (by wtm_at "m:cut") ?_
  · wtm_at "m:side"
  · wtm_at "m:side"
  · wtm_at "m:side"
  refine ex0 ?_
  wtm_at "m:ws"
  have h14' : putAt f (a + 1) 31 (fun i => g (1 + i)) (a + 14) = 0 ∨ putAt f (a + 1) 31 (fun i => g (1 + i)) (a + 14) = 128 := by
    unfold putAt
    rw [if_pos (by (lia))]
    dsimp only
    rw [show 1 + (a + 14 - (a + 1)) = 14 by (lia)]
    exact h14
  refine CallV.fr (c_mark_changed (a := a) (b := false) ?_ ?_ ?_ h14') (by first | (rw [hn]; decide) | (lia)) (by wtm_at "m:cut") ?_
  · wtm_at "m:side"
  · wtm_at "m:side"
  · wtm_at "m:side"
  refine ex0 ?_
  rw [if_neg (by decide)]
  wtm_at "m:ws"
  try wtm_at "m:k"
  exact Endd.mk (by wtm_at "m:cut") ⟨rfl, rfl⟩
theorem c_begin_extent {m : Addr} {f : Nat → Int} {x : Int} {a : Nat} (hx : x = a) (h1 : a + 32 ≤ 112) :
    Call (TT w mg mb os) 3 (.ref 350) [.ref m, .int x, .int 0] [(m, .list (tl 112 f))] fun v' S' => v' = .none ∧ S' = [(m, .list (tl 112 (putAt f (a + 12) 20 fun i => if i = 2 then 128 else 0)))] := by
  subst hx
  refine CallC.call (n := 2 + 1) (CallC.drop ?_)
  refine' CallC.def (names := [Str.ofString "memory", Str.ofString "at", Str.ofString "extent"]) ?ho ?hcd ?hb rfl ?nd ?hk ?hc ?ha ?h ?c1 ?c2 ?c3
  case ho => (show List.lookup _ (hd.heap_39 _) = some _); k_is
  case hcd => (show codeIn (hd.heap_39 _) _ _ = true); k_is
  case c1 => exact rfl
  case c2 => exact rfl
  case c3 => exact rfl
  case nd => decide
  case hc => decide
  case ha => decide +kernel
  case hb => exact valsS fun _ => valsS fun _ => valsS fun _ => vals0 rfl
  case hk => exact kindsN (by decide)
  intro c ok hf hn hs hc
  dsimp only [List.zip_cons_cons, List.zip_nil_right, List.zip_nil_left]
  refine WSs.gen fun kn kr hkn hkr => ?_
  have G_set_extent := @g_set_extent w mg mb os
  have K_set_extent := @g_set_extentK w mg mb os
  have G_put_octets := @g_put_octets w mg mb os
  have K_put_octets := @g_put_octetsK w mg mb os
  have G_RC_AT := @g_RC_AT w mg mb os
  wtm_at "m:ws"
  refine CallV.fr (c_set_extent (a := a) ?_ ?_ ?_) (by first | (rw [hn]; decide) | (lia)) (by wtm_at "m:cut") ?_
  · wtm_at "m:side"
  · wtm_at "m:side"
  · wtm_at "m:side"
  refine ex0 ?_
  wtm_at "m:ws"
  refine ⟨by simp, fun b => ?_⟩
  rw [show [V.int 0] = tl 1 (fun _ => 0) from rfl]
  wtm_at "m:ws"
  refine CallV.fr (c_put_octets (a := a + 13) ?_ ?_ ?_ ?_) (by first | (rw [hn]; decide) | (lia)) (by wtm_at "m:cut") ?_
  · wtm_at "m:side"
  · wtm_at "m:side"
  · wtm_at "m:side"
  · wtm_at "m:side"
  refine ex0 ?_
  wtm_at "m:ws"
  refine ⟨by simp, fun b2 => ?_⟩
  wtm_at "m:ws"
  refine BinV.rep (by wtm_at "m:mem") (by decide) fun e => ?_
  rw [rep_tl]
  wtm_at "m:ws"
  refine CallV.fr (c_put_octets (a := a + 15) ?_ ?_ ?_ ?_) (by first | (rw [hn]; decide) | (lia)) (by wtm_at "m:cut") ?_
  · wtm_at "m:side"
  · wtm_at "m:side"
  · wtm_at "m:side"
  · wtm_at "m:side"
  refine ex0 ?_
  wtm_at "m:ws"
  have e : putAt (putAt (upd (upd f (a + 12) 0) (a + 14) 128) (a + 13) 1 fun _ => 0) (a + 15) (17 : Int).toNat (fun _ => 0) = putAt f (a + 12) 20 fun i => if i = 2 then 128 else 0 := by
    funext i
    unfold putAt upd
    repeat' split
    all_goals first | rfl | (exfalso; (lia)) | (dsimp only; rw [if_neg (by (lia))]) | (dsimp only; rw [if_pos (by (lia))])
  rw [e]
  try wtm_at "m:k"
  exact Endd.mk (by wtm_at "m:cut") ⟨rfl, rfl⟩

theorem c_put_entry {d dx gl dl l : Addr} {D g : Nat → Int} {x : Int} {k : Nat} (hx : x = k) (hk : k < 8) :
    Call (TT w mg mb os) 2 (.ref 155) [.ref d, .int x, .ref l] ((l, .list (tl 32 g)) :: DL d dx gl dl D) fun v' S' => v' = .none ∧ S' = (l, .list (tl 32 g)) :: DL d dx gl dl (putAt D (32 * k) 32 g) := by
  subst hx
  refine CallC.call (n := 1 + 1) (CallC.drop ?_)
  refine' CallC.def (names := [Str.ofString "disk", Str.ofString "number", Str.ofString "octets"]) ?ho ?hcd ?hb rfl ?nd ?hk ?hc ?ha ?h ?c1 ?c2 ?c3
  case ho => (show List.lookup _ (hd.heap_39 _) = some _); k_is
  case hcd => (show codeIn (hd.heap_39 _) _ _ = true); k_is
  case c1 => exact rfl
  case c2 => exact rfl
  case c3 => exact rfl
  case nd => decide
  case hc => decide
  case ha => decide +kernel
  case hb => exact valsS fun _ => valsS fun _ => valsS fun _ => vals0 rfl
  case hk => exact kindsN (by decide)
  intro c ok hf hn hs hc
  dsimp only [List.zip_cons_cons, List.zip_nil_right, List.zip_nil_left]
  refine WSs.gen fun kn kr hkn hkr => ?_
  have G_need_writable := @g_need_writable w mg mb os
  have K_need_writable := @g_need_writableK w mg mb os
  have G_raw_entry := @g_raw_entry w mg mb os
  have K_raw_entry := @g_raw_entryK w mg mb os
  have G_enumerate := @g_enumerate w mg mb os
  have G_ENTRY_SIZE := @g_ENTRY_SIZE w mg mb os
  have A_data := @a53_data w mg mb os
  wtm_at "m:ws"
  refine CallV.same (c_need_writable) (by first | (rw [hn]; decide) | (lia)) (by wtm_at "m:cut") ?_
  wtm_at "m:ws"
  refine CallV.fr (c_raw_entry (k := k) ?_ ?_) (by first | (rw [hn]; decide) | (lia)) (by wtm_at "m:cut") ?_
  · wtm_at "m:side"
  · wtm_at "m:side"
  refine ex1 fun a => ?_
  refine WSs.cut (S₁ := (l, .list (tl 32 g)) :: DL d dx gl dl D) (by wtm_at "m:cut") ?_
  refine WSs.cons (WS.for_ (bnd_two ok (.inl (by wtm_at "m:kind")) (.inl (by wtm_at "m:kind"))) ?_)
  refine WI.enum (WE.bi ok g_enumerate (by wtm_at "m:kind") ⟨rfl, ?_⟩)
  wtm_at "m:ws"
  refine ⟨l, tl 32 g, rfl, by wtm_at "m:mem", ?_⟩
  rw [enumd_tl]
  refine for_fix (fun j S => S = (l, .list (tl 32 g)) :: DL d dx gl dl (putAt D (32 * k) j g)) (fun j S _ e => by subst e; wtm_at "m:mem") (fun j S hj e => ?_) (fun S e => ?_) (by rw [putAt_zero])
  · subst e
    refine ⟨_, ⟨_, put_newK (by kernel_rfl), put_newK (by kernel_rfl)⟩, ?_⟩
    wtm_at "m:ws"
    refine SetI.tl (a := 32 * k + j) (by wtm_at "m:chg") (by (lia)) (by (lia)) (by (lia)) ?_
    rw [putAt_succ]
    wtm_at "m:ws"
    (try wtm_at "m:k"); exact ⟨by wtm_at "m:sub", _, _, by wtm_at "m:cut", rfl⟩
  · subst e
    wtm_at "m:ws"
    try wtm_at "m:k"
    exact Endd.mk (by wtm_at "m:cut") ⟨rfl, rfl⟩
theorem c_erase_entry {d dx gl dl : Addr} {D : Nat → Int} {x : Int} {k : Nat} (hx : x = k) (hk : k < 8) :
    Call (TT w mg mb os) 2 (.ref 162) [.ref d, .int x] (DL d dx gl dl D) fun v' S' => v' = .none ∧ S' = DL d dx gl dl (upd D (32 * k) 229) := by
  subst hx
  refine CallC.call (n := 1 + 1) (CallC.drop ?_)
  refine' CallC.def (names := [Str.ofString "disk", Str.ofString "number"]) ?ho ?hcd ?hb rfl ?nd ?hk ?hc ?ha ?h ?c1 ?c2 ?c3
  case ho => (show List.lookup _ (hd.heap_39 _) = some _); k_is
  case hcd => (show codeIn (hd.heap_39 _) _ _ = true); k_is
  case c1 => exact rfl
  case c2 => exact rfl
  case c3 => exact rfl
  case nd => decide
  case hc => decide
  case ha => decide +kernel
  case hb => exact valsS fun _ => valsS fun _ => vals0 rfl
  case hk => exact kindsN (by decide)
  intro c ok hf hn hs hc
  dsimp only [List.zip_cons_cons, List.zip_nil_right, List.zip_nil_left]
  refine WSs.gen fun kn kr hkn hkr => ?_
  have G_FREE := @g_FREE w mg mb os
  have G_need_writable := @g_need_writable w mg mb os
  have K_need_writable := @g_need_writableK w mg mb os
  have G_raw_entry := @g_raw_entry w mg mb os
  have K_raw_entry := @g_raw_entryK w mg mb os
  have G_ENTRY_SIZE := @g_ENTRY_SIZE w mg mb os
  have A_data := @a53_data w mg mb os
  wtm_at "m:ws"
  refine CallV.same (c_need_writable) (by first | (rw [hn]; decide) | (lia)) (by wtm_at "m:cut") ?_
  wtm_at "m:ws"
  refine CallV.fr (c_raw_entry (k := k) ?_ ?_) (by first | (rw [hn]; decide) | (lia)) (by wtm_at "m:cut") ?_
  · wtm_at "m:side"
  · wtm_at "m:side"
  refine ex1 fun a => ?_
  wtm_at "m:ws"
  refine SetI.tl (a := 32 * k) (by wtm_at "m:chg") (by (lia)) (by (lia)) (by (lia)) ?_
  wtm_at "m:ws"
  try wtm_at "m:k"
  exact Endd.mk (by wtm_at "m:cut") ⟨rfl, rfl⟩
theorem c_free_entry {d dx gl dl : Addr} {D : Nat → Int} {k : Nat} (hk : k < 8) (h1 : D (32 * k) = 229) (h2 : ∀ i, i < k → D (32 * i) ≠ 229) :
    Call (TT w mg mb os) 1 (.ref 169) [.ref d] (DL d dx gl dl D) fun v' S' => v' = .int k ∧ S' = DL d dx gl dl D := by
  refine CallC.call (n := 0 + 1) (CallC.drop ?_)
  refine' CallC.def (names := [Str.ofString "disk"]) ?ho ?hcd ?hb rfl ?nd ?hk ?hc ?ha ?h ?c1 ?c2 ?c3
  case ho => (show List.lookup _ (hd.heap_39 _) = some _); k_is
  case hcd => (show codeIn (hd.heap_39 _) _ _ = true); k_is
  case c1 => exact rfl
  case c2 => exact rfl
  case c3 => exact rfl
  case nd => decide
  case hc => decide
  case ha => decide +kernel
  case hb => exact valsS fun _ => vals0 rfl
  case hk => exact kindsN (by decide)
  intro c ok hf hn hs hc
  dsimp only [List.zip_cons_cons, List.zip_nil_right, List.zip_nil_left]
  refine WSs.gen fun kn kr hkn hkr => ?_
  have G_range := @g_range w mg mb os
  have G_FREE := @g_FREE w mg mb os
  have G_ENTRY_SIZE := @g_ENTRY_SIZE w mg mb os
  have A_entries := @a53_entries w mg mb os
  have A_data := @a53_data w mg mb os
  refine WSs.cons (WS.for_ (bnd_name ok (by wtm_at "m:kind")) ?_)
  refine WI.range (WE.bi ok g_range (by wtm_at "m:kind") ⟨rfl, ?_⟩)
  wtm_at "m:ws"
  refine ⟨_, rfl, by (lia), by (lia), ?_⟩
  rw [nums_map]
  refine for_fix (fun j S => S = DL d dx gl dl D ∧ j ≤ k) (fun _ _ _ _ => trivial) (fun j S hj e => ?_) (fun S e => ?_) ⟨rfl, by (lia)⟩
  · obtain ⟨rfl, hjk⟩ := e
    have hj8 : j < 8 := hj
    first | refine Asg.mk (put_newK (by kernel_rfl)) ?_ | refine ⟨_, put_newK (by kernel_rfl), ?_⟩
    wtm_at "m:ws"
    refine SubV.tl (a := 32 * j) (by wtm_at "m:mem") (by (lia)) (by (lia)) (by (lia)) ?_
    wtm_at "m:ws"
    refine ⟨fun h => ?_, fun h => ?_⟩
    · have hj2 : j = k := by
        by_cases q : j < k
        · exact absurd (by simpa using h) (h2 j q)
        · (lia)
      subst hj2
      wtm_at "m:ws"
      (try wtm_at "m:k"); exact ⟨_, _, by wtm_at "m:cut", by rw [Int.zero_add], rfl⟩
    · wtm_at "m:ws"
      have : j ≠ k := fun q => by subst q; rw [h1] at h; simp at h
      (try wtm_at "m:k"); exact ⟨by wtm_at "m:sub", _, _, by wtm_at "m:cut", rfl, by (lia)⟩
  · obtain ⟨_, h⟩ := e
    exfalso
    have : (8 : Int).toNat ≤ k := h
    simp at this; (lia)
theorem c_entry_octets {d dx gl dl e ex rl ml : Addr} {D raw mp : Nat → Int} {u cnt : Int} :
    Call (TT w mg mb os) 3 (.ref 127) [.ref d, .ref e] (ED e ex rl ml u cnt raw mp (DL d dx gl dl D)) fun v' S' => ∃ x, v' = .ref x ∧ S' = (x, .list (tl 32 (eoct u cnt raw mp))) :: ED e ex rl ml u cnt raw mp (DL d dx gl dl D) := by
  refine CallC.call (n := 2 + 1) (CallC.drop ?_)
  refine' CallC.def (names := [Str.ofString "disk", Str.ofString "entry"]) ?ho ?hcd ?hb rfl ?nd ?hk ?hc ?ha ?h ?c1 ?c2 ?c3
  case ho => (show List.lookup _ (hd.heap_39 _) = some _); k_is
  case hcd => (show codeIn (hd.heap_39 _) _ _ = true); k_is
  case c1 => exact rfl
  case c2 => exact rfl
  case c3 => exact rfl
  case nd => decide
  case hc => decide
  case ha => decide +kernel
  case hb => exact valsS fun _ => valsS fun _ => vals0 rfl
  case hk => exact kindsN (by decide)
  intro c ok hf hn hs hc
  dsimp only [List.zip_cons_cons, List.zip_nil_right, List.zip_nil_left]
  refine WSs.gen fun kn kr hkn hkr => ?_
  have G_map_octets := @g_map_octets w mg mb os
  have K_map_octets := @g_map_octetsK w mg mb os
  have G_EXTENTS_LOW := @g_EXTENTS_LOW w mg mb os
  have A_raw := @a74_raw w mg mb os
  have A_user := @a74_user w mg mb os
  have A_spare := @a74_spare w mg mb os
  have A_count := @a74_count w mg mb os
  have A_map := @a74_map w mg mb os
  have A_extent := @a74_extent w mg mb os
  wtm_at "m:ws"
  refine ⟨by simp, fun a => ?_⟩
  wtm_at "m:ws"
  rw [show [V.int u] = tl 1 (fun _ => u) from rfl]
  refine BinV.cat (by wtm_at "m:mem") (by wtm_at "m:mem") (by simp [tl_length]) fun b => ?_
  rw [app_tl]
  first | refine Asg.mk (put_newK (by kernel_rfl)) ?_ | refine ⟨_, put_newK (by kernel_rfl), ?_⟩
  wtm_at "m:ws"
  refine ⟨by simp, fun a2 => ?_⟩
  rw [show [V.int ((0 : Int).fmod 32), V.int 0, V.int ((0 : Int).fdiv 32), V.int cnt] = tl 4 (fun i => if i < 3 then 0 else cnt) from rfl]
  wtm_at "m:ws"
  refine BinV.cat (by wtm_at "m:mem") (by wtm_at "m:mem") (by simp [tl_length]) fun b2 => ?_
  rw [app_tl]
  refine ⟨_, by wtm_at "m:put", ?_⟩
  wtm_at "m:ws"
  refine CallV.fr (c_map_octets) (by first | (rw [hn]; decide) | (lia)) (by wtm_at "m:cut") ?_
  refine ex1 fun x => ?_
  wtm_at "m:ws"
  refine BinV.cat (by wtm_at "m:mem") (by wtm_at "m:mem") (by simp [tl_length]) fun b3 => ?_
  rw [app_tl]
  have e : (tl (1 + 11 + 4 + 16) fun i => if i < 1 + 11 + 4 then if i < 1 + 11 then if i < 1 then u else raw (i - 1) else if i - (1 + 11) < 3 then 0 else cnt else mp (i - (1 + 11 + 4))) = tl 32 (eoct u cnt raw mp) := tl_ext fun i hi => by
    unfold eoct
    repeat' split
    all_goals first | rfl | (exfalso; (lia))
  rw [e]
  try wtm_at "m:k"
  exact Endd.mk (by wtm_at "m:cut") ⟨b3, rfl, rfl⟩

theorem i74 : findIn (TT w mg mb os).K (.ref 74) "__init__" = some (some (.ref 71)) := by (show findIn (hd.heap_39 w.params) _ _ = _); k_is
theorem t71 : typeIn (TT w mg mb os).K (.ref 71) = some (.type "function") := by (show typeIn (hd.heap_39 w.params) _ = _); k_is
theorem i53 : findIn (TT w mg mb os).K (.ref 53) "__init__" = some (some (.ref 50)) := by (show findIn (hd.heap_39 w.params) _ _ = _); k_is
theorem t50 : typeIn (TT w mg mb os).K (.ref 50) = some (.type "function") := by (show typeIn (hd.heap_39 w.params) _ = _); k_is
theorem c_Entry_init {x dx l : Addr} {g : Nat → Int} {u : Int} :
    CallC (TT w mg mb os) 1 (.ref 71) [.ref x, .int u, .ref l, .int 0] ([(l, .list (tl 11 g))] ++ [(x, .inst 74 dx), (dx, .flds [])]) fun v' S' => v' = .none ∧ ∃ rl ml, S' = [(x, .inst 74 dx), (dx, .flds [(Str.ofString "user", .int u), (Str.ofString "raw", .ref rl), (Str.ofString "extent", .int 0), (Str.ofString "spare", .int 0), (Str.ofString "count", .int 0), (Str.ofString "map", .ref ml)]), (rl, .list (tl 11 g)), (ml, .list []), (l, .list (tl 11 g))] := by
  refine CallC.drop (n := 0 + 1) ?_
  refine' CallC.def (names := [Str.ofString "self", Str.ofString "user", Str.ofString "raw", Str.ofString "extent"]) ?ho ?hcd ?hb rfl ?nd ?hk ?hc ?ha ?h ?c1 ?c2 ?c3
  case ho => (show List.lookup _ (hd.heap_39 _) = some _); k_is
  case hcd => (show codeIn (hd.heap_39 _) _ _ = true); k_is
  case c1 => exact rfl
  case c2 => exact rfl
  case c3 => exact rfl
  case nd => decide
  case hc => decide
  case ha => decide +kernel
  case hb => exact valsS fun _ => valsS fun _ => valsS fun _ => valsS fun _ => vals0 rfl
  case hk => exact kindsN (by decide)
  intro c ok hf hn hs hc
  dsimp only [List.zip_cons_cons, List.zip_nil_right, List.zip_nil_left]
  refine WSs.gen fun kn kr hkn hkr => ?_
  have G_list := @g_list w mg mb os
  have S_user := @s74_user w mg mb os
  have S_raw := @s74_raw w mg mb os
  have S_extent := @s74_extent w mg mb os
  have S_spare := @s74_spare w mg mb os
  have S_count := @s74_count w mg mb os
  have S_map := @s74_map w mg mb os
  wtm_at "m:ws"
  wtm_at "m:sa"
  wtm_at "m:ws"
  refine CallV.list (by wtm_at "m:mem") (by rw [tl_length]; (lia)) fun rl => ?_
  wtm_at "m:ws"
  wtm_at "m:sa"
  wtm_at "m:ws"
  wtm_at "m:sa"
  wtm_at "m:ws"
  wtm_at "m:sa"
  wtm_at "m:ws"
  wtm_at "m:sa"
  wtm_at "m:ws"
  refine ⟨by simp, fun ml => ?_⟩
  wtm_at "m:ws"
  wtm_at "m:sa"
  wtm_at "m:ws"
  dsimp only [List.nil_append, List.cons_append, List.append_nil]
  try wtm_at "m:k"
  exact Endd.mk (by wtm_at "m:cut") ⟨rfl, rl, ml, rfl⟩
theorem c_Entry {l : Addr} {g : Nat → Int} {u : Int} :
    Call (TT w mg mb os) 3 (.ref 74) [.int u, .ref l, .int 0] [(l, .list (tl 11 g))] fun v' S' => ∃ x dx rl ml, v' = .ref x ∧ S' = [(x, .inst 74 dx), (dx, .flds [(Str.ofString "user", .int u), (Str.ofString "raw", .ref rl), (Str.ofString "extent", .int 0), (Str.ofString "spare", .int 0), (Str.ofString "count", .int 0), (Str.ofString "map", .ref ml)]), (rl, .list (tl 11 g)), (ml, .list []), (l, .list (tl 11 g))] :=
  Call.cls mk74 i74 t71 fun x dx A g' s f' args' h1 h2 h3 h4 h5 h6 h7 h8 h9 h10 => codeAny_mono (c_Entry_init A g' s f' args' h1 h2 h3 h4 h5 h6 h7 h8 h9 h10) fun r s' q => by
    rcases r with e | (v | _ | _ | _) <;> try exact q
    obtain ⟨v, S', a, b, d, e, e1, rl, ml, e2⟩ := q
    exact ⟨v, S', a, b, d, e, e1, x, dx, rl, ml, rfl, e2⟩
theorem c_new_entry {d dx gl dl l : Addr} {D g : Nat → Int} {u : Int} :
    Call (TT w mg mb os) 4 (.ref 120) [.ref d, .int u, .ref l, .int 0] ((l, .list (tl 11 g)) :: DL d dx gl dl D) fun v' S' => ∃ e ex rl ml, v' = .ref e ∧ S' = ED e ex rl ml u 0 g (fun _ => 0) (DL d dx gl dl D) := by
  refine CallC.call (n := 3 + 1) (CallC.drop ?_)
  refine' CallC.def (names := [Str.ofString "disk", Str.ofString "user", Str.ofString "raw", Str.ofString "extent"]) ?ho ?hcd ?hb rfl ?nd ?hk ?hc ?ha ?h ?c1 ?c2 ?c3
  case ho => (show List.lookup _ (hd.heap_39 _) = some _); k_is
  case hcd => (show codeIn (hd.heap_39 _) _ _ = true); k_is
  case c1 => exact rfl
  case c2 => exact rfl
  case c3 => exact rfl
  case nd => decide
  case hc => decide
  case ha => decide +kernel
  case hb => exact valsS fun _ => valsS fun _ => valsS fun _ => valsS fun _ => vals0 rfl
  case hk => exact kindsN (by decide)
  intro c ok hf hn hs hc
  dsimp only [List.zip_cons_cons, List.zip_nil_right, List.zip_nil_left]
  refine WSs.gen fun kn kr hkn hkr => ?_
  have G_Entry := @g_Entry w mg mb os
  have K_Entry := @g_EntryK w mg mb os
  have G_map_slots := @g_map_slots w mg mb os
  have K_map_slots := @g_map_slotsK w mg mb os
  have S_map := @s74_map w mg mb os
  wtm_at "m:ws"
  refine CallV.fr (c_Entry) (by first | (rw [hn]; decide) | (lia)) (by wtm_at "m:cut") ?_
  refine ex4 fun e ex rl ml => ?_
  first | refine Asg.mk (put_newK (by kernel_rfl)) ?_ | refine ⟨_, put_newK (by kernel_rfl), ?_⟩
  wtm_at "m:ws"
  refine ⟨by simp, fun a => ?_⟩
  wtm_at "m:ws"
  refine CallV.same (c_map_slots) (by first | (rw [hn]; decide) | (lia)) (by wtm_at "m:cut") ?_
  refine BinV.repT 16 (by wtm_at "m:mem") (by decide) rfl fun b => ?_
  wtm_at "m:ws"
  wtm_at "m:sa"
  wtm_at "m:ws"
  try wtm_at "m:k"
  exact Endd.mk (by wtm_at "m:cut") ⟨e, ex, rl, b, rfl, rfl⟩
theorem c_entry_from {d dx gl dl l : Addr} {D g : Nat → Int} (h0 : g 0 ≠ 229) (h12 : g 12 = 0) (h13 : g 13 = 0) (h14 : g 14 = 0) :
    Call (TT w mg mb os) 4 (.ref 134) [.ref d, .ref l] ((l, .list (tl 32 g)) :: DL d dx gl dl D) fun v' S' => ∃ e ex rl ml, v' = .ref e ∧ S' = ED e ex rl ml (g 0) (g 15) (fun i => g (1 + i)) (fun i => g (16 + i)) ((l, .list (tl 32 g)) :: DL d dx gl dl D) := by
  refine CallC.call (n := 3 + 1) (CallC.drop ?_)
  refine' CallC.def (names := [Str.ofString "disk", Str.ofString "octets"]) ?ho ?hcd ?hb rfl ?nd ?hk ?hc ?ha ?h ?c1 ?c2 ?c3
  case ho => (show List.lookup _ (hd.heap_39 _) = some _); k_is
  case hcd => (show codeIn (hd.heap_39 _) _ _ = true); k_is
  case c1 => exact rfl
  case c2 => exact rfl
  case c3 => exact rfl
  case nd => decide
  case hc => decide
  case ha => decide +kernel
  case hb => exact valsS fun _ => valsS fun _ => vals0 rfl
  case hk => exact kindsN (by decide)
  intro c ok hf hn hs hc
  dsimp only [List.zip_cons_cons, List.zip_nil_right, List.zip_nil_left]
  refine WSs.gen fun kn kr hkn hkr => ?_
  have G_FREE := @g_FREE w mg mb os
  have G_Entry := @g_Entry w mg mb os
  have K_Entry := @g_EntryK w mg mb os
  have G_map_of := @g_map_of w mg mb os
  have K_map_of := @g_map_ofK w mg mb os
  have G_EXTENTS_LOW := @g_EXTENTS_LOW w mg mb os
  have G_NAME_SIZE := @g_NAME_SIZE w mg mb os
  have S_spare := @s74_spare w mg mb os
  have S_count := @s74_count w mg mb os
  have S_map := @s74_map w mg mb os
  wtm_at "m:ws"
  refine SubV.tl (a := 0) (by wtm_at "m:mem") rfl (by (lia)) (by (lia)) ?_
  wtm_at "m:ws"
  refine ⟨fun h => absurd (by simpa using h) h0, fun _ => ?_⟩
  wtm_at "m:ws"
  refine SubV.tl (a := 0) (by wtm_at "m:mem") rfl (by (lia)) (by (lia)) ?_
  wtm_at "m:ws"
  refine SlE.mk (l := l) (by wtm_at "m:mem") (by rw [tl_length]; (lia)) (pick_tlE (a := 1) (b := 12) (m := 11) (by (lia)) (by (lia)) (by (lia)) (by (lia)) (by (lia))) fun b => ?_
  wtm_at "m:ws"
  refine SubV.tl (a := 14) (by wtm_at "m:mem") rfl (by (lia)) (by (lia)) ?_
  wtm_at "m:ws"
  refine SubV.tl (a := 12) (by wtm_at "m:mem") rfl (by (lia)) (by (lia)) ?_
  wtm_at "m:ws"
  rw [h14, h12, show (0 : Int) * 32 + (0 : Int).fmod 32 = 0 from rfl]
  refine CallV.fr (c_Entry) (by first | (rw [hn]; decide) | (lia)) (by wtm_at "m:cut") ?_
  refine ex4 fun e ex rl ml => ?_
  first | refine Asg.mk (put_newK (by kernel_rfl)) ?_ | refine ⟨_, put_newK (by kernel_rfl), ?_⟩
  wtm_at "m:ws"
  refine SubV.tl (a := 13) (by wtm_at "m:mem") rfl (by (lia)) (by (lia)) ?_
  rw [h13]
  wtm_at "m:ws"
  wtm_at "m:sa"
  wtm_at "m:ws"
  refine SubV.tl (a := 15) (by wtm_at "m:mem") rfl (by (lia)) (by (lia)) ?_
  wtm_at "m:ws"
  wtm_at "m:sa"
  wtm_at "m:ws"
  refine CallV.fr (c_map_of) (by first | (rw [hn]; decide) | (lia)) (by wtm_at "m:cut") ?_
  refine ex1 fun y => ?_
  wtm_at "m:ws"
  wtm_at "m:sa"
  wtm_at "m:ws"
  try wtm_at "m:k"
  exact Endd.mk (by wtm_at "m:cut") ⟨e, ex, rl, y, rfl, rfl⟩
theorem c_entry_from_none {d dx gl dl l : Addr} {D g : Nat → Int} (h0 : g 0 = 229) :
    Call (TT w mg mb os) 4 (.ref 134) [.ref d, .ref l] ((l, .list (tl 32 g)) :: DL d dx gl dl D) fun v' S' => v' = .none ∧ S' = (l, .list (tl 32 g)) :: DL d dx gl dl D := by
  refine CallC.call (n := 3 + 1) (CallC.drop ?_)
  refine' CallC.def (names := [Str.ofString "disk", Str.ofString "octets"]) ?ho ?hcd ?hb rfl ?nd ?hk ?hc ?ha ?h ?c1 ?c2 ?c3
  case ho => (show List.lookup _ (hd.heap_39 _) = some _); k_is
  case hcd => (show codeIn (hd.heap_39 _) _ _ = true); k_is
  case c1 => exact rfl
  case c2 => exact rfl
  case c3 => exact rfl
  case nd => decide
  case hc => decide
  case ha => decide +kernel
  case hb => exact valsS fun _ => valsS fun _ => vals0 rfl
  case hk => exact kindsN (by decide)
  intro c ok hf hn hs hc
  dsimp only [List.zip_cons_cons, List.zip_nil_right, List.zip_nil_left]
  refine WSs.gen fun kn kr hkn hkr => ?_
  have G_FREE := @g_FREE w mg mb os
  have G_Entry := @g_Entry w mg mb os
  have K_Entry := @g_EntryK w mg mb os
  have G_map_of := @g_map_of w mg mb os
  have K_map_of := @g_map_ofK w mg mb os
  have G_EXTENTS_LOW := @g_EXTENTS_LOW w mg mb os
  have G_NAME_SIZE := @g_NAME_SIZE w mg mb os
  have S_spare := @s74_spare w mg mb os
  have S_count := @s74_count w mg mb os
  have S_map := @s74_map w mg mb os
  wtm_at "m:ws"
  refine SubV.tl (a := 0) (by wtm_at "m:mem") rfl (by (lia)) (by (lia)) ?_
  wtm_at "m:ws"
  refine ⟨fun _ => ?_, fun h => absurd h0 (by simpa using h)⟩
  wtm_at "m:ws"
  try wtm_at "m:k"
  exact Endd.mk (by wtm_at "m:cut") ⟨rfl, rfl⟩
theorem c_record_place {d dx gl dl : Addr} {D : Nat → Int} {x y : Int} {b k : Nat} (hx : x = b) (hy : y = k) (hb : b < 20) (hk : k < 2) :
    Call (TT w mg mb os) 2 (.ref 219) [.ref d, .int x, .int y] (DL d dx gl dl D) fun v' S' => v' = .int ((32 * b + 16 * k : Nat) : Int) ∧ S' = DL d dx gl dl D := by
  subst hx hy
  refine CallC.call (n := 1 + 1) (CallC.drop ?_)
  refine' CallC.def (names := [Str.ofString "disk", Str.ofString "block", Str.ofString "index"]) ?ho ?hcd ?hb rfl ?nd ?hk ?hc ?ha ?h ?c1 ?c2 ?c3
  case ho => (show List.lookup _ (hd.heap_39 _) = some _); k_is
  case hcd => (show codeIn (hd.heap_39 _) _ _ = true); k_is
  case c1 => exact rfl
  case c2 => exact rfl
  case c3 => exact rfl
  case nd => decide
  case hc => decide
  case ha => decide +kernel
  case hb => exact valsS fun _ => valsS fun _ => valsS fun _ => vals0 rfl
  case hk => exact kindsN (by decide)
  intro c ok hf hn hs hc
  dsimp only [List.zip_cons_cons, List.zip_nil_right, List.zip_nil_left]
  refine WSs.gen fun kn kr hkn hkr => ?_
  have G_records_of_block := @g_records_of_block w mg mb os
  have K_records_of_block := @g_records_of_blockK w mg mb os
  have A_block := @a53_block w mg mb os
  have A_record := @a53_record w mg mb os
  have A_blocks := @a53_blocks w mg mb os
  wtm_at "m:ws"
  refine ⟨fun _ => ?_, fun h => (by simp at h)⟩
  wtm_at "m:ws"
  have e1 : (!decide ((b : Int) < 20)) = false := by simp; (lia)
  rw [e1]
  refine ⟨fun _ => ?_, fun h => (by cases h)⟩
  wtm_at "m:ws"
  refine ⟨fun _ => ?_, fun h => (by simp at h)⟩
  wtm_at "m:ws"
  refine CallV.same (c_records_of_block) (by first | (rw [hn]; decide) | (lia)) (by wtm_at "m:cut") ?_
  wtm_at "m:ws"
  have e2 : (!decide ((k : Int) < 2)) = false := by simp; (lia)
  rw [e2]
  refine ⟨fun h => (by cases h), fun _ => ?_⟩
  wtm_at "m:ws"
  have e3 : (b : Int) * 32 + (k : Int) * 16 = ((32 * b + 16 * k : Nat) : Int) := by (lia)
  rw [e3]
  try wtm_at "m:k"
  exact Endd.mk (by wtm_at "m:cut") ⟨rfl, rfl⟩
theorem c_read_record {d dx gl dl : Addr} {D : Nat → Int} {x y : Int} {b k : Nat} (hx : x = b) (hy : y = k) (hb : b < 20) (hk : k < 2) :
    Call (TT w mg mb os) 3 (.ref 226) [.ref d, .int x, .int y] (DL d dx gl dl D) fun v' S' => ∃ a, v' = .ref a ∧ S' = (a, .list (tl 16 fun i => D (32 * b + 16 * k + i))) :: DL d dx gl dl D := by
  subst hx hy
  refine CallC.call (n := 2 + 1) (CallC.drop ?_)
  refine' CallC.def (names := [Str.ofString "disk", Str.ofString "block", Str.ofString "index"]) ?ho ?hcd ?hb rfl ?nd ?hk ?hc ?ha ?h ?c1 ?c2 ?c3
  case ho => (show List.lookup _ (hd.heap_39 _) = some _); k_is
  case hcd => (show codeIn (hd.heap_39 _) _ _ = true); k_is
  case c1 => exact rfl
  case c2 => exact rfl
  case c3 => exact rfl
  case nd => decide
  case hc => decide
  case ha => decide +kernel
  case hb => exact valsS fun _ => valsS fun _ => valsS fun _ => vals0 rfl
  case hk => exact kindsN (by decide)
  intro c ok hf hn hs hc
  dsimp only [List.zip_cons_cons, List.zip_nil_right, List.zip_nil_left]
  refine WSs.gen fun kn kr hkn hkr => ?_
  have G_record_place := @g_record_place w mg mb os
  have K_record_place := @g_record_placeK w mg mb os
  have A_data := @a53_data w mg mb os
  have A_record := @a53_record w mg mb os
  wtm_at "m:ws"
  refine CallV.same (c_record_place (b := b) (k := k) ?_ ?_ ?_ ?_) (by first | (rw [hn]; decide) | (lia)) (by wtm_at "m:cut") ?_
  · wtm_at "m:side"
  · wtm_at "m:side"
  · wtm_at "m:side"
  · wtm_at "m:side"
  first | refine Asg.mk (put_newK (by kernel_rfl)) ?_ | refine ⟨_, put_newK (by kernel_rfl), ?_⟩
  wtm_at "m:ws"
  refine SlE.mk (l := dl) (by wtm_at "m:mem") (by rw [tl_length]; (lia)) (pick_tlE (a := 32 * b + 16 * k) (b := 32 * b + 16 * k + 16) (m := 16) (by (lia)) (by (lia)) (by (lia)) (by (lia)) (by (lia))) fun a => ?_
  try wtm_at "m:k"
  exact Endd.mk (by wtm_at "m:cut") ⟨a, rfl, rfl⟩
theorem c_write_record {d dx gl dl l : Addr} {D g : Nat → Int} {x y : Int} {b k : Nat} (hx : x = b) (hy : y = k) (hb : b < 20) (hk : k < 2) :
    Call (TT w mg mb os) 3 (.ref 233) [.ref d, .int x, .int y, .ref l] ((l, .list (tl 16 g)) :: DL d dx gl dl D) fun v' S' => v' = .none ∧ S' = (l, .list (tl 16 g)) :: DL d dx gl dl (putAt D (32 * b + 16 * k) 16 g) := by
  subst hx hy
  refine CallC.call (n := 2 + 1) (CallC.drop ?_)
  refine' CallC.def (names := [Str.ofString "disk", Str.ofString "block", Str.ofString "index", Str.ofString "octets"]) ?ho ?hcd ?hb rfl ?nd ?hk ?hc ?ha ?h ?c1 ?c2 ?c3
  case ho => (show List.lookup _ (hd.heap_39 _) = some _); k_is
  case hcd => (show codeIn (hd.heap_39 _) _ _ = true); k_is
  case c1 => exact rfl
  case c2 => exact rfl
  case c3 => exact rfl
  case nd => decide
  case hc => decide
  case ha => decide +kernel
  case hb => exact valsS fun _ => valsS fun _ => valsS fun _ => valsS fun _ => vals0 rfl
  case hk => exact kindsN (by decide)
  intro c ok hf hn hs hc
  dsimp only [List.zip_cons_cons, List.zip_nil_right, List.zip_nil_left]
  refine WSs.gen fun kn kr hkn hkr => ?_
  have G_need_writable := @g_need_writable w mg mb os
  have K_need_writable := @g_need_writableK w mg mb os
  have G_record_place := @g_record_place w mg mb os
  have K_record_place := @g_record_placeK w mg mb os
  have G_enumerate := @g_enumerate w mg mb os
  have G_len := @g_len w mg mb os
  have A_record := @a53_record w mg mb os
  have A_data := @a53_data w mg mb os
  wtm_at "m:ws"
  refine CallV.same (c_need_writable) (by first | (rw [hn]; decide) | (lia)) (by wtm_at "m:cut") ?_
  wtm_at "m:ws"
  refine CallV.same (c_record_place (b := b) (k := k) ?_ ?_ ?_ ?_) (by first | (rw [hn]; decide) | (lia)) (by wtm_at "m:cut") ?_
  · wtm_at "m:side"
  · wtm_at "m:side"
  · wtm_at "m:side"
  · wtm_at "m:side"
  first | refine Asg.mk (put_newK (by kernel_rfl)) ?_ | refine ⟨_, put_newK (by kernel_rfl), ?_⟩
  wtm_at "m:ws"
  refine CallV.len (by wtm_at "m:mem") (by rw [tl_length]; (lia)) ?_
  rw [tl_length]
  wtm_at "m:ws"
  refine ⟨fun h => (by cases h), fun _ => ?_⟩
  wtm_at "m:ws"
  refine WSs.cut (S₁ := (l, .list (tl 16 g)) :: DL d dx gl dl D) (by wtm_at "m:cut") ?_
  refine WSs.cons (WS.for_ (bnd_two ok (.inl (by wtm_at "m:kind")) (.inl (by wtm_at "m:kind"))) ?_)
  refine WI.enum (WE.bi ok g_enumerate (by wtm_at "m:kind") ⟨rfl, ?_⟩)
  wtm_at "m:ws"
  refine ⟨l, tl 16 g, rfl, by wtm_at "m:mem", ?_⟩
  rw [enumd_tl]
  refine for_fix (fun j S => S = (l, .list (tl 16 g)) :: DL d dx gl dl (putAt D (32 * b + 16 * k) j g)) (fun j S _ e => by subst e; wtm_at "m:mem") (fun j S hj e => ?_) (fun S e => ?_) (by rw [putAt_zero])
  · subst e
    refine ⟨_, ⟨_, put_newK (by kernel_rfl), put_newK (by kernel_rfl)⟩, ?_⟩
    wtm_at "m:ws"
    refine SetI.tl (a := 32 * b + 16 * k + j) (by wtm_at "m:chg") (by (lia)) (by (lia)) (by (lia)) ?_
    rw [putAt_succ]
    wtm_at "m:ws"
    (try wtm_at "m:k"); exact ⟨by wtm_at "m:sub", _, _, by wtm_at "m:cut", rfl⟩
  · subst e
    wtm_at "m:ws"
    try wtm_at "m:k"
    exact Endd.mk (by wtm_at "m:cut") ⟨rfl, rfl⟩

theorem c_read_entry_none {d dx gl dl : Addr} {D : Nat → Int} {x : Int} {k : Nat} (hx : x = k) (hk : k < 8) (h0 : D (32 * k) = 229) :
    Call (TT w mg mb os) 5 (.ref 148) [.ref d, .int x] (DL d dx gl dl D) fun v' S' => v' = .none ∧ S' = DL d dx gl dl D := by
  subst hx
  refine CallC.call (n := 4 + 1) (CallC.drop ?_)
  refine' CallC.def (names := [Str.ofString "disk", Str.ofString "number"]) ?ho ?hcd ?hb rfl ?nd ?hk ?hc ?ha ?h ?c1 ?c2 ?c3
  case ho => (show List.lookup _ (hd.heap_39 _) = some _); k_is
  case hcd => (show codeIn (hd.heap_39 _) _ _ = true); k_is
  case c1 => exact rfl
  case c2 => exact rfl
  case c3 => exact rfl
  case nd => decide
  case hc => decide
  case ha => decide +kernel
  case hb => exact valsS fun _ => valsS fun _ => vals0 rfl
  case hk => exact kindsN (by decide)
  intro c ok hf hn hs hc
  dsimp only [List.zip_cons_cons, List.zip_nil_right, List.zip_nil_left]
  refine WSs.gen fun kn kr hkn hkr => ?_
  have G_entry_from := @g_entry_from w mg mb os
  have K_entry_from := @g_entry_fromK w mg mb os
  have G_raw_entry := @g_raw_entry w mg mb os
  have K_raw_entry := @g_raw_entryK w mg mb os
  wtm_at "m:ws"
  refine CallV.fr (c_raw_entry (k := k) ?_ ?_) (by first | (rw [hn]; decide) | (lia)) (by wtm_at "m:cut") ?_
  · wtm_at "m:side"
  · wtm_at "m:side"
  refine ex1 fun a => ?_
  wtm_at "m:ws"
  have h0' : D (32 * k + 0) = 229 := h0
  refine CallV.same (c_entry_from_none h0') (by first | (rw [hn]; decide) | (lia)) (by wtm_at "m:cut") ?_
  try wtm_at "m:k"
  exact Endd.mk (by wtm_at "m:cut") ⟨rfl, rfl⟩
theorem c_read_entry {d dx gl dl : Addr} {D : Nat → Int} {x : Int} {k : Nat} (hx : x = k) (hk : k < 8) (h0 : D (32 * k) ≠ 229) (h12 : D (32 * k + 12) = 0) (h13 : D (32 * k + 13) = 0) (h14 : D (32 * k + 14) = 0) :
    Call (TT w mg mb os) 5 (.ref 148) [.ref d, .int x] (DL d dx gl dl D) fun v' S' => ∃ e ex rl ml, v' = .ref e ∧ S' = ED e ex rl ml (D (32 * k)) (D (32 * k + 15)) (fun i => D (32 * k + (1 + i))) (fun i => D (32 * k + (16 + i))) (DL d dx gl dl D) := by
  subst hx
  refine CallC.call (n := 4 + 1) (CallC.drop ?_)
  refine' CallC.def (names := [Str.ofString "disk", Str.ofString "number"]) ?ho ?hcd ?hb rfl ?nd ?hk ?hc ?ha ?h ?c1 ?c2 ?c3
  case ho => (show List.lookup _ (hd.heap_39 _) = some _); k_is
  case hcd => (show codeIn (hd.heap_39 _) _ _ = true); k_is
  case c1 => exact rfl
  case c2 => exact rfl
  case c3 => exact rfl
  case nd => decide
  case hc => decide
  case ha => decide +kernel
  case hb => exact valsS fun _ => valsS fun _ => vals0 rfl
  case hk => exact kindsN (by decide)
  intro c ok hf hn hs hc
  dsimp only [List.zip_cons_cons, List.zip_nil_right, List.zip_nil_left]
  refine WSs.gen fun kn kr hkn hkr => ?_
  have G_entry_from := @g_entry_from w mg mb os
  have K_entry_from := @g_entry_fromK w mg mb os
  have G_raw_entry := @g_raw_entry w mg mb os
  have K_raw_entry := @g_raw_entryK w mg mb os
  wtm_at "m:ws"
  refine CallV.fr (c_raw_entry (k := k) ?_ ?_) (by first | (rw [hn]; decide) | (lia)) (by wtm_at "m:cut") ?_
  · wtm_at "m:side"
  · wtm_at "m:side"
  refine ex1 fun a => ?_
  wtm_at "m:ws"
  have h0' : D (32 * k + 0) ≠ 229 := h0
  refine CallV.fr (c_entry_from h0' h12 h13 h14) (by first | (rw [hn]; decide) | (lia)) (by wtm_at "m:cut") ?_
  refine ex4 fun e ex rl ml => ?_
  dsimp only [ED, Nat.add_zero]
  try wtm_at "m:k"
  exact Endd.mk (by wtm_at "m:cut") ⟨e, ex, rl, ml, rfl, rfl⟩
theorem c_live_entries {d dx gl dl : Addr} {D : Nat → Int} (H : ∀ k, k < 8 → D (32 * k) ≠ 229 → D (32 * k + 12) = 0 ∧ D (32 * k + 13) = 0 ∧ D (32 * k + 14) = 0) :
    Call (TT w mg mb os) 6 (.ref 176) [.ref d] (DL d dx gl dl D) fun v' S' => ∃ x ts R, v' = .ref x ∧ S' = (x, .list (ts.map fun t => .ref t.1)) :: DR d dx gl dl D R ∧ Liv D R ts 8 := by
  refine CallC.call (n := 5 + 1) (CallC.drop ?_)
  refine' CallC.def (names := [Str.ofString "disk"]) ?ho ?hcd ?hb rfl ?nd ?hk ?hc ?ha ?h ?c1 ?c2 ?c3
  case ho => (show List.lookup _ (hd.heap_39 _) = some _); k_is
  case hcd => (show codeIn (hd.heap_39 _) _ _ = true); k_is
  case c1 => exact rfl
  case c2 => exact rfl
  case c3 => exact rfl
  case nd => decide
  case hc => decide
  case ha => decide +kernel
  case hb => exact valsS fun _ => vals0 rfl
  case hk => exact kindsN (by decide)
  intro c ok hf hn hs hc
  dsimp only [List.zip_cons_cons, List.zip_nil_right, List.zip_nil_left]
  refine WSs.gen fun kn kr hkn hkr => ?_
  have G_range := @g_range w mg mb os
  have G_read_entry := @g_read_entry w mg mb os
  have K_read_entry := @g_read_entryK w mg mb os
  have A_entries := @a53_entries w mg mb os
  wtm_at "m:ws"
  refine ⟨by simp, fun x => Asg.mk (put_newK (by kernel_rfl)) ?_⟩
  refine WSs.cons (WS.for_ (bnd_name ok (by wtm_at "m:kind")) ?_)
  refine WI.range (WE.bi ok g_range (by wtm_at "m:kind") ⟨rfl, ?_⟩)
  wtm_at "m:ws"
  refine ⟨_, rfl, by (lia), by (lia), ?_⟩
  rw [nums_map]
  refine for_fix (fun j S => ∃ ts R, Cut ((x, .list (ts.map fun t => .ref t.1)) :: DR d dx gl dl D R) S [] ∧ Liv D R ts j) (fun _ _ _ _ => trivial) (fun j S hj e => ?_) (fun S e => ?_) ⟨[], [], by (show Cut ((x, O.list []) :: _) _ _); wtm_at "m:cut", ⟨fun t ht => (by cases ht), fun k hk => (by (lia)), (by simp)⟩⟩
  · obtain ⟨ts, R, e, L⟩ := e
    have hj8 : j < 8 := hj
    have hlen := L.len
    refine ⟨_, put_newK (by kernel_rfl), WSs.cut e ?_⟩
    by_cases hd : D (32 * j) = 229
    · wtm_at "m:ws"
      refine CallV.fr (c_read_entry_none (k := j) ?_ ?_ hd) (by first | (rw [hn]; decide) | (lia)) (by wtm_at "m:cut") ?_
      · wtm_at "m:side"
      · wtm_at "m:side"
      refine ex0 ?_
      first | refine Asg.mk (put_newK (by kernel_rfl)) ?_ | refine ⟨_, put_newK (by kernel_rfl), ?_⟩
      wtm_at "m:ws"
      refine ⟨fun q => (by cases q), fun _ => ?_⟩
      wtm_at "m:ws"
      (try wtm_at "m:k"); exact ⟨by wtm_at "m:sub", _, _, Cut.refl, ts, R, by wtm_at "m:cut", L.skip hd⟩
    · wtm_at "m:ws"
      obtain ⟨d1, d2, d3⟩ := H j hj8 hd
      refine CallV.fr (c_read_entry (k := j) ?_ ?_ hd d1 d2 d3) (by first | (rw [hn]; decide) | (lia)) (by wtm_at "m:cut") ?_
      · wtm_at "m:side"
      · wtm_at "m:side"
      refine ex4 fun e ex rl ml => ?_
      first | refine Asg.mk (put_newK (by kernel_rfl)) ?_ | refine ⟨_, put_newK (by kernel_rfl), ?_⟩
      wtm_at "m:ws"
      refine ⟨fun _ => ?_, fun q => (by cases q)⟩
      wtm_at "m:ws"
      refine WE.append ?_
      wtm_at "m:ws"
      refine ⟨x, _, rfl, by wtm_at "m:mem", ?_⟩
      wtm_at "m:ws"
      refine ⟨by simp, fun a => ⟨_, _, by wtm_at "m:chg", by simp; (lia), ?_⟩⟩
      rw [Int.zero_add]
      wtm_at "m:ws"
      (try wtm_at "m:k"); refine ⟨by wtm_at "m:sub", _, _, Cut.refl, ts ++ [(a, V.int j, V.ref e)], (a, .tup [V.int j, V.ref e]) :: (e, .inst 74 ex) :: (ex, EF (D (32 * j)) (D (32 * j + 15)) rl ml) :: (ml, .list (tl 16 fun i => D (32 * j + (16 + i)))) :: (rl, .list (tl 11 fun i => D (32 * j + (1 + i)))) :: R, ?_, L.more hd (fun p hp => by simp [hp]) (by wtm_at "m:mem") (by wtm_at "m:mem") (by wtm_at "m:mem") (by wtm_at "m:mem")⟩
      simp only [List.map_append, List.map_cons, List.map_nil]
      wtm_at "m:cut"
  · obtain ⟨ts, R, e, L⟩ := e
    refine WSs.cut e ?_
    wtm_at "m:ws"
    (try wtm_at "m:k"); exact ⟨_, _, Cut.refl, x, ts, R, rfl, rfl, L⟩

theorem c_matches {p q : Addr} {g : Nat → Int} :
    Call (TT w mg mb os) 1 (.ref 376) [.ref p, .ref q] [(p, .list (tl 11 g)), (q, .list (tl 11 g))] fun v' S' => v' = .bool true ∧ S' = [(p, .list (tl 11 g)), (q, .list (tl 11 g))] := by
  refine CallC.call (n := 0 + 1) (CallC.drop ?_)
  refine' CallC.def (names := [Str.ofString "pattern", Str.ofString "raw"]) ?ho ?hcd ?hb rfl ?nd ?hk ?hc ?ha ?h ?c1 ?c2 ?c3
  case ho => (show List.lookup _ (hd.heap_39 _) = some _); k_is
  case hcd => (show codeIn (hd.heap_39 _) _ _ = true); k_is
  case c1 => exact rfl
  case c2 => exact rfl
  case c3 => exact rfl
  case nd => decide
  case hc => decide
  case ha => decide +kernel
  case hb => exact valsS fun _ => valsS fun _ => vals0 rfl
  case hk => exact kindsN (by decide)
  intro c ok hf hn hs hc
  dsimp only [List.zip_cons_cons, List.zip_nil_right, List.zip_nil_left]
  refine WSs.gen fun kn kr hkn hkr => ?_
  have G_all := @g_all w mg mb os
  have G_ANY := @g_ANY w mg mb os
  have G_zip := @g_zip w mg mb os
  wtm_at "m:ws"
  refine WE.comp (ext := fun a => [(Str.ofString "one", a.1), (Str.ofString "other", a.2)]) ([] : Loc) ok (free_ok hs hc (by decide)) (by decide) (by decide) rfl ?hr ?nd (fun c₂ ok₂ k₂ => bnd_two ok₂ (.inl (Kinds.at k₂ (by decide))) (.inl (Kinds.at k₂ (by decide)))) (fun a => ⟨_, put_newK (by kernel_rfl), put_newK (by kernel_rfl)⟩) ?_
  case hr => wtm_at "m:hr"
  case nd => exact nd_of (ns := []) rfl (by decide)
  refine WI.zip (WE.bi ok g_zip (by wtm_at "m:kind") ⟨rfl, ?_⟩)
  wtm_at "m:ws"
  refine ⟨p, q, _, _, rfl, by wtm_at "m:mem", by wtm_at "m:mem", ?_⟩
  intro c₂ ok₂ hf₂ hn₂ hs₂
  rw [zip_tl]
  refine comp_map (fun i => .bool true) (by (lia)) ⟨by wtm_at "m:mem", by wtm_at "m:mem"⟩ (fun i hi => ?_) (fun x => ?_)
  · refine WE.or ?_
    wtm_at "m:ws"
    (try wtm_at "m:k"); refine ⟨_, rfl, fun _ => ⟨rfl, _, Cut.refl⟩, fun _ => ?_⟩
    wtm_at "m:ws"
    (try wtm_at "m:k"); exact ⟨by simp, _, Cut.refl⟩
  · rw [bl_map]
    wtm_at "m:ws"
    refine CallV.all (by wtm_at "m:mem") ?_
    (try wtm_at "m:k"); exact ⟨_, _, by wtm_at "m:cut", by simp, rfl⟩
theorem c_has_flag {l : Addr} {g : Nat → Int} :
    Call (TT w mg mb os) 1 (.ref 383) [.ref l, .int 8] [(l, .list (tl 11 g))] fun v' S' => v' = .bool (decide (128 ≤ g 8)) ∧ S' = [(l, .list (tl 11 g))] := by
  refine CallC.call (n := 0 + 1) (CallC.drop ?_)
  refine' CallC.def (names := [Str.ofString "raw", Str.ofString "at"]) ?ho ?hcd ?hb rfl ?nd ?hk ?hc ?ha ?h ?c1 ?c2 ?c3
  case ho => (show List.lookup _ (hd.heap_39 _) = some _); k_is
  case hcd => (show codeIn (hd.heap_39 _) _ _ = true); k_is
  case c1 => exact rfl
  case c2 => exact rfl
  case c3 => exact rfl
  case nd => decide
  case hc => decide
  case ha => decide +kernel
  case hb => exact valsS fun _ => valsS fun _ => vals0 rfl
  case hk => exact kindsN (by decide)
  intro c ok hf hn hs hc
  dsimp only [List.zip_cons_cons, List.zip_nil_right, List.zip_nil_left]
  refine WSs.gen fun kn kr hkn hkr => ?_
  wtm_at "m:ws"
  refine SubV.tl (a := 8) (by wtm_at "m:mem") rfl (by (lia)) (by (lia)) ?_
  wtm_at "m:ws"
  try wtm_at "m:k"
  exact Endd.mk (by wtm_at "m:cut") ⟨rfl, rfl⟩
theorem c_find_none {d dx gl dl p : Addr} {D g : Nat → Int} {u : Int} (h : ∀ k, k < 8 → D (32 * k) ≠ u) :
    Call (TT w mg mb os) 5 (.ref 390) [.ref d, .int u, .ref p] ((p, .list (tl 11 g)) :: DL d dx gl dl D) fun v' S' => ∃ x, v' = .ref x ∧ S' = (x, .list []) :: (p, .list (tl 11 g)) :: DL d dx gl dl D := by
  refine CallC.call (n := 4 + 1) (CallC.drop ?_)
  refine' CallC.def (names := [Str.ofString "disk", Str.ofString "user", Str.ofString "pattern"]) ?ho ?hcd ?hb rfl ?nd ?hk ?hc ?ha ?h ?c1 ?c2 ?c3
  case ho => (show List.lookup _ (hd.heap_39 _) = some _); k_is
  case hcd => (show codeIn (hd.heap_39 _) _ _ = true); k_is
  case c1 => exact rfl
  case c2 => exact rfl
  case c3 => exact rfl
  case nd => decide
  case hc => decide
  case ha => decide +kernel
  case hb => exact valsS fun _ => valsS fun _ => valsS fun _ => vals0 rfl
  case hk => exact kindsN (by decide)
  intro c ok hf hn hs hc
  dsimp only [List.zip_cons_cons, List.zip_nil_right, List.zip_nil_left]
  refine WSs.gen fun kn kr hkn hkr => ?_
  have G_range := @g_range w mg mb os
  have G_raw_entry := @g_raw_entry w mg mb os
  have K_raw_entry := @g_raw_entryK w mg mb os
  have G_matches := @g_matches w mg mb os
  have K_matches := @g_matchesK w mg mb os
  have G_entry_from := @g_entry_from w mg mb os
  have K_entry_from := @g_entry_fromK w mg mb os
  have G_NAME_SIZE := @g_NAME_SIZE w mg mb os
  have A_entries := @a53_entries w mg mb os
  wtm_at "m:ws"
  refine ⟨by simp, fun x => Asg.mk (put_newK (by kernel_rfl)) ?_⟩
  refine WSs.cons (WS.for_ (bnd_name ok (by wtm_at "m:kind")) ?_)
  refine WI.range (WE.bi ok g_range (by wtm_at "m:kind") ⟨rfl, ?_⟩)
  wtm_at "m:ws"
  refine ⟨_, rfl, by (lia), by (lia), ?_⟩
  rw [nums_map]
  refine for_fix (fun j S => ∃ R, Cut ((x, .list []) :: (p, .list (tl 11 g)) :: DL d dx gl dl D) S R) (fun _ _ _ _ => trivial) (fun j S hj e => ?_) (fun S e => ?_) ⟨_, by wtm_at "m:cut"⟩
  · obtain ⟨R, e⟩ := e
    have hj8 : j < 8 := hj
    refine ⟨_, put_newK (by kernel_rfl), WSs.cut e ?_⟩
    wtm_at "m:ws"
    refine CallV.fr (c_raw_entry (k := j) ?_ ?_) (by first | (rw [hn]; decide) | (lia)) (by wtm_at "m:cut") ?_
    · wtm_at "m:side"
    · wtm_at "m:side"
    refine ex1 fun a => ?_
    first | refine Asg.mk (put_newK (by kernel_rfl)) ?_ | refine ⟨_, put_newK (by kernel_rfl), ?_⟩
    wtm_at "m:ws"
    refine SubV.tl (a := 0) (by wtm_at "m:mem") rfl (by (lia)) (by (lia)) ?_
    wtm_at "m:ws"
    refine ⟨fun q => absurd (by simpa using q) (h j hj8), fun _ => ⟨fun q => (by cases q), fun _ => ?_⟩⟩
    wtm_at "m:ws"
    (try wtm_at "m:k"); exact ⟨by wtm_at "m:sub", _, _, Cut.refl, _, by wtm_at "m:cut"⟩
  · obtain ⟨R, e⟩ := e
    refine WSs.cut e ?_
    wtm_at "m:ws"
    try wtm_at "m:k"
    exact Endd.mk (by wtm_at "m:cut") ⟨x, rfl, rfl⟩
noncomputable abbrev FL (x t e ex rl ml : Addr) (k : Nat) (u cnt : Int) (raw mp : Nat → Int) (S : Led) : Led := (x, .list [.ref t]) :: (t, .tup [.int k, .ref e]) :: ED e ex rl ml u cnt raw mp S
theorem c_find_one {d dx gl dl p : Addr} {D g : Nat → Int} {u : Int} {k : Nat} (hk : k < 8) (h1 : D (32 * k) = u) (h2 : ∀ i, i < 8 → i ≠ k → D (32 * i) ≠ u) (hg : ∀ i, i < 11 → g i = D (32 * k + (1 + i))) (h0 : u ≠ 229) (h12 : D (32 * k + 12) = 0) (h13 : D (32 * k + 13) = 0) (h14 : D (32 * k + 14) = 0) :
    Call (TT w mg mb os) 5 (.ref 390) [.ref d, .int u, .ref p] ((p, .list (tl 11 g)) :: DL d dx gl dl D) fun v' S' => ∃ x t e ex rl ml, v' = .ref x ∧ S' = FL x t e ex rl ml k u (D (32 * k + 15)) g (fun i => D (32 * k + (16 + i))) ((p, .list (tl 11 g)) :: DL d dx gl dl D) := by
  refine CallC.call (n := 4 + 1) (CallC.drop ?_)
  refine' CallC.def (names := [Str.ofString "disk", Str.ofString "user", Str.ofString "pattern"]) ?ho ?hcd ?hb rfl ?nd ?hk ?hc ?ha ?h ?c1 ?c2 ?c3
  case ho => (show List.lookup _ (hd.heap_39 _) = some _); k_is
  case hcd => (show codeIn (hd.heap_39 _) _ _ = true); k_is
  case c1 => exact rfl
  case c2 => exact rfl
  case c3 => exact rfl
  case nd => decide
  case hc => decide
  case ha => decide +kernel
  case hb => exact valsS fun _ => valsS fun _ => valsS fun _ => vals0 rfl
  case hk => exact kindsN (by decide)
  intro c ok hf hn hs hc
  dsimp only [List.zip_cons_cons, List.zip_nil_right, List.zip_nil_left]
  refine WSs.gen fun kn kr hkn hkr => ?_
  have G_range := @g_range w mg mb os
  have G_raw_entry := @g_raw_entry w mg mb os
  have K_raw_entry := @g_raw_entryK w mg mb os
  have G_matches := @g_matches w mg mb os
  have K_matches := @g_matchesK w mg mb os
  have G_entry_from := @g_entry_from w mg mb os
  have K_entry_from := @g_entry_fromK w mg mb os
  have G_NAME_SIZE := @g_NAME_SIZE w mg mb os
  have A_entries := @a53_entries w mg mb os
  wtm_at "m:ws"
  refine ⟨by simp, fun x => Asg.mk (put_newK (by kernel_rfl)) ?_⟩
  refine WSs.cons (WS.for_ (bnd_name ok (by wtm_at "m:kind")) ?_)
  refine WI.range (WE.bi ok g_range (by wtm_at "m:kind") ⟨rfl, ?_⟩)
  wtm_at "m:ws"
  refine ⟨_, rfl, by (lia), by (lia), ?_⟩
  rw [nums_map]
  refine for_fix (fun j S => (j ≤ k ∧ ∃ R, Cut ((x, .list []) :: (p, .list (tl 11 g)) :: DL d dx gl dl D) S R) ∨ (k < j ∧ ∃ t e ex rl ml R, Cut (FL x t e ex rl ml k u (D (32 * k + 15)) g (fun i => D (32 * k + (16 + i))) ((p, .list (tl 11 g)) :: DL d dx gl dl D)) S R)) (fun _ _ _ _ => trivial) (fun j S hj e => ?_) (fun S e => ?_) (.inl ⟨by (lia), _, by wtm_at "m:cut"⟩)
  · have hj8 : j < 8 := hj
    rcases e with ⟨hjk, R, e⟩ | ⟨hjk, t, e, ex, rl, ml, R, e'⟩
    · by_cases q : j = k
      · subst q
        refine ⟨_, put_newK (by kernel_rfl), WSs.cut e ?_⟩
        wtm_at "m:ws"
        refine CallV.fr (c_raw_entry (k := j) ?_ ?_) (by first | (rw [hn]; decide) | (lia)) (by wtm_at "m:cut") ?_
        · wtm_at "m:side"
        · wtm_at "m:side"
        refine ex1 fun a => ?_
        first | refine Asg.mk (put_newK (by kernel_rfl)) ?_ | refine ⟨_, put_newK (by kernel_rfl), ?_⟩
        wtm_at "m:ws"
        refine SubV.tl (a := 0) (by wtm_at "m:mem") rfl (by (lia)) (by (lia)) ?_
        wtm_at "m:ws"
        refine ⟨fun _ => ?_, fun q => absurd h1 (by simpa using q)⟩
        refine WT.val ?_
        wtm_at "m:ws"
        refine SlE.mk (l := a) (by wtm_at "m:mem") (by rw [tl_length]; (lia)) (pick_tlE (a := 1) (b := 12) (m := 11) (by (lia)) (by (lia)) (by (lia)) (by (lia)) (by (lia))) fun b => ?_
        rw [show (tl 11 fun i => D (32 * j + (1 + i))) = tl 11 g from tl_ext fun i hi => (hg i hi).symm]
        wtm_at "m:ws"
        refine CallV.same (c_matches) (by first | (rw [hn]; decide) | (lia)) (by wtm_at "m:cut") ?_
        refine ⟨true, rfl, ⟨fun _ => ?_, fun q => (by cases q)⟩⟩
        wtm_at "m:ws"
        refine WE.append ?_
        wtm_at "m:ws"
        refine ⟨x, [], rfl, by wtm_at "m:mem", ?_⟩
        wtm_at "m:ws"
        have g0 : D (32 * j + 0) ≠ 229 := by rw [Nat.add_zero, h1]; exact h0
        refine CallV.fr (c_entry_from g0 h12 h13 h14) (by first | (rw [hn]; decide) | (lia)) (by wtm_at "m:cut") ?_
        refine ex4 fun e ex rl ml => ?_
        wtm_at "m:ws"
        refine ⟨by simp, fun t => ⟨_, _, by wtm_at "m:chg", by simp, ?_⟩⟩
        wtm_at "m:ws"
        refine ⟨by wtm_at "m:sub", ?_⟩
        dsimp only [ED]
        rw [show tl 11 (fun i => D (32 * j + (1 + i))) = tl 11 g from tl_ext fun i hi => (hg i hi).symm, show D (32 * j + 0) = u from h1, Int.zero_add]
        dsimp only [List.nil_append, List.cons_append, List.append_nil]
        (try wtm_at "m:k"); exact ⟨_, _, Cut.refl, .inr ⟨by (lia), t, e, ex, rl, ml, _, by wtm_at "m:cut"⟩⟩
      · refine ⟨_, put_newK (by kernel_rfl), WSs.cut e ?_⟩
        wtm_at "m:ws"
        refine CallV.fr (c_raw_entry (k := j) ?_ ?_) (by first | (rw [hn]; decide) | (lia)) (by wtm_at "m:cut") ?_
        · wtm_at "m:side"
        · wtm_at "m:side"
        refine ex1 fun a => ?_
        first | refine Asg.mk (put_newK (by kernel_rfl)) ?_ | refine ⟨_, put_newK (by kernel_rfl), ?_⟩
        wtm_at "m:ws"
        refine SubV.tl (a := 0) (by wtm_at "m:mem") rfl (by (lia)) (by (lia)) ?_
        wtm_at "m:ws"
        refine ⟨fun z => absurd (by simpa using z) (h2 j hj8 q), fun _ => ⟨fun q => (by cases q), fun _ => ?_⟩⟩
        wtm_at "m:ws"
        (try wtm_at "m:k"); exact ⟨by wtm_at "m:sub", _, _, Cut.refl, .inl ⟨by (lia), _, by wtm_at "m:cut"⟩⟩
    · refine ⟨_, put_newK (by kernel_rfl), WSs.cut e' ?_⟩
      wtm_at "m:ws"
      refine CallV.fr (c_raw_entry (k := j) ?_ ?_) (by first | (rw [hn]; decide) | (lia)) (by wtm_at "m:cut") ?_
      · wtm_at "m:side"
      · wtm_at "m:side"
      refine ex1 fun a => ?_
      first | refine Asg.mk (put_newK (by kernel_rfl)) ?_ | refine ⟨_, put_newK (by kernel_rfl), ?_⟩
      wtm_at "m:ws"
      refine SubV.tl (a := 0) (by wtm_at "m:mem") rfl (by (lia)) (by (lia)) ?_
      wtm_at "m:ws"
      refine ⟨fun z => absurd (by simpa using z) (h2 j hj8 (by (lia))), fun _ => ⟨fun q => (by cases q), fun _ => ?_⟩⟩
      wtm_at "m:ws"
      (try wtm_at "m:k"); exact ⟨by wtm_at "m:sub", _, _, Cut.refl, .inr ⟨by (lia), t, e, ex, rl, ml, _, by wtm_at "m:cut"⟩⟩
  · rcases e with ⟨hjk, R, e⟩ | ⟨hjk, t, e, ex, rl, ml, R, e'⟩
    · exfalso
      have : (8 : Int).toNat ≤ k := hjk
      simp at this; (lia)
    · refine WSs.cut e' ?_
      wtm_at "m:ws"
      try wtm_at "m:k"
      exact Endd.mk (by wtm_at "m:cut") ⟨x, t, e, ex, rl, ml, rfl, rfl⟩

theorem c_find_extent_none {d dx gl dl p : Addr} {D g : Nat → Int} {u : Int} (h : ∀ k, k < 8 → D (32 * k) ≠ u) :
    Call (TT w mg mb os) 6 (.ref 397) [.ref d, .int u, .ref p, .int 0] ((p, .list (tl 11 g)) :: DL d dx gl dl D) fun v' S' => v' = .none ∧ S' = (p, .list (tl 11 g)) :: DL d dx gl dl D := by
  refine CallC.call (n := 5 + 1) (CallC.drop ?_)
  refine' CallC.def (names := [Str.ofString "disk", Str.ofString "user", Str.ofString "raw", Str.ofString "extent"]) ?ho ?hcd ?hb rfl ?nd ?hk ?hc ?ha ?h ?c1 ?c2 ?c3
  case ho => (show List.lookup _ (hd.heap_39 _) = some _); k_is
  case hcd => (show codeIn (hd.heap_39 _) _ _ = true); k_is
  case c1 => exact rfl
  case c2 => exact rfl
  case c3 => exact rfl
  case nd => decide
  case hc => decide
  case ha => decide +kernel
  case hb => exact valsS fun _ => valsS fun _ => valsS fun _ => valsS fun _ => vals0 rfl
  case hk => exact kindsN (by decide)
  intro c ok hf hn hs hc
  dsimp only [List.zip_cons_cons, List.zip_nil_right, List.zip_nil_left]
  refine WSs.gen fun kn kr hkn hkr => ?_
  have G_find := @g_find w mg mb os
  have K_find := @g_findK w mg mb os
  have A_extent := @a74_extent w mg mb os
  refine WSs.cons (WS.for_ (bnd_name ok (by wtm_at "m:kind")) (WI.list ?_))
  wtm_at "m:ws"
  refine CallV.fr (c_find_none h) (by first | (rw [hn]; decide) | (lia)) (by wtm_at "m:cut") ?_
  refine ex1 fun x => ?_
  refine ⟨x, [], rfl, by wtm_at "m:mem", by wtm_at "m:mem", ?_⟩
  wtm_at "m:ws"
  try wtm_at "m:k"
  exact Endd.mk (by wtm_at "m:cut") ⟨rfl, rfl⟩
noncomputable abbrev FE (t e ex rl ml : Addr) (k : Nat) (u cnt : Int) (raw mp : Nat → Int) (S : Led) : Led := (t, .tup [.int k, .ref e]) :: ED e ex rl ml u cnt raw mp S
theorem c_find_extent_one {d dx gl dl p : Addr} {D g : Nat → Int} {u : Int} {k : Nat} (hk : k < 8) (h1 : D (32 * k) = u) (h2 : ∀ i, i < 8 → i ≠ k → D (32 * i) ≠ u) (hg : ∀ i, i < 11 → g i = D (32 * k + (1 + i))) (h0 : u ≠ 229) (h12 : D (32 * k + 12) = 0) (h13 : D (32 * k + 13) = 0) (h14 : D (32 * k + 14) = 0) :
    Call (TT w mg mb os) 6 (.ref 397) [.ref d, .int u, .ref p, .int 0] ((p, .list (tl 11 g)) :: DL d dx gl dl D) fun v' S' => ∃ t e ex rl ml, v' = .ref t ∧ S' = FE t e ex rl ml k u (D (32 * k + 15)) g (fun i => D (32 * k + (16 + i))) ((p, .list (tl 11 g)) :: DL d dx gl dl D) := by
  refine CallC.call (n := 5 + 1) (CallC.drop ?_)
  refine' CallC.def (names := [Str.ofString "disk", Str.ofString "user", Str.ofString "raw", Str.ofString "extent"]) ?ho ?hcd ?hb rfl ?nd ?hk ?hc ?ha ?h ?c1 ?c2 ?c3
  case ho => (show List.lookup _ (hd.heap_39 _) = some _); k_is
  case hcd => (show codeIn (hd.heap_39 _) _ _ = true); k_is
  case c1 => exact rfl
  case c2 => exact rfl
  case c3 => exact rfl
  case nd => decide
  case hc => decide
  case ha => decide +kernel
  case hb => exact valsS fun _ => valsS fun _ => valsS fun _ => valsS fun _ => vals0 rfl
  case hk => exact kindsN (by decide)
  intro c ok hf hn hs hc
  dsimp only [List.zip_cons_cons, List.zip_nil_right, List.zip_nil_left]
  refine WSs.gen fun kn kr hkn hkr => ?_
  have G_find := @g_find w mg mb os
  have K_find := @g_findK w mg mb os
  have A_extent := @a74_extent w mg mb os
  refine WSs.cons (WS.for_ (bnd_name ok (by wtm_at "m:kind")) (WI.list ?_))
  wtm_at "m:ws"
  refine CallV.fr (c_find_one hk h1 h2 hg h0 h12 h13 h14) (by first | (rw [hn]; decide) | (lia)) (by wtm_at "m:cut") ?_
  refine ex6 fun x t e ex rl ml => ?_
  refine ⟨x, [.ref t], rfl, by wtm_at "m:mem", by wtm_at "m:mem", _, put_newK (by kernel_rfl), ?_⟩
  wtm_at "m:ws"
  refine SubV.tup (by wtm_at "m:mem") (by decide) (by decide) rfl ?_
  wtm_at "m:ws"
  refine ⟨fun _ => ?_, fun q => (by simp at q)⟩
  wtm_at "m:ws"
  try wtm_at "m:k"
  exact Endd.mk (by wtm_at "m:cut") ⟨t, e, ex, rl, ml, rfl, rfl⟩
theorem c_code_of {d dx gl dl : Addr} {D : Nat → Int} {x : Int} :
    Call (TT w mg mb os) 1 (.ref 421) [.ref d, .int x] (DL d dx gl dl D) fun v' S' => v' = .int 0 ∧ S' = DL d dx gl dl D := by
  refine CallC.call (n := 0 + 1) (CallC.drop ?_)
  refine' CallC.def (names := [Str.ofString "disk", Str.ofString "number"]) ?ho ?hcd ?hb rfl ?nd ?hk ?hc ?ha ?h ?c1 ?c2 ?c3
  case ho => (show List.lookup _ (hd.heap_39 _) = some _); k_is
  case hcd => (show codeIn (hd.heap_39 _) _ _ = true); k_is
  case c1 => exact rfl
  case c2 => exact rfl
  case c3 => exact rfl
  case nd => decide
  case hc => decide
  case ha => decide +kernel
  case hb => exact valsS fun _ => valsS fun _ => vals0 rfl
  case hk => exact kindsN (by decide)
  intro c ok hf hn hs hc
  dsimp only [List.zip_cons_cons, List.zip_nil_right, List.zip_nil_left]
  refine WSs.gen fun kn kr hkn hkr => ?_
  have G_max := @g_max w mg mb os
  have G_ENTRY_SIZE := @g_ENTRY_SIZE w mg mb os
  have A_record := @a53_record w mg mb os
  wtm_at "m:ws"
  have e : x.fmod (max ((16 : Int).fdiv 32) 1) = 0 := by
    rw [show max ((16 : Int).fdiv 32) 1 = 1 from by decide, Int.fmod_eq_emod_of_nonneg _ (by decide)]; (lia)
  rw [e]
  try wtm_at "m:k"
  exact Endd.mk (by wtm_at "m:cut") ⟨rfl, rfl⟩
theorem c_need_writable_file {l : Addr} {g : Nat → Int} (h : g 8 < 128) :
    Call (TT w mg mb os) 2 (.ref 428) [.ref l] [(l, .list (tl 11 g))] fun v' S' => v' = .none ∧ S' = [(l, .list (tl 11 g))] := by
  refine CallC.call (n := 1 + 1) (CallC.drop ?_)
  refine' CallC.def (names := [Str.ofString "raw"]) ?ho ?hcd ?hb rfl ?nd ?hk ?hc ?ha ?h ?c1 ?c2 ?c3
  case ho => (show List.lookup _ (hd.heap_39 _) = some _); k_is
  case hcd => (show codeIn (hd.heap_39 _) _ _ = true); k_is
  case c1 => exact rfl
  case c2 => exact rfl
  case c3 => exact rfl
  case nd => decide
  case hc => decide
  case ha => decide +kernel
  case hb => exact valsS fun _ => vals0 rfl
  case hk => exact kindsN (by decide)
  intro c ok hf hn hs hc
  dsimp only [List.zip_cons_cons, List.zip_nil_right, List.zip_nil_left]
  refine WSs.gen fun kn kr hkn hkr => ?_
  have G_has_flag := @g_has_flag w mg mb os
  have K_has_flag := @g_has_flagK w mg mb os
  have G_READ_ONLY_AT := @g_READ_ONLY_AT w mg mb os
  wtm_at "m:ws"
  refine WT.val ?_
  wtm_at "m:ws"
  refine CallV.same (c_has_flag) (by first | (rw [hn]; decide) | (lia)) (by wtm_at "m:cut") ?_
  refine ⟨_, rfl, ⟨fun q => ?_, fun _ => ?_⟩⟩
  · exfalso; simp at q; (lia)
  · wtm_at "m:ws"
    try wtm_at "m:k"
    exact Endd.mk (by wtm_at "m:cut") ⟨rfl, rfl⟩
theorem c_need_changeable {l t e ex rl ml : Addr} {k : Nat} {u cnt : Int} {g mp : Nat → Int} (h : g 8 < 128) :
    Call (TT w mg mb os) 2 (.ref 402) [.ref l] (FL l t e ex rl ml k u cnt g mp []) fun v' S' => v' = .none ∧ S' = FL l t e ex rl ml k u cnt g mp [] := by
  refine CallC.call (n := 1 + 1) (CallC.drop ?_)
  refine' CallC.def (names := [Str.ofString "pairs"]) ?ho ?hcd ?hb rfl ?nd ?hk ?hc ?ha ?h ?c1 ?c2 ?c3
  case ho => (show List.lookup _ (hd.heap_39 _) = some _); k_is
  case hcd => (show codeIn (hd.heap_39 _) _ _ = true); k_is
  case c1 => exact rfl
  case c2 => exact rfl
  case c3 => exact rfl
  case nd => decide
  case hc => decide
  case ha => decide +kernel
  case hb => exact valsS fun _ => vals0 rfl
  case hk => exact kindsN (by decide)
  intro c ok hf hn hs hc
  dsimp only [List.zip_cons_cons, List.zip_nil_right, List.zip_nil_left]
  refine WSs.gen fun kn kr hkn hkr => ?_
  have G_any := @g_any w mg mb os
  have G_has_flag := @g_has_flag w mg mb os
  have K_has_flag := @g_has_flagK w mg mb os
  have G_READ_ONLY_AT := @g_READ_ONLY_AT w mg mb os
  have A_raw := @a74_raw w mg mb os
  wtm_at "m:ws"
  refine WT.val ?_
  wtm_at "m:ws"
  refine WE.comp (ext := fun a => [(Str.ofString "number", a.1), (Str.ofString "entry", a.2)]) ([] : Loc) ok (free_ok hs hc (by decide)) (by decide) (by decide) rfl ?hr ?nd (fun c₂ ok₂ k₂ => bnd_two ok₂ (.inl (Kinds.at k₂ (by decide))) (.inl (Kinds.at k₂ (by decide)))) (fun a => ⟨_, put_newK (by kernel_rfl), put_newK (by kernel_rfl)⟩) ?_
  case hr => wtm_at "m:hr"
  case nd => exact nd_of (ns := []) rfl (by decide)
  refine WI.pairs ?_
  wtm_at "m:ws"
  refine ⟨l, [(t, .int k, .ref e)], rfl, (by (show (l, O.list [V.ref t]) ∈ _); wtm_at "m:mem"), ?_⟩
  intro c₂ ok₂ hf₂ hn₂ hs₂
  refine ⟨⟨(by (show (l, O.list [V.ref t]) ∈ _); wtm_at "m:mem"), fun t' ht => by rw [List.mem_singleton.mp ht]; wtm_at "m:mem"⟩, by simp, fun _ => ?_, fun q => (by cases q)⟩
  wtm_at "m:ws"
  refine CallV.same (c_has_flag) (by first | (rw [hn]; decide) | (lia)) (by wtm_at "m:cut") ?_
  refine ⟨⟨(by (show (l, O.list [V.ref t]) ∈ _); wtm_at "m:mem"), fun t' ht => by rw [List.mem_singleton.mp ht]; wtm_at "m:mem"⟩, fun a => ?_⟩
  wtm_at "m:ws"
  refine CallV.any (bs := [decide (128 ≤ g 8)]) (by (show (a, O.list ([] ++ [V.bool _])) ∈ _); wtm_at "m:mem") ?_
  have e : ([decide (128 ≤ g 8)].any id) = false := by simp; (lia)
  rw [e]
  refine ⟨_, rfl, ⟨fun q => (by cases q), fun _ => ?_⟩⟩
  wtm_at "m:ws"
  try wtm_at "m:k"
  exact Endd.mk (by wtm_at "m:cut") ⟨rfl, rfl⟩
theorem c_merged {p q : Addr} {g : Nat → Int} :
    Call (TT w mg mb os) 1 (.ref 449) [.ref p, .ref q] [(p, .list (tl 16 g)), (q, .list (tl 16 g))] fun v' S' => ∃ x, v' = .ref x ∧ S' = [(x, .list (tl 16 g)), (p, .list (tl 16 g)), (q, .list (tl 16 g))] := by
  refine CallC.call (n := 0 + 1) (CallC.drop ?_)
  refine' CallC.def (names := [Str.ofString "ours", Str.ofString "theirs"]) ?ho ?hcd ?hb rfl ?nd ?hk ?hc ?ha ?h ?c1 ?c2 ?c3
  case ho => (show List.lookup _ (hd.heap_39 _) = some _); k_is
  case hcd => (show codeIn (hd.heap_39 _) _ _ = true); k_is
  case c1 => exact rfl
  case c2 => exact rfl
  case c3 => exact rfl
  case nd => decide
  case hc => decide
  case ha => decide +kernel
  case hb => exact valsS fun _ => valsS fun _ => vals0 rfl
  case hk => exact kindsN (by decide)
  intro c ok hf hn hs hc
  dsimp only [List.zip_cons_cons, List.zip_nil_right, List.zip_nil_left]
  refine WSs.gen fun kn kr hkn hkr => ?_
  have G_zip := @g_zip w mg mb os
  wtm_at "m:ws"
  refine ⟨by simp, fun x => Asg.mk (put_newK (by kernel_rfl)) ?_⟩
  refine WSs.cons (WS.for_ (bnd_two ok (.inl (by wtm_at "m:kind")) (.inl (by wtm_at "m:kind"))) ?_)
  refine WI.zip (WE.bi ok g_zip (by wtm_at "m:kind") ⟨rfl, ?_⟩)
  wtm_at "m:ws"
  refine ⟨p, q, _, _, rfl, by wtm_at "m:mem", by wtm_at "m:mem", ?_⟩
  rw [zip_tl]
  refine for_fix (fun j S => j ≤ 16 ∧ ∃ R, Cut [(x, .list (tl j g)), (p, .list (tl 16 g)), (q, .list (tl 16 g))] S R) (fun j S _ ⟨_, R, e⟩ => ⟨e.mem (by wtm_at "m:mem"), e.mem (by wtm_at "m:mem")⟩) (fun j S hj e => ?_) (fun S e => ?_) ⟨by (lia), _, by (rw [tl_zero]; wtm_at "m:cut")⟩
  · obtain ⟨_, R, e⟩ := e
    refine ⟨_, ⟨_, put_newK (by kernel_rfl), put_newK (by kernel_rfl)⟩, WSs.cut e ?_⟩
    refine WSs.cons (WS.ifs (WT.and3 ?_))
    wtm_at "m:ws"
    refine ⟨fun z1 => ?_, fun _ => ⟨fun q => (by cases q), fun _ => ?_⟩⟩
    · wtm_at "m:ws"
      refine ⟨fun _ => ?_, fun z2 => absurd z1 (by rw [z2]; decide)⟩
      wtm_at "m:ws"
      refine ⟨fun q => (by simp at q), fun _ => ?_⟩
      wtm_at "m:ws"
      refine WE.append ?_
      wtm_at "m:ws"
      refine ⟨x, _, rfl, by wtm_at "m:mem", ?_⟩
      wtm_at "m:ws"
      refine ⟨fun _ => ?_, fun _ => ?_⟩
      · wtm_at "m:ws"
        refine ⟨tl j g, _, by wtm_at "m:chg", by simp [tl_length]; (lia), ?_⟩
        rw [← tl_succ]
        wtm_at "m:ws"
        (try wtm_at "m:k"); exact ⟨by wtm_at "m:sub", _, _, Cut.refl, hj, _, by wtm_at "m:cut"⟩
      · wtm_at "m:ws"
        refine ⟨tl j g, _, by wtm_at "m:chg", by simp [tl_length]; (lia), ?_⟩
        rw [← tl_succ]
        wtm_at "m:ws"
        (try wtm_at "m:k"); exact ⟨by wtm_at "m:sub", _, _, Cut.refl, hj, _, by wtm_at "m:cut"⟩
    · wtm_at "m:ws"
      refine WE.append ?_
      wtm_at "m:ws"
      refine ⟨x, _, rfl, by wtm_at "m:mem", ?_⟩
      wtm_at "m:ws"
      refine ⟨fun _ => ?_, fun _ => ?_⟩
      · wtm_at "m:ws"
        refine ⟨tl j g, _, by wtm_at "m:chg", by simp [tl_length]; (lia), ?_⟩
        rw [← tl_succ]
        wtm_at "m:ws"
        (try wtm_at "m:k"); exact ⟨by wtm_at "m:sub", _, _, Cut.refl, hj, _, by wtm_at "m:cut"⟩
      · wtm_at "m:ws"
        refine ⟨tl j g, _, by wtm_at "m:chg", by simp [tl_length]; (lia), ?_⟩
        rw [← tl_succ]
        wtm_at "m:ws"
        (try wtm_at "m:k"); exact ⟨by wtm_at "m:sub", _, _, Cut.refl, hj, _, by wtm_at "m:cut"⟩
  · obtain ⟨_, R, e⟩ := e
    refine WSs.cut e ?_
    wtm_at "m:ws"
    try wtm_at "m:k"
    exact Endd.mk (by wtm_at "m:cut") ⟨x, rfl, rfl⟩

theorem c_delete {d dx gl dl p : Addr} {D g : Nat → Int} {u : Int} {k : Nat} (H : Has D u k g) :
    Call (TT w mg mb os) 6 (.ref 409) [.ref d, .int u, .ref p] ((p, .list (tl 11 g)) :: DL d dx gl dl D) fun v' S' => v' = .int 1 ∧ S' = (p, .list (tl 11 g)) :: DL d dx gl dl (upd D (32 * k) 229) := by
  have hk := H.hk
  refine CallC.call (n := 5 + 1) (CallC.drop ?_)
  refine' CallC.def (names := [Str.ofString "disk", Str.ofString "user", Str.ofString "pattern"]) ?ho ?hcd ?hb rfl ?nd ?hk ?hc ?ha ?h ?c1 ?c2 ?c3
  case ho => (show List.lookup _ (hd.heap_39 _) = some _); k_is
  case hcd => (show codeIn (hd.heap_39 _) _ _ = true); k_is
  case c1 => exact rfl
  case c2 => exact rfl
  case c3 => exact rfl
  case nd => decide
  case hc => decide
  case ha => decide +kernel
  case hb => exact valsS fun _ => valsS fun _ => valsS fun _ => vals0 rfl
  case hk => exact kindsN (by decide)
  intro c ok hf hn hs hc
  dsimp only [List.zip_cons_cons, List.zip_nil_right, List.zip_nil_left]
  refine WSs.gen fun kn kr hkn hkr => ?_
  have G_need_writable := @g_need_writable w mg mb os
  have K_need_writable := @g_need_writableK w mg mb os
  have G_find := @g_find w mg mb os
  have K_find := @g_findK w mg mb os
  have G_need_changeable := @g_need_changeable w mg mb os
  have K_need_changeable := @g_need_changeableK w mg mb os
  have G_len := @g_len w mg mb os
  have G_erase_entry := @g_erase_entry w mg mb os
  have K_erase_entry := @g_erase_entryK w mg mb os
  wtm_at "m:ws"
  refine CallV.same (c_need_writable) (by first | (rw [hn]; decide) | (lia)) (by wtm_at "m:cut") ?_
  wtm_at "m:ws"
  refine CallV.fr (c_find_one H.hk H.h1 H.h2 H.hg H.h0 H.h12 H.h13 H.h14) (by first | (rw [hn]; decide) | (lia)) (by wtm_at "m:cut") ?_
  refine ex6 fun x t e ex rl ml => ?_
  first | refine Asg.mk (put_newK (by kernel_rfl)) ?_ | refine ⟨_, put_newK (by kernel_rfl), ?_⟩
  wtm_at "m:ws"
  refine CallV.same (c_need_changeable H.low) (by first | (rw [hn]; decide) | (lia)) (by wtm_at "m:cut") ?_
  wtm_at "m:ws"
  refine WSs.cons (WS.for_ (bnd_two ok (.inl (by wtm_at "m:kind")) (.inl (by wtm_at "m:kind"))) (WI.pairs ?_))
  wtm_at "m:ws"
  refine ⟨x, [(t, .int k, .ref e)], rfl, (by (show (x, O.list [V.ref t]) ∈ _); wtm_at "m:mem"), ?_⟩
  refine ⟨⟨(by (show (x, O.list [V.ref t]) ∈ _); wtm_at "m:mem"), fun t' ht => by rw [List.mem_singleton.mp ht]; wtm_at "m:mem"⟩, _, ⟨_, put_newK (by kernel_rfl), put_newK (by kernel_rfl)⟩, ?_⟩
  wtm_at "m:ws"
  refine CallV.fr (c_erase_entry (k := k) ?_ ?_) (by first | (rw [hn]; decide) | (lia)) (by wtm_at "m:cut") ?_
  · wtm_at "m:side"
  · wtm_at "m:side"
  refine ex0 ?_
  wtm_at "m:ws"
  refine ⟨⟨(by (show (x, O.list [V.ref t]) ∈ _); wtm_at "m:mem"), fun t' ht => by rw [List.mem_singleton.mp ht]; wtm_at "m:mem"⟩, ?_⟩
  wtm_at "m:ws"
  refine CallV.len (vs := [V.ref t]) (by wtm_at "m:mem") (by simp) ?_
  try wtm_at "m:k"
  exact Endd.mk (by wtm_at "m:cut") ⟨rfl, rfl⟩
theorem c_size_of_none {d dx gl dl p : Addr} {D g : Nat → Int} {u : Int} (H : ∀ k, k < 8 → D (32 * k) ≠ u) :
    Call (TT w mg mb os) 6 (.ref 414) [.ref d, .int u, .ref p] ((p, .list (tl 11 g)) :: DL d dx gl dl D) fun v' S' => v' = .int 0 ∧ S' = (p, .list (tl 11 g)) :: DL d dx gl dl D := by
  refine CallC.call (n := 5 + 1) (CallC.drop ?_)
  refine' CallC.def (names := [Str.ofString "disk", Str.ofString "user", Str.ofString "raw"]) ?ho ?hcd ?hb rfl ?nd ?hk ?hc ?ha ?h ?c1 ?c2 ?c3
  case ho => (show List.lookup _ (hd.heap_39 _) = some _); k_is
  case hcd => (show codeIn (hd.heap_39 _) _ _ = true); k_is
  case c1 => exact rfl
  case c2 => exact rfl
  case c3 => exact rfl
  case nd => decide
  case hc => decide
  case ha => decide +kernel
  case hb => exact valsS fun _ => valsS fun _ => valsS fun _ => vals0 rfl
  case hk => exact kindsN (by decide)
  intro c ok hf hn hs hc
  dsimp only [List.zip_cons_cons, List.zip_nil_right, List.zip_nil_left]
  refine WSs.gen fun kn kr hkn hkr => ?_
  have G_max := @g_max w mg mb os
  have G_find := @g_find w mg mb os
  have K_find := @g_findK w mg mb os
  have G_records_of_extent := @g_records_of_extent w mg mb os
  have K_records_of_extent := @g_records_of_extentK w mg mb os
  have A_count := @a74_count w mg mb os
  have A_extent := @a74_extent w mg mb os
  refine WSs.cons (WS.assignComp (ext := fun a => [(Str.ofString "number", a.1), (Str.ofString "entry", a.2)]) ([(Str.ofString "disk", .ref d)] : Loc) ok (by wtm_at "m:kind") ?sw (free_ok hs hc (by decide)) (by decide) (by decide) rfl ?hr ?nd (fun c₂ ok₂ k₂ => bnd_two ok₂ (.inl (Kinds.at k₂ (by decide))) (.inl (Kinds.at k₂ (by decide)))) (fun a => ⟨_, put_newK (by kernel_rfl), put_newK (by kernel_rfl)⟩) ?_)
  case sw => exact swaps_name ok (by wtm_at "m:kind") (by decide) (by decide)
  case hr => wtm_at "m:hr"
  case nd => exact nd_of (ns := [Str.ofString "disk"]) rfl (by decide)
  refine WI.pairs ?_
  wtm_at "m:ws"
  refine CallV.fr (c_find_none H) (by first | (rw [hn]; decide) | (lia)) (by wtm_at "m:cut") ?_
  refine ex1 fun x => ?_
  refine ⟨x, [], rfl, (by (show (x, O.list []) ∈ _); wtm_at "m:mem"), ?_⟩
  intro c₂ ok₂ hf₂ hn₂ hs₂
  refine ⟨⟨(by (show (x, O.list []) ∈ _); wtm_at "m:mem"), fun t' ht => by cases ht⟩, fun a => ⟨_, put_newK (by kernel_rfl), ?_⟩⟩
  wtm_at "m:ws"
  refine ⟨by simp, fun b => ?_⟩
  wtm_at "m:ws"
  refine BinV.cat (by wtm_at "m:mem") (by wtm_at "m:mem") (by simp) fun b2 => ?_
  wtm_at "m:ws"
  refine CallV.maxL (xs := [0]) (by (show (b2, O.list ([V.int 0] ++ [])) ∈ _); wtm_at "m:mem") (by simp) fun M hM _ => ?_
  have : M = 0 := by simpa using hM
  subst this
  try wtm_at "m:k"
  exact Endd.mk (by wtm_at "m:cut") ⟨rfl, rfl⟩
theorem c_size_of {d dx gl dl p : Addr} {D g : Nat → Int} {u : Int} {k : Nat} (H : Has D u k g) :
    Call (TT w mg mb os) 6 (.ref 414) [.ref d, .int u, .ref p] ((p, .list (tl 11 g)) :: DL d dx gl dl D) fun v' S' => v' = .int (D (32 * k + 15)) ∧ S' = (p, .list (tl 11 g)) :: DL d dx gl dl D := by
  refine CallC.call (n := 5 + 1) (CallC.drop ?_)
  refine' CallC.def (names := [Str.ofString "disk", Str.ofString "user", Str.ofString "raw"]) ?ho ?hcd ?hb rfl ?nd ?hk ?hc ?ha ?h ?c1 ?c2 ?c3
  case ho => (show List.lookup _ (hd.heap_39 _) = some _); k_is
  case hcd => (show codeIn (hd.heap_39 _) _ _ = true); k_is
  case c1 => exact rfl
  case c2 => exact rfl
  case c3 => exact rfl
  case nd => decide
  case hc => decide
  case ha => decide +kernel
  case hb => exact valsS fun _ => valsS fun _ => valsS fun _ => vals0 rfl
  case hk => exact kindsN (by decide)
  intro c ok hf hn hs hc
  dsimp only [List.zip_cons_cons, List.zip_nil_right, List.zip_nil_left]
  refine WSs.gen fun kn kr hkn hkr => ?_
  have G_max := @g_max w mg mb os
  have G_find := @g_find w mg mb os
  have K_find := @g_findK w mg mb os
  have G_records_of_extent := @g_records_of_extent w mg mb os
  have K_records_of_extent := @g_records_of_extentK w mg mb os
  have A_count := @a74_count w mg mb os
  have A_extent := @a74_extent w mg mb os
  refine WSs.cons (WS.assignComp (ext := fun a => [(Str.ofString "number", a.1), (Str.ofString "entry", a.2)]) ([(Str.ofString "disk", .ref d)] : Loc) ok (by wtm_at "m:kind") ?sw (free_ok hs hc (by decide)) (by decide) (by decide) rfl ?hr ?nd (fun c₂ ok₂ k₂ => bnd_two ok₂ (.inl (Kinds.at k₂ (by decide))) (.inl (Kinds.at k₂ (by decide)))) (fun a => ⟨_, put_newK (by kernel_rfl), put_newK (by kernel_rfl)⟩) ?_)
  case sw => exact swaps_name ok (by wtm_at "m:kind") (by decide) (by decide)
  case hr => wtm_at "m:hr"
  case nd => exact nd_of (ns := [Str.ofString "disk"]) rfl (by decide)
  refine WI.pairs ?_
  wtm_at "m:ws"
  refine CallV.fr (c_find_one H.hk H.h1 H.h2 H.hg H.h0 H.h12 H.h13 H.h14) (by first | (rw [hn]; decide) | (lia)) (by wtm_at "m:cut") ?_
  refine ex6 fun x t e ex rl ml => ?_
  refine ⟨x, [(t, .int k, .ref e)], rfl, (by (show (x, O.list [V.ref t]) ∈ _); wtm_at "m:mem"), ?_⟩
  intro c₂ ok₂ hf₂ hn₂ hs₂
  refine ⟨⟨(by (show (x, O.list [V.ref t]) ∈ _); wtm_at "m:mem"), fun t' ht => by rw [List.mem_singleton.mp ht]; wtm_at "m:mem"⟩, by simp, fun _ => ?_, fun q => (by cases q)⟩
  wtm_at "m:ws"
  refine CallV.same (c_records_of_extent) (by first | (rw [hn]; decide) | (lia)) (by wtm_at "m:cut") ?_
  wtm_at "m:ws"
  refine ⟨⟨(by (show (x, O.list [V.ref t]) ∈ _); wtm_at "m:mem"), fun t' ht => by rw [List.mem_singleton.mp ht]; wtm_at "m:mem"⟩, fun a => ⟨_, put_newK (by kernel_rfl), ?_⟩⟩
  rw [show (0 : Int) * 32 + D (32 * k + 15) = D (32 * k + 15) by (lia)]
  wtm_at "m:ws"
  refine ⟨by simp, fun b => ?_⟩
  wtm_at "m:ws"
  refine BinV.cat (by wtm_at "m:mem") (by wtm_at "m:mem") (by simp) fun b2 => ?_
  wtm_at "m:ws"
  refine CallV.maxL (xs := [0, D (32 * k + 15)]) (by (show (b2, O.list ([V.int 0] ++ ([] ++ [V.int (D (32 * k + 15))]))) ∈ _); wtm_at "m:mem") (by simp) fun M hM hl => ?_
  have : M = D (32 * k + 15) := by
    have q := (H.oct 15 (by (lia))).1
    have q2 := hl (D (32 * k + 15)) (by simp)
    rcases List.mem_cons.mp hM with h | h
    · (lia)
    · simpa using h
  subst this
  try wtm_at "m:k"
  exact Endd.mk (by wtm_at "m:cut") ⟨rfl, rfl⟩
theorem c_code_for {n : Int} :
    Call (TT w mg mb os) 1 (.ref 468) [.int n] [] fun v' S' => v' = .int (if 0 < n then 0 else 255) ∧ S' = [] := by
  refine CallC.call (n := 0 + 1) (CallC.drop ?_)
  refine' CallC.def (names := [Str.ofString "many"]) ?ho ?hcd ?hb rfl ?nd ?hk ?hc ?ha ?h ?c1 ?c2 ?c3
  case ho => (show List.lookup _ (hd.heap_39 _) = some _); k_is
  case hcd => (show codeIn (hd.heap_39 _) _ _ = true); k_is
  case c1 => exact rfl
  case c2 => exact rfl
  case c3 => exact rfl
  case nd => decide
  case hc => decide
  case ha => decide +kernel
  case hb => exact valsS fun _ => vals0 rfl
  case hk => exact kindsN (by decide)
  intro c ok hf hn hs hc
  dsimp only [List.zip_cons_cons, List.zip_nil_right, List.zip_nil_left]
  refine WSs.gen fun kn kr hkn hkr => ?_
  have G_DONE := @g_DONE w mg mb os
  have G_NOT_FOUND := @g_NOT_FOUND w mg mb os
  wtm_at "m:ws"
  refine ⟨fun h => ?_, fun h => ?_⟩
  · wtm_at "m:ws"
    rw [if_pos (by simpa using h)]
    try wtm_at "m:k"
    exact Endd.mk (by wtm_at "m:cut") ⟨rfl, rfl⟩
  · wtm_at "m:ws"
    rw [if_neg (by simpa using h)]
    try wtm_at "m:k"
    exact Endd.mk (by wtm_at "m:cut") ⟨rfl, rfl⟩
theorem c_delete_file {d dx gl dl m : Addr} {D f : Nat → Int} {u x : Int} {k a : Nat} (hx : x = a) (h1 : a + 36 ≤ 112) (H : Has D u k fun i => f (a + 1 + i)) :
    Call (TT w mg mb os) 7 (.ref 475) [.ref d, .int u, .ref m, .int x] ((m, .list (tl 112 f)) :: DL d dx gl dl D) fun v' S' => v' = .int 0 ∧ S' = (m, .list (tl 112 f)) :: DL d dx gl dl (upd D (32 * k) 229) := by
  subst hx
  refine CallC.call (n := 6 + 1) (CallC.drop ?_)
  refine' CallC.def (names := [Str.ofString "disk", Str.ofString "user", Str.ofString "memory", Str.ofString "at"]) ?ho ?hcd ?hb rfl ?nd ?hk ?hc ?ha ?h ?c1 ?c2 ?c3
  case ho => (show List.lookup _ (hd.heap_39 _) = some _); k_is
  case hcd => (show codeIn (hd.heap_39 _) _ _ = true); k_is
  case c1 => exact rfl
  case c2 => exact rfl
  case c3 => exact rfl
  case nd => decide
  case hc => decide
  case ha => decide +kernel
  case hb => exact valsS fun _ => valsS fun _ => valsS fun _ => valsS fun _ => vals0 rfl
  case hk => exact kindsN (by decide)
  intro c ok hf hn hs hc
  dsimp only [List.zip_cons_cons, List.zip_nil_right, List.zip_nil_left]
  refine WSs.gen fun kn kr hkn hkr => ?_
  have G_code_for := @g_code_for w mg mb os
  have K_code_for := @g_code_forK w mg mb os
  have G_delete := @g_delete w mg mb os
  have K_delete := @g_deleteK w mg mb os
  have G_name_at := @g_name_at w mg mb os
  have K_name_at := @g_name_atK w mg mb os
  wtm_at "m:ws"
  refine CallV.fr (c_name_at (a := a) ?_ ?_ ?_) (by first | (rw [hn]; decide) | (lia)) (by wtm_at "m:cut") ?_
  · wtm_at "m:side"
  · wtm_at "m:side"
  · wtm_at "m:side"
  refine ex1 fun y => ?_
  wtm_at "m:ws"
  refine CallV.fr (c_delete H) (by first | (rw [hn]; decide) | (lia)) (by wtm_at "m:cut") ?_
  refine ex0 ?_
  wtm_at "m:ws"
  refine CallV.same (c_code_for) (by first | (rw [hn]; decide) | (lia)) (by wtm_at "m:cut") ?_
  try wtm_at "m:k"
  exact Endd.mk (by wtm_at "m:cut") ⟨rfl, rfl⟩
theorem c_size_file_none {d dx gl dl m : Addr} {D f : Nat → Int} {u x : Int} {a : Nat} (hx : x = a) (h1 : a + 36 ≤ 112) (H : ∀ k, k < 8 → D (32 * k) ≠ u) :
    Call (TT w mg mb os) 7 (.ref 482) [.ref d, .int u, .ref m, .int x] ((m, .list (tl 112 f)) :: DL d dx gl dl D) fun v' S' => v' = .int 255 ∧ S' = (m, .list (tl 112 (putAt f (a + 33) 3 fun i => if i = 0 then 0 else 0))) :: DL d dx gl dl D := by
  subst hx
  refine CallC.call (n := 6 + 1) (CallC.drop ?_)
  refine' CallC.def (names := [Str.ofString "disk", Str.ofString "user", Str.ofString "memory", Str.ofString "at"]) ?ho ?hcd ?hb rfl ?nd ?hk ?hc ?ha ?h ?c1 ?c2 ?c3
  case ho => (show List.lookup _ (hd.heap_39 _) = some _); k_is
  case hcd => (show codeIn (hd.heap_39 _) _ _ = true); k_is
  case c1 => exact rfl
  case c2 => exact rfl
  case c3 => exact rfl
  case nd => decide
  case hc => decide
  case ha => decide +kernel
  case hb => exact valsS fun _ => valsS fun _ => valsS fun _ => valsS fun _ => vals0 rfl
  case hk => exact kindsN (by decide)
  intro c ok hf hn hs hc
  dsimp only [List.zip_cons_cons, List.zip_nil_right, List.zip_nil_left]
  refine WSs.gen fun kn kr hkn hkr => ?_
  have G_set_random := @g_set_random w mg mb os
  have K_set_random := @g_set_randomK w mg mb os
  have G_code_for := @g_code_for w mg mb os
  have K_code_for := @g_code_forK w mg mb os
  have G_size_of := @g_size_of w mg mb os
  have K_size_of := @g_size_ofK w mg mb os
  have G_len := @g_len w mg mb os
  have G_name_at := @g_name_at w mg mb os
  have K_name_at := @g_name_atK w mg mb os
  have G_find := @g_find w mg mb os
  have K_find := @g_findK w mg mb os
  wtm_at "m:ws"
  refine CallV.fr (c_name_at (a := a) ?_ ?_ ?_) (by first | (rw [hn]; decide) | (lia)) (by wtm_at "m:cut") ?_
  · wtm_at "m:side"
  · wtm_at "m:side"
  · wtm_at "m:side"
  refine ex1 fun y => ?_
  wtm_at "m:ws"
  refine CallV.same (c_size_of_none H) (by first | (rw [hn]; decide) | (lia)) (by wtm_at "m:cut") ?_
  wtm_at "m:ws"
  refine CallV.fr (c_set_random (a := a) ?_ ?_ ?_ ?_ ?_) (by first | (rw [hn]; decide) | (lia)) (by wtm_at "m:cut") ?_
  · wtm_at "m:side"
  · wtm_at "m:side"
  · wtm_at "m:side"
  · wtm_at "m:side"
  · wtm_at "m:side"
  refine ex0 ?_
  wtm_at "m:ws"
  refine CallV.fr (c_name_at (a := a) ?_ ?_ ?_) (by first | (rw [hn]; decide) | (lia)) (by wtm_at "m:cut") ?_
  · wtm_at "m:side"
  · wtm_at "m:side"
  · wtm_at "m:side"
  refine ex1 fun y2 => ?_
  wtm_at "m:ws"
  refine CallV.fr (c_find_none H) (by first | (rw [hn]; decide) | (lia)) (by wtm_at "m:cut") ?_
  refine ex1 fun z => ?_
  wtm_at "m:ws"
  refine CallV.len (vs := []) (by wtm_at "m:mem") (by simp) ?_
  wtm_at "m:ws"
  refine CallV.same (c_code_for) (by first | (rw [hn]; decide) | (lia)) (by wtm_at "m:cut") ?_
  try wtm_at "m:k"
  exact Endd.mk (by wtm_at "m:cut") ⟨rfl, rfl⟩
theorem c_size_file {d dx gl dl m : Addr} {D f : Nat → Int} {u x : Int} {a k : Nat} (hx : x = a) (h1 : a + 36 ≤ 112) (H : Has D u k fun i => f (a + 1 + i)) :
    Call (TT w mg mb os) 7 (.ref 482) [.ref d, .int u, .ref m, .int x] ((m, .list (tl 112 f)) :: DL d dx gl dl D) fun v' S' => v' = .int 0 ∧ S' = (m, .list (tl 112 (putAt f (a + 33) 3 fun i => if i = 0 then D (32 * k + 15) else 0))) :: DL d dx gl dl D := by
  subst hx
  refine CallC.call (n := 6 + 1) (CallC.drop ?_)
  refine' CallC.def (names := [Str.ofString "disk", Str.ofString "user", Str.ofString "memory", Str.ofString "at"]) ?ho ?hcd ?hb rfl ?nd ?hk ?hc ?ha ?h ?c1 ?c2 ?c3
  case ho => (show List.lookup _ (hd.heap_39 _) = some _); k_is
  case hcd => (show codeIn (hd.heap_39 _) _ _ = true); k_is
  case c1 => exact rfl
  case c2 => exact rfl
  case c3 => exact rfl
  case nd => decide
  case hc => decide
  case ha => decide +kernel
  case hb => exact valsS fun _ => valsS fun _ => valsS fun _ => valsS fun _ => vals0 rfl
  case hk => exact kindsN (by decide)
  intro c ok hf hn hs hc
  dsimp only [List.zip_cons_cons, List.zip_nil_right, List.zip_nil_left]
  refine WSs.gen fun kn kr hkn hkr => ?_
  have G_set_random := @g_set_random w mg mb os
  have K_set_random := @g_set_randomK w mg mb os
  have G_code_for := @g_code_for w mg mb os
  have K_code_for := @g_code_forK w mg mb os
  have G_size_of := @g_size_of w mg mb os
  have K_size_of := @g_size_ofK w mg mb os
  have G_len := @g_len w mg mb os
  have G_name_at := @g_name_at w mg mb os
  have K_name_at := @g_name_atK w mg mb os
  have G_find := @g_find w mg mb os
  have K_find := @g_findK w mg mb os
  wtm_at "m:ws"
  refine CallV.fr (c_name_at (a := a) ?_ ?_ ?_) (by first | (rw [hn]; decide) | (lia)) (by wtm_at "m:cut") ?_
  · wtm_at "m:side"
  · wtm_at "m:side"
  · wtm_at "m:side"
  refine ex1 fun y => ?_
  wtm_at "m:ws"
  refine CallV.same (c_size_of H) (by first | (rw [hn]; decide) | (lia)) (by wtm_at "m:cut") ?_
  wtm_at "m:ws"
  have q := H.oct 15 (by (lia))
  refine CallV.fr (c_set_random (a := a) ?_ ?_ ?_ q.1 q.2) (by first | (rw [hn]; decide) | (lia)) (by wtm_at "m:cut") ?_
  · wtm_at "m:side"
  · wtm_at "m:side"
  · wtm_at "m:side"
  refine ex0 ?_
  wtm_at "m:ws"
  refine CallV.fr (c_name_at (a := a) ?_ ?_ ?_) (by first | (rw [hn]; decide) | (lia)) (by wtm_at "m:cut") ?_
  · wtm_at "m:side"
  · wtm_at "m:side"
  · wtm_at "m:side"
  refine ex1 fun y2 => ?_
  have e : (tl 11 fun i => putAt f (a + 33) 3 (fun i => if i = 0 then D (32 * k + 15) else 0) (a + 1 + i)) = tl 11 fun i => f (a + 1 + i) := tl_ext fun i hi => by
    unfold putAt; rw [if_neg (by (lia))]
  rw [e]
  wtm_at "m:ws"
  refine CallV.fr (c_find_one H.hk H.h1 H.h2 H.hg H.h0 H.h12 H.h13 H.h14) (by first | (rw [hn]; decide) | (lia)) (by wtm_at "m:cut") ?_
  refine ex6 fun z t e ex rl ml => ?_
  wtm_at "m:ws"
  refine CallV.len (vs := [.ref t]) (by wtm_at "m:mem") (by simp) ?_
  wtm_at "m:ws"
  refine CallV.same (c_code_for) (by first | (rw [hn]; decide) | (lia)) (by wtm_at "m:cut") ?_
  try wtm_at "m:k"
  exact Endd.mk (by wtm_at "m:cut") ⟨rfl, rfl⟩
theorem c_tell_random {d dx gl dl m : Addr} {D f : Nat → Int} {x : Int} {a : Nat} (hx : x = a) (F : Fcb f a) :
    Call (TT w mg mb os) 4 (.ref 489) [.ref d, .ref m, .int x] ((m, .list (tl 112 f)) :: DL d dx gl dl D) fun v' S' => v' = .int 0 ∧ S' = (m, .list (tl 112 (putAt f (a + 33) 3 fun i => if i = 0 then f (a + 32) else 0))) :: DL d dx gl dl D := by
  subst hx
  have ha := F.ha
  refine CallC.call (n := 3 + 1) (CallC.drop ?_)
  refine' CallC.def (names := [Str.ofString "disk", Str.ofString "memory", Str.ofString "at"]) ?ho ?hcd ?hb rfl ?nd ?hk ?hc ?ha ?h ?c1 ?c2 ?c3
  case ho => (show List.lookup _ (hd.heap_39 _) = some _); k_is
  case hcd => (show codeIn (hd.heap_39 _) _ _ = true); k_is
  case c1 => exact rfl
  case c2 => exact rfl
  case c3 => exact rfl
  case nd => decide
  case hc => decide
  case ha => decide +kernel
  case hb => exact valsS fun _ => valsS fun _ => valsS fun _ => vals0 rfl
  case hk => exact kindsN (by decide)
  intro c ok hf hn hs hc
  dsimp only [List.zip_cons_cons, List.zip_nil_right, List.zip_nil_left]
  refine WSs.gen fun kn kr hkn hkr => ?_
  have G_DONE := @g_DONE w mg mb os
  have G_set_random := @g_set_random w mg mb os
  have K_set_random := @g_set_randomK w mg mb os
  have G_current_at := @g_current_at w mg mb os
  have K_current_at := @g_current_atK w mg mb os
  have G_extent_at := @g_extent_at w mg mb os
  have K_extent_at := @g_extent_atK w mg mb os
  have G_records_of_extent := @g_records_of_extent w mg mb os
  have K_records_of_extent := @g_records_of_extentK w mg mb os
  wtm_at "m:ws"
  refine CallV.same (c_extent_at (a := a) ?_ ?_ ?_ F.h12 F.h14) (by first | (rw [hn]; decide) | (lia)) (by wtm_at "m:cut") ?_
  · wtm_at "m:side"
  · wtm_at "m:side"
  · wtm_at "m:side"
  wtm_at "m:ws"
  refine CallV.same (c_records_of_extent) (by first | (rw [hn]; decide) | (lia)) (by wtm_at "m:cut") ?_
  wtm_at "m:ws"
  refine CallV.same (c_current_at (a := a) ?_ ?_ ?_) (by first | (rw [hn]; decide) | (lia)) (by wtm_at "m:cut") ?_
  · wtm_at "m:side"
  · wtm_at "m:side"
  · wtm_at "m:side"
  wtm_at "m:ws"
  rw [show (0 : Int) * 32 + f (a + 32) = f (a + 32) by (lia)]
  have q := F.oct (a + 32) (by (lia))
  refine CallV.fr (c_set_random (a := a) ?_ ?_ ?_ q.1 q.2) (by first | (rw [hn]; decide) | (lia)) (by wtm_at "m:cut") ?_
  · wtm_at "m:side"
  · wtm_at "m:side"
  · wtm_at "m:side"
  refine ex0 ?_
  wtm_at "m:ws"
  try wtm_at "m:k"
  exact Endd.mk (by wtm_at "m:cut") ⟨rfl, rfl⟩

theorem c_open_file_none {d dx gl dl m : Addr} {D f : Nat → Int} {u x : Int} {a : Nat} (hx : x = a) (h1 : a + 36 ≤ 112) (h12 : f (a + 12) = 0) (H : ∀ k, k < 8 → D (32 * k) ≠ u) :
    Call (TT w mg mb os) 8 (.ref 442) [.ref d, .int u, .ref m, .int x] ((m, .list (tl 112 f)) :: DL d dx gl dl D) fun v' S' => v' = .int 255 ∧ S' = (m, .list (tl 112 (upd f (a + 14) 0))) :: DL d dx gl dl D := by
  subst hx
  have z1 : upd f (a + 14) 0 (a + 12) = 0 := by unfold upd; rw [if_neg (by (lia))]; exact h12
  have z2 : upd f (a + 14) 0 (a + 14) = 0 ∨ upd f (a + 14) 0 (a + 14) = 128 := .inl (by unfold upd; rw [if_pos rfl])
  refine CallC.call (n := 7 + 1) (CallC.drop ?_)
  refine' CallC.def (names := [Str.ofString "disk", Str.ofString "user", Str.ofString "memory", Str.ofString "at"]) ?ho ?hcd ?hb rfl ?nd ?hk ?hc ?ha ?h ?c1 ?c2 ?c3
  case ho => (show List.lookup _ (hd.heap_39 _) = some _); k_is
  case hcd => (show codeIn (hd.heap_39 _) _ _ = true); k_is
  case c1 => exact rfl
  case c2 => exact rfl
  case c3 => exact rfl
  case nd => decide
  case hc => decide
  case ha => decide +kernel
  case hb => exact valsS fun _ => valsS fun _ => valsS fun _ => valsS fun _ => vals0 rfl
  case hk => exact kindsN (by decide)
  intro c ok hf hn hs hc
  dsimp only [List.zip_cons_cons, List.zip_nil_right, List.zip_nil_left]
  refine WSs.gen fun kn kr hkn hkr => ?_
  have G_put_octets := @g_put_octets w mg mb os
  have K_put_octets := @g_put_octetsK w mg mb os
  have G_find_extent := @g_find_extent w mg mb os
  have K_find_extent := @g_find_extentK w mg mb os
  have G_NOT_FOUND := @g_NOT_FOUND w mg mb os
  have G_take_entry := @g_take_entry w mg mb os
  have K_take_entry := @g_take_entryK w mg mb os
  have G_code_of := @g_code_of w mg mb os
  have K_code_of := @g_code_ofK w mg mb os
  have G_S2_AT := @g_S2_AT w mg mb os
  have G_name_at := @g_name_at w mg mb os
  have K_name_at := @g_name_atK w mg mb os
  have G_extent_at := @g_extent_at w mg mb os
  have K_extent_at := @g_extent_atK w mg mb os
  have G_raw_entry := @g_raw_entry w mg mb os
  have K_raw_entry := @g_raw_entryK w mg mb os
  wtm_at "m:ws"
  refine ⟨by simp, fun b => ?_⟩
  rw [show [V.int 0] = tl 1 (fun _ => 0) from rfl]
  wtm_at "m:ws"
  refine CallV.fr (c_put_octets (a := a + 14) ?_ ?_ ?_ ?_) (by first | (rw [hn]; decide) | (lia)) (by wtm_at "m:cut") ?_
  · wtm_at "m:side"
  · wtm_at "m:side"
  · wtm_at "m:side"
  · wtm_at "m:side"
  refine ex0 ?_
  rw [putAt_one]
  wtm_at "m:ws"
  refine CallV.fr (c_name_at (a := a) ?_ ?_ ?_) (by first | (rw [hn]; decide) | (lia)) (by wtm_at "m:cut") ?_
  · wtm_at "m:side"
  · wtm_at "m:side"
  · wtm_at "m:side"
  refine ex1 fun y => ?_
  wtm_at "m:ws"
  refine CallV.same (c_extent_at (a := a) ?_ ?_ ?_ z1 z2) (by first | (rw [hn]; decide) | (lia)) (by wtm_at "m:cut") ?_
  · wtm_at "m:side"
  · wtm_at "m:side"
  · wtm_at "m:side"
  wtm_at "m:ws"
  refine CallV.same (c_find_extent_none H) (by first | (rw [hn]; decide) | (lia)) (by wtm_at "m:cut") ?_
  first | refine Asg.mk (put_newK (by kernel_rfl)) ?_ | refine ⟨_, put_newK (by kernel_rfl), ?_⟩
  wtm_at "m:ws"
  refine ⟨fun _ => ?_, fun q => (by cases q)⟩
  wtm_at "m:ws"
  try wtm_at "m:k"
  exact Endd.mk (by wtm_at "m:cut") ⟨rfl, rfl⟩
theorem c_open_file {d dx gl dl m : Addr} {D f : Nat → Int} {u x : Int} {a k : Nat} (hx : x = a) (h1 : a + 36 ≤ 112) (h12 : f (a + 12) = 0) (H : Has D u k fun i => f (a + 1 + i)) :
    Call (TT w mg mb os) 8 (.ref 442) [.ref d, .int u, .ref m, .int x] ((m, .list (tl 112 f)) :: DL d dx gl dl D) fun v' S' => v' = .int 0 ∧ S' = (m, .list (tl 112 (upd (putAt (upd f (a + 14) 0) (a + 1) 31 fun i => D (32 * k + (1 + i))) (a + 14) 128))) :: DL d dx gl dl D := by
  subst hx
  have z1 : upd f (a + 14) 0 (a + 12) = 0 := by unfold upd; rw [if_neg (by (lia))]; exact h12
  have z2 : upd f (a + 14) 0 (a + 14) = 0 ∨ upd f (a + 14) 0 (a + 14) = 128 := .inl (by unfold upd; rw [if_pos rfl])
  refine CallC.call (n := 7 + 1) (CallC.drop ?_)
  refine' CallC.def (names := [Str.ofString "disk", Str.ofString "user", Str.ofString "memory", Str.ofString "at"]) ?ho ?hcd ?hb rfl ?nd ?hk ?hc ?ha ?h ?c1 ?c2 ?c3
  case ho => (show List.lookup _ (hd.heap_39 _) = some _); k_is
  case hcd => (show codeIn (hd.heap_39 _) _ _ = true); k_is
  case c1 => exact rfl
  case c2 => exact rfl
  case c3 => exact rfl
  case nd => decide
  case hc => decide
  case ha => decide +kernel
  case hb => exact valsS fun _ => valsS fun _ => valsS fun _ => valsS fun _ => vals0 rfl
  case hk => exact kindsN (by decide)
  intro c ok hf hn hs hc
  dsimp only [List.zip_cons_cons, List.zip_nil_right, List.zip_nil_left]
  refine WSs.gen fun kn kr hkn hkr => ?_
  have G_put_octets := @g_put_octets w mg mb os
  have K_put_octets := @g_put_octetsK w mg mb os
  have G_find_extent := @g_find_extent w mg mb os
  have K_find_extent := @g_find_extentK w mg mb os
  have G_NOT_FOUND := @g_NOT_FOUND w mg mb os
  have G_take_entry := @g_take_entry w mg mb os
  have K_take_entry := @g_take_entryK w mg mb os
  have G_code_of := @g_code_of w mg mb os
  have K_code_of := @g_code_ofK w mg mb os
  have G_S2_AT := @g_S2_AT w mg mb os
  have G_name_at := @g_name_at w mg mb os
  have K_name_at := @g_name_atK w mg mb os
  have G_extent_at := @g_extent_at w mg mb os
  have K_extent_at := @g_extent_atK w mg mb os
  have G_raw_entry := @g_raw_entry w mg mb os
  have K_raw_entry := @g_raw_entryK w mg mb os
  wtm_at "m:ws"
  refine ⟨by simp, fun b => ?_⟩
  rw [show [V.int 0] = tl 1 (fun _ => 0) from rfl]
  wtm_at "m:ws"
  refine CallV.fr (c_put_octets (a := a + 14) ?_ ?_ ?_ ?_) (by first | (rw [hn]; decide) | (lia)) (by wtm_at "m:cut") ?_
  · wtm_at "m:side"
  · wtm_at "m:side"
  · wtm_at "m:side"
  · wtm_at "m:side"
  refine ex0 ?_
  rw [putAt_one]
  wtm_at "m:ws"
  refine CallV.fr (c_name_at (a := a) ?_ ?_ ?_) (by first | (rw [hn]; decide) | (lia)) (by wtm_at "m:cut") ?_
  · wtm_at "m:side"
  · wtm_at "m:side"
  · wtm_at "m:side"
  refine ex1 fun y => ?_
  have e : (tl 11 fun i => upd f (a + 14) 0 (a + 1 + i)) = tl 11 fun i => f (a + 1 + i) := tl_ext fun i hi => by
    unfold upd; rw [if_neg (by (lia))]
  rw [e]
  wtm_at "m:ws"
  refine CallV.same (c_extent_at (a := a) ?_ ?_ ?_ z1 z2) (by first | (rw [hn]; decide) | (lia)) (by wtm_at "m:cut") ?_
  · wtm_at "m:side"
  · wtm_at "m:side"
  · wtm_at "m:side"
  wtm_at "m:ws"
  refine CallV.fr (c_find_extent_one H.hk H.h1 H.h2 H.hg H.h0 H.h12 H.h13 H.h14) (by first | (rw [hn]; decide) | (lia)) (by wtm_at "m:cut") ?_
  refine ex5 fun t e ex rl ml => ?_
  first | refine Asg.mk (put_newK (by kernel_rfl)) ?_ | refine ⟨_, put_newK (by kernel_rfl), ?_⟩
  wtm_at "m:ws"
  refine ⟨fun q => (by cases q), fun _ => ?_⟩
  wtm_at "m:ws"
  refine SubV.tup (by wtm_at "m:mem") (by decide) (by decide) rfl ?_
  wtm_at "m:ws"
  have hk := H.hk
  refine CallV.fr (c_raw_entry (k := k) ?_ ?_) (by first | (rw [hn]; decide) | (lia)) (by wtm_at "m:cut") ?_
  · wtm_at "m:side"
  · wtm_at "m:side"
  refine ex1 fun z => ?_
  wtm_at "m:ws"
  refine CallV.fr (c_take_entry (a := a) ?_ ?_ H.oct (.inl H.h14)) (by first | (rw [hn]; decide) | (lia)) (by wtm_at "m:cut") ?_
  · wtm_at "m:side"
  · wtm_at "m:side"
  refine ex0 ?_
  wtm_at "m:ws"
  refine SubV.tup (by wtm_at "m:mem") (by decide) (by decide) rfl ?_
  wtm_at "m:ws"
  refine CallV.same (c_code_of) (by first | (rw [hn]; decide) | (lia)) (by wtm_at "m:cut") ?_
  try wtm_at "m:k"
  exact Endd.mk (by wtm_at "m:cut") ⟨rfl, rfl⟩
theorem c_make_file {d dx gl dl m : Addr} {D f : Nat → Int} {u x : Int} {a k : Nat} (hx : x = a) (h1 : a + 36 ≤ 112) (h12 : f (a + 12) = 0) (hk : k < 8) (e1 : D (32 * k) = 229) (e2 : ∀ i, i < k → D (32 * i) ≠ 229) :
    Call (TT w mg mb os) 8 (.ref 461) [.ref d, .int u, .ref m, .int x] ((m, .list (tl 112 f)) :: DL d dx gl dl D) fun v' S' => v' = .int 0 ∧ S' = (m, .list (tl 112 (putAt (upd f (a + 14) 0) (a + 12) 20 fun i => if i = 2 then 128 else 0))) :: DL d dx gl dl (putAt D (32 * k) 32 (eoct u 0 (fun i => upd f (a + 14) 0 (a + 1 + i)) fun _ => 0)) := by
  subst hx
  have z1 : upd f (a + 14) 0 (a + 12) = 0 := by unfold upd; rw [if_neg (by (lia))]; exact h12
  have z2 : upd f (a + 14) 0 (a + 14) = 0 ∨ upd f (a + 14) 0 (a + 14) = 128 := .inl (by unfold upd; rw [if_pos rfl])
  refine CallC.call (n := 7 + 1) (CallC.drop ?_)
  refine' CallC.def (names := [Str.ofString "disk", Str.ofString "user", Str.ofString "memory", Str.ofString "at"]) ?ho ?hcd ?hb rfl ?nd ?hk ?hc ?ha ?h ?c1 ?c2 ?c3
  case ho => (show List.lookup _ (hd.heap_39 _) = some _); k_is
  case hcd => (show codeIn (hd.heap_39 _) _ _ = true); k_is
  case c1 => exact rfl
  case c2 => exact rfl
  case c3 => exact rfl
  case nd => decide
  case hc => decide
  case ha => decide +kernel
  case hb => exact valsS fun _ => valsS fun _ => valsS fun _ => valsS fun _ => vals0 rfl
  case hk => exact kindsN (by decide)
  intro c ok hf hn hs hc
  dsimp only [List.zip_cons_cons, List.zip_nil_right, List.zip_nil_left]
  refine WSs.gen fun kn kr hkn hkr => ?_
  have G_put_octets := @g_put_octets w mg mb os
  have K_put_octets := @g_put_octetsK w mg mb os
  have G_need_writable_disk := @g_need_writable_disk w mg mb os
  have K_need_writable_disk := @g_need_writable_diskK w mg mb os
  have G_free_entry := @g_free_entry w mg mb os
  have K_free_entry := @g_free_entryK w mg mb os
  have G_NOT_FOUND := @g_NOT_FOUND w mg mb os
  have G_extent_at := @g_extent_at w mg mb os
  have K_extent_at := @g_extent_atK w mg mb os
  have G_put_entry := @g_put_entry w mg mb os
  have K_put_entry := @g_put_entryK w mg mb os
  have G_begin_extent := @g_begin_extent w mg mb os
  have K_begin_extent := @g_begin_extentK w mg mb os
  have G_code_of := @g_code_of w mg mb os
  have K_code_of := @g_code_ofK w mg mb os
  have G_S2_AT := @g_S2_AT w mg mb os
  have G_entry_octets := @g_entry_octets w mg mb os
  have K_entry_octets := @g_entry_octetsK w mg mb os
  have G_new_entry := @g_new_entry w mg mb os
  have K_new_entry := @g_new_entryK w mg mb os
  have G_name_at := @g_name_at w mg mb os
  have K_name_at := @g_name_atK w mg mb os
  wtm_at "m:ws"
  refine ⟨by simp, fun b => ?_⟩
  rw [show [V.int 0] = tl 1 (fun _ => 0) from rfl]
  wtm_at "m:ws"
  refine CallV.fr (c_put_octets (a := a + 14) ?_ ?_ ?_ ?_) (by first | (rw [hn]; decide) | (lia)) (by wtm_at "m:cut") ?_
  · wtm_at "m:side"
  · wtm_at "m:side"
  · wtm_at "m:side"
  · wtm_at "m:side"
  refine ex0 ?_
  rw [putAt_one]
  wtm_at "m:ws"
  refine CallV.same (c_need_writable_disk) (by first | (rw [hn]; decide) | (lia)) (by wtm_at "m:cut") ?_
  wtm_at "m:ws"
  refine CallV.same (c_free_entry hk e1 e2) (by first | (rw [hn]; decide) | (lia)) (by wtm_at "m:cut") ?_
  first | refine Asg.mk (put_newK (by kernel_rfl)) ?_ | refine ⟨_, put_newK (by kernel_rfl), ?_⟩
  wtm_at "m:ws"
  refine ⟨fun q => (by cases q), fun _ => ?_⟩
  wtm_at "m:ws"
  refine CallV.same (c_extent_at (a := a) ?_ ?_ ?_ z1 z2) (by first | (rw [hn]; decide) | (lia)) (by wtm_at "m:cut") ?_
  · wtm_at "m:side"
  · wtm_at "m:side"
  · wtm_at "m:side"
  first | refine Asg.mk (put_newK (by kernel_rfl)) ?_ | refine ⟨_, put_newK (by kernel_rfl), ?_⟩
  wtm_at "m:ws"
  refine CallV.fr (c_name_at (a := a) ?_ ?_ ?_) (by first | (rw [hn]; decide) | (lia)) (by wtm_at "m:cut") ?_
  · wtm_at "m:side"
  · wtm_at "m:side"
  · wtm_at "m:side"
  refine ex1 fun y => ?_
  wtm_at "m:ws"
  refine CallV.fr (c_new_entry) (by first | (rw [hn]; decide) | (lia)) (by wtm_at "m:cut") ?_
  refine ex4 fun e ex rl ml => ?_
  wtm_at "m:ws"
  refine CallV.fr (c_entry_octets) (by first | (rw [hn]; decide) | (lia)) (by wtm_at "m:cut") ?_
  refine ex1 fun z => ?_
  wtm_at "m:ws"
  refine CallV.fr (c_put_entry (k := k) ?_ ?_) (by first | (rw [hn]; decide) | (lia)) (by wtm_at "m:cut") ?_
  · wtm_at "m:side"
  · wtm_at "m:side"
  refine ex0 ?_
  wtm_at "m:ws"
  refine CallV.fr (c_begin_extent (a := a) ?_ ?_) (by first | (rw [hn]; decide) | (lia)) (by wtm_at "m:cut") ?_
  · wtm_at "m:side"
  · wtm_at "m:side"
  refine ex0 ?_
  wtm_at "m:ws"
  refine CallV.same (c_code_of) (by first | (rw [hn]; decide) | (lia)) (by wtm_at "m:cut") ?_
  try wtm_at "m:k"
  exact Endd.mk (by wtm_at "m:cut") ⟨rfl, rfl⟩
theorem c_read_here {d dx gl dl m : Addr} {D f : Nat → Int} {x : Int} {a : Nat} (hx : x = a) (R : Rd f a D) :
    Call (TT w mg mb os) 5 (.ref 503) [.ref d, .ref m, .int x, .int 96] ((m, .list (tl 112 f)) :: DL d dx gl dl D) fun v' S' => v' = .int (rdCode f a) ∧ S' = (m, .list (tl 112 (rdMem f a D))) :: DL d dx gl dl D := by
  subst hx
  have ha := R.F.ha
  refine CallC.call (n := 4 + 1) (CallC.drop ?_)
  refine' CallC.def (names := [Str.ofString "disk", Str.ofString "memory", Str.ofString "at", Str.ofString "dma"]) ?ho ?hcd ?hb rfl ?nd ?hk ?hc ?ha ?h ?c1 ?c2 ?c3
  case ho => (show List.lookup _ (hd.heap_39 _) = some _); k_is
  case hcd => (show codeIn (hd.heap_39 _) _ _ = true); k_is
  case c1 => exact rfl
  case c2 => exact rfl
  case c3 => exact rfl
  case nd => decide
  case hc => decide
  case ha => decide +kernel
  case hb => exact valsS fun _ => valsS fun _ => valsS fun _ => valsS fun _ => vals0 rfl
  case hk => exact kindsN (by decide)
  intro c ok hf hn hs hc
  dsimp only [List.zip_cons_cons, List.zip_nil_right, List.zip_nil_left]
  have G_DONE := @g_DONE w mg mb os
  have G_current_at := @g_current_at w mg mb os
  have K_current_at := @g_current_atK w mg mb os
  have G_NO_DATA := @g_NO_DATA w mg mb os
  have G_put_octets := @g_put_octets w mg mb os
  have K_put_octets := @g_put_octetsK w mg mb os
  have G_count_at := @g_count_at w mg mb os
  have K_count_at := @g_count_atK w mg mb os
  have G_blocks_at := @g_blocks_at w mg mb os
  have K_blocks_at := @g_blocks_atK w mg mb os
  have G_read_record := @g_read_record w mg mb os
  have K_read_record := @g_read_recordK w mg mb os
  have G_records_of_block := @g_records_of_block w mg mb os
  have K_records_of_block := @g_records_of_blockK w mg mb os
  wtm_at "m:ws"
  refine CallV.same (c_current_at (a := a) ?_ ?_ ?_) (by first | (rw [hn]; decide) | (lia)) (by wtm_at "m:cut") ?_
  · wtm_at "m:side"
  · wtm_at "m:side"
  · wtm_at "m:side"
  first | refine Asg.mk (put_newK (by kernel_rfl)) ?_ | refine ⟨_, put_newK (by kernel_rfl), ?_⟩
  wtm_at "m:ws"
  refine CallV.same (c_count_at (a := a) ?_ ?_ ?_) (by first | (rw [hn]; decide) | (lia)) (by wtm_at "m:cut") ?_
  · wtm_at "m:side"
  · wtm_at "m:side"
  · wtm_at "m:side"
  wtm_at "m:ws"
  refine ⟨fun h => ?_, fun h => ?_⟩
  · have h' : f (a + 15) ≤ f (a + 32) := by simpa using h
    have e1 : rdCode f a = 1 := by unfold rdCode; rw [if_pos h']
    have e2 : rdMem f a D = f := by unfold rdMem; rw [e1]; rfl
    rw [e1, e2]
    wtm_at "m:ws"
    try wtm_at "m:k"
    exact Endd.mk (by wtm_at "m:cut") ⟨rfl, rfl⟩
  · have h' : ¬ f (a + 15) ≤ f (a + 32) := by simpa using h
    wtm_at "m:ws"
    refine CallV.fr (c_blocks_at (a := a) ?_ ?_) (by first | (rw [hn]; decide) | (lia)) (by wtm_at "m:cut") ?_
    · wtm_at "m:side"
    · wtm_at "m:side"
    refine ex1 fun b => ?_
    wtm_at "m:ws"
    refine CallV.same (c_records_of_block) (by first | (rw [hn]; decide) | (lia)) (by wtm_at "m:cut") ?_
    wtm_at "m:ws"
    have q0 := (R.F.oct (a + 32) (by (lia))).1
    have q1 := R.cr
    have qd : (f (a + 32)).fdiv 2 = (((f (a + 32)).toNat / 2 : Nat) : Int) := by rw [Int.fdiv_eq_ediv_of_nonneg _ (by decide)]; (lia)
    refine SubV.tl (a := (f (a + 32)).toNat / 2) (by wtm_at "m:mem") qd (by (lia)) (by (lia)) ?_
    first | refine Asg.mk (put_newK (by kernel_rfl)) ?_ | refine ⟨_, put_newK (by kernel_rfl), ?_⟩
    wtm_at "m:ws"
    refine ⟨fun z => ?_, fun z => ?_⟩
    · have z' : f (a + 16 + (f (a + 32)).toNat / 2) = 0 := by simpa using z
      have e1 : rdCode f a = 1 := by unfold rdCode; rw [if_neg h', if_pos z']
      have e2 : rdMem f a D = f := by unfold rdMem; rw [e1]; rfl
      rw [e1, e2]
      wtm_at "m:ws"
      try wtm_at "m:k"
      exact Endd.mk (by wtm_at "m:cut") ⟨rfl, rfl⟩
    · have z' : ¬ f (a + 16 + (f (a + 32)).toNat / 2) = 0 := by simpa using z
      have e1 : rdCode f a = 0 := by unfold rdCode; rw [if_neg h', if_neg z']
      have e2 : rdMem f a D = putAt f 96 16 (fun i => D (32 * (f (a + 16 + (f (a + 32)).toNat / 2)).toNat + 16 * ((f (a + 32)).toNat % 2) + i)) := by unfold rdMem; rw [if_pos e1]; rfl
      rw [e1, e2]
      wtm_at "m:ws"
      refine CallV.same (c_records_of_block) (by first | (rw [hn]; decide) | (lia)) (by wtm_at "m:cut") ?_
      wtm_at "m:ws"
      have qm : (f (a + 32)).fmod 2 = (((f (a + 32)).toNat % 2 : Nat) : Int) := by rw [Int.fmod_eq_emod_of_nonneg _ (by decide)]; (lia)
      have b0 := (R.F.oct (a + 16 + (f (a + 32)).toNat / 2) (by (lia))).1
      have b1 := R.mp ((f (a + 32)).toNat / 2) (by (lia))
      refine CallV.fr (c_read_record (b := (f (a + 16 + (f (a + 32)).toNat / 2)).toNat) (k := (f (a + 32)).toNat % 2) ?_ qm ?_ ?_) (by first | (rw [hn]; decide) | (lia)) (by wtm_at "m:cut") ?_
      · wtm_at "m:side"
      · wtm_at "m:side"
      · wtm_at "m:side"
      refine ex1 fun y => ?_
      wtm_at "m:ws"
      have hD : ∀ i, i < 16 → 0 ≤ D (32 * (f (a + 16 + (f (a + 32)).toNat / 2)).toNat + 16 * ((f (a + 32)).toNat % 2) + i) ∧ D (32 * (f (a + 16 + (f (a + 32)).toNat / 2)).toNat + 16 * ((f (a + 32)).toNat % 2) + i) < 256 := fun i hi => R.D _ (by (lia))
      refine CallV.fr (c_put_octets (a := 96) ?_ ?_ ?_ hD) (by first | (rw [hn]; decide) | (lia)) (by wtm_at "m:cut") ?_
      · wtm_at "m:side"
      · wtm_at "m:side"
      · wtm_at "m:side"
      refine ex0 ?_
      wtm_at "m:ws"
      try wtm_at "m:k"
      exact Endd.mk (by wtm_at "m:cut") ⟨rfl, rfl⟩
theorem c_go_on {d dx gl dl m : Addr} {D f : Nat → Int} {u x : Int} {b : Bool} {a : Nat} (hx : x = a) (h1 : a + 33 ≤ 112) (h2 : f (a + 32) < 32) :
    Call (TT w mg mb os) 3 (.ref 531) [.ref d, .int u, .ref m, .int x, .bool b] ((m, .list (tl 112 f)) :: DL d dx gl dl D) fun v' S' => v' = .int 0 ∧ S' = (m, .list (tl 112 f)) :: DL d dx gl dl D := by
  subst hx
  refine CallC.call (n := 2 + 1) (CallC.drop ?_)
  refine' CallC.def (names := [Str.ofString "disk", Str.ofString "user", Str.ofString "memory", Str.ofString "at", Str.ofString "is_writing"]) ?ho ?hcd ?hb rfl ?nd ?hk ?hc ?ha ?h ?c1 ?c2 ?c3
  case ho => (show List.lookup _ (hd.heap_39 _) = some _); k_is
  case hcd => (show codeIn (hd.heap_39 _) _ _ = true); k_is
  case c1 => exact rfl
  case c2 => exact rfl
  case c3 => exact rfl
  case nd => decide
  case hc => decide
  case ha => decide +kernel
  case hb => exact valsS fun _ => valsS fun _ => valsS fun _ => valsS fun _ => valsS fun _ => vals0 rfl
  case hk => exact kindsN (by decide)
  intro c ok hf hn hs hc
  dsimp only [List.zip_cons_cons, List.zip_nil_right, List.zip_nil_left]
  refine WSs.gen fun kn kr hkn hkr => ?_
  have G_DONE := @g_DONE w mg mb os
  have G_NO_DATA := @g_NO_DATA w mg mb os
  have G_set_current := @g_set_current w mg mb os
  have K_set_current := @g_set_currentK w mg mb os
  have G_current_at := @g_current_at w mg mb os
  have K_current_at := @g_current_atK w mg mb os
  have G_records_of_extent := @g_records_of_extent w mg mb os
  have K_records_of_extent := @g_records_of_extentK w mg mb os
  have G_extent_at := @g_extent_at w mg mb os
  have K_extent_at := @g_extent_atK w mg mb os
  wtm_at "m:ws"
  refine CallV.same (c_current_at (a := a) ?_ ?_ ?_) (by first | (rw [hn]; decide) | (lia)) (by wtm_at "m:cut") ?_
  · wtm_at "m:side"
  · wtm_at "m:side"
  · wtm_at "m:side"
  wtm_at "m:ws"
  refine CallV.same (c_records_of_extent) (by first | (rw [hn]; decide) | (lia)) (by wtm_at "m:cut") ?_
  wtm_at "m:ws"
  refine ⟨fun _ => ?_, fun z => absurd h2 (by simpa using z)⟩
  wtm_at "m:ws"
  try wtm_at "m:k"
  exact Endd.mk (by wtm_at "m:cut") ⟨rfl, rfl⟩
theorem c_read_next {d dx gl dl m : Addr} {D f : Nat → Int} {u x : Int} {a : Nat} (hx : x = a) (R : Rd f a D) :
    Call (TT w mg mb os) 6 (.ref 538) [.ref d, .int u, .ref m, .int x, .int 96] ((m, .list (tl 112 f)) :: DL d dx gl dl D) fun v' S' => v' = .int (rdCode f a) ∧ S' = (m, .list (tl 112 (if rdCode f a = 0 then upd (rdMem f a D) (a + 32) (f (a + 32) + 1) else f))) :: DL d dx gl dl D := by
  subst hx
  have ha := R.hd
  have q0 := (R.F.oct (a + 32) (by (lia))).1
  have q1 := R.cr
  refine CallC.call (n := 5 + 1) (CallC.drop ?_)
  refine' CallC.def (names := [Str.ofString "disk", Str.ofString "user", Str.ofString "memory", Str.ofString "at", Str.ofString "dma"]) ?ho ?hcd ?hb rfl ?nd ?hk ?hc ?ha ?h ?c1 ?c2 ?c3
  case ho => (show List.lookup _ (hd.heap_39 _) = some _); k_is
  case hcd => (show codeIn (hd.heap_39 _) _ _ = true); k_is
  case c1 => exact rfl
  case c2 => exact rfl
  case c3 => exact rfl
  case nd => decide
  case hc => decide
  case ha => decide +kernel
  case hb => exact valsS fun _ => valsS fun _ => valsS fun _ => valsS fun _ => valsS fun _ => vals0 rfl
  case hk => exact kindsN (by decide)
  intro c ok hf hn hs hc
  dsimp only [List.zip_cons_cons, List.zip_nil_right, List.zip_nil_left]
  have G_DONE := @g_DONE w mg mb os
  have G_NO_DATA := @g_NO_DATA w mg mb os
  have G_read_here := @g_read_here w mg mb os
  have K_read_here := @g_read_hereK w mg mb os
  have G_go_on := @g_go_on w mg mb os
  have K_go_on := @g_go_onK w mg mb os
  have G_set_current := @g_set_current w mg mb os
  have K_set_current := @g_set_currentK w mg mb os
  have G_current_at := @g_current_at w mg mb os
  have K_current_at := @g_current_atK w mg mb os
  wtm_at "m:ws"
  refine CallV.same (c_go_on (a := a) ?_ ?_ ?_) (by first | (rw [hn]; decide) | (lia)) (by wtm_at "m:cut") ?_
  · wtm_at "m:side"
  · wtm_at "m:side"
  · wtm_at "m:side"
  wtm_at "m:ws"
  refine ⟨fun z => (by simp at z), fun _ => ?_⟩
  wtm_at "m:ws"
  refine CallV.fr (c_read_here (a := a) ?_ R) (by first | (rw [hn]; decide) | (lia)) (by wtm_at "m:cut") ?_
  · wtm_at "m:side"
  refine ex0 ?_
  first | refine Asg.mk (put_newK (by kernel_rfl)) ?_ | refine ⟨_, put_newK (by kernel_rfl), ?_⟩
  wtm_at "m:ws"
  refine ⟨fun z => ?_, fun z => ?_⟩
  · have z' : rdCode f a = 0 := by simpa using z
    rw [if_pos z']
    wtm_at "m:ws"
    refine CallV.same (c_current_at (a := a) ?_ ?_ ?_) (by first | (rw [hn]; decide) | (lia)) (by wtm_at "m:cut") ?_
    · wtm_at "m:side"
    · wtm_at "m:side"
    · wtm_at "m:side"
    have e : rdMem f a D (a + 32) = f (a + 32) := by unfold rdMem; rw [if_pos z']; unfold putAt; rw [if_neg (by (lia))]
    rw [e]
    wtm_at "m:ws"
    refine CallV.fr (c_set_current (a := a) ?_ ?_ ?_ ?_ ?_) (by first | (rw [hn]; decide) | (lia)) (by wtm_at "m:cut") ?_
    · wtm_at "m:side"
    · wtm_at "m:side"
    · wtm_at "m:side"
    · wtm_at "m:side"
    · wtm_at "m:side"
    refine ex0 ?_
    wtm_at "m:ws"
    try wtm_at "m:k"
    exact Endd.mk (by wtm_at "m:cut") ⟨rfl, rfl⟩
  · have z' : ¬ rdCode f a = 0 := by simpa using z
    rw [if_neg z']
    wtm_at "m:ws"
    have e : rdMem f a D = f := by unfold rdMem; rw [if_neg z']
    rw [e]
    try wtm_at "m:k"
    exact Endd.mk (by wtm_at "m:cut") ⟨rfl, rfl⟩
theorem c_seek_record {d dx gl dl m : Addr} {D f : Nat → Int} {u x : Int} {a : Nat} (hx : x = a) (F : Fcb f a) (h3 : f (a + 33) < 32) (h4 : f (a + 34) = 0) (h5 : f (a + 35) = 0) :
    Call (TT w mg mb os) 4 (.ref 552) [.ref d, .int u, .ref m, .int x, .bool false] ((m, .list (tl 112 f)) :: DL d dx gl dl D) fun v' S' => v' = .int 0 ∧ S' = (m, .list (tl 112 (upd f (a + 32) (f (a + 33))))) :: DL d dx gl dl D := by
  subst hx
  have ha := F.ha
  have q0 := (F.oct (a + 33) (by (lia))).1
  refine CallC.call (n := 3 + 1) (CallC.drop ?_)
  refine' CallC.def (names := [Str.ofString "disk", Str.ofString "user", Str.ofString "memory", Str.ofString "at", Str.ofString "is_writing"]) ?ho ?hcd ?hb rfl ?nd ?hk ?hc ?ha ?h ?c1 ?c2 ?c3
  case ho => (show List.lookup _ (hd.heap_39 _) = some _); k_is
  case hcd => (show codeIn (hd.heap_39 _) _ _ = true); k_is
  case c1 => exact rfl
  case c2 => exact rfl
  case c3 => exact rfl
  case nd => decide
  case hc => decide
  case ha => decide +kernel
  case hb => exact valsS fun _ => valsS fun _ => valsS fun _ => valsS fun _ => valsS fun _ => vals0 rfl
  case hk => exact kindsN (by decide)
  intro c ok hf hn hs hc
  dsimp only [List.zip_cons_cons, List.zip_nil_right, List.zip_nil_left]
  refine WSs.gen fun kn kr hkn hkr => ?_
  have G_DONE := @g_DONE w mg mb os
  have G_random_at := @g_random_at w mg mb os
  have K_random_at := @g_random_atK w mg mb os
  have G_TOO_FAR := @g_TOO_FAR w mg mb os
  have G_set_current := @g_set_current w mg mb os
  have K_set_current := @g_set_currentK w mg mb os
  have G_records_of_extent := @g_records_of_extent w mg mb os
  have K_records_of_extent := @g_records_of_extentK w mg mb os
  have G_extent_at := @g_extent_at w mg mb os
  have K_extent_at := @g_extent_atK w mg mb os
  wtm_at "m:ws"
  refine CallV.same (c_random_at (a := a) ?_ ?_ ?_ (fun i hi => F.oct _ (by (lia)))) (by first | (rw [hn]; decide) | (lia)) (by wtm_at "m:cut") ?_
  · wtm_at "m:side"
  · wtm_at "m:side"
  · wtm_at "m:side"
  rw [h4, h5, show f (a + 33) + 256 * 0 + 65536 * 0 = f (a + 33) by (lia)]
  first | refine Asg.mk (put_newK (by kernel_rfl)) ?_ | refine ⟨_, put_newK (by kernel_rfl), ?_⟩
  wtm_at "m:ws"
  refine ⟨fun z => (by exfalso; simp at z; (lia)), fun _ => ?_⟩
  wtm_at "m:ws"
  refine CallV.same (c_records_of_extent) (by first | (rw [hn]; decide) | (lia)) (by wtm_at "m:cut") ?_
  wtm_at "m:ws"
  have e0 : (f (a + 33)).fdiv 32 = 0 := by rw [Int.fdiv_eq_ediv_of_nonneg _ (by decide)]; (lia)
  rw [e0]
  first | refine Asg.mk (put_newK (by kernel_rfl)) ?_ | refine ⟨_, put_newK (by kernel_rfl), ?_⟩
  wtm_at "m:ws"
  refine CallV.same (c_extent_at (a := a) ?_ ?_ ?_ F.h12 F.h14) (by first | (rw [hn]; decide) | (lia)) (by wtm_at "m:cut") ?_
  · wtm_at "m:side"
  · wtm_at "m:side"
  · wtm_at "m:side"
  wtm_at "m:ws"
  refine ⟨fun z => (by simp at z), fun _ => ?_⟩
  wtm_at "m:ws"
  refine CallV.same (c_records_of_extent) (by first | (rw [hn]; decide) | (lia)) (by wtm_at "m:cut") ?_
  wtm_at "m:ws"
  have e1 : (f (a + 33)).fmod 32 = f (a + 33) := fmod_small q0 h3
  rw [e1]
  refine CallV.fr (c_set_current (a := a) ?_ ?_ ?_ ?_ ?_) (by first | (rw [hn]; decide) | (lia)) (by wtm_at "m:cut") ?_
  · wtm_at "m:side"
  · wtm_at "m:side"
  · wtm_at "m:side"
  · wtm_at "m:side"
  · wtm_at "m:side"
  refine ex0 ?_
  wtm_at "m:ws"
  try wtm_at "m:k"
  exact Endd.mk (by wtm_at "m:cut") ⟨rfl, rfl⟩
theorem c_read_random {d dx gl dl m : Addr} {D f : Nat → Int} {u x : Int} {a : Nat} (hx : x = a) (F : Fcb f a) (h3 : f (a + 33) < 32) (h4 : f (a + 34) = 0) (h5 : f (a + 35) = 0) (R : Rd (upd f (a + 32) (f (a + 33))) a D) :
    Call (TT w mg mb os) 6 (.ref 559) [.ref d, .int u, .ref m, .int x, .int 96] ((m, .list (tl 112 f)) :: DL d dx gl dl D) fun v' S' => v' = .int (rdCode (upd f (a + 32) (f (a + 33))) a) ∧ S' = (m, .list (tl 112 (rdMem (upd f (a + 32) (f (a + 33))) a D))) :: DL d dx gl dl D := by
  subst hx
  refine CallC.call (n := 5 + 1) (CallC.drop ?_)
  refine' CallC.def (names := [Str.ofString "disk", Str.ofString "user", Str.ofString "memory", Str.ofString "at", Str.ofString "dma"]) ?ho ?hcd ?hb rfl ?nd ?hk ?hc ?ha ?h ?c1 ?c2 ?c3
  case ho => (show List.lookup _ (hd.heap_39 _) = some _); k_is
  case hcd => (show codeIn (hd.heap_39 _) _ _ = true); k_is
  case c1 => exact rfl
  case c2 => exact rfl
  case c3 => exact rfl
  case nd => decide
  case hc => decide
  case ha => decide +kernel
  case hb => exact valsS fun _ => valsS fun _ => valsS fun _ => valsS fun _ => valsS fun _ => vals0 rfl
  case hk => exact kindsN (by decide)
  intro c ok hf hn hs hc
  dsimp only [List.zip_cons_cons, List.zip_nil_right, List.zip_nil_left]
  refine WSs.gen fun kn kr hkn hkr => ?_
  have G_seek_record := @g_seek_record w mg mb os
  have K_seek_record := @g_seek_recordK w mg mb os
  have G_DONE := @g_DONE w mg mb os
  have G_read_here := @g_read_here w mg mb os
  have K_read_here := @g_read_hereK w mg mb os
  wtm_at "m:ws"
  refine CallV.fr (c_seek_record (a := a) ?_ F h3 h4 h5) (by first | (rw [hn]; decide) | (lia)) (by wtm_at "m:cut") ?_
  · wtm_at "m:side"
  refine ex0 ?_
  first | refine Asg.mk (put_newK (by kernel_rfl)) ?_ | refine ⟨_, put_newK (by kernel_rfl), ?_⟩
  wtm_at "m:ws"
  refine ⟨fun z => (by simp at z), fun _ => ?_⟩
  wtm_at "m:ws"
  refine CallV.fr (c_read_here (a := a) ?_ R) (by first | (rw [hn]; decide) | (lia)) (by wtm_at "m:cut") ?_
  · wtm_at "m:side"
  refine ex0 ?_
  try wtm_at "m:k"
  exact Endd.mk (by wtm_at "m:cut") ⟨rfl, rfl⟩

theorem c_used_blocks {d dx gl dl : Addr} {D : Nat → Int} (H : ∀ k, k < 8 → D (32 * k) ≠ 229 → D (32 * k + 12) = 0 ∧ D (32 * k + 13) = 0 ∧ D (32 * k + 14) = 0) :
    Call (TT w mg mb os) 7 (.ref 181) [.ref d] (DL d dx gl dl D) fun v' S' => ∃ x F, v' = .ref x ∧ S' = (x, .list (bl 20 F)) :: DL d dx gl dl D ∧ ∀ i, i < 20 → (F i = true ↔ Used D i) := by
  refine CallC.call (n := 6 + 1) (CallC.drop ?_)
  refine' CallC.def (names := [Str.ofString "disk"]) ?ho ?hcd ?hb rfl ?nd ?hk ?hc ?ha ?h ?c1 ?c2 ?c3
  case ho => (show List.lookup _ (hd.heap_39 _) = some _); k_is
  case hcd => (show codeIn (hd.heap_39 _) _ _ = true); k_is
  case c1 => exact rfl
  case c2 => exact rfl
  case c3 => exact rfl
  case nd => decide
  case hc => decide
  case ha => decide +kernel
  case hb => exact valsS fun _ => vals0 rfl
  case hk => exact kindsN (by decide)
  intro c ok hf hn hs hc
  dsimp only [List.zip_cons_cons, List.zip_nil_right, List.zip_nil_left]
  refine WSs.gen fun kn kr hkn hkr => ?_
  have G_live_entries := @g_live_entries w mg mb os
  have K_live_entries := @g_live_entriesK w mg mb os
  have G_range := @g_range w mg mb os
  have G_directory_blocks := @g_directory_blocks w mg mb os
  have K_directory_blocks := @g_directory_blocksK w mg mb os
  have A_map := @a74_map w mg mb os
  have A_given := @a53_given w mg mb os
  have A_blocks := @a53_blocks w mg mb os
  refine WSs.cons (WS.assignComp (ext := fun a => [(Str.ofString "number", a)]) ([(Str.ofString "disk", .ref d)] : Loc) ok (by wtm_at "m:kind") ?sw (free_ok hs hc (by decide)) (by decide) (by decide) rfl ?hr ?nd (fun c₂ ok₂ k₂ => bnd_name ok₂ (Kinds.at k₂ (by decide))) (fun a => put_newK (by kernel_rfl)) ?_)
  case sw => exact swaps_name ok (by wtm_at "m:kind") (by decide) (by decide)
  case hr => wtm_at "m:hr"
  case nd => exact nd_of (ns := [Str.ofString "disk"]) rfl (by decide)
  refine WI.range (WE.bi ok g_range (by wtm_at "m:kind") ⟨rfl, ?_⟩)
  wtm_at "m:ws"
  refine ⟨_, rfl, by (lia), by (lia), ?_⟩
  intro c₂ ok₂ hf₂ hn₂ hs₂
  rw [nums_map]
  refine comp_map (fun i => .bool (decide (i < 8))) (by decide) trivial (fun i hi => ?_) (fun fo => ⟨_, put_newK (by kernel_rfl), ?_⟩)
  · refine WE.or ?_
    wtm_at "m:ws"
    refine CallV.same (c_directory_blocks) (by first | (rw [hn]; decide) | (lia)) (by wtm_at "m:cut") ?_
    wtm_at "m:ws"
    (try wtm_at "m:k"); refine ⟨_, rfl, fun h => ⟨?_, _, by wtm_at "m:cut"⟩, fun h => ?_⟩
    · have h' : i < 8 := by simp at h; (lia)
      rw [decide_eq_true h']
    · wtm_at "m:ws"
      refine CmpV.inL (xs := []) (by (show (gl, O.list []) ∈ _); wtm_at "m:mem") ?_
      (try wtm_at "m:k"); refine ⟨?_, _, by wtm_at "m:cut"⟩
      have h' : ¬ i < 8 := by simp at h; (lia)
      rw [decide_eq_false h']; rfl
  rw [show (List.range (20 : Int).toNat).map (fun i => V.bool (decide (i < 8))) = bl 20 (fun i => decide (i < 8)) from rfl]
  refine WSs.cons (WS.for_ (bnd_two ok (.inl (by wtm_at "m:kind")) (.inl (by wtm_at "m:kind"))) (WI.pairs ?_))
  wtm_at "m:ws"
  refine CallV.fr (c_live_entries H) (by first | (rw [hn]; decide) | (lia)) (by wtm_at "m:cut") ?_
  rintro _ _ ⟨x, ts, R, rfl, rfl, L⟩
  refine ⟨x, ts, rfl, by wtm_at "m:mem", ?_⟩
  have mt6 : ∀ {p : Addr × O} {F : Nat → Bool}, p ∈ R → p ∈ (fo, O.list (bl 20 F)) :: (x, O.list (ts.map fun t => .ref t.1)) :: DR d dx gl dl D R := fun h => mem_tail (mem_tail (mem_tail (mem_tail (mem_tail (mem_tail h)))))
  refine wfor_ind (fun l r S => r = [(Str.ofString "disk", V.ref d)] ++ [(Str.ofString "found", V.ref fo)] ∧ ∃ done F, ts.map (·.2) = done ++ l ∧ Cut ((fo, .list (bl 20 F)) :: (x, .list (ts.map fun t => .ref t.1)) :: DR d dx gl dl D R) S [] ∧ ∀ i, i < 20 → (F i = true ↔ (i < 8 ∨ ∃ k, k < 8 ∧ D (32 * k) ≠ 229 ∧ (∃ q ∈ done, q.1 = V.int (k : Nat)) ∧ ∃ j, j < 16 ∧ D (32 * k + (16 + j)) = (i : Int)))) ?hneed ?turn ?fin _ _ _ ?init
  case hneed =>
    rintro l r S ⟨_, done, F, _, e, _⟩
    refine ⟨e.mem (by wtm_at "m:mem"), fun t ht => ?_⟩
    obtain ⟨k, e', ex, rl, ml, h1, h2, h3, h4, _⟩ := L.sound t ht
    rw [h3]
    exact e.mem (mt6 h4)
  case init => exact ⟨rfl, [], _, rfl, by wtm_at "m:cut", fun i hi => by simp⟩
  case fin =>
    rintro r S ⟨rfl, done, F, hd, e, hF⟩
    refine WSs.cut e ?_
    wtm_at "m:ws"
    (try wtm_at "m:k"); exact ⟨_, _, by wtm_at "m:cut", fo, F, rfl, rfl, fun i hi => by
      rw [hF i hi]
      unfold Used
      refine or_congr Iff.rfl ⟨fun ⟨k, h1, h2, _, h4⟩ => ⟨k, h1, h2, h4⟩, fun ⟨k, h1, h2, h4⟩ => ⟨k, h1, h2, ?_, h4⟩⟩
      obtain ⟨t, ht, e1⟩ := L.full k h1 h2
      exact ⟨t.2, by rw [List.append_nil] at hd; rw [← hd]; exact List.mem_map.mpr ⟨t, ht, rfl⟩, e1⟩⟩
  case turn =>
    rintro q l r S ⟨rfl, done, F, hd, e, hF⟩
    have hq : q ∈ ts.map (·.2) := by rw [hd]; simp
    obtain ⟨t, ht, rfl⟩ := List.mem_map.mp hq
    obtain ⟨k, e', ex, rl, ml, h1, h2, h3, h4, h5, h6, h7⟩ := L.sound t ht
    rw [h3] at hd ⊢
    refine ⟨_, ⟨_, put_newK (by kernel_rfl), put_newK (by kernel_rfl)⟩, WSs.cut e (WSs.post ?_)⟩
    refine WSs.cons (WS.for_ (bnd_name ok (by wtm_at "m:kind")) (WI.list ?_))
    wtm_at "m:ws"
    refine GetV.own ok A_map (mt6 h5) (mt6 h6) (by wtm_at "m:mem") (by with_unfolding_all exact trivial) ?_
    refine ⟨ml, _, rfl, mt6 h7, ?_⟩
    rw [← tl_map]
    refine for_fix (fun j S => ∃ F', Cut ((fo, .list (bl 20 F')) :: (x, .list (ts.map fun t => .ref t.1)) :: DR d dx gl dl D R) S [] ∧ ∀ i, i < 20 → (F' i = true ↔ (F i = true ∨ ∃ z, z < j ∧ D (32 * k + (16 + z)) = (i : Int)))) (fun j S _ ⟨F', e2, _⟩ => by rw [tl_map]; exact e2.mem (mt6 h7)) (fun j S hj e2 => ?_) (fun S e2 => ?_) ⟨F, by wtm_at "m:cut", fun i hi => by simp⟩
    · obtain ⟨F', e2, hF'⟩ := e2
      refine ⟨_, put_newK (by kernel_rfl), WSs.cut e2 ?_⟩
      have old : (¬ (0 < D (32 * k + (16 + j)) ∧ D (32 * k + (16 + j)) < 20)) → ∀ i, i < 20 → (F' i = true ↔ (F i = true ∨ ∃ z, z < j + 1 ∧ D (32 * k + (16 + z)) = (i : Int))) := fun hno i hi => by
        rw [hF' i hi]
        constructor
        · rintro (h | ⟨z, hz, e3⟩)
          · exact .inl h
          · exact .inr ⟨z, by (lia), e3⟩
        · rintro (h | ⟨z, hz, e3⟩)
          · exact .inl h
          · by_cases q : z = j
            · subst q
              have : i = 0 := by (lia)
              subst this
              exact .inl ((hF 0 (by (lia))).mpr (.inl (by (lia))))
            · exact .inr ⟨z, by (lia), e3⟩
      wtm_at "m:ws"
      refine ⟨fun g1 => ?_, fun g1 => ?_⟩
      · wtm_at "m:ws"
        refine ⟨fun g2 => ?_, fun g2 => ?_⟩
        · have g1' : 0 < D (32 * k + (16 + j)) := by simpa using g1
          have g2' : D (32 * k + (16 + j)) < 20 := by simpa using g2
          wtm_at "m:ws"
          refine SetI.bl (a := (D (32 * k + (16 + j))).toNat) (by wtm_at "m:chg") (by (lia)) (by (lia)) (by (lia)) ?_
          wtm_at "m:ws"
          (try wtm_at "m:k"); refine ⟨by wtm_at "m:sub", _, _, Cut.refl, _, by wtm_at "m:cut", fun i hi => ?_⟩
          unfold updB
          by_cases z : i = (D (32 * k + (16 + j))).toNat
          · rw [if_pos z]
            exact ⟨fun _ => .inr ⟨j, by (lia), by (lia)⟩, fun _ => rfl⟩
          · rw [if_neg z, hF' i hi]
            constructor
            · rintro (h | ⟨z, hz, e3⟩)
              · exact .inl h
              · exact .inr ⟨z, by (lia), e3⟩
            · rintro (h | ⟨z2, hz, e3⟩)
              · exact .inl h
              · by_cases q : z2 = j
                · subst q; exfalso; (lia)
                · exact .inr ⟨z2, by (lia), e3⟩
        · have g2' : ¬ D (32 * k + (16 + j)) < 20 := by simpa using g2
          wtm_at "m:ws"
          (try wtm_at "m:k"); exact ⟨by wtm_at "m:sub", _, _, Cut.refl, F', by wtm_at "m:cut", old (by (lia))⟩
      · have g1' : ¬ 0 < D (32 * k + (16 + j)) := by simpa using g1
        refine ⟨fun q => (by cases q), fun _ => ?_⟩
        wtm_at "m:ws"
        (try wtm_at "m:k"); exact ⟨by wtm_at "m:sub", _, _, Cut.refl, F', by wtm_at "m:cut", old (by (lia))⟩
    · obtain ⟨F', e2, hF'⟩ := e2
      wtm_at "m:ws"
      (try wtm_at "m:k"); refine ⟨_, _, _, by wtm_at "m:sub", e2, rfl, done ++ [(V.int k, V.ref e')], F', by rw [hd]; simp, by wtm_at "m:cut", fun i hi => ?_⟩
      rw [hF' i hi, hF i hi]
      constructor
      · rintro ((h | ⟨k2, a1, a2, ⟨q, a3, a4⟩, a5⟩) | ⟨z, hz, e3⟩)
        · exact .inl h
        · exact .inr ⟨k2, a1, a2, ⟨q, List.mem_append_left _ a3, a4⟩, a5⟩
        · exact .inr ⟨k, h1, h2, ⟨_, List.mem_append_right _ (.head _), rfl⟩, z, hz, e3⟩
      · rintro (h | ⟨k2, a1, a2, ⟨q, a3, a4⟩, a5⟩)
        · exact .inl (.inl h)
        · rcases List.mem_append.mp a3 with a3 | a3
          · exact .inl (.inr ⟨k2, a1, a2, ⟨q, a3, a4⟩, a5⟩)
          · rw [List.mem_singleton.mp a3] at a4
            have a6 : (k : Int) = (k2 : Int) := by simpa using a4
            have : k = k2 := by (lia)
            subst this
            obtain ⟨z, hz, e3⟩ := a5
            exact .inr ⟨z, hz, e3⟩

theorem c_free_blocks {d dx gl dl : Addr} {D : Nat → Int} (H : ∀ k, k < 8 → D (32 * k) ≠ 229 → D (32 * k + 12) = 0 ∧ D (32 * k + 13) = 0 ∧ D (32 * k + 14) = 0) :
    Call (TT w mg mb os) 8 (.ref 186) [.ref d] (DL d dx gl dl D) fun v' S' => ∃ (x : Addr) (l : List V) (F : Nat → Bool), v' = .ref x ∧ S' = (x, .list l) :: DL d dx gl dl D ∧ (∀ i, i < 20 → (F i = true ↔ Used D i)) ∧ l.length = ((List.range 20).filter fun i => !F i).length := by
  refine CallC.call (n := 7 + 1) (CallC.drop ?_)
  refine' CallC.def (names := [Str.ofString "disk"]) ?ho ?hcd ?hb rfl ?nd ?hk ?hc ?ha ?h ?c1 ?c2 ?c3
  case ho => (show List.lookup _ (hd.heap_39 _) = some _); k_is
  case hcd => (show codeIn (hd.heap_39 _) _ _ = true); k_is
  case c1 => exact rfl
  case c2 => exact rfl
  case c3 => exact rfl
  case nd => decide
  case hc => decide
  case ha => decide +kernel
  case hb => exact valsS fun _ => vals0 rfl
  case hk => exact kindsN (by decide)
  intro c ok hf hn hs hc
  dsimp only [List.zip_cons_cons, List.zip_nil_right, List.zip_nil_left]
  refine WSs.gen fun kn kr hkn hkr => ?_
  have G_enumerate := @g_enumerate w mg mb os
  have G_used_blocks := @g_used_blocks w mg mb os
  have K_used_blocks := @g_used_blocksK w mg mb os
  refine WSs.cons (WS.ret ?_)
  refine WE.comp (ext := fun a => [(Str.ofString "number", a.1), (Str.ofString "is_used", a.2)]) ([] : Loc) ok (free_ok hs hc (by decide)) (by decide) (by decide) rfl ?hr ?nd (fun c₂ ok₂ k₂ => bnd_two ok₂ (.inl (Kinds.at k₂ (by decide))) (.inl (Kinds.at k₂ (by decide)))) (fun a => ⟨_, put_newK (by kernel_rfl), put_newK (by kernel_rfl)⟩) ?_
  case hr => wtm_at "m:hr"
  case nd => exact nd_of (ns := []) rfl (by decide)
  refine WI.enum (WE.bi ok g_enumerate (by wtm_at "m:kind") ⟨rfl, ?_⟩)
  wtm_at "m:ws"
  refine CallV.fr (c_used_blocks H) (by first | (rw [hn]; decide) | (lia)) (by wtm_at "m:cut") ?_
  rintro _ _ ⟨x, F, rfl, rfl, hF⟩
  wtm_at "m:ws"
  refine ⟨x, bl 20 F, rfl, by wtm_at "m:mem", ?_⟩
  intro c₂ ok₂ hf₂ hn₂ hs₂
  rw [show enumd (bl 20 F) = (List.range 20).map (fun i => (V.int (i : Nat), V.bool (F i))) from enumd_map _]
  refine wcomp_if (fun l out S => ∃ k, k ≤ 20 ∧ l = ((List.range 20).map fun i => (V.int (i : Nat), V.bool (F i))).drop k ∧ out.length = ((List.range k).filter fun i => !F i).length ∧ S = ((x, O.list (bl 20 F)) :: DL d dx gl dl D) ++ []) ?hneed ?turn ?fin _ _ _ ?init
  case hneed =>
    rintro l out S ⟨k, h1, _, h2, e⟩
    refine ⟨by subst e; wtm_at "m:mem", ?_⟩
    have := List.length_filter_le (fun i => !F i) (List.range k)
    rw [List.length_range] at this
    (lia)
  case init => exact ⟨0, by (lia), rfl, rfl, rfl⟩
  case turn =>
    rintro a l out S ⟨k, h1, h2, h3, e⟩
    have hk : k < 20 := by
      by_cases q : k < 20
      · exact q
      · rw [List.drop_eq_nil_of_le (by simp; (lia))] at h2; cases h2
    rw [drop_map _ hk, List.cons.injEq] at h2
    obtain ⟨rfl, rfl⟩ := h2
    refine WT.not (WT.val (WE.name ok₂ (by wtm_at "m:mem") ⟨_, rfl, ⟨fun g => ?_, fun g => ?_⟩⟩))
    · wtm_at "m:ws"
      refine ⟨k + 1, by (lia), rfl, ?_, e⟩
      rw [List.length_append, h3, List.range_succ, List.filter_append, List.length_append]
      simp [g]
    · refine ⟨k + 1, by (lia), rfl, ?_, e⟩
      rw [h3, List.range_succ, List.filter_append, List.length_append]
      simp [g]
  case fin =>
    rintro out S ⟨k, h1, h2, h3, e⟩ z
    have hk : k = 20 := by
      by_cases q : k < 20
      · rw [drop_map _ q] at h2; cases h2
      · (lia)
    subst hk
    subst e
    (try wtm_at "m:k"); exact ⟨_, _, by wtm_at "m:cut", z, out, F, rfl, rfl, hF, h3⟩

theorem c_nearest_free {l : Addr} {F : Nat → Bool} {x : Int} {n : Nat} (hx : x = n) (hn20 : n < 20) (hF : ∃ i, i < 20 ∧ i ≠ n ∧ F i = false) :
    Call (TT w mg mb os) 1 (.ref 205) [.ref l, .int x] [(l, .list (bl 20 F))] fun v' S' => ∃ i : Nat, i < 20 ∧ F i = false ∧ v' = .int i ∧ S' = [(l, .list (bl 20 F))] := by
  subst hx
  replace hF := Hid.mk hF
  refine CallC.call (n := 0 + 1) (CallC.drop ?_)
  refine' CallC.def (names := [Str.ofString "is_used", Str.ofString "near"]) ?ho ?hcd ?hb rfl ?nd ?hk ?hc ?ha ?h ?c1 ?c2 ?c3
  case ho => (show List.lookup _ (hd.heap_39 _) = some _); k_is
  case hcd => (show codeIn (hd.heap_39 _) _ _ = true); k_is
  case c1 => exact rfl
  case c2 => exact rfl
  case c3 => exact rfl
  case nd => decide
  case hc => decide
  case ha => decide +kernel
  case hb => exact valsS fun _ => valsS fun _ => vals0 rfl
  case hk => exact kindsN (by decide)
  intro c ok hf hn hs hc
  dsimp only [List.zip_cons_cons, List.zip_nil_right, List.zip_nil_left]
  refine WSs.gen fun kn kr hkn hkr => ?_
  have G_min := @g_min w mg mb os
  have G_len := @g_len w mg mb os
  refine WSs.cons (WS.swap2 ok (by wtm_at "m:kind") (by wtm_at "m:kind") (by decide) ?_)
  wtm_at "m:ws"
  refine CallV.len (by wtm_at "m:mem") (by rw [bl_length]; (lia)) ?_
  rw [bl_length]
  wtm_at "m:ws"
  refine ⟨_, _, rfl, _, _, put_newK (by kernel_rfl), put_newK (by kernel_rfl), ?_⟩
  refine WSs.cons (WS.while_ (fun k r S => S = [(l, .list (bl 20 F))] ∧ ∃ a b : Nat, k = 40 + a - b ∧ a ≤ n ∧ n ≤ b ∧ b < 20 ∧ (∀ i, i < 20 → a ≤ i → i ≤ b → i ≠ n → F i = true) ∧ r = [(Str.ofString "is_used", V.ref l), (Str.ofString "near", V.int n)] ++ [(Str.ofString "right", V.int b)] ++ [(Str.ofString "left", V.int a)]) ?turn 40 ?init)
  case init =>
    refine ⟨rfl, n, n, by (lia), by (lia), by (lia), by (lia), fun i _ _ _ _ => by (lia), ?_⟩
    rw [show min (n : Int) ((20 : Nat) : Int) = (n : Int) by (lia)]
  case turn =>
    rintro k r S ⟨rfl, a, b, hk, h1, h2, h3, h4, rfl⟩
    refine WT.mono (K := fun d S' => S' = [(l, .list (bl 20 F))] ∧ d = decide (0 < a ∨ b < 19)) ?_ ?_
    · wtm_at "m:ws"
      refine ⟨fun g => ?_, fun g => ⟨rfl, by simp at g ⊢; (lia)⟩⟩
      have g' : ¬ 0 < a := by simp at g; (lia)
      wtm_at "m:ws"
      refine CallV.len (by wtm_at "m:mem") (by rw [bl_length]; (lia)) ?_
      rw [bl_length]
      wtm_at "m:ws"
      refine ⟨rfl, ?_⟩
      rw [decide_eq_decide]
      (lia)
    · rintro d S ⟨rfl, rfl⟩
      refine ⟨fun g => ?_, fun g => ?_⟩
      · have g' : 0 < a ∨ b < 19 := by simpa using g
        refine WSs.cons (WS.mono (Kn := fun r S => S = [(l, .list (bl 20 F))] ∧ ∃ a' : Nat, a' ≤ a ∧ (0 < a → a' < a) ∧ (∀ i, i < 20 → a' ≤ i → i ≤ b → i ≠ n → F i = true) ∧ r = [(Str.ofString "is_used", V.ref l), (Str.ofString "near", V.int n)] ++ [(Str.ofString "right", V.int b)] ++ [(Str.ofString "left", V.int a')]) (WS.ifs ?_) ?_ (fun _ _ z => z))
        · wtm_at "m:ws"
          refine ⟨fun q => ?_, fun q => ?_⟩
          · have q' : 0 < a := by simp at q; (lia)
            refine WSs.cons (WS.aug ok (by wtm_at "m:kind") (by wtm_at "m:mem") (.inr rfl) (WE.int ⟨_, _, rfl, by wtm_at "m:put", ?_⟩))
            rw [if_neg (by decide)]
            wtm_at "m:ws"
            refine WT.val ?_
            wtm_at "m:ws"
            refine SubV.bl (a := a - 1) (by wtm_at "m:mem") (by (lia)) (by (lia)) (by (lia)) ?_
            refine ⟨_, rfl, ⟨fun z => ?_, fun z => ?_⟩⟩
            · wtm_at "m:ws"
              rw [show (a : Int) - 1 = ((a - 1 : Nat) : Int) by (lia)]
              try wtm_at "m:k"
              exact Endd.mk (by wtm_at "m:cut") ⟨a - 1, by (lia), by simpa using z, rfl, rfl⟩
            · wtm_at "m:ws"
              refine ⟨rfl, a - 1, by (lia), by (lia), fun i hi hi1 hi2 hi3 => ?_, ?_⟩
              · by_cases e : i = a - 1
                · subst e; simpa using z
                · exact h4 i hi (by (lia)) hi2 hi3
              · rw [show (a : Int) - 1 = ((a - 1 : Nat) : Int) by (lia)]
          · have q' : ¬ 0 < a := by simp at q; (lia)
            wtm_at "m:ws"
            exact ⟨rfl, a, by (lia), by (lia), h4, rfl⟩
        · rintro r S ⟨rfl, a', ha1, ha2, h5, rfl⟩
          wtm_at "m:ws"
          refine CallV.len (by wtm_at "m:mem") (by rw [bl_length]; (lia)) ?_
          rw [bl_length]
          wtm_at "m:ws"
          refine ⟨fun q => ?_, fun q => ?_⟩
          · have q' : b < 19 := by simp at q; (lia)
            refine WSs.cons (WS.aug ok (by wtm_at "m:kind") (by wtm_at "m:mem") (.inl rfl) (WE.int ⟨_, _, rfl, by wtm_at "m:put", ?_⟩))
            rw [if_pos (by decide)]
            wtm_at "m:ws"
            refine WT.val ?_
            wtm_at "m:ws"
            refine SubV.bl (a := b + 1) (by wtm_at "m:mem") (by (lia)) (by (lia)) (by (lia)) ?_
            refine ⟨_, rfl, ⟨fun z => ?_, fun z => ?_⟩⟩
            · wtm_at "m:ws"
              rw [show (b : Int) + 1 = ((b + 1 : Nat) : Int) by (lia)]
              try wtm_at "m:k"
              exact Endd.mk (by wtm_at "m:cut") ⟨b + 1, by (lia), by simpa using z, rfl, rfl⟩
            · wtm_at "m:ws"
              refine ⟨40 + a' - (b + 1), by (lia), rfl, a', b + 1, rfl, by (lia), by (lia), by (lia), fun i hi hi1 hi2 hi3 => ?_, ?_⟩
              · by_cases e : i = b + 1
                · subst e; simpa using z
                · exact h5 i hi hi1 (by (lia)) hi3
              · rw [show (b : Int) + 1 = ((b + 1 : Nat) : Int) by (lia)]
          · have q' : ¬ b < 19 := by simp at q; (lia)
            wtm_at "m:ws"
            exact ⟨40 + a' - b, by (lia), rfl, a', b, rfl, by (lia), by (lia), by (lia), h5, rfl⟩
      · have g' : ¬ (0 < a ∨ b < 19) := by simpa using g
        obtain ⟨i, hi, hi2, hi3⟩ := hF
        have := h4 i hi (by (lia)) (by (lia)) hi2
        rw [hi3] at this; cases this
theorem c_allocate {d dx gl dl : Addr} {D : Nat → Int} {x : Int} {n : Nat} (H : ∀ k, k < 8 → D (32 * k) ≠ 229 → D (32 * k + 12) = 0 ∧ D (32 * k + 13) = 0 ∧ D (32 * k + 14) = 0) (hx : x = n) (hn20 : n < 20) (hF : ∃ i, i < 20 ∧ i ≠ n ∧ ¬ Used D i) :
    Call (TT w mg mb os) 8 (.ref 212) [.ref d, .int x] (DL d dx gl dl D) fun v' S' => ∃ i : Nat, i < 20 ∧ ¬ Used D i ∧ v' = .int i ∧ S' = DL d dx gl dl D := by
  subst hx
  refine CallC.call (n := 7 + 1) (CallC.drop ?_)
  refine' CallC.def (names := [Str.ofString "disk", Str.ofString "near"]) ?ho ?hcd ?hb rfl ?nd ?hk ?hc ?ha ?h ?c1 ?c2 ?c3
  case ho => (show List.lookup _ (hd.heap_39 _) = some _); k_is
  case hcd => (show codeIn (hd.heap_39 _) _ _ = true); k_is
  case c1 => exact rfl
  case c2 => exact rfl
  case c3 => exact rfl
  case nd => decide
  case hc => decide
  case ha => decide +kernel
  case hb => exact valsS fun _ => valsS fun _ => vals0 rfl
  case hk => exact kindsN (by decide)
  intro c ok hf hn hs hc
  dsimp only [List.zip_cons_cons, List.zip_nil_right, List.zip_nil_left]
  refine WSs.gen fun kn kr hkn hkr => ?_
  have G_nearest_free := @g_nearest_free w mg mb os
  have K_nearest_free := @g_nearest_freeK w mg mb os
  have G_used_blocks := @g_used_blocks w mg mb os
  have K_used_blocks := @g_used_blocksK w mg mb os
  wtm_at "m:ws"
  refine CallV.fr (c_used_blocks H) (by first | (rw [hn]; decide) | (lia)) (by wtm_at "m:cut") ?_
  rintro _ _ ⟨y, F, rfl, rfl, hU⟩
  wtm_at "m:ws"
  have hF' : ∃ i, i < 20 ∧ i ≠ n ∧ F i = false := by
    obtain ⟨i, h1, h2, h3⟩ := hF
    refine ⟨i, h1, h2, ?_⟩
    cases e : F i with
    | false => rfl
    | true => exact absurd ((hU i h1).mp e) h3
  refine CallV.fr (c_nearest_free (n := n) ?_ ?_ hF') (by first | (rw [hn]; decide) | (lia)) (by wtm_at "m:cut") ?_
  · wtm_at "m:side"
  · wtm_at "m:side"
  rintro _ _ ⟨i, h1, h2, rfl, rfl⟩
  first | refine Asg.mk (put_newK (by kernel_rfl)) ?_ | refine ⟨_, put_newK (by kernel_rfl), ?_⟩
  wtm_at "m:ws"
  refine ⟨fun q => (by cases q), fun _ => ?_⟩
  wtm_at "m:ws"
  try wtm_at "m:k"
  exact Endd.mk (by wtm_at "m:cut") ⟨i, h1, (fun q => by have := (hU i h1).mpr q; rw [h2] at this; cases this), rfl, rfl⟩

theorem c_block_for_old {d dx gl dl m : Addr} {D f : Nat → Int} {u x y : Int} {a s : Nat} (hx : x = a) (h1 : a + 36 ≤ 112) (hy : y = s) (hs : s < 16) (hb : f (a + 16 + s) ≠ 0) :
    Call (TT w mg mb os) 9 (.ref 517) [.ref d, .int u, .ref m, .int x, .int y, .bool false] ((m, .list (tl 112 f)) :: DL d dx gl dl D) fun v' S' => v' = .int (f (a + 16 + s)) ∧ S' = (m, .list (tl 112 f)) :: DL d dx gl dl D := by
  subst hx hy
  have hs2 := hs
  refine CallC.call (n := 8 + 1) (CallC.drop ?_)
  refine' CallC.def (names := [Str.ofString "disk", Str.ofString "user", Str.ofString "memory", Str.ofString "at", Str.ofString "slot", Str.ofString "is_blanked"]) ?ho ?hcd ?hb rfl ?nd ?hk ?hc ?ha ?h ?c1 ?c2 ?c3
  case ho => (show List.lookup _ (hd.heap_39 _) = some _); k_is
  case hcd => (show codeIn (hd.heap_39 _) _ _ = true); k_is
  case c1 => exact rfl
  case c2 => exact rfl
  case c3 => exact rfl
  case nd => decide
  case hc => decide
  case ha => decide +kernel
  case hb => exact valsS fun _ => valsS fun _ => valsS fun _ => valsS fun _ => valsS fun _ => valsS fun _ => vals0 rfl
  case hk => exact kindsN (by decide)
  intro c ok hf hn hs hc
  dsimp only [List.zip_cons_cons, List.zip_nil_right, List.zip_nil_left]
  refine WSs.gen fun kn kr hkn hkr => ?_
  have G_allocate := @g_allocate w mg mb os
  have K_allocate := @g_allocateK w mg mb os
  have G_set_block := @g_set_block w mg mb os
  have K_set_block := @g_set_blockK w mg mb os
  have G_find_extent := @g_find_extent w mg mb os
  have K_find_extent := @g_find_extentK w mg mb os
  have G_blocks_at := @g_blocks_at w mg mb os
  have K_blocks_at := @g_blocks_atK w mg mb os
  have G_max := @g_max w mg mb os
  have G_name_at := @g_name_at w mg mb os
  have K_name_at := @g_name_atK w mg mb os
  have G_extent_at := @g_extent_at w mg mb os
  have K_extent_at := @g_extent_atK w mg mb os
  have G_put_entry := @g_put_entry w mg mb os
  have K_put_entry := @g_put_entryK w mg mb os
  have G_entry_octets := @g_entry_octets w mg mb os
  have K_entry_octets := @g_entry_octetsK w mg mb os
  have A_map := @a74_map w mg mb os
  have A_given := @a53_given w mg mb os
  wtm_at "m:ws"
  refine CallV.fr (c_blocks_at (a := a) ?_ ?_) (by first | (rw [hn]; decide) | (lia)) (by wtm_at "m:cut") ?_
  · wtm_at "m:side"
  · wtm_at "m:side"
  refine ex1 fun b => ?_
  wtm_at "m:ws"
  refine SubV.tl (a := s) (by wtm_at "m:mem") (by (lia)) (by (lia)) (by (lia)) ?_
  first | refine Asg.mk (put_newK (by kernel_rfl)) ?_ | refine ⟨_, put_newK (by kernel_rfl), ?_⟩
  wtm_at "m:ws"
  refine ⟨fun _ => ?_, fun q => absurd (by simpa using q) hb⟩
  wtm_at "m:ws"
  try wtm_at "m:k"
  exact Endd.mk (by wtm_at "m:cut") ⟨rfl, rfl⟩
theorem c_block_for {d dx gl dl m : Addr} {D f : Nat → Int} {u x y : Int} {a s k : Nat} (hx : x = a) (F : Fcb f a) (hy : y = s) (hs16 : s < 16) (hb : f (a + 16 + s) = 0) (H : Has D u k fun i => f (a + 1 + i)) (hD : D (32 * k + (16 + s)) = 0)
    (HL : ∀ k, k < 8 → D (32 * k) ≠ 229 → D (32 * k + 12) = 0 ∧ D (32 * k + 13) = 0 ∧ D (32 * k + 14) = 0) (hm : ∀ i, i < 16 → f (a + 16 + i) < 20) (hF : ∀ n, n < 20 → ∃ i, i < 20 ∧ i ≠ n ∧ ¬ Used D i) :
    Call (TT w mg mb os) 9 (.ref 517) [.ref d, .int u, .ref m, .int x, .int y, .bool false] ((m, .list (tl 112 f)) :: DL d dx gl dl D) fun v' S' => ∃ i : Nat, i < 20 ∧ ¬ Used D i ∧ v' = .int i ∧ S' = (m, .list (tl 112 (upd f (a + 16 + s) i))) :: DL d dx gl dl (upd D (32 * k + 16 + s) i) := by
  subst hx hy
  have ha := F.ha
  have hk := H.hk
  refine CallC.call (n := 8 + 1) (CallC.drop ?_)
  refine' CallC.def (names := [Str.ofString "disk", Str.ofString "user", Str.ofString "memory", Str.ofString "at", Str.ofString "slot", Str.ofString "is_blanked"]) ?ho ?hcd ?hb rfl ?nd ?hk ?hc ?ha ?h ?c1 ?c2 ?c3
  case ho => (show List.lookup _ (hd.heap_39 _) = some _); k_is
  case hcd => (show codeIn (hd.heap_39 _) _ _ = true); k_is
  case c1 => exact rfl
  case c2 => exact rfl
  case c3 => exact rfl
  case nd => decide
  case hc => decide
  case ha => decide +kernel
  case hb => exact valsS fun _ => valsS fun _ => valsS fun _ => valsS fun _ => valsS fun _ => valsS fun _ => vals0 rfl
  case hk => exact kindsN (by decide)
  intro c ok hf hn hs hc
  dsimp only [List.zip_cons_cons, List.zip_nil_right, List.zip_nil_left]
  refine WSs.gen fun kn kr hkn hkr => ?_
  have G_allocate := @g_allocate w mg mb os
  have K_allocate := @g_allocateK w mg mb os
  have G_set_block := @g_set_block w mg mb os
  have K_set_block := @g_set_blockK w mg mb os
  have G_find_extent := @g_find_extent w mg mb os
  have K_find_extent := @g_find_extentK w mg mb os
  have G_blocks_at := @g_blocks_at w mg mb os
  have K_blocks_at := @g_blocks_atK w mg mb os
  have G_max := @g_max w mg mb os
  have G_name_at := @g_name_at w mg mb os
  have K_name_at := @g_name_atK w mg mb os
  have G_extent_at := @g_extent_at w mg mb os
  have K_extent_at := @g_extent_atK w mg mb os
  have G_put_entry := @g_put_entry w mg mb os
  have K_put_entry := @g_put_entryK w mg mb os
  have G_entry_octets := @g_entry_octets w mg mb os
  have K_entry_octets := @g_entry_octetsK w mg mb os
  have A_map := @a74_map w mg mb os
  have A_given := @a53_given w mg mb os
  wtm_at "m:ws"
  refine CallV.fr (c_blocks_at (a := a) ?_ ?_) (by first | (rw [hn]; decide) | (lia)) (by wtm_at "m:cut") ?_
  · wtm_at "m:side"
  · wtm_at "m:side"
  refine ex1 fun b => ?_
  wtm_at "m:ws"
  refine SubV.tl (a := s) (by wtm_at "m:mem") (by (lia)) (by (lia)) (by (lia)) ?_
  first | refine Asg.mk (put_newK (by kernel_rfl)) ?_ | refine ⟨_, put_newK (by kernel_rfl), ?_⟩
  wtm_at "m:ws"
  refine ⟨fun q => absurd hb (by simpa using q), fun _ => ?_⟩
  wtm_at "m:ws"
  refine CallV.fr (c_blocks_at (a := a) ?_ ?_) (by first | (rw [hn]; decide) | (lia)) (by wtm_at "m:cut") ?_
  · wtm_at "m:side"
  · wtm_at "m:side"
  refine ex1 fun b2 => ?_
  wtm_at "m:ws"
  refine CallV.maxL (xs := tab 16 fun i => f (a + 16 + i)) (by (show (b2, O.list (tl 16 fun i => f (a + 16 + i))) ∈ _); wtm_at "m:mem") (by rw [tab_length]; (lia)) fun M hM _ => ?_
  obtain ⟨j, hj, rfl⟩ : ∃ j, j < 16 ∧ f (a + 16 + j) = M := by
    obtain ⟨j, hj, e⟩ := List.mem_map.mp hM
    exact ⟨j, List.mem_range.mp hj, e⟩
  have m0 := (F.oct (a + 16 + j) (by (lia))).1
  have m1 := hm j hj
  wtm_at "m:ws"
  refine CallV.fr (c_allocate (n := (f (a + 16 + j)).toNat) HL ?_ ?_ (hF _ (by (lia)))) (by first | (rw [hn]; decide) | (lia)) (by wtm_at "m:cut") ?_
  · wtm_at "m:side"
  · wtm_at "m:side"
  rintro _ _ ⟨i, i1, i2, rfl, rfl⟩
  refine ⟨_, by wtm_at "m:put", ?_⟩
  wtm_at "m:ws"
  have hoct := F.oct
  refine CallV.fr (c_set_block (a := a) (k := s) ?_ ?_ ?_ ?_ ?_ ?_ hoct) (by first | (rw [hn]; decide) | (lia)) (by wtm_at "m:cut") ?_
  · wtm_at "m:side"
  · wtm_at "m:side"
  · wtm_at "m:side"
  · wtm_at "m:side"
  · wtm_at "m:side"
  · wtm_at "m:side"
  refine ex0 ?_
  wtm_at "m:ws"
  refine CallV.fr (c_name_at (a := a) ?_ ?_ ?_) (by first | (rw [hn]; decide) | (lia)) (by wtm_at "m:cut") ?_
  · wtm_at "m:side"
  · wtm_at "m:side"
  · wtm_at "m:side"
  refine ex1 fun y => ?_
  have e : (tl 11 fun j => upd f (a + 16 + s) i (a + 1 + j)) = tl 11 fun i => f (a + 1 + i) := tl_ext fun i hi => by
    unfold upd; rw [if_neg (by (lia))]
  rw [e]
  have z1 : upd f (a + 16 + s) i (a + 12) = 0 := by unfold upd; rw [if_neg (by (lia))]; exact F.h12
  have z2 : upd f (a + 16 + s) i (a + 14) = 0 ∨ upd f (a + 16 + s) i (a + 14) = 128 := by unfold upd; rw [if_neg (by (lia))]; exact F.h14
  wtm_at "m:ws"
  refine CallV.same (c_extent_at (a := a) ?_ ?_ ?_ z1 z2) (by first | (rw [hn]; decide) | (lia)) (by wtm_at "m:cut") ?_
  · wtm_at "m:side"
  · wtm_at "m:side"
  · wtm_at "m:side"
  wtm_at "m:ws"
  refine CallV.fr (c_find_extent_one H.hk H.h1 H.h2 H.hg H.h0 H.h12 H.h13 H.h14) (by first | (rw [hn]; decide) | (lia)) (by wtm_at "m:cut") ?_
  refine ex5 fun t e ex rl ml => ?_
  first | refine Asg.mk (put_newK (by kernel_rfl)) ?_ | refine ⟨_, put_newK (by kernel_rfl), ?_⟩
  wtm_at "m:ws"
  refine ⟨fun _ => ?_, fun q => (by cases q)⟩
  wtm_at "m:ws"
  refine SubV.tup (by wtm_at "m:mem") (by decide) (by decide) rfl ?_
  wtm_at "m:ws"
  refine SubV.tl (a := s) (by wtm_at "m:mem") (by (lia)) (by (lia)) (by (lia)) ?_
  rw [hD]
  wtm_at "m:ws"
  refine ⟨fun _ => ?_, fun q => (by simp at q)⟩
  wtm_at "m:ws"
  refine SubV.tup (by wtm_at "m:mem") (by decide) (by decide) rfl ?_
  wtm_at "m:ws"
  refine SetI.tl (a := s) (by wtm_at "m:chg") (by (lia)) (by (lia)) (by (lia)) ?_
  wtm_at "m:ws"
  refine SubV.tup (by wtm_at "m:mem") (by decide) (by decide) rfl ?_
  wtm_at "m:ws"
  refine SubV.tup (by wtm_at "m:mem") (by decide) (by decide) rfl ?_
  wtm_at "m:ws"
  refine CallV.fr (c_entry_octets) (by first | (rw [hn]; decide) | (lia)) (by wtm_at "m:cut") ?_
  refine ex1 fun z => ?_
  wtm_at "m:ws"
  refine CallV.fr (c_put_entry (k := k) ?_ ?_) (by first | (rw [hn]; decide) | (lia)) (by wtm_at "m:cut") ?_
  · wtm_at "m:side"
  · wtm_at "m:side"
  refine ex0 ?_
  rw [eoct_slot H hs16]
  wtm_at "m:ws"
  refine WT.val (WE.name ok (by wtm_at "m:mem") ⟨_, rfl, ⟨fun q => (by cases q), fun _ => ?_⟩⟩)
  wtm_at "m:ws"
  try wtm_at "m:k"
  exact Endd.mk (by wtm_at "m:cut") ⟨i, i1, i2, rfl, rfl⟩

theorem c_law_next {fe cl : Addr} {xs : List Int} {t : Nat} {n : Int} (hxs : xs.length ≤ 30) (ht : t ≤ 1000) (h0 : 0 < n) :
    Call (TT w mg mb os) 1 (.ref 566) [.ref fe, .int n] [(fe, .list [.ref cl, .int t]), (cl, .list (zs xs))] fun v' S' => ∃ v : Int, 0 ≤ v ∧ v < n ∧ v' = .int v ∧ S' = [(fe, .list [.ref cl, .int ((t + 1 : Nat) : Int)]), (cl, .list (zs xs))] := by
  refine CallC.call (n := 0 + 1) (CallC.drop ?_)
  refine' CallC.def (names := [Str.ofString "feed", Str.ofString "many"]) ?ho ?hcd ?hb rfl ?nd ?hk ?hc ?ha ?h ?c1 ?c2 ?c3
  case ho => (show List.lookup _ (hd.heap_39 _) = some _); k_is
  case hcd => (show codeIn (hd.heap_39 _) _ _ = true); k_is
  case c1 => exact rfl
  case c2 => exact rfl
  case c3 => exact rfl
  case nd => decide
  case hc => decide
  case ha => decide +kernel
  case hb => exact valsS fun _ => valsS fun _ => vals0 rfl
  case hk => exact kindsN (by decide)
  intro c ok hf hn hs hc
  dsimp only [List.zip_cons_cons, List.zip_nil_right, List.zip_nil_left]
  refine WSs.gen fun kn kr hkn hkr => ?_
  have G_len := @g_len w mg mb os
  have G_abs := @g_abs w mg mb os
  have G_int := @g_int w mg mb os
  refine WSs.cons (WS.unpack ?_)
  wtm_at "m:ws"
  refine ⟨fe, [.ref cl, .int t], rfl, .inr (by wtm_at "m:mem"), rfl, ?_⟩
  refine WA.name ok (by wtm_at "m:kind") (put_newK (by kernel_rfl)) ?_
  refine WA.name ok (by wtm_at "m:kind") (put_newK (by kernel_rfl)) ?_
  show WSs _ _ _ _ _ _ _
  wtm_at "m:ws"
  refine SetI.list (S' := [(fe, .list [.ref cl, .int ((t : Int) + 1)]), (cl, .list (zs xs))]) Chg.head (by decide) (by simp) (by simp) ?_
  rw [show (t : Int) + 1 = ((t + 1 : Nat) : Int) by (lia)]
  wtm_at "m:ws"
  refine CallV.len (by wtm_at "m:mem") (by simp; (lia)) ?_
  wtm_at "m:ws"
  have fin : ∀ z : Int, 0 ≤ z.fmod n ∧ z.fmod n < n := fun z => ⟨Int.fmod_nonneg_of_pos z h0, Int.fmod_lt_of_pos z h0⟩
  refine ⟨fun h => ?_, fun _ => ?_⟩
  · have h' : t < xs.length := by simpa using h
    wtm_at "m:ws"
    refine SubV.list (v := .int xs[t]) (by wtm_at "m:mem") (by (lia)) (by (lia)) (by simp [h']) ?_
    wtm_at "m:ws"
    try wtm_at "m:k"
    exact Endd.mk (by wtm_at "m:cut") ⟨_, (fin _).1, (fin _).2, rfl, rfl⟩
  · wtm_at "m:ws"
    refine CallV.len (by wtm_at "m:mem") (by simp; (lia)) ?_
    wtm_at "m:ws"
    try wtm_at "m:k"
    exact Endd.mk (by wtm_at "m:cut") ⟨_, (fin _).1, (fin _).2, rfl, rfl⟩

noncomputable def seenF (f : Nat → Int) (a : Nat) : Nat → Int := fun i => if 16 ≤ i ∧ i < 32 then (if 0 < f (a + i) then 1 else 0) else f (a + i)
theorem c_law_seen {m : Addr} {f : Nat → Int} {x : Int} {a : Nat} (hx : x = a) (h1 : a + 36 ≤ 112) :
    Call (TT w mg mb os) 1 (.ref 576) [.ref m, .int x] [(m, .list (tl 112 f))] fun v' S' => ∃ y, v' = .ref y ∧ S' = [(m, .list (tl 112 f)), (y, .list (tl 36 (seenF f a)))] := by
  subst hx
  refine CallC.call (n := 0 + 1) (CallC.drop ?_)
  refine' CallC.def (names := [Str.ofString "memory", Str.ofString "at"]) ?ho ?hcd ?hb rfl ?nd ?hk ?hc ?ha ?h ?c1 ?c2 ?c3
  case ho => (show List.lookup _ (hd.heap_39 _) = some _); k_is
  case hcd => (show codeIn (hd.heap_39 _) _ _ = true); k_is
  case c1 => exact rfl
  case c2 => exact rfl
  case c3 => exact rfl
  case nd => decide
  case hc => decide
  case ha => decide +kernel
  case hb => exact valsS fun _ => valsS fun _ => vals0 rfl
  case hk => exact kindsN (by decide)
  intro c ok hf hn hs hc
  dsimp only [List.zip_cons_cons, List.zip_nil_right, List.zip_nil_left]
  refine WSs.gen fun kn kr hkn hkr => ?_
  have G_int := @g_int w mg mb os
  wtm_at "m:ws"
  refine SlE.mk (l := m) (by wtm_at "m:mem") (by rw [tl_length]; (lia)) (pick_tlE (a := a) (b := a + 16) (m := 16) (by (lia)) (by (lia)) (by (lia)) (by (lia)) (by (lia))) fun b => ?_
  refine WE.comp (ext := fun a => [(Str.ofString "octet", a)]) ([] : Loc) ok (free_ok hs hc (by decide)) (by decide) (by decide) rfl ?hr ?nd (fun c₂ ok₂ k₂ => bnd_name ok₂ (Kinds.at k₂ (by decide))) (fun a => put_newK (by kernel_rfl)) ?_
  case hr => wtm_at "m:hr"
  case nd => exact nd_of (ns := []) rfl (by decide)
  refine WI.list ?_
  wtm_at "m:ws"
  refine SlE.mk (l := m) (by wtm_at "m:mem") (by rw [tl_length]; (lia)) (pick_tlE (a := a + 16) (b := a + 32) (m := 16) (by (lia)) (by (lia)) (by (lia)) (by (lia)) (by (lia))) fun b2 => ?_
  refine ⟨b2, _, rfl, by wtm_at "m:mem", ?_⟩
  intro c₂ ok₂ hf₂ hn₂ hs₂
  rw [← tl_map]
  refine comp_map (fun i => .int (if 0 < f (a + 16 + i) then 1 else 0)) (by (lia)) (by rw [tl_map]; wtm_at "m:mem") (fun i hi => ?_) (fun z => ?_)
  · wtm_at "m:ws"
    (try wtm_at "m:k"); refine ⟨?_, _, Cut.refl⟩
    congr 1
    by_cases q : 0 < f (a + 16 + i) <;> simp [q]
  · rw [tl_map 16 (fun i => if 0 < f (a + 16 + i) then 1 else 0)]
    refine BinV.cat (by wtm_at "m:mem") (by wtm_at "m:mem") (by simp [tl_length]) fun b3 => ?_
    rw [app_tl]
    wtm_at "m:ws"
    refine SlE.mk (l := m) (by wtm_at "m:mem") (by rw [tl_length]; (lia)) (pick_tlE (a := a + 32) (b := a + 36) (m := 4) (by (lia)) (by (lia)) (by (lia)) (by (lia)) (by (lia))) fun b4 => ?_
    refine BinV.cat (by wtm_at "m:mem") (by wtm_at "m:mem") (by simp [tl_length]) fun b5 => ?_
    rw [app_tl]
    have e : (tl (16 + 16 + 4) fun i => if i < 16 + 16 then if i < 16 then f (a + i) else if 0 < f (a + 16 + (i - 16)) then 1 else 0 else f (a + 32 + (i - (16 + 16)))) = tl 36 (seenF f a) := tl_ext fun i hi => by
      unfold seenF
      by_cases q1 : i < 16
      · rw [if_pos (by (lia)), if_pos q1, if_neg (by (lia))]
      · by_cases q2 : i < 32
        · rw [if_pos (by (lia)), if_neg q1, show a + 16 + (i - 16) = a + i by (lia), if_pos (⟨by (lia), q2⟩ : 16 ≤ i ∧ i < 32)]
        · rw [if_neg (by (lia)), if_neg (by (lia))]; congr 1; (lia)
    rw [e]
    try wtm_at "m:k"
    exact Endd.mk (by wtm_at "m:cut") ⟨b5, rfl, rfl⟩

theorem c_close_file_same {d dx gl dl m : Addr} {D f : Nat → Int} {u x : Int} {a : Nat} (hx : x = a) (h1 : a + 36 ≤ 112) (h14 : f (a + 14) = 128) :
    Call (TT w mg mb os) 8 (.ref 454) [.ref d, .int u, .ref m, .int x] ((m, .list (tl 112 f)) :: DL d dx gl dl D) fun v' S' => v' = .int 0 ∧ S' = (m, .list (tl 112 f)) :: DL d dx gl dl D := by
  subst hx
  refine CallC.call (n := 7 + 1) (CallC.drop ?_)
  refine' CallC.def (names := [Str.ofString "disk", Str.ofString "user", Str.ofString "memory", Str.ofString "at"]) ?ho ?hcd ?hb rfl ?nd ?hk ?hc ?ha ?h ?c1 ?c2 ?c3
  case ho => (show List.lookup _ (hd.heap_39 _) = some _); k_is
  case hcd => (show codeIn (hd.heap_39 _) _ _ = true); k_is
  case c1 => exact rfl
  case c2 => exact rfl
  case c3 => exact rfl
  case nd => decide
  case hc => decide
  case ha => decide +kernel
  case hb => exact valsS fun _ => valsS fun _ => valsS fun _ => valsS fun _ => vals0 rfl
  case hk => exact kindsN (by decide)
  intro c ok hf hn hs hc
  dsimp only [List.zip_cons_cons, List.zip_nil_right, List.zip_nil_left]
  refine WSs.gen fun kn kr hkn hkr => ?_
  have G_DONE := @g_DONE w mg mb os
  have G_find_extent := @g_find_extent w mg mb os
  have K_find_extent := @g_find_extentK w mg mb os
  have G_NOT_FOUND := @g_NOT_FOUND w mg mb os
  have G_merged := @g_merged w mg mb os
  have K_merged := @g_mergedK w mg mb os
  have G_put_entry := @g_put_entry w mg mb os
  have K_put_entry := @g_put_entryK w mg mb os
  have G_mark_changed := @g_mark_changed w mg mb os
  have K_mark_changed := @g_mark_changedK w mg mb os
  have G_code_of := @g_code_of w mg mb os
  have K_code_of := @g_code_ofK w mg mb os
  have G_name_at := @g_name_at w mg mb os
  have K_name_at := @g_name_atK w mg mb os
  have G_extent_at := @g_extent_at w mg mb os
  have K_extent_at := @g_extent_atK w mg mb os
  have G_blocks_at := @g_blocks_at w mg mb os
  have K_blocks_at := @g_blocks_atK w mg mb os
  have G_max := @g_max w mg mb os
  have G_entry_octets := @g_entry_octets w mg mb os
  have K_entry_octets := @g_entry_octetsK w mg mb os
  have G_is_changed := @g_is_changed w mg mb os
  have K_is_changed := @g_is_changedK w mg mb os
  have G_count_at := @g_count_at w mg mb os
  have K_count_at := @g_count_atK w mg mb os
  have A_is_read_only := @a53_is_read_only w mg mb os
  have A_map := @a74_map w mg mb os
  have A_count := @a74_count w mg mb os
  have A_given := @a53_given w mg mb os
  have S_given := @s53_given w mg mb os
  have S_map := @s74_map w mg mb os
  have S_count := @s74_count w mg mb os
  wtm_at "m:ws"
  refine WT.val ?_
  wtm_at "m:ws"
  refine CallV.same (c_is_changed (a := a) ?_ ?_ ?_ (.inr h14)) (by first | (rw [hn]; decide) | (lia)) (by wtm_at "m:cut") ?_
  · wtm_at "m:side"
  · wtm_at "m:side"
  · wtm_at "m:side"
  rw [h14]
  refine ⟨false, rfl, ⟨fun q => (by cases q), fun _ => ⟨fun _ => ?_, fun q => (by cases q)⟩⟩⟩
  wtm_at "m:ws"
  try wtm_at "m:k"
  exact Endd.mk (by wtm_at "m:cut") ⟨rfl, rfl⟩

theorem c_close_file {d dx gl dl m : Addr} {D f : Nat → Int} {u x : Int} {a k : Nat} (hx : x = a) (F : Fcb f a) (h14 : f (a + 14) = 0) (H : Has D u k fun i => f (a + 1 + i)) (hmap : ∀ i, i < 16 → f (a + 16 + i) = D (32 * k + (16 + i))) :
    Call (TT w mg mb os) 8 (.ref 454) [.ref d, .int u, .ref m, .int x] ((m, .list (tl 112 f)) :: DL d dx gl dl D) fun v' S' => v' = .int 0 ∧ ∃ gl', S' = (m, .list (tl 112 (upd f (a + 14) 128))) :: DL d dx gl' dl (upd D (32 * k + 15) (max (D (32 * k + 15)) (f (a + 15)))) := by
  subst hx
  have ha := F.ha
  have hk := H.hk
  refine CallC.call (n := 7 + 1) (CallC.drop ?_)
  refine' CallC.def (names := [Str.ofString "disk", Str.ofString "user", Str.ofString "memory", Str.ofString "at"]) ?ho ?hcd ?hb rfl ?nd ?hk ?hc ?ha ?h ?c1 ?c2 ?c3
  case ho => (show List.lookup _ (hd.heap_39 _) = some _); k_is
  case hcd => (show codeIn (hd.heap_39 _) _ _ = true); k_is
  case c1 => exact rfl
  case c2 => exact rfl
  case c3 => exact rfl
  case nd => decide
  case hc => decide
  case ha => decide +kernel
  case hb => exact valsS fun _ => valsS fun _ => valsS fun _ => valsS fun _ => vals0 rfl
  case hk => exact kindsN (by decide)
  intro c ok hf hn hs hc
  dsimp only [List.zip_cons_cons, List.zip_nil_right, List.zip_nil_left]
  refine WSs.gen fun kn kr hkn hkr => ?_
  have G_DONE := @g_DONE w mg mb os
  have G_find_extent := @g_find_extent w mg mb os
  have K_find_extent := @g_find_extentK w mg mb os
  have G_NOT_FOUND := @g_NOT_FOUND w mg mb os
  have G_merged := @g_merged w mg mb os
  have K_merged := @g_mergedK w mg mb os
  have G_put_entry := @g_put_entry w mg mb os
  have K_put_entry := @g_put_entryK w mg mb os
  have G_mark_changed := @g_mark_changed w mg mb os
  have K_mark_changed := @g_mark_changedK w mg mb os
  have G_code_of := @g_code_of w mg mb os
  have K_code_of := @g_code_ofK w mg mb os
  have G_name_at := @g_name_at w mg mb os
  have K_name_at := @g_name_atK w mg mb os
  have G_extent_at := @g_extent_at w mg mb os
  have K_extent_at := @g_extent_atK w mg mb os
  have G_blocks_at := @g_blocks_at w mg mb os
  have K_blocks_at := @g_blocks_atK w mg mb os
  have G_max := @g_max w mg mb os
  have G_entry_octets := @g_entry_octets w mg mb os
  have K_entry_octets := @g_entry_octetsK w mg mb os
  have G_is_changed := @g_is_changed w mg mb os
  have K_is_changed := @g_is_changedK w mg mb os
  have G_count_at := @g_count_at w mg mb os
  have K_count_at := @g_count_atK w mg mb os
  have A_is_read_only := @a53_is_read_only w mg mb os
  have A_map := @a74_map w mg mb os
  have A_count := @a74_count w mg mb os
  have A_given := @a53_given w mg mb os
  have S_given := @s53_given w mg mb os
  have S_map := @s74_map w mg mb os
  have S_count := @s74_count w mg mb os
  wtm_at "m:ws"
  refine WT.val ?_
  wtm_at "m:ws"
  refine CallV.same (c_is_changed (a := a) ?_ ?_ ?_ (.inl h14)) (by first | (rw [hn]; decide) | (lia)) (by wtm_at "m:cut") ?_
  · wtm_at "m:side"
  · wtm_at "m:side"
  · wtm_at "m:side"
  rw [h14]
  refine ⟨true, rfl, ⟨fun _ => ?_, fun q => (by cases q)⟩⟩
  refine WT.val ?_
  wtm_at "m:ws"
  refine ⟨false, rfl, ⟨fun q => (by cases q), fun _ => ?_⟩⟩
  wtm_at "m:ws"
  refine CallV.fr (c_name_at (a := a) ?_ ?_ ?_) (by first | (rw [hn]; decide) | (lia)) (by wtm_at "m:cut") ?_
  · wtm_at "m:side"
  · wtm_at "m:side"
  · wtm_at "m:side"
  refine ex1 fun y => ?_
  wtm_at "m:ws"
  refine CallV.same (c_extent_at (a := a) ?_ ?_ ?_ F.h12 F.h14) (by first | (rw [hn]; decide) | (lia)) (by wtm_at "m:cut") ?_
  · wtm_at "m:side"
  · wtm_at "m:side"
  · wtm_at "m:side"
  wtm_at "m:ws"
  refine CallV.fr (c_find_extent_one H.hk H.h1 H.h2 H.hg H.h0 H.h12 H.h13 H.h14) (by first | (rw [hn]; decide) | (lia)) (by wtm_at "m:cut") ?_
  refine ex5 fun t e ex rl ml => ?_
  first | refine Asg.mk (put_newK (by kernel_rfl)) ?_ | refine ⟨_, put_newK (by kernel_rfl), ?_⟩
  wtm_at "m:ws"
  refine ⟨fun q => (by cases q), fun _ => ?_⟩
  wtm_at "m:ws"
  refine WSs.cons (WS.unpack ?_)
  wtm_at "m:ws"
  refine ⟨t, [.int k, .ref e], rfl, .inl (by wtm_at "m:mem"), rfl, ?_⟩
  refine WA.name ok (by wtm_at "m:kind") (put_newK (by kernel_rfl)) ?_
  refine WA.nameC ok (by wtm_at "m:kind") hf (by rw [← hc]; decide) (put_newK (by kernel_rfl)) ?_
  show WSs _ _ _ _ _ _ _
  wtm_at "m:ws"
  refine CallV.fr (c_blocks_at (a := a) ?_ ?_) (by first | (rw [hn]; decide) | (lia)) (by wtm_at "m:cut") ?_
  · wtm_at "m:side"
  · wtm_at "m:side"
  refine ex1 fun b => ?_
  rw [show (tl 16 fun i => f (a + 16 + i)) = tl 16 (fun i => D (32 * k + (16 + i))) from tl_ext hmap]
  wtm_at "m:ws"
  refine CallV.fr (c_merged) (by first | (rw [hn]; decide) | (lia)) (by wtm_at "m:cut") ?_
  refine ex1 fun bb => ?_
  first | refine Asg.mk (put_newK (by kernel_rfl)) ?_ | refine ⟨_, put_newK (by kernel_rfl), ?_⟩
  wtm_at "m:ws"
  refine ⟨fun q => (by cases q), fun _ => ?_⟩
  wtm_at "m:ws"
  refine WSs.cons (WS.unpack ?_ ?h1 ?h2 ?h3)
  case h1 => with_unfolding_all rfl
  case h2 => exact swapped_no
  case h3 => rfl
  wtm_at "m:ws"
  refine CallV.same (c_count_at (a := a) ?_ ?_ ?_) (by first | (rw [hn]; decide) | (lia)) (by wtm_at "m:cut") ?_
  · wtm_at "m:side"
  · wtm_at "m:side"
  · wtm_at "m:side"
  wtm_at "m:ws"
  refine ⟨by simp, fun tu => ?_⟩
  refine ⟨tu, [.ref bb, .int (max (D (32 * k + 15)) (f (a + 15)))], rfl, .inl (by wtm_at "m:mem"), rfl, ?_⟩
  refine WA.attr ?_
  wtm_at "m:ws"
  wtm_at "m:sa"
  refine WA.attr ?_
  wtm_at "m:ws"
  wtm_at "m:sa"
  show WSs _ _ _ _ _ _ _
  refine WSs.cut (S₁ := (m, .list (tl 112 f)) :: ED e ex rl bb u (max (D (32 * k + 15)) (f (a + 15))) (fun i => f (a + 1 + i)) (fun i => D (32 * k + (16 + i))) (DL d dx gl dl D)) (by wtm_at "m:cut") ?_
  wtm_at "m:ws"
  refine CallV.fr (c_entry_octets) (by first | (rw [hn]; decide) | (lia)) (by wtm_at "m:cut") ?_
  refine ex1 fun z => ?_
  wtm_at "m:ws"
  refine CallV.fr (c_put_entry (k := k) ?_ ?_) (by first | (rw [hn]; decide) | (lia)) (by wtm_at "m:cut") ?_
  · wtm_at "m:side"
  · wtm_at "m:side"
  refine ex0 ?_
  rw [eoct_cnt H (fun i hi => rfl)]
  wtm_at "m:ws"
  refine WE.comp (ext := fun a => [(Str.ofString "block", a)]) ([(Str.ofString "entry", .ref e)] : Loc) ok (free_ok hs hc (by decide)) (by decide) (by decide) rfl ?hr ?nd (fun c₂ ok₂ k₂ => bnd_name ok₂ (Kinds.at k₂ (by decide))) (fun a => put_newK (by kernel_rfl)) ?_
  case hr => wtm_at "m:hr"
  case nd => exact nd_of (ns := [Str.ofString "entry"]) rfl (by decide)
  refine WI.list ?_
  wtm_at "m:ws"
  refine ⟨gl, [], rfl, by wtm_at "m:mem", ?_⟩
  intro c₂ ok₂ hf₂ hn₂ hs₂
  refine ⟨by wtm_at "m:mem", fun gl2 => ?_⟩
  wtm_at "m:ws"
  wtm_at "m:sa"
  wtm_at "m:ws"
  refine CallV.fr (c_mark_changed (a := a) (b := false) ?_ ?_ ?_ F.h14) (by first | (rw [hn]; decide) | (lia)) (by wtm_at "m:cut") ?_
  · wtm_at "m:side"
  · wtm_at "m:side"
  · wtm_at "m:side"
  refine ex0 ?_
  wtm_at "m:ws"
  refine CallV.same (c_code_of) (by first | (rw [hn]; decide) | (lia)) (by wtm_at "m:cut") ?_
  rw [if_neg (by decide)]
  try wtm_at "m:k"
  exact Endd.mk (by wtm_at "m:cut") ⟨rfl, gl2, rfl⟩

theorem c_block_any {d dx gl dl m : Addr} {D f : Nat → Int} {u : Nat} {x y : Int} (hx : x = (40 * u : Nat)) (W : Wr u f D) (hy : y = ((f (40 * u + 32)).toNat / 2 : Nat)) :
    Call (TT w mg mb os) 9 (.ref 517) [.ref d, .int u, .ref m, .int x, .int y, .bool false] ((m, .list (tl 112 f)) :: DL d dx gl dl D) fun v' S' => ∃ f2 D2, Al u f D f2 D2 ∧ v' = .int (f2 (40 * u + 16 + (f (40 * u + 32)).toNat / 2)) ∧ S' = (m, .list (tl 112 f2)) :: DL d dx gl dl D2 := by
  have hs := W.slot.2.2
  by_cases h : f (40 * u + 16 + (f (40 * u + 32)).toNat / 2) = 0
  · obtain ⟨k, H, hm⟩ := W.al
    refine (c_block_for (a := 40 * u) hx W.F hy hs h H (by rw [hm _ hs]; exact h) W.HL W.mp W.hF).mono (Nat.le_refl _) fun v S ⟨i, i1, i2, e1, e2⟩ => ?_
    exact ⟨_, _, .inr ⟨h, k, i, H, i1, i2, rfl, rfl⟩, by rw [e1, upd_eq rfl], e2⟩
  · refine (c_block_for_old (a := 40 * u) hx W.F.ha hy hs h).mono (Nat.le_refl _) fun v S ⟨e1, e2⟩ => ?_
    exact ⟨f, D, .inl ⟨h, rfl, rfl⟩, e1, e2⟩
theorem c_write_here {d dx gl dl m : Addr} {D f : Nat → Int} {u : Nat} {x : Int} (hx : x = (40 * u : Nat)) (W : Wr u f D) :
    Call (TT w mg mb os) 10 (.ref 524) [.ref d, .int u, .ref m, .int x, .int 96, .bool false] ((m, .list (tl 112 f)) :: DL d dx gl dl D) fun v' S' => ∃ f2 D2, Al u f D f2 D2 ∧ v' = .int 0 ∧ S' = (m, .list (tl 112 (upd (upd f2 (40 * u + 15) (max (f2 (40 * u + 15)) (f2 (40 * u + 32) + 1))) (40 * u + 14) 0))) :: DL d dx gl dl (wrD f2 D2 (40 * u) (fun i => f (96 + i))) := by
  subst hx
  have ha := W.F.ha
  have c0 := (W.F.oct (40 * u + 32) (by (lia))).1
  have cr := W.cr
  have low : NB f (40 * u) 8 < 128 := by obtain ⟨k, H, _⟩ := W.al; exact H.low
  refine CallC.call (n := 9 + 1) (CallC.drop ?_)
  refine' CallC.def (names := [Str.ofString "disk", Str.ofString "user", Str.ofString "memory", Str.ofString "at", Str.ofString "dma", Str.ofString "is_blanked"]) ?ho ?hcd ?hb rfl ?nd ?hk ?hc ?ha ?h ?c1 ?c2 ?c3
  case ho => (show List.lookup _ (hd.heap_39 _) = some _); k_is
  case hcd => (show codeIn (hd.heap_39 _) _ _ = true); k_is
  case c1 => exact rfl
  case c2 => exact rfl
  case c3 => exact rfl
  case nd => decide
  case hc => decide
  case ha => decide +kernel
  case hb => exact valsS fun _ => valsS fun _ => valsS fun _ => valsS fun _ => valsS fun _ => valsS fun _ => vals0 rfl
  case hk => exact kindsN (by decide)
  intro c ok hf hn hs hc
  dsimp only [List.zip_cons_cons, List.zip_nil_right, List.zip_nil_left]
  refine WSs.gen fun kn kr hkn hkr => ?_
  have G_DONE := @g_DONE w mg mb os
  have G_current_at := @g_current_at w mg mb os
  have K_current_at := @g_current_atK w mg mb os
  have G_need_writable_disk := @g_need_writable_disk w mg mb os
  have K_need_writable_disk := @g_need_writable_diskK w mg mb os
  have G_need_writable_file := @g_need_writable_file w mg mb os
  have K_need_writable_file := @g_need_writable_fileK w mg mb os
  have G_write_record := @g_write_record w mg mb os
  have K_write_record := @g_write_recordK w mg mb os
  have G_set_count := @g_set_count w mg mb os
  have K_set_count := @g_set_countK w mg mb os
  have G_mark_changed := @g_mark_changed w mg mb os
  have K_mark_changed := @g_mark_changedK w mg mb os
  have G_name_at := @g_name_at w mg mb os
  have K_name_at := @g_name_atK w mg mb os
  have G_block_for := @g_block_for w mg mb os
  have K_block_for := @g_block_forK w mg mb os
  have G_octets_at := @g_octets_at w mg mb os
  have K_octets_at := @g_octets_atK w mg mb os
  have G_max := @g_max w mg mb os
  have G_records_of_block := @g_records_of_block w mg mb os
  have K_records_of_block := @g_records_of_blockK w mg mb os
  have G_count_at := @g_count_at w mg mb os
  have K_count_at := @g_count_atK w mg mb os
  have A_record := @a53_record w mg mb os
  wtm_at "m:ws"
  refine CallV.same (c_current_at (a := 40 * u) ?_ ?_ ?_) (by first | (rw [hn]; decide) | (lia)) (by wtm_at "m:cut") ?_
  · wtm_at "m:side"
  · wtm_at "m:side"
  · wtm_at "m:side"
  first | refine Asg.mk (put_newK (by kernel_rfl)) ?_ | refine ⟨_, put_newK (by kernel_rfl), ?_⟩
  wtm_at "m:ws"
  refine CallV.same (c_need_writable_disk) (by first | (rw [hn]; decide) | (lia)) (by wtm_at "m:cut") ?_
  wtm_at "m:ws"
  refine CallV.fr (c_name_at (a := 40 * u) ?_ ?_ ?_) (by first | (rw [hn]; decide) | (lia)) (by wtm_at "m:cut") ?_
  · wtm_at "m:side"
  · wtm_at "m:side"
  · wtm_at "m:side"
  refine ex1 fun y => ?_
  wtm_at "m:ws"
  refine CallV.same (c_need_writable_file (g := fun i => f (40 * u + 1 + i)) low) (by first | (rw [hn]; decide) | (lia)) (by wtm_at "m:cut") ?_
  refine WSs.cut (S₁ := (m, .list (tl 112 f)) :: DL d dx gl dl D) (by wtm_at "m:cut") ?_
  refine WSs.cons (WS.try_ ?_)
  wtm_at "m:ws"
  refine CallV.same (c_records_of_block) (by first | (rw [hn]; decide) | (lia)) (by wtm_at "m:cut") ?_
  wtm_at "m:ws"
  refine CallV.fr (c_block_any (u := u) ?_ W W.slot.1) (by first | (rw [hn]; decide) | (lia)) (by wtm_at "m:cut") ?_
  · wtm_at "m:side"
  rintro _ _ ⟨f2, D2, A, rfl, rfl⟩
  obtain ⟨F1, F2, F3⟩ := A.facts W
  first | refine Asg.mk (put_newK (by kernel_rfl)) ?_ | refine ⟨_, put_newK (by kernel_rfl), ?_⟩
  refine WSs.nil ?_
  refine WSs.cut (S₁ := (m, .list (tl 112 f2)) :: DL d dx gl dl D2) (by wtm_at "m:cut") ?_
  wtm_at "m:ws"
  refine CallV.same (c_records_of_block) (by first | (rw [hn]; decide) | (lia)) (by wtm_at "m:cut") ?_
  wtm_at "m:ws"
  refine CallV.fr (c_octets_at (a := 96) (k := 16) ?_ ?_ ?_ ?_) (by first | (rw [hn]; decide) | (lia)) (by wtm_at "m:cut") ?_
  · wtm_at "m:side"
  · wtm_at "m:side"
  · wtm_at "m:side"
  · wtm_at "m:side"
  refine ex1 fun z => ?_
  wtm_at "m:ws"
  refine CallV.fr (c_write_record (b := (f2 (40 * u + 16 + (f (40 * u + 32)).toNat / 2)).toNat) (k := (f (40 * u + 32)).toNat % 2) ?_ W.slot.2.1 ?_ ?_) (by first | (rw [hn]; decide) | (lia)) (by wtm_at "m:cut") ?_
  · wtm_at "m:side"
  · wtm_at "m:side"
  · wtm_at "m:side"
  refine ex0 ?_
  refine WSs.cut (S₁ := (m, .list (tl 112 f2)) :: DL d dx gl dl (putAt D2 (32 * (f2 (40 * u + 16 + (f (40 * u + 32)).toNat / 2)).toNat + 16 * ((f (40 * u + 32)).toNat % 2)) 16 fun i => f2 (96 + i))) (by wtm_at "m:cut") ?_
  wtm_at "m:ws"
  refine CallV.same (c_count_at (a := 40 * u) ?_ ?_ ?_) (by first | (rw [hn]; decide) | (lia)) (by wtm_at "m:cut") ?_
  · wtm_at "m:side"
  · wtm_at "m:side"
  · wtm_at "m:side"
  wtm_at "m:ws"
  have e32 := F1 (40 * u + 32) (by (lia))
  have e15 := F1 (40 * u + 15) (by (lia))
  have e14 := F1 (40 * u + 14) (by (lia))
  have r0 := (W.F.oct (40 * u + 15) (by (lia))).1
  have r1 := W.rc
  rw [e15]
  refine CallV.fr (c_set_count (a := 40 * u) ?_ ?_ ?_ ?_ ?_) (by first | (rw [hn]; decide) | (lia)) (by wtm_at "m:cut") ?_
  · wtm_at "m:side"
  · wtm_at "m:side"
  · wtm_at "m:side"
  · wtm_at "m:side"
  · wtm_at "m:side"
  refine ex0 ?_
  have z14 : upd f2 (40 * u + 15) (max (f (40 * u + 15)) (f (40 * u + 32) + 1)) (40 * u + 14) = 0 ∨ upd f2 (40 * u + 15) (max (f (40 * u + 15)) (f (40 * u + 32) + 1)) (40 * u + 14) = 128 := by
    rw [upd_ne (by (lia)), e14]; exact W.F.h14
  wtm_at "m:ws"
  refine CallV.fr (c_mark_changed (a := 40 * u) (b := true) ?_ ?_ ?_ z14) (by first | (rw [hn]; decide) | (lia)) (by wtm_at "m:cut") ?_
  · wtm_at "m:side"
  · wtm_at "m:side"
  · wtm_at "m:side"
  refine ex0 ?_
  rw [if_pos rfl]
  wtm_at "m:ws"
  have ed : wrD f2 D2 (40 * u) (fun i => f (96 + i)) = putAt D2 (32 * (f2 (40 * u + 16 + (f (40 * u + 32)).toNat / 2)).toNat + 16 * ((f (40 * u + 32)).toNat % 2)) 16 fun i => f2 (96 + i) := by
    unfold wrD
    rw [e32, show (fun i => f2 (96 + i)) = fun i => f (96 + i) from funext fun i => F1 _ (by (lia))]
  rw [← ed, ← e15, ← e32]
  try wtm_at "m:k"
  exact Endd.mk (by wtm_at "m:cut") ⟨f2, D2, A, rfl, rfl⟩
theorem c_write_next {d dx gl dl m : Addr} {D f : Nat → Int} {u : Nat} {x : Int} (hx : x = (40 * u : Nat)) (W : Wr u f D) :
    Call (TT w mg mb os) 11 (.ref 545) [.ref d, .int u, .ref m, .int x, .int 96] ((m, .list (tl 112 f)) :: DL d dx gl dl D) fun v' S' => ∃ c f' D', Wn u f D c f' D' ∧ v' = .int c ∧ S' = (m, .list (tl 112 f')) :: DL d dx gl dl D' := by
  subst hx
  have ha := W.F.ha
  have c0 := (W.F.oct (40 * u + 32) (by (lia))).1
  have cr := W.cr
  have low : NB f (40 * u) 8 < 128 := by obtain ⟨k, H, _⟩ := W.al; exact H.low
  refine CallC.call (n := 10 + 1) (CallC.drop ?_)
  refine' CallC.def (names := [Str.ofString "disk", Str.ofString "user", Str.ofString "memory", Str.ofString "at", Str.ofString "dma"]) ?ho ?hcd ?hb rfl ?nd ?hk ?hc ?ha ?h ?c1 ?c2 ?c3
  case ho => (show List.lookup _ (hd.heap_39 _) = some _); k_is
  case hcd => (show codeIn (hd.heap_39 _) _ _ = true); k_is
  case c1 => exact rfl
  case c2 => exact rfl
  case c3 => exact rfl
  case nd => decide
  case hc => decide
  case ha => decide +kernel
  case hb => exact valsS fun _ => valsS fun _ => valsS fun _ => valsS fun _ => valsS fun _ => vals0 rfl
  case hk => exact kindsN (by decide)
  intro c ok hf hn hs hc
  dsimp only [List.zip_cons_cons, List.zip_nil_right, List.zip_nil_left]
  refine WSs.gen fun kn kr hkn hkr => ?_
  have G_need_writable_disk := @g_need_writable_disk w mg mb os
  have K_need_writable_disk := @g_need_writable_diskK w mg mb os
  have G_need_writable_file := @g_need_writable_file w mg mb os
  have K_need_writable_file := @g_need_writable_fileK w mg mb os
  have G_DONE := @g_DONE w mg mb os
  have G_NO_DATA := @g_NO_DATA w mg mb os
  have G_write_here := @g_write_here w mg mb os
  have K_write_here := @g_write_hereK w mg mb os
  have G_name_at := @g_name_at w mg mb os
  have K_name_at := @g_name_atK w mg mb os
  have G_go_on := @g_go_on w mg mb os
  have K_go_on := @g_go_onK w mg mb os
  have G_set_current := @g_set_current w mg mb os
  have K_set_current := @g_set_currentK w mg mb os
  have G_current_at := @g_current_at w mg mb os
  have K_current_at := @g_current_atK w mg mb os
  wtm_at "m:ws"
  refine CallV.same (c_need_writable_disk) (by first | (rw [hn]; decide) | (lia)) (by wtm_at "m:cut") ?_
  wtm_at "m:ws"
  refine CallV.fr (c_name_at (a := 40 * u) ?_ ?_ ?_) (by first | (rw [hn]; decide) | (lia)) (by wtm_at "m:cut") ?_
  · wtm_at "m:side"
  · wtm_at "m:side"
  · wtm_at "m:side"
  refine ex1 fun y => ?_
  wtm_at "m:ws"
  refine CallV.same (c_need_writable_file (g := fun i => f (40 * u + 1 + i)) low) (by first | (rw [hn]; decide) | (lia)) (by wtm_at "m:cut") ?_
  refine WSs.cut (S₁ := (m, .list (tl 112 f)) :: DL d dx gl dl D) (by wtm_at "m:cut") ?_
  wtm_at "m:ws"
  refine CallV.same (c_go_on (a := 40 * u) ?_ ?_ ?_) (by first | (rw [hn]; decide) | (lia)) (by wtm_at "m:cut") ?_
  · wtm_at "m:side"
  · wtm_at "m:side"
  · wtm_at "m:side"
  wtm_at "m:ws"
  refine ⟨fun z => (by simp at z), fun _ => ?_⟩
  wtm_at "m:ws"
  refine CallV.fr (c_write_here (u := u) ?_ W) (by first | (rw [hn]; decide) | (lia)) (by wtm_at "m:cut") ?_
  · wtm_at "m:side"
  rintro _ _ ⟨f2, D2, A, rfl, rfl⟩
  obtain ⟨F1, F2, F3⟩ := A.facts W
  first | refine Asg.mk (put_newK (by kernel_rfl)) ?_ | refine ⟨_, put_newK (by kernel_rfl), ?_⟩
  wtm_at "m:ws"
  refine ⟨fun _ => ?_, fun z => (by simp at z)⟩
  wtm_at "m:ws"
  refine CallV.same (c_current_at (a := 40 * u) ?_ ?_ ?_) (by first | (rw [hn]; decide) | (lia)) (by wtm_at "m:cut") ?_
  · wtm_at "m:side"
  · wtm_at "m:side"
  · wtm_at "m:side"
  have e32 := F1 (40 * u + 32) (by (lia))
  rw [upd_ne (i := 40 * u + 32) (k := 40 * u + 14) (by (lia)), upd_ne (i := 40 * u + 32) (k := 40 * u + 15) (by (lia))]
  wtm_at "m:ws"
  refine CallV.fr (c_set_current (a := 40 * u) ?_ ?_ ?_ ?_ ?_) (by first | (rw [hn]; decide) | (lia)) (by wtm_at "m:cut") ?_
  · wtm_at "m:side"
  · wtm_at "m:side"
  · wtm_at "m:side"
  · wtm_at "m:side"
  · wtm_at "m:side"
  refine ex0 ?_
  wtm_at "m:ws"
  rw [show upd (upd (upd f2 (40 * u + 15) (max (f2 (40 * u + 15)) (f2 (40 * u + 32) + 1))) (40 * u + 14) 0) (40 * u + 32) (f2 (40 * u + 32) + 1) = wrF f2 (40 * u) from rfl]
  try wtm_at "m:k"
  exact Endd.mk (by wtm_at "m:cut") ⟨_, _, _, ⟨f2, D2, A, rfl, rfl, rfl⟩, rfl, rfl⟩

theorem c_done_make {d dx gl dl m : Addr} {D f : Nat → Int} {u : Nat} {n : Int} (hu : u < 2) (hn0 : 0 ≤ n) (hn1 : n < 200) (C : Can u n f D 0) :
    Call (TT w mg mb os) 12 (.ref 571) [.str (Str.ofString "make"), .ref d, .int u, .ref m, .int n] ((m, .list (tl 112 f)) :: DL d dx gl dl D) fun v' S' => ∃ gl' c f' D', Step u n f D 0 c f' D' ∧ v' = .int c ∧ S' = (m, .list (tl 112 f')) :: DL d dx gl' dl D' := by
  refine CallC.call (n := 11 + 1) (CallC.drop ?_)
  refine' CallC.def (names := [Str.ofString "deed", Str.ofString "disk", Str.ofString "user", Str.ofString "memory", Str.ofString "number"]) ?ho ?hcd ?hb rfl ?nd ?hk ?hc ?ha ?h ?c1 ?c2 ?c3
  case ho => (show List.lookup _ (hd.heap_39 _) = some _); k_is
  case hcd => (show codeIn (hd.heap_39 _) _ _ = true); k_is
  case c1 => exact rfl
  case c2 => exact rfl
  case c3 => exact rfl
  case nd => decide
  case hc => decide
  case ha => decide +kernel
  case hb => exact valsS fun _ => valsS fun _ => valsS fun _ => valsS fun _ => valsS fun _ => vals0 rfl
  case hk => exact kindsN (by decide)
  intro c ok hf hn hs hc
  dsimp only [List.zip_cons_cons, List.zip_nil_right, List.zip_nil_left]
  refine WSs.gen fun kn kr hkn hkr => ?_
  have G_write_next := @g_write_next w mg mb os
  have K_write_next := @g_write_nextK w mg mb os
  have G_set_random := @g_set_random w mg mb os
  have K_set_random := @g_set_randomK w mg mb os
  have G_read_random := @g_read_random w mg mb os
  have K_read_random := @g_read_randomK w mg mb os
  have G_read_next := @g_read_next w mg mb os
  have K_read_next := @g_read_nextK w mg mb os
  have G_tell_random := @g_tell_random w mg mb os
  have K_tell_random := @g_tell_randomK w mg mb os
  have G_new_fcb := @g_new_fcb w mg mb os
  have K_new_fcb := @g_new_fcbK w mg mb os
  have G_close_file := @g_close_file w mg mb os
  have K_close_file := @g_close_fileK w mg mb os
  have G_size_file := @g_size_file w mg mb os
  have K_size_file := @g_size_fileK w mg mb os
  have G_delete_file := @g_delete_file w mg mb os
  have K_delete_file := @g_delete_fileK w mg mb os
  have G_make_file := @g_make_file w mg mb os
  have K_make_file := @g_make_fileK w mg mb os
  have G_open_file := @g_open_file w mg mb os
  have K_open_file := @g_open_fileK w mg mb os
  have G_range := @g_range w mg mb os
  wtm_at "m:ws"
  refine Asg.mkE (v' := .int ((40 * u : Nat) : Int)) (congrArg V.int (by (lia))) (put_newK (by kernel_rfl)) ?_
  wtm_at "m:ws"
  refine ⟨no_t (by kernel_rfl), fun _ => ?_⟩
  wtm_at "m:ws"
  refine ⟨no_t (by kernel_rfl), fun _ => ?_⟩
  wtm_at "m:ws"
  refine ⟨no_t (by kernel_rfl), fun _ => ?_⟩
  wtm_at "m:ws"
  refine ⟨no_t (by kernel_rfl), fun _ => ?_⟩
  wtm_at "m:ws"
  refine ⟨by simp, fun tu => ?_⟩
  refine CmpV.inT (xs := [Str.ofString "make", Str.ofString "open"]) (by (show (tu, O.tup [V.str (Str.ofString "make"), V.str (Str.ofString "open")]) ∈ _); wtm_at "m:mem") ?_
  refine ⟨fun _ => ?_, no_f (by kernel_rfl)⟩
  with_reducible refine WSs.cons (WS.assignA ?qhn1 ?h1 ?h2 ?h3)
  case h1 => with_unfolding_all rfl
  case h2 => with_unfolding_all rfl
  case h3 => with_unfolding_all rfl
  wtm_at "m:ws"
  refine ⟨by simp, fun l1 => ?_⟩
  rw [show [V.int 65] = tl 1 (fun _ => 65) from rfl]
  wtm_at "m:ws"
  refine ⟨by simp, fun l2 => ?_⟩
  wtm_at "m:ws"
  refine BinV.repT 10 (by wtm_at "m:mem") (by decide) rfl fun l3 => ?_
  refine BinV.cat (by wtm_at "m:mem") (by wtm_at "m:mem") (by simp [tl_length]) fun l4 => ?_
  rw [app_tl]
  wtm_at "m:ws"
  refine CallV.fr (c_new_fcb) (by first | (rw [hn]; decide) | (lia)) (by wtm_at "m:cut") ?_
  refine ex1 fun l5 => ?_
  refine WA.slice2 ?_
  wtm_at "m:ws"
  rw [show ((40 * u : Nat) : Int) + 36 = ((40 * u + 36 : Nat) : Int) by (lia)]
  refine SlA.mk (l := m) (vs := tl 112 f) (by wtm_at "m:mem") (by simp [tl_length]) (by simp [tl_length]) (by wtm_at "m:chg") ?_
  rw [paste_tl (b := 40 * u + 36) rfl (by (lia))]
  rw [show (putAt f (40 * u) 36 fun i => if i < 12 then (if i < 1 then 0 else if i - 1 < 1 then 65 else 32) else 0) = NF f (40 * u) from putAt_ext fun i hi => by
    by_cases q : i < 12
    · rw [if_pos q, if_pos q]
      by_cases q1 : i < 1
      · rw [if_pos q1, if_pos q1]
      · rw [if_neg q1, if_neg q1]
        by_cases q2 : i - 1 = 0
        · rw [if_pos q2, if_pos (by (lia))]
        · rw [if_neg q2, if_neg (by (lia))]
    · rw [if_neg q, if_neg q]]
  refine WSs.cut (S₁ := (m, .list (tl 112 (NF f (40 * u)))) :: DL d dx gl dl D) (by wtm_at "m:cut") ?_
  have z12 : NF f (40 * u) (40 * u + 12) = 0 := nf_hi (by (lia)) (by (lia))
  wtm_at "m:ws"
  refine ⟨fun _ => ?_, no_f (by kernel_rfl)⟩
  obtain ⟨k, hk, e1, e2⟩ := C
  wtm_at "m:ws"
  refine CallV.fr (c_make_file (a := 40 * u) ?_ ?_ z12 hk e1 e2) (by first | (rw [hn]; decide) | (lia)) (by wtm_at "m:cut") ?_
  · wtm_at "m:side"
  · wtm_at "m:side"
  refine ex0 ?_
  try wtm_at "m:k"
  exact Endd.mk (by wtm_at "m:cut") ⟨gl, _, _, _, (⟨k, hk, e1, e2, rfl, rfl, rfl⟩ : Mk u f D _ _ _), rfl, rfl⟩
theorem c_done_open {d dx gl dl m : Addr} {D f : Nat → Int} {u : Nat} {n : Int} (hu : u < 2) (hn0 : 0 ≤ n) (hn1 : n < 200) (C : Can u n f D 1) :
    Call (TT w mg mb os) 12 (.ref 571) [.str (Str.ofString "open"), .ref d, .int u, .ref m, .int n] ((m, .list (tl 112 f)) :: DL d dx gl dl D) fun v' S' => ∃ gl' c f' D', Step u n f D 1 c f' D' ∧ v' = .int c ∧ S' = (m, .list (tl 112 f')) :: DL d dx gl' dl D' := by
  refine CallC.call (n := 11 + 1) (CallC.drop ?_)
  refine' CallC.def (names := [Str.ofString "deed", Str.ofString "disk", Str.ofString "user", Str.ofString "memory", Str.ofString "number"]) ?ho ?hcd ?hb rfl ?nd ?hk ?hc ?ha ?h ?c1 ?c2 ?c3
  case ho => (show List.lookup _ (hd.heap_39 _) = some _); k_is
  case hcd => (show codeIn (hd.heap_39 _) _ _ = true); k_is
  case c1 => exact rfl
  case c2 => exact rfl
  case c3 => exact rfl
  case nd => decide
  case hc => decide
  case ha => decide +kernel
  case hb => exact valsS fun _ => valsS fun _ => valsS fun _ => valsS fun _ => valsS fun _ => vals0 rfl
  case hk => exact kindsN (by decide)
  intro c ok hf hn hs hc
  dsimp only [List.zip_cons_cons, List.zip_nil_right, List.zip_nil_left]
  refine WSs.gen fun kn kr hkn hkr => ?_
  have G_write_next := @g_write_next w mg mb os
  have K_write_next := @g_write_nextK w mg mb os
  have G_set_random := @g_set_random w mg mb os
  have K_set_random := @g_set_randomK w mg mb os
  have G_read_random := @g_read_random w mg mb os
  have K_read_random := @g_read_randomK w mg mb os
  have G_read_next := @g_read_next w mg mb os
  have K_read_next := @g_read_nextK w mg mb os
  have G_tell_random := @g_tell_random w mg mb os
  have K_tell_random := @g_tell_randomK w mg mb os
  have G_new_fcb := @g_new_fcb w mg mb os
  have K_new_fcb := @g_new_fcbK w mg mb os
  have G_close_file := @g_close_file w mg mb os
  have K_close_file := @g_close_fileK w mg mb os
  have G_size_file := @g_size_file w mg mb os
  have K_size_file := @g_size_fileK w mg mb os
  have G_delete_file := @g_delete_file w mg mb os
  have K_delete_file := @g_delete_fileK w mg mb os
  have G_make_file := @g_make_file w mg mb os
  have K_make_file := @g_make_fileK w mg mb os
  have G_open_file := @g_open_file w mg mb os
  have K_open_file := @g_open_fileK w mg mb os
  have G_range := @g_range w mg mb os
  wtm_at "m:ws"
  refine Asg.mkE (v' := .int ((40 * u : Nat) : Int)) (congrArg V.int (by (lia))) (put_newK (by kernel_rfl)) ?_
  wtm_at "m:ws"
  refine ⟨no_t (by kernel_rfl), fun _ => ?_⟩
  wtm_at "m:ws"
  refine ⟨no_t (by kernel_rfl), fun _ => ?_⟩
  wtm_at "m:ws"
  refine ⟨no_t (by kernel_rfl), fun _ => ?_⟩
  wtm_at "m:ws"
  refine ⟨no_t (by kernel_rfl), fun _ => ?_⟩
  wtm_at "m:ws"
  refine ⟨by simp, fun tu => ?_⟩
  refine CmpV.inT (xs := [Str.ofString "make", Str.ofString "open"]) (by (show (tu, O.tup [V.str (Str.ofString "make"), V.str (Str.ofString "open")]) ∈ _); wtm_at "m:mem") ?_
  refine ⟨fun _ => ?_, no_f (by kernel_rfl)⟩
  with_reducible refine WSs.cons (WS.assignA ?qhn2 ?h1 ?h2 ?h3)
  case h1 => with_unfolding_all rfl
  case h2 => with_unfolding_all rfl
  case h3 => with_unfolding_all rfl
  wtm_at "m:ws"
  refine ⟨by simp, fun l1 => ?_⟩
  rw [show [V.int 65] = tl 1 (fun _ => 65) from rfl]
  wtm_at "m:ws"
  refine ⟨by simp, fun l2 => ?_⟩
  wtm_at "m:ws"
  refine BinV.repT 10 (by wtm_at "m:mem") (by decide) rfl fun l3 => ?_
  refine BinV.cat (by wtm_at "m:mem") (by wtm_at "m:mem") (by simp [tl_length]) fun l4 => ?_
  rw [app_tl]
  wtm_at "m:ws"
  refine CallV.fr (c_new_fcb) (by first | (rw [hn]; decide) | (lia)) (by wtm_at "m:cut") ?_
  refine ex1 fun l5 => ?_
  refine WA.slice2 ?_
  wtm_at "m:ws"
  rw [show ((40 * u : Nat) : Int) + 36 = ((40 * u + 36 : Nat) : Int) by (lia)]
  refine SlA.mk (l := m) (vs := tl 112 f) (by wtm_at "m:mem") (by simp [tl_length]) (by simp [tl_length]) (by wtm_at "m:chg") ?_
  rw [paste_tl (b := 40 * u + 36) rfl (by (lia))]
  rw [show (putAt f (40 * u) 36 fun i => if i < 12 then (if i < 1 then 0 else if i - 1 < 1 then 65 else 32) else 0) = NF f (40 * u) from putAt_ext fun i hi => by
    by_cases q : i < 12
    · rw [if_pos q, if_pos q]
      by_cases q1 : i < 1
      · rw [if_pos q1, if_pos q1]
      · rw [if_neg q1, if_neg q1]
        by_cases q2 : i - 1 = 0
        · rw [if_pos q2, if_pos (by (lia))]
        · rw [if_neg q2, if_neg (by (lia))]
    · rw [if_neg q, if_neg q]]
  refine WSs.cut (S₁ := (m, .list (tl 112 (NF f (40 * u)))) :: DL d dx gl dl D) (by wtm_at "m:cut") ?_
  have z12 : NF f (40 * u) (40 * u + 12) = 0 := nf_hi (by (lia)) (by (lia))
  wtm_at "m:ws"
  refine ⟨no_t (by kernel_rfl), fun _ => ?_⟩
  rcases C with H | ⟨k, H⟩
  · wtm_at "m:ws"
    refine CallV.fr (c_open_file_none (a := 40 * u) ?_ ?_ z12 H) (by first | (rw [hn]; decide) | (lia)) (by wtm_at "m:cut") ?_
    · wtm_at "m:side"
    · wtm_at "m:side"
    refine ex0 ?_
    try wtm_at "m:k"
    exact Endd.mk (by wtm_at "m:cut") ⟨gl, _, _, _, (⟨rfl, .inl ⟨H, rfl, rfl⟩⟩ : Op u f D _ _ _), rfl, rfl⟩
  · wtm_at "m:ws"
    refine CallV.fr (c_open_file (a := 40 * u) ?_ ?_ z12 H) (by first | (rw [hn]; decide) | (lia)) (by wtm_at "m:cut") ?_
    · wtm_at "m:side"
    · wtm_at "m:side"
    refine ex0 ?_
    try wtm_at "m:k"
    exact Endd.mk (by wtm_at "m:cut") ⟨gl, _, _, _, (⟨rfl, .inr ⟨k, H, rfl, rfl⟩⟩ : Op u f D _ _ _), rfl, rfl⟩
theorem c_done_size {d dx gl dl m : Addr} {D f : Nat → Int} {u : Nat} {n : Int} (hu : u < 2) (hn0 : 0 ≤ n) (hn1 : n < 200) (C : Can u n f D 2) :
    Call (TT w mg mb os) 12 (.ref 571) [.str (Str.ofString "size"), .ref d, .int u, .ref m, .int n] ((m, .list (tl 112 f)) :: DL d dx gl dl D) fun v' S' => ∃ gl' c f' D', Step u n f D 2 c f' D' ∧ v' = .int c ∧ S' = (m, .list (tl 112 f')) :: DL d dx gl' dl D' := by
  refine CallC.call (n := 11 + 1) (CallC.drop ?_)
  refine' CallC.def (names := [Str.ofString "deed", Str.ofString "disk", Str.ofString "user", Str.ofString "memory", Str.ofString "number"]) ?ho ?hcd ?hb rfl ?nd ?hk ?hc ?ha ?h ?c1 ?c2 ?c3
  case ho => (show List.lookup _ (hd.heap_39 _) = some _); k_is
  case hcd => (show codeIn (hd.heap_39 _) _ _ = true); k_is
  case c1 => exact rfl
  case c2 => exact rfl
  case c3 => exact rfl
  case nd => decide
  case hc => decide
  case ha => decide +kernel
  case hb => exact valsS fun _ => valsS fun _ => valsS fun _ => valsS fun _ => valsS fun _ => vals0 rfl
  case hk => exact kindsN (by decide)
  intro c ok hf hn hs hc
  dsimp only [List.zip_cons_cons, List.zip_nil_right, List.zip_nil_left]
  refine WSs.gen fun kn kr hkn hkr => ?_
  have G_write_next := @g_write_next w mg mb os
  have K_write_next := @g_write_nextK w mg mb os
  have G_set_random := @g_set_random w mg mb os
  have K_set_random := @g_set_randomK w mg mb os
  have G_read_random := @g_read_random w mg mb os
  have K_read_random := @g_read_randomK w mg mb os
  have G_read_next := @g_read_next w mg mb os
  have K_read_next := @g_read_nextK w mg mb os
  have G_tell_random := @g_tell_random w mg mb os
  have K_tell_random := @g_tell_randomK w mg mb os
  have G_new_fcb := @g_new_fcb w mg mb os
  have K_new_fcb := @g_new_fcbK w mg mb os
  have G_close_file := @g_close_file w mg mb os
  have K_close_file := @g_close_fileK w mg mb os
  have G_size_file := @g_size_file w mg mb os
  have K_size_file := @g_size_fileK w mg mb os
  have G_delete_file := @g_delete_file w mg mb os
  have K_delete_file := @g_delete_fileK w mg mb os
  have G_make_file := @g_make_file w mg mb os
  have K_make_file := @g_make_fileK w mg mb os
  have G_open_file := @g_open_file w mg mb os
  have K_open_file := @g_open_fileK w mg mb os
  have G_range := @g_range w mg mb os
  wtm_at "m:ws"
  refine Asg.mkE (v' := .int ((40 * u : Nat) : Int)) (congrArg V.int (by (lia))) (put_newK (by kernel_rfl)) ?_
  wtm_at "m:ws"
  refine ⟨no_t (by kernel_rfl), fun _ => ?_⟩
  wtm_at "m:ws"
  refine ⟨no_t (by kernel_rfl), fun _ => ?_⟩
  wtm_at "m:ws"
  refine ⟨no_t (by kernel_rfl), fun _ => ?_⟩
  wtm_at "m:ws"
  refine ⟨no_t (by kernel_rfl), fun _ => ?_⟩
  wtm_at "m:ws"
  refine ⟨by simp, fun tu => ?_⟩
  refine CmpV.inT (xs := [Str.ofString "make", Str.ofString "open"]) (by (show (tu, O.tup [V.str (Str.ofString "make"), V.str (Str.ofString "open")]) ∈ _); wtm_at "m:mem") ?_
  refine ⟨no_t (by kernel_rfl), fun _ => ?_⟩
  refine WSs.nil ?_
  with_reducible refine WSs.cons (WS.assign ok ?q1n3 (WE.subDict (hs := scr_name) ?q2n3 ?q3n3 ?q4n3 ?q5n3 ?qhn3) swaps_sub)
  case q1n3 => wtm_at "m:kind"
  case q2n3 => rfl
  case q3n3 => rfl
  case q4n3 => exact List.cons_ne_nil _ _
  case q5n3 => decide
  with_reducible refine WPs.cons ?_
  wtm_at "m:ws"
  with_reducible refine WPs.cons ?_
  wtm_at "m:ws"
  with_reducible refine WPs.cons ?_
  wtm_at "m:ws"
  with_reducible refine WPs.nil ⟨?q1n4, ?qhn4⟩
  case q1n4 => decide +kernel
  wtm_at "m:ws"
  refine ⟨_, .ref 482, rfl, by kernel_rfl, ?_⟩
  first | refine Asg.mk (put_newK (by kernel_rfl)) ?_ | refine ⟨_, put_newK (by kernel_rfl), ?_⟩
  with_reducible refine WSs.cons (WS.ret (WE.call ok (WE.name ok (by wtm_at "m:mem") ⟨K_size_file, ?qhn5⟩ ?q3n5) ?q1n5 ?q2n5))
  case q1n5 => with_unfolding_all rfl
  case q2n5 => with_unfolding_all rfl
  case q3n5 => with_unfolding_all decide
  wtm_at "m:ws"
  rcases C with H | ⟨k, H⟩
  · refine CallV.fr (c_size_file_none (a := 40 * u) ?_ ?_ H) (by first | (rw [hn]; decide) | (lia)) (by wtm_at "m:cut") ?_
    · wtm_at "m:side"
    · wtm_at "m:side"
    refine ex0 ?_
    try wtm_at "m:k"
    exact Endd.mk (by wtm_at "m:cut") ⟨gl, _, _, _, (⟨rfl, .inl ⟨H, rfl, rfl⟩⟩ : Sz u f D _ _ _), rfl, rfl⟩
  · refine CallV.fr (c_size_file (a := 40 * u) ?_ ?_ H) (by first | (rw [hn]; decide) | (lia)) (by wtm_at "m:cut") ?_
    · wtm_at "m:side"
    · wtm_at "m:side"
    refine ex0 ?_
    try wtm_at "m:k"
    exact Endd.mk (by wtm_at "m:cut") ⟨gl, _, _, _, (⟨rfl, .inr ⟨k, H, rfl, rfl⟩⟩ : Sz u f D _ _ _), rfl, rfl⟩
theorem c_done_write {d dx gl dl m : Addr} {D f : Nat → Int} {u : Nat} {n : Int} (hu : u < 2) (hn0 : 0 ≤ n) (hn1 : n < 200) (C : Can u n f D 3) :
    Call (TT w mg mb os) 12 (.ref 571) [.str (Str.ofString "write"), .ref d, .int u, .ref m, .int n] ((m, .list (tl 112 f)) :: DL d dx gl dl D) fun v' S' => ∃ gl' c f' D', Step u n f D 3 c f' D' ∧ v' = .int c ∧ S' = (m, .list (tl 112 f')) :: DL d dx gl' dl D' := by
  refine CallC.call (n := 11 + 1) (CallC.drop ?_)
  refine' CallC.def (names := [Str.ofString "deed", Str.ofString "disk", Str.ofString "user", Str.ofString "memory", Str.ofString "number"]) ?ho ?hcd ?hb rfl ?nd ?hk ?hc ?ha ?h ?c1 ?c2 ?c3
  case ho => (show List.lookup _ (hd.heap_39 _) = some _); k_is
  case hcd => (show codeIn (hd.heap_39 _) _ _ = true); k_is
  case c1 => exact rfl
  case c2 => exact rfl
  case c3 => exact rfl
  case nd => decide
  case hc => decide
  case ha => decide +kernel
  case hb => exact valsS fun _ => valsS fun _ => valsS fun _ => valsS fun _ => valsS fun _ => vals0 rfl
  case hk => exact kindsN (by decide)
  intro c ok hf hn hs hc
  dsimp only [List.zip_cons_cons, List.zip_nil_right, List.zip_nil_left]
  refine WSs.gen fun kn kr hkn hkr => ?_
  have G_write_next := @g_write_next w mg mb os
  have K_write_next := @g_write_nextK w mg mb os
  have G_set_random := @g_set_random w mg mb os
  have K_set_random := @g_set_randomK w mg mb os
  have G_read_random := @g_read_random w mg mb os
  have K_read_random := @g_read_randomK w mg mb os
  have G_read_next := @g_read_next w mg mb os
  have K_read_next := @g_read_nextK w mg mb os
  have G_tell_random := @g_tell_random w mg mb os
  have K_tell_random := @g_tell_randomK w mg mb os
  have G_new_fcb := @g_new_fcb w mg mb os
  have K_new_fcb := @g_new_fcbK w mg mb os
  have G_close_file := @g_close_file w mg mb os
  have K_close_file := @g_close_fileK w mg mb os
  have G_size_file := @g_size_file w mg mb os
  have K_size_file := @g_size_fileK w mg mb os
  have G_delete_file := @g_delete_file w mg mb os
  have K_delete_file := @g_delete_fileK w mg mb os
  have G_make_file := @g_make_file w mg mb os
  have K_make_file := @g_make_fileK w mg mb os
  have G_open_file := @g_open_file w mg mb os
  have K_open_file := @g_open_fileK w mg mb os
  have G_range := @g_range w mg mb os
  wtm_at "m:ws"
  refine Asg.mkE (v' := .int ((40 * u : Nat) : Int)) (congrArg V.int (by (lia))) (put_newK (by kernel_rfl)) ?_
  wtm_at "m:ws"
  refine ⟨fun _ => ?_, no_f (by kernel_rfl)⟩
  with_reducible refine WSs.cons (WS.assignA ?qhn6 ?h1 ?h2 ?h3)
  case h1 => with_unfolding_all rfl
  case h2 => with_unfolding_all rfl
  case h3 => with_unfolding_all rfl
  refine WE.comp (ext := fun a => [(Str.ofString "spot", a)]) ([(Str.ofString "number", .int n), (Str.ofString "user", .int u)] : Loc) ok (free_ok hs hc (by decide)) (by decide) (by decide) rfl ?hr ?nd (fun c₂ ok₂ k₂ => bnd_name ok₂ (Kinds.at k₂ (by decide))) (fun a => put_newK (by kernel_rfl)) ?_
  case hr => wtm_at "m:hr"
  case nd => exact nd_of (ns := [Str.ofString "number", Str.ofString "user"]) rfl (by decide)
  refine WI.range (WE.bi ok g_range (by wtm_at "m:kind") ⟨rfl, ?_⟩)
  wtm_at "m:ws"
  refine ⟨_, rfl, by (lia), by (lia), ?_⟩
  intro c₂ ok₂ hf₂ hn₂ hs₂
  rw [show (16 : Int).toNat = 16 from rfl, nums_map]
  refine comp_map (fun i => .int (pat n u i)) (by (lia)) trivial (fun i hi => ?_) (fun z => ?_)
  · wtm_at "m:ws"
    (try wtm_at "m:k"); exact ⟨by rw [Int.zero_add]; rfl, _, Cut.refl⟩
  · rw [tl_map]
    refine WA.slice2 ?_
    wtm_at "m:ws"
    refine SlA.mk (l := m) (vs := tl 112 f) (by wtm_at "m:mem") (by simp [tl_length]) (by simp [tl_length]) (by wtm_at "m:chg") ?_
    rw [show paste (tl 112 f) (tl 16 (pat n u)) (some 96) (some 112) = tl 112 (putAt f 96 16 (pat n u)) from paste_tl (a := 96) (b := 112) rfl (by (lia))]
    have W : Wr u (putAt f 96 16 (pat n u)) D := C
    wtm_at "m:ws"
    refine CallV.fr (c_write_next (u := u) ?_ W) (by first | (rw [hn]; decide) | (lia)) (by wtm_at "m:cut") ?_
    · wtm_at "m:side"
    rintro _ _ ⟨c, f', D', Q, rfl, rfl⟩
    try wtm_at "m:k"
    exact Endd.mk (by wtm_at "m:cut") ⟨gl, c, f', D', Q, rfl, rfl⟩
theorem c_done_next {d dx gl dl m : Addr} {D f : Nat → Int} {u : Nat} {n : Int} (hu : u < 2) (hn0 : 0 ≤ n) (hn1 : n < 200) (C : Can u n f D 4) :
    Call (TT w mg mb os) 12 (.ref 571) [.str (Str.ofString "next"), .ref d, .int u, .ref m, .int n] ((m, .list (tl 112 f)) :: DL d dx gl dl D) fun v' S' => ∃ gl' c f' D', Step u n f D 4 c f' D' ∧ v' = .int c ∧ S' = (m, .list (tl 112 f')) :: DL d dx gl' dl D' := by
  refine CallC.call (n := 11 + 1) (CallC.drop ?_)
  refine' CallC.def (names := [Str.ofString "deed", Str.ofString "disk", Str.ofString "user", Str.ofString "memory", Str.ofString "number"]) ?ho ?hcd ?hb rfl ?nd ?hk ?hc ?ha ?h ?c1 ?c2 ?c3
  case ho => (show List.lookup _ (hd.heap_39 _) = some _); k_is
  case hcd => (show codeIn (hd.heap_39 _) _ _ = true); k_is
  case c1 => exact rfl
  case c2 => exact rfl
  case c3 => exact rfl
  case nd => decide
  case hc => decide
  case ha => decide +kernel
  case hb => exact valsS fun _ => valsS fun _ => valsS fun _ => valsS fun _ => valsS fun _ => vals0 rfl
  case hk => exact kindsN (by decide)
  intro c ok hf hn hs hc
  dsimp only [List.zip_cons_cons, List.zip_nil_right, List.zip_nil_left]
  refine WSs.gen fun kn kr hkn hkr => ?_
  have G_write_next := @g_write_next w mg mb os
  have K_write_next := @g_write_nextK w mg mb os
  have G_set_random := @g_set_random w mg mb os
  have K_set_random := @g_set_randomK w mg mb os
  have G_read_random := @g_read_random w mg mb os
  have K_read_random := @g_read_randomK w mg mb os
  have G_read_next := @g_read_next w mg mb os
  have K_read_next := @g_read_nextK w mg mb os
  have G_tell_random := @g_tell_random w mg mb os
  have K_tell_random := @g_tell_randomK w mg mb os
  have G_new_fcb := @g_new_fcb w mg mb os
  have K_new_fcb := @g_new_fcbK w mg mb os
  have G_close_file := @g_close_file w mg mb os
  have K_close_file := @g_close_fileK w mg mb os
  have G_size_file := @g_size_file w mg mb os
  have K_size_file := @g_size_fileK w mg mb os
  have G_delete_file := @g_delete_file w mg mb os
  have K_delete_file := @g_delete_fileK w mg mb os
  have G_make_file := @g_make_file w mg mb os
  have K_make_file := @g_make_fileK w mg mb os
  have G_open_file := @g_open_file w mg mb os
  have K_open_file := @g_open_fileK w mg mb os
  have G_range := @g_range w mg mb os
  wtm_at "m:ws"
  refine Asg.mkE (v' := .int ((40 * u : Nat) : Int)) (congrArg V.int (by (lia))) (put_newK (by kernel_rfl)) ?_
  wtm_at "m:ws"
  refine ⟨no_t (by kernel_rfl), fun _ => ?_⟩
  wtm_at "m:ws"
  refine ⟨no_t (by kernel_rfl), fun _ => ?_⟩
  wtm_at "m:ws"
  refine ⟨fun _ => ?_, no_f (by kernel_rfl)⟩
  wtm_at "m:ws"
  have R : Rd f (40 * u) D := C
  refine CallV.fr (c_read_next (a := 40 * u) ?_ R) (by first | (rw [hn]; decide) | (lia)) (by wtm_at "m:cut") ?_
  · wtm_at "m:side"
  refine ex0 ?_
  try wtm_at "m:k"
  exact Endd.mk (by wtm_at "m:cut") ⟨gl, _, _, _, (⟨rfl, rfl, rfl⟩ : Rn u f D _ _ _), rfl, rfl⟩
theorem c_done_number {d dx gl dl m : Addr} {D f : Nat → Int} {u : Nat} {n : Int} (hu : u < 2) (hn0 : 0 ≤ n) (hn1 : n < 200) (C : Can u n f D 5) :
    Call (TT w mg mb os) 12 (.ref 571) [.str (Str.ofString "number"), .ref d, .int u, .ref m, .int n] ((m, .list (tl 112 f)) :: DL d dx gl dl D) fun v' S' => ∃ gl' c f' D', Step u n f D 5 c f' D' ∧ v' = .int c ∧ S' = (m, .list (tl 112 f')) :: DL d dx gl' dl D' := by
  refine CallC.call (n := 11 + 1) (CallC.drop ?_)
  refine' CallC.def (names := [Str.ofString "deed", Str.ofString "disk", Str.ofString "user", Str.ofString "memory", Str.ofString "number"]) ?ho ?hcd ?hb rfl ?nd ?hk ?hc ?ha ?h ?c1 ?c2 ?c3
  case ho => (show List.lookup _ (hd.heap_39 _) = some _); k_is
  case hcd => (show codeIn (hd.heap_39 _) _ _ = true); k_is
  case c1 => exact rfl
  case c2 => exact rfl
  case c3 => exact rfl
  case nd => decide
  case hc => decide
  case ha => decide +kernel
  case hb => exact valsS fun _ => valsS fun _ => valsS fun _ => valsS fun _ => valsS fun _ => vals0 rfl
  case hk => exact kindsN (by decide)
  intro c ok hf hn hs hc
  dsimp only [List.zip_cons_cons, List.zip_nil_right, List.zip_nil_left]
  refine WSs.gen fun kn kr hkn hkr => ?_
  have G_write_next := @g_write_next w mg mb os
  have K_write_next := @g_write_nextK w mg mb os
  have G_set_random := @g_set_random w mg mb os
  have K_set_random := @g_set_randomK w mg mb os
  have G_read_random := @g_read_random w mg mb os
  have K_read_random := @g_read_randomK w mg mb os
  have G_read_next := @g_read_next w mg mb os
  have K_read_next := @g_read_nextK w mg mb os
  have G_tell_random := @g_tell_random w mg mb os
  have K_tell_random := @g_tell_randomK w mg mb os
  have G_new_fcb := @g_new_fcb w mg mb os
  have K_new_fcb := @g_new_fcbK w mg mb os
  have G_close_file := @g_close_file w mg mb os
  have K_close_file := @g_close_fileK w mg mb os
  have G_size_file := @g_size_file w mg mb os
  have K_size_file := @g_size_fileK w mg mb os
  have G_delete_file := @g_delete_file w mg mb os
  have K_delete_file := @g_delete_fileK w mg mb os
  have G_make_file := @g_make_file w mg mb os
  have K_make_file := @g_make_fileK w mg mb os
  have G_open_file := @g_open_file w mg mb os
  have K_open_file := @g_open_fileK w mg mb os
  have G_range := @g_range w mg mb os
  wtm_at "m:ws"
  refine Asg.mkE (v' := .int ((40 * u : Nat) : Int)) (congrArg V.int (by (lia))) (put_newK (by kernel_rfl)) ?_
  wtm_at "m:ws"
  refine ⟨no_t (by kernel_rfl), fun _ => ?_⟩
  wtm_at "m:ws"
  refine ⟨fun _ => ?_, no_f (by kernel_rfl)⟩
  obtain ⟨C1, C2, C3⟩ := C
  have h33 : (putAt f (40 * u + 33) 3 fun i => if i = 0 then 3 else 0) (40 * u + 33) = 3 := by rw [putAt_in (by (lia)), if_pos (by (lia))]
  have h34 : (putAt f (40 * u + 33) 3 fun i => if i = 0 then 3 else 0) (40 * u + 34) = 0 := by rw [putAt_in (by (lia)), if_neg (by (lia))]
  have h35 : (putAt f (40 * u + 33) 3 fun i => if i = 0 then 3 else 0) (40 * u + 35) = 0 := by rw [putAt_in (by (lia)), if_neg (by (lia))]
  have F2 := C2.rnd (v := 3) (by decide)
  have e3 : upd (putAt f (40 * u + 33) 3 fun i => if i = 0 then 3 else 0) (40 * u + 32) ((putAt f (40 * u + 33) 3 fun i => if i = 0 then 3 else 0) (40 * u + 33)) = n3 f (40 * u) := by rw [h33]; rfl
  have R : Rd (upd (putAt f (40 * u + 33) 3 fun i => if i = 0 then 3 else 0) (40 * u + 32) ((putAt f (40 * u + 33) 3 fun i => if i = 0 then 3 else 0) (40 * u + 33))) (40 * u) D := by rw [e3]; exact C3
  have hlt : (putAt f (40 * u + 33) 3 fun i => if i = 0 then 3 else 0) (40 * u + 33) < 32 := by rw [h33]; decide
  wtm_at "m:ws"
  rw [C1]
  refine CallV.fr (c_set_random (a := 40 * u) ?_ ?_ ?_ ?_ ?_) (by first | (rw [hn]; decide) | (lia)) (by wtm_at "m:cut") ?_
  · wtm_at "m:side"
  · wtm_at "m:side"
  · wtm_at "m:side"
  · wtm_at "m:side"
  · wtm_at "m:side"
  refine ex0 ?_
  wtm_at "m:ws"
  refine CallV.fr (c_read_random (a := 40 * u) ?_ F2 hlt h34 h35 R) (by first | (rw [hn]; decide) | (lia)) (by wtm_at "m:cut") ?_
  · wtm_at "m:side"
  refine ex0 ?_
  rw [e3]
  try wtm_at "m:k"
  exact Endd.mk (by wtm_at "m:cut") ⟨gl, _, _, _, (⟨rfl, rfl, rfl⟩ : Nu u f D _ _ _), rfl, rfl⟩
theorem c_done_close {d dx gl dl m : Addr} {D f : Nat → Int} {u : Nat} {n : Int} (hu : u < 2) (hn0 : 0 ≤ n) (hn1 : n < 200) (C : Can u n f D 6) :
    Call (TT w mg mb os) 12 (.ref 571) [.str (Str.ofString "close"), .ref d, .int u, .ref m, .int n] ((m, .list (tl 112 f)) :: DL d dx gl dl D) fun v' S' => ∃ gl' c f' D', Step u n f D 6 c f' D' ∧ v' = .int c ∧ S' = (m, .list (tl 112 f')) :: DL d dx gl' dl D' := by
  refine CallC.call (n := 11 + 1) (CallC.drop ?_)
  refine' CallC.def (names := [Str.ofString "deed", Str.ofString "disk", Str.ofString "user", Str.ofString "memory", Str.ofString "number"]) ?ho ?hcd ?hb rfl ?nd ?hk ?hc ?ha ?h ?c1 ?c2 ?c3
  case ho => (show List.lookup _ (hd.heap_39 _) = some _); k_is
  case hcd => (show codeIn (hd.heap_39 _) _ _ = true); k_is
  case c1 => exact rfl
  case c2 => exact rfl
  case c3 => exact rfl
  case nd => decide
  case hc => decide
  case ha => decide +kernel
  case hb => exact valsS fun _ => valsS fun _ => valsS fun _ => valsS fun _ => valsS fun _ => vals0 rfl
  case hk => exact kindsN (by decide)
  intro c ok hf hn hs hc
  dsimp only [List.zip_cons_cons, List.zip_nil_right, List.zip_nil_left]
  refine WSs.gen fun kn kr hkn hkr => ?_
  have G_write_next := @g_write_next w mg mb os
  have K_write_next := @g_write_nextK w mg mb os
  have G_set_random := @g_set_random w mg mb os
  have K_set_random := @g_set_randomK w mg mb os
  have G_read_random := @g_read_random w mg mb os
  have K_read_random := @g_read_randomK w mg mb os
  have G_read_next := @g_read_next w mg mb os
  have K_read_next := @g_read_nextK w mg mb os
  have G_tell_random := @g_tell_random w mg mb os
  have K_tell_random := @g_tell_randomK w mg mb os
  have G_new_fcb := @g_new_fcb w mg mb os
  have K_new_fcb := @g_new_fcbK w mg mb os
  have G_close_file := @g_close_file w mg mb os
  have K_close_file := @g_close_fileK w mg mb os
  have G_size_file := @g_size_file w mg mb os
  have K_size_file := @g_size_fileK w mg mb os
  have G_delete_file := @g_delete_file w mg mb os
  have K_delete_file := @g_delete_fileK w mg mb os
  have G_make_file := @g_make_file w mg mb os
  have K_make_file := @g_make_fileK w mg mb os
  have G_open_file := @g_open_file w mg mb os
  have K_open_file := @g_open_fileK w mg mb os
  have G_range := @g_range w mg mb os
  wtm_at "m:ws"
  refine Asg.mkE (v' := .int ((40 * u : Nat) : Int)) (congrArg V.int (by (lia))) (put_newK (by kernel_rfl)) ?_
  wtm_at "m:ws"
  refine ⟨no_t (by kernel_rfl), fun _ => ?_⟩
  wtm_at "m:ws"
  refine ⟨no_t (by kernel_rfl), fun _ => ?_⟩
  wtm_at "m:ws"
  refine ⟨no_t (by kernel_rfl), fun _ => ?_⟩
  wtm_at "m:ws"
  refine ⟨no_t (by kernel_rfl), fun _ => ?_⟩
  wtm_at "m:ws"
  refine ⟨by simp, fun tu => ?_⟩
  refine CmpV.inT (xs := [Str.ofString "make", Str.ofString "open"]) (by (show (tu, O.tup [V.str (Str.ofString "make"), V.str (Str.ofString "open")]) ∈ _); wtm_at "m:mem") ?_
  refine ⟨no_t (by kernel_rfl), fun _ => ?_⟩
  refine WSs.nil ?_
  with_reducible refine WSs.cons (WS.assign ok ?q1n7 (WE.subDict (hs := scr_name) ?q2n7 ?q3n7 ?q4n7 ?q5n7 ?qhn7) swaps_sub)
  case q1n7 => wtm_at "m:kind"
  case q2n7 => rfl
  case q3n7 => rfl
  case q4n7 => exact List.cons_ne_nil _ _
  case q5n7 => decide
  with_reducible refine WPs.cons ?_
  wtm_at "m:ws"
  with_reducible refine WPs.cons ?_
  wtm_at "m:ws"
  with_reducible refine WPs.cons ?_
  wtm_at "m:ws"
  with_reducible refine WPs.nil ⟨?q1n8, ?qhn8⟩
  case q1n8 => decide +kernel
  wtm_at "m:ws"
  refine ⟨_, .ref 454, rfl, by kernel_rfl, ?_⟩
  first | refine Asg.mk (put_newK (by kernel_rfl)) ?_ | refine ⟨_, put_newK (by kernel_rfl), ?_⟩
  with_reducible refine WSs.cons (WS.ret (WE.call ok (WE.name ok (by wtm_at "m:mem") ⟨K_close_file, ?qhn9⟩ ?q3n9) ?q1n9 ?q2n9))
  case q1n9 => with_unfolding_all rfl
  case q2n9 => with_unfolding_all rfl
  case q3n9 => with_unfolding_all decide
  wtm_at "m:ws"
  rcases C with h | ⟨h, F, k, H, hm⟩
  · refine CallV.fr (c_close_file_same (a := 40 * u) ?_ ?_ h) (by first | (rw [hn]; decide) | (lia)) (by wtm_at "m:cut") ?_
    · wtm_at "m:side"
    · wtm_at "m:side"
    refine ex0 ?_
    try wtm_at "m:k"
    exact Endd.mk (by wtm_at "m:cut") ⟨gl, _, _, _, (⟨rfl, .inl ⟨h, rfl, rfl⟩⟩ : Cl u f D _ _ _), rfl, rfl⟩
  · refine CallV.fr (c_close_file (a := 40 * u) ?_ F h H hm) (by first | (rw [hn]; decide) | (lia)) (by wtm_at "m:cut") ?_
    · wtm_at "m:side"
    rintro _ _ ⟨rfl, gl2, rfl⟩
    try wtm_at "m:k"
    exact Endd.mk (by wtm_at "m:cut") ⟨gl2, _, _, _, (⟨rfl, .inr ⟨h, k, H, rfl, rfl⟩⟩ : Cl u f D _ _ _), rfl, rfl⟩
theorem c_done_where {d dx gl dl m : Addr} {D f : Nat → Int} {u : Nat} {n : Int} (hu : u < 2) (hn0 : 0 ≤ n) (hn1 : n < 200) (C : Can u n f D 7) :
    Call (TT w mg mb os) 12 (.ref 571) [.str (Str.ofString "where"), .ref d, .int u, .ref m, .int n] ((m, .list (tl 112 f)) :: DL d dx gl dl D) fun v' S' => ∃ gl' c f' D', Step u n f D 7 c f' D' ∧ v' = .int c ∧ S' = (m, .list (tl 112 f')) :: DL d dx gl' dl D' := by
  refine CallC.call (n := 11 + 1) (CallC.drop ?_)
  refine' CallC.def (names := [Str.ofString "deed", Str.ofString "disk", Str.ofString "user", Str.ofString "memory", Str.ofString "number"]) ?ho ?hcd ?hb rfl ?nd ?hk ?hc ?ha ?h ?c1 ?c2 ?c3
  case ho => (show List.lookup _ (hd.heap_39 _) = some _); k_is
  case hcd => (show codeIn (hd.heap_39 _) _ _ = true); k_is
  case c1 => exact rfl
  case c2 => exact rfl
  case c3 => exact rfl
  case nd => decide
  case hc => decide
  case ha => decide +kernel
  case hb => exact valsS fun _ => valsS fun _ => valsS fun _ => valsS fun _ => valsS fun _ => vals0 rfl
  case hk => exact kindsN (by decide)
  intro c ok hf hn hs hc
  dsimp only [List.zip_cons_cons, List.zip_nil_right, List.zip_nil_left]
  refine WSs.gen fun kn kr hkn hkr => ?_
  have G_write_next := @g_write_next w mg mb os
  have K_write_next := @g_write_nextK w mg mb os
  have G_set_random := @g_set_random w mg mb os
  have K_set_random := @g_set_randomK w mg mb os
  have G_read_random := @g_read_random w mg mb os
  have K_read_random := @g_read_randomK w mg mb os
  have G_read_next := @g_read_next w mg mb os
  have K_read_next := @g_read_nextK w mg mb os
  have G_tell_random := @g_tell_random w mg mb os
  have K_tell_random := @g_tell_randomK w mg mb os
  have G_new_fcb := @g_new_fcb w mg mb os
  have K_new_fcb := @g_new_fcbK w mg mb os
  have G_close_file := @g_close_file w mg mb os
  have K_close_file := @g_close_fileK w mg mb os
  have G_size_file := @g_size_file w mg mb os
  have K_size_file := @g_size_fileK w mg mb os
  have G_delete_file := @g_delete_file w mg mb os
  have K_delete_file := @g_delete_fileK w mg mb os
  have G_make_file := @g_make_file w mg mb os
  have K_make_file := @g_make_fileK w mg mb os
  have G_open_file := @g_open_file w mg mb os
  have K_open_file := @g_open_fileK w mg mb os
  have G_range := @g_range w mg mb os
  wtm_at "m:ws"
  refine Asg.mkE (v' := .int ((40 * u : Nat) : Int)) (congrArg V.int (by (lia))) (put_newK (by kernel_rfl)) ?_
  wtm_at "m:ws"
  refine ⟨no_t (by kernel_rfl), fun _ => ?_⟩
  wtm_at "m:ws"
  refine ⟨no_t (by kernel_rfl), fun _ => ?_⟩
  wtm_at "m:ws"
  refine ⟨no_t (by kernel_rfl), fun _ => ?_⟩
  wtm_at "m:ws"
  refine ⟨fun _ => ?_, no_f (by kernel_rfl)⟩
  wtm_at "m:ws"
  have F : Fcb f (40 * u) := C
  refine CallV.fr (c_tell_random (a := 40 * u) ?_ F) (by first | (rw [hn]; decide) | (lia)) (by wtm_at "m:cut") ?_
  · wtm_at "m:side"
  refine ex0 ?_
  try wtm_at "m:k"
  exact Endd.mk (by wtm_at "m:cut") ⟨gl, _, _, _, (⟨rfl, rfl, rfl⟩ : Wh u f D _ _ _), rfl, rfl⟩
theorem c_done_delete {d dx gl dl m : Addr} {D f : Nat → Int} {u : Nat} {n : Int} (hu : u < 2) (hn0 : 0 ≤ n) (hn1 : n < 200) (C : Can u n f D 8) :
    Call (TT w mg mb os) 12 (.ref 571) [.str (Str.ofString "delete"), .ref d, .int u, .ref m, .int n] ((m, .list (tl 112 f)) :: DL d dx gl dl D) fun v' S' => ∃ gl' c f' D', Step u n f D 8 c f' D' ∧ v' = .int c ∧ S' = (m, .list (tl 112 f')) :: DL d dx gl' dl D' := by
  refine CallC.call (n := 11 + 1) (CallC.drop ?_)
  refine' CallC.def (names := [Str.ofString "deed", Str.ofString "disk", Str.ofString "user", Str.ofString "memory", Str.ofString "number"]) ?ho ?hcd ?hb rfl ?nd ?hk ?hc ?ha ?h ?c1 ?c2 ?c3
  case ho => (show List.lookup _ (hd.heap_39 _) = some _); k_is
  case hcd => (show codeIn (hd.heap_39 _) _ _ = true); k_is
  case c1 => exact rfl
  case c2 => exact rfl
  case c3 => exact rfl
  case nd => decide
  case hc => decide
  case ha => decide +kernel
  case hb => exact valsS fun _ => valsS fun _ => valsS fun _ => valsS fun _ => valsS fun _ => vals0 rfl
  case hk => exact kindsN (by decide)
  intro c ok hf hn hs hc
  dsimp only [List.zip_cons_cons, List.zip_nil_right, List.zip_nil_left]
  refine WSs.gen fun kn kr hkn hkr => ?_
  have G_write_next := @g_write_next w mg mb os
  have K_write_next := @g_write_nextK w mg mb os
  have G_set_random := @g_set_random w mg mb os
  have K_set_random := @g_set_randomK w mg mb os
  have G_read_random := @g_read_random w mg mb os
  have K_read_random := @g_read_randomK w mg mb os
  have G_read_next := @g_read_next w mg mb os
  have K_read_next := @g_read_nextK w mg mb os
  have G_tell_random := @g_tell_random w mg mb os
  have K_tell_random := @g_tell_randomK w mg mb os
  have G_new_fcb := @g_new_fcb w mg mb os
  have K_new_fcb := @g_new_fcbK w mg mb os
  have G_close_file := @g_close_file w mg mb os
  have K_close_file := @g_close_fileK w mg mb os
  have G_size_file := @g_size_file w mg mb os
  have K_size_file := @g_size_fileK w mg mb os
  have G_delete_file := @g_delete_file w mg mb os
  have K_delete_file := @g_delete_fileK w mg mb os
  have G_make_file := @g_make_file w mg mb os
  have K_make_file := @g_make_fileK w mg mb os
  have G_open_file := @g_open_file w mg mb os
  have K_open_file := @g_open_fileK w mg mb os
  have G_range := @g_range w mg mb os
  wtm_at "m:ws"
  refine Asg.mkE (v' := .int ((40 * u : Nat) : Int)) (congrArg V.int (by (lia))) (put_newK (by kernel_rfl)) ?_
  wtm_at "m:ws"
  refine ⟨no_t (by kernel_rfl), fun _ => ?_⟩
  wtm_at "m:ws"
  refine ⟨no_t (by kernel_rfl), fun _ => ?_⟩
  wtm_at "m:ws"
  refine ⟨no_t (by kernel_rfl), fun _ => ?_⟩
  wtm_at "m:ws"
  refine ⟨no_t (by kernel_rfl), fun _ => ?_⟩
  wtm_at "m:ws"
  refine ⟨by simp, fun tu => ?_⟩
  refine CmpV.inT (xs := [Str.ofString "make", Str.ofString "open"]) (by (show (tu, O.tup [V.str (Str.ofString "make"), V.str (Str.ofString "open")]) ∈ _); wtm_at "m:mem") ?_
  refine ⟨no_t (by kernel_rfl), fun _ => ?_⟩
  refine WSs.nil ?_
  with_reducible refine WSs.cons (WS.assign ok ?q1n10 (WE.subDict (hs := scr_name) ?q2n10 ?q3n10 ?q4n10 ?q5n10 ?qhn10) swaps_sub)
  case q1n10 => wtm_at "m:kind"
  case q2n10 => rfl
  case q3n10 => rfl
  case q4n10 => exact List.cons_ne_nil _ _
  case q5n10 => decide
  with_reducible refine WPs.cons ?_
  wtm_at "m:ws"
  with_reducible refine WPs.cons ?_
  wtm_at "m:ws"
  with_reducible refine WPs.cons ?_
  wtm_at "m:ws"
  with_reducible refine WPs.nil ⟨?q1n11, ?qhn11⟩
  case q1n11 => decide +kernel
  wtm_at "m:ws"
  refine ⟨_, .ref 475, rfl, by kernel_rfl, ?_⟩
  first | refine Asg.mk (put_newK (by kernel_rfl)) ?_ | refine ⟨_, put_newK (by kernel_rfl), ?_⟩
  with_reducible refine WSs.cons (WS.ret (WE.call ok (WE.name ok (by wtm_at "m:mem") ⟨K_delete_file, ?qhn12⟩ ?q3n12) ?q1n12 ?q2n12))
  case q1n12 => with_unfolding_all rfl
  case q2n12 => with_unfolding_all rfl
  case q3n12 => with_unfolding_all decide
  wtm_at "m:ws"
  obtain ⟨k, H⟩ := C
  refine CallV.fr (c_delete_file (a := 40 * u) ?_ ?_ H) (by first | (rw [hn]; decide) | (lia)) (by wtm_at "m:cut") ?_
  · wtm_at "m:side"
  · wtm_at "m:side"
  refine ex0 ?_
  try wtm_at "m:k"
  exact Endd.mk (by wtm_at "m:cut") ⟨gl, _, _, _, (⟨rfl, rfl, k, H, rfl⟩ : De u f D _ _ _), rfl, rfl⟩
theorem c_law_done {d dx gl dl m : Addr} {D f : Nat → Int} {u q : Nat} {n : Int} (hu : u < 2) (hn0 : 0 ≤ n) (hn1 : n < 200) (hq : q ≤ 8) (C : Can u n f D q) :
    Call (TT w mg mb os) 12 (.ref 571) [.str (dn q), .ref d, .int u, .ref m, .int n] ((m, .list (tl 112 f)) :: DL d dx gl dl D) fun v' S' => ∃ gl' c f' D', Step u n f D q c f' D' ∧ v' = .int c ∧ S' = (m, .list (tl 112 f')) :: DL d dx gl' dl D' := by
  exact nat8 (P := fun q => Can u n f D q → Call (TT w mg mb os) 12 (.ref 571) [.str (dn q), .ref d, .int u, .ref m, .int n] ((m, .list (tl 112 f)) :: DL d dx gl dl D) fun v' S' => ∃ gl' c f' D', Step u n f D q c f' D' ∧ v' = .int c ∧ S' = (m, .list (tl 112 f')) :: DL d dx gl' dl D') (c_done_make hu hn0 hn1) (c_done_open hu hn0 hn1) (c_done_size hu hn0 hn1) (c_done_write hu hn0 hn1) (c_done_next hu hn0 hn1) (c_done_number hu hn0 hn1) (c_done_close hu hn0 hn1) (c_done_where hu hn0 hn1) (c_done_delete hu hn0 hn1) q hq C

theorem c_Disk_init {x dx : Addr} :
    CallC (TT w mg mb os) 1 (.ref 50) [.ref x, .int 20, .int 32, .int 16, .int 8] ([] ++ [(x, .inst 53 dx), (dx, .flds [])]) fun v' S' => v' = .none ∧ ∃ gl dl, S' = DL x dx gl dl fun _ => 229 := by
  refine CallC.drop (n := 0 + 1) ?_
  refine' CallC.def (names := [Str.ofString "self", Str.ofString "blocks", Str.ofString "block", Str.ofString "record", Str.ofString "entries"]) ?ho ?hcd ?hb rfl ?nd ?hk ?hc ?ha ?h ?c1 ?c2 ?c3
  case ho => (show List.lookup _ (hd.heap_39 _) = some _); k_is
  case hcd => (show codeIn (hd.heap_39 _) _ _ = true); k_is
  case c1 => exact rfl
  case c2 => exact rfl
  case c3 => exact rfl
  case nd => decide
  case hc => decide
  case ha => decide +kernel
  case hb => exact valsS fun _ => valsS fun _ => valsS fun _ => valsS fun _ => valsS fun _ => vals0 rfl
  case hk => exact kindsN (by decide)
  intro c ok hf hn hs hc
  dsimp only [List.zip_cons_cons, List.zip_nil_right, List.zip_nil_left]
  refine WSs.gen fun kn kr hkn hkr => ?_
  have G_ENTRY_SIZE := @g_ENTRY_SIZE w mg mb os
  have G_FREE := @g_FREE w mg mb os
  have S_blocks := @s53_blocks w mg mb os
  have S_block := @s53_block w mg mb os
  have S_record := @s53_record w mg mb os
  have S_entries := @s53_entries w mg mb os
  have S_is_read_only := @s53_is_read_only w mg mb os
  have S_given := @s53_given w mg mb os
  have S_data := @s53_data w mg mb os
  wtm_at "m:ws"
  refine ⟨no_t (by decide), fun _ => ?_⟩
  wtm_at "m:ws"
  wtm_at "m:sa"
  wtm_at "m:ws"
  wtm_at "m:sa"
  wtm_at "m:ws"
  wtm_at "m:sa"
  wtm_at "m:ws"
  wtm_at "m:sa"
  wtm_at "m:ws"
  wtm_at "m:sa"
  wtm_at "m:ws"
  refine ⟨by simp, fun gl => ?_⟩
  wtm_at "m:ws"
  wtm_at "m:sa"
  wtm_at "m:ws"
  refine ⟨by simp, fun l1 => ?_⟩
  wtm_at "m:ws"
  refine BinV.repT 640 (by wtm_at "m:mem") (by decide) rfl fun dl => ?_
  wtm_at "m:ws"
  wtm_at "m:sa"
  wtm_at "m:ws"
  dsimp only [List.nil_append, List.cons_append, List.append_nil]
  try wtm_at "m:k"
  exact Endd.mk (by wtm_at "m:cut") ⟨rfl, gl, dl, rfl⟩
theorem c_Disk : Call (TT w mg mb os) 3 (.ref 53) [.int 20, .int 32, .int 16, .int 8] [] fun v' S' => ∃ x dx gl dl, v' = .ref x ∧ S' = DL x dx gl dl fun _ => 229 :=
  Call.cls mk53 i53 t50 fun x dx A g' s f' args' h1 h2 h3 h4 h5 h6 h7 h8 h9 h10 => codeAny_mono (c_Disk_init A g' s f' args' h1 h2 h3 h4 h5 h6 h7 h8 h9 h10) fun r s' q => by
    rcases r with e | (v | _ | _ | _) <;> try exact q
    obtain ⟨v, S', a, b, d, e, e1, gl, dl, e2⟩ := q
    exact ⟨v, S', a, b, d, e, e1, x, dx, gl, dl, rfl, e2⟩

section
variable {G : V → Led → Prop} {α β γ δ : Type}
theorem exP12 {P Q : α → Prop} {v : α → V} {E : α → Led} (h : ∀ a, P a → Q a → G (v a) (E a)) : ∀ v' S', (∃ a, P a ∧ Q a ∧ v' = v a ∧ S' = E a) → G v' S' := fun v' S' p => p.elim fun a p => ex0 (h a p.1 p.2.1) v' S' p.2.2
theorem exP41 {P : α → β → γ → δ → Prop} {v : α → β → γ → δ → V} {E : α → β → γ → δ → Led} (h : ∀ a b c d, P a b c d → G (v a b c d) (E a b c d)) : ∀ v' S', (∃ a b c d, P a b c d ∧ v' = v a b c d ∧ S' = E a b c d) → G v' S' := fun v' S' p => p.elim fun a p => p.elim fun b p => p.elim fun c p => p.elim fun d p => ex0 (h a b c d p.1) v' S' p.2
theorem exQ32 {P Q : α → β → γ → Prop} {v : α → β → γ → V} {E : α → β → γ → Led} (h : ∀ a b c, P a b c → Q a b c → G (v a b c) (E a b c)) : ∀ v' S', (∃ a b c, v' = v a b c ∧ S' = E a b c ∧ P a b c ∧ Q a b c) → G v' S' := fun v' S' p => p.elim fun a p => p.elim fun b p => p.elim fun c p => ex0 (h a b c p.2.2.1 p.2.2.2) v' S' ⟨p.1, p.2.1⟩
end
noncomputable abbrev AU (m d dx gl dl : Addr) (f D : Nat → Int) : Led := (m, .list (tl 112 f)) :: DL d dx gl dl D
noncomputable abbrev LH (fe cl dks al st d0 d1 m0 m1 : Addr) (xs : List Int) (tn : Nat) (s0 s1 : Str) : Led := [(fe, .list [.ref cl, .int (tn : Nat)]), (cl, .list (zs xs)), (dks, .list [.ref d0, .ref d1]), (al, .list [.ref m0, .ref m1]), (st, .list [.str s0, .str s1])]
noncomputable abbrev QL (fe cl dks al st m d dx gl dl : Addr) (dd mm xx ll gg : Nat → Addr) (xs : List Int) (tn : Nat) (sg : Nat → Str) (f D : Nat → Int) (g E : Nat → Nat → Int) (u v : Nat) : Led := LH fe cl dks al st (dd 0) (dd 1) (mm 0) (mm 1) xs tn (sg 0) (sg 1) ++ (AU m d dx gl dl f D ++ (AU (mm u) (dd u) (xx u) (gg u) (ll u) (g u) (E u) ++ AU (mm v) (dd v) (xx v) (gg v) (ll v) (g v) (E v)))
theorem seen_eq {f g : Nat → Int} {a : Nat} (h : ∀ i, i < 36 → (i < 16 ∨ 32 ≤ i) → f (a + i) = g (a + i)) (z : ∀ j, j < 16 → (f (a + 16 + j) = 0 ↔ g (a + 16 + j) = 0)) (pf : ∀ i, i < 36 → 0 ≤ f (a + i)) (pg : ∀ i, i < 36 → 0 ≤ g (a + i)) : ∀ i, i < 36 → seenF f a i = seenF g a i := fun i hi => by
  unfold seenF
  by_cases q : 16 ≤ i ∧ i < 32
  · rw [if_pos q, if_pos q]
    have z' := z (i - 16) (by (lia))
    rw [show a + 16 + (i - 16) = a + i by (lia)] at z'
    have := pf i hi
    have := pg i hi
    by_cases e : f (a + i) = 0
    · rw [if_neg (by (lia)), if_neg (by have := z'.mp e; (lia))]
    · rw [if_pos (by (lia)), if_pos (by have : g (a + i) ≠ 0 := fun x => e (z'.mpr x)
                                        (lia))]
  · rw [if_neg q, if_neg q]; exact h i hi (by (lia))
theorem ql_swap {fe cl dks al st m d dx gl dl : Addr} {dd mm xx ll gg : Nat → Addr} {xs : List Int} {tn : Nat} {sg : Nat → Str} {f D : Nat → Int} {g E : Nat → Nat → Int} {u v : Nat} (h : (u = 0 ∧ v = 1) ∨ (u = 1 ∧ v = 0)) :
    (∃ R, Cut (QL fe cl dks al st m d dx gl dl dd mm xx ll gg xs tn sg f D g E u v) (QL fe cl dks al st m d dx gl dl dd mm xx ll gg xs tn sg f D g E 0 1) R) ∧ ∃ R, Cut (QL fe cl dks al st m d dx gl dl dd mm xx ll gg xs tn sg f D g E 0 1) (QL fe cl dks al st m d dx gl dl dd mm xx ll gg xs tn sg f D g E u v) R := by
  rcases h with ⟨rfl, rfl⟩ | ⟨rfl, rfl⟩
  · (try wtm_at "m:k"); exact ⟨⟨_, by wtm_at "m:cut"⟩, ⟨_, by wtm_at "m:cut"⟩⟩
  · (try wtm_at "m:k"); exact ⟨⟨_, by wtm_at "m:cut"⟩, ⟨_, by wtm_at "m:cut"⟩⟩
/-- what holds between the turns of the law -/
noncomputable def LI (fe cl dks al st m d dx dl : Addr) (dd mm xx ll : Nat → Addr) (ys : List Int) (k : Nat) (S : Led) : Prop := ∃ tn gl gg sg T f D g E R, tn = 1 + 2 * k ∧ InvE k T f D g E ∧ (∀ v, v < 2 → StOk (T v) (sg v)) ∧ Cut (QL fe cl dks al st m d dx gl dl dd mm xx ll gg ys tn sg f D g E 0 1) S R
theorem LI.mk {fe cl dks al st m d dx gl dl : Addr} {dd mm xx ll gg : Nat → Addr} {ys : List Int} {k tn : Nat} {sg : Nat → Str} {T : Nat → Bool} {f D : Nat → Int} {g E : Nat → Nat → Int} {R S : Led} (a : tn = 1 + 2 * k) (b : InvE k T f D g E) (c : ∀ v, v < 2 → StOk (T v) (sg v)) (e : Cut (QL fe cl dks al st m d dx gl dl dd mm xx ll gg ys tn sg f D g E 0 1) S R) : LI fe cl dks al st m d dx dl dd mm xx ll ys k S :=
  ⟨tn, gl, gg, sg, T, f, D, g, E, R, a, b, c, e⟩
theorem LI.elim {fe cl dks al st m d dx dl : Addr} {dd mm xx ll : Nat → Addr} {ys : List Int} {k : Nat} {S : Led} {G : Prop} (h : LI fe cl dks al st m d dx dl dd mm xx ll ys k S) (q : ∀ tn gl gg sg T f D g E R, tn = 1 + 2 * k → InvE k T f D g E → (∀ v, v < 2 → StOk (T v) (sg v)) → Cut (QL fe cl dks al st m d dx gl dl dd mm xx ll gg ys tn sg f D g E 0 1) S R → G) : G := by
  obtain ⟨tn, gl, gg, sg, T, f, D, g, E, R, a, b, c, e⟩ := h
  exact q tn gl gg sg T f D g E R a b c e
theorem InvE.elim {k : Nat} {T : Nat → Bool} {f D : Nat → Int} {g E : Nat → Nat → Int} {G : Prop} (h : InvE k T f D g E) (q : ∀ a b d wr cl, Inv k T f D g E a b d wr cl → G) : G := by
  obtain ⟨a, b, d, wr, cl, I⟩ := h
  exact q a b d wr cl I
section
variable {sc : Addr} {ob : Obj}
theorem c_law {xs : List Int} {its : List Value} {n : Nat} (hcls : ob.cls = .type "list") (hdat : ob.data = .seq its.toArray n) (hi : All2 RV (zs xs) its) (hx : xs.length ≤ 1000) (hK : (hd.heap_39 w.params ++ [(sc, ob)]).lookup sc = some ob) :
    Call (TS w mg mb os sc ob) 14 (.ref 581) [.ref sc] [] fun v' S' => v' = .bool true := by
  have base : ∀ h, (TS w mg mb os sc ob).K.In h → ∃ is : List Value, Heap.IsList h sc is.toArray ∧ All2 RV (zs xs) is := fun h k => ⟨its, ⟨ob, k sc ob hK, hcls, n, hdat⟩, hi⟩
  refine CallC.call (n := 13 + 1) (CallC.drop ?_)
  refine' CallC.def (names := [Str.ofString "script"]) ?ho ?hcd ?hb rfl ?nd ?hk ?hc ?ha ?h ?c1 ?c2 ?c3
  case ho => refine lookup_more ?_; (show List.lookup _ (hd.heap_39 _) = some _); k_is
  case hcd => refine code_more ?_; (show codeIn (hd.heap_39 _) _ _ = true); k_is
  case c1 => exact rfl
  case c2 => exact rfl
  case c3 => exact rfl
  case nd => decide
  case hc => decide
  case ha => decide +kernel
  case hb => exact valsS fun _ => vals0 rfl
  case hk => exact kindsN (by decide)
  intro c ok hf hn hs hc
  dsimp only [List.zip_cons_cons, List.zip_nil_right, List.zip_nil_left]
  have G_Disk := GlobIs.lift (sc := sc) (ob := ob) (@g_Disk w mg mb os)
  have G_range := GlobB.lift (sc := sc) (ob := ob) (@g_range w mg mb os)
  have G_len := GlobB.lift (sc := sc) (ob := ob) (@g_len w mg mb os)
  have G_next := GlobIs.lift (sc := sc) (ob := ob) (@g_law_next w mg mb os)
  have G_done := GlobIs.lift (sc := sc) (ob := ob) (@g_law_done w mg mb os)
  have G_seen := GlobIs.lift (sc := sc) (ob := ob) (@g_law_seen w mg mb os)
  have G_free := GlobIs.lift (sc := sc) (ob := ob) (@g_free_blocks w mg mb os)
  have K_next := @k_nextS w mg mb os sc ob
  have K_done := @k_doneS w mg mb os sc ob
  have K_seen := @k_seenS w mg mb os sc ob
  have K_free := @k_freeS w mg mb os sc ob
  with_reducible refine WSs.cons (WS.swap3 ok ?q1n1 ?q2n1 ?q3n1 ?q4n1 ?qhn1 ?q5n1 ?q6n1 ?q7n1 ?q8n1)
  case q1n1 => wtm_at "m:kind"
  case q2n1 => wtm_at "m:kind"
  case q3n1 => wtm_at "m:kind"
  case q4n1 => decide +kernel
  case q5n1 => rfl
  case q6n1 => rfl
  case q7n1 => rfl
  case q8n1 => rfl
  iterate 3 wtm_at "m:exp"
  refine WE.sliceB ?_
  wtm_at "m:ws"
  refine ⟨sc, zs xs, rfl, base, by simp; (lia), fun cl => ?_⟩
  obtain ⟨ys, hys, hy30⟩ := pick_take xs
  rw [hys]
  wtm_at "m:ws"
  refine ⟨by simp, fun fe => ?_⟩
  rw [show [V.ref cl, V.int 0] = [V.ref cl, V.int ((0 : Nat) : Int)] from rfl]
  wtm_at "m:ws"
  refine ⟨by simp, fun a1 => ?_⟩
  wtm_at "m:ws"
  refine BinV.repT 112 (by wtm_at "m:mem") (by decide) rfl fun m => ?_
  wtm_at "m:ws"
  refine WE.callW ok G_Disk kk_Disk (by wtm_at "m:kind") ?_ (by with_unfolding_all rfl) (by with_unfolding_all rfl) (by with_unfolding_all decide)
  wtm_at "m:ws"
  refine CallV.fr (Call.lift c_Disk) (by first | (rw [hn]; decide) | (lia)) (by wtm_at "m:cut") ?_
  refine ex4 fun d dx gl dl => ?_
  wtm_at "m:ws"
  refine ⟨_, _, _, rfl, _, _, _, put_newK (by kernel_rfl), put_newK (by kernel_rfl), put_newK (by kernel_rfl), ?_⟩
  refine WSs.cut (S₁ := [(fe, .list [.ref cl, .int ((0 : Nat) : Int)]), (cl, .list (zs ys))] ++ AU m d dx gl dl (fun _ => 0) fun _ => 229) (by wtm_at "m:cut") ?_
  with_reducible refine WSs.cons (WS.swap3 ok ?q1n2 ?q2n2 ?q3n2 ?q4n2 ?qhn2 ?q5n2 ?q6n2 ?q7n2 ?q8n2)
  case q1n2 => wtm_at "m:kind"
  case q2n2 => wtm_at "m:kind"
  case q3n2 => wtm_at "m:kind"
  case q4n2 => decide +kernel
  case q5n2 => rfl
  case q6n2 => rfl
  case q7n2 => rfl
  case q8n2 => rfl
  wtm_at "m:ws"
  refine WE.callW ok G_Disk kk_Disk (by wtm_at "m:kind") ?_ (by with_unfolding_all rfl) (by with_unfolding_all rfl) (by with_unfolding_all decide)
  wtm_at "m:ws"
  refine CallV.fr (Call.lift c_Disk) (by first | (rw [hn]; decide) | (lia)) (by wtm_at "m:cut") ?_
  refine ex4 fun d0 x0 gl0 dl0 => ?_
  wtm_at "m:ws"
  refine WE.callW ok G_Disk kk_Disk (by wtm_at "m:kind") ?_ (by with_unfolding_all rfl) (by with_unfolding_all rfl) (by with_unfolding_all decide)
  wtm_at "m:ws"
  refine CallV.fr (Call.lift c_Disk) (by first | (rw [hn]; decide) | (lia)) (by wtm_at "m:cut") ?_
  refine ex4 fun d1 x1 gl1 dl1 => ?_
  wtm_at "m:ws"
  refine ⟨by simp, fun dks => ?_⟩
  wtm_at "m:ws"
  refine ⟨by simp, fun a2 => ?_⟩
  wtm_at "m:ws"
  refine BinV.repT 112 (by wtm_at "m:mem") (by decide) rfl fun m0 => ?_
  wtm_at "m:ws"
  refine ⟨by simp, fun a3 => ?_⟩
  wtm_at "m:ws"
  refine BinV.repT 112 (by wtm_at "m:mem") (by decide) rfl fun m1 => ?_
  wtm_at "m:ws"
  refine ⟨by simp, fun al => ?_⟩
  wtm_at "m:ws"
  refine ⟨by simp, fun st => ?_⟩
  wtm_at "m:ws"
  refine ⟨_, _, _, rfl, _, _, _, put_newK (by kernel_rfl), put_newK (by kernel_rfl), put_newK (by kernel_rfl), ?_⟩
  with_reducible refine WSs.cut (S₁ := LH fe cl dks al st d0 d1 m0 m1 ys 0 (Str.ofString "none") (Str.ofString "none") ++ (AU m d dx gl dl (fun _ => 0) (fun _ => 229) ++ (AU m0 d0 x0 gl0 dl0 (fun _ => 0) (fun _ => 229) ++ AU m1 d1 x1 gl1 dl1 (fun _ => 0) (fun _ => 229)))) (by wtm_at "m:cut") ?_
  obtain ⟨mm, e0, e1⟩ : ∃ mm : Nat → Addr, mm 0 = m0 ∧ mm 1 = m1 := ⟨fun i => if i = 0 then m0 else m1, rfl, rfl⟩
  subst e0 e1
  obtain ⟨dd, e0, e1⟩ : ∃ mm : Nat → Addr, mm 0 = d0 ∧ mm 1 = d1 := ⟨fun i => if i = 0 then d0 else d1, rfl, rfl⟩
  subst e0 e1
  obtain ⟨xx, e0, e1⟩ : ∃ mm : Nat → Addr, mm 0 = x0 ∧ mm 1 = x1 := ⟨fun i => if i = 0 then x0 else x1, rfl, rfl⟩
  subst e0 e1
  obtain ⟨gg0, e0, e1⟩ : ∃ mm : Nat → Addr, mm 0 = gl0 ∧ mm 1 = gl1 := ⟨fun i => if i = 0 then gl0 else gl1, rfl, rfl⟩
  subst e0 e1
  obtain ⟨ll, e0, e1⟩ : ∃ mm : Nat → Addr, mm 0 = dl0 ∧ mm 1 = dl1 := ⟨fun i => if i = 0 then dl0 else dl1, rfl, rfl⟩
  subst e0 e1
  with_reducible refine WSs.cons (WS.for_ (hs := ?q2n3) (bnd_name ok ?q1n3) ?qhn3)
  case q1n3 => wtm_at "m:kind"
  case q2n3 => intro _; rfl
  refine WI.range (WE.bi ok G_range (by wtm_at "m:kind") ⟨rfl, ?_⟩)
  wtm_at "m:ws"
  refine CallV.fr (Call.lift (c_law_next (t := 0) hy30 (by (lia)) (by (lia)))) (by first | (rw [hn]; decide) | (lia)) (by wtm_at "m:cut") ?_
  refine exP12 fun tv t0 t1 => ?_
  wtm_at "m:ws"
  refine ⟨_, rfl, by (lia), by (lia), ?_⟩
  rw [nums_map]
  refine for_fix (fun k S => LI fe cl dks al st m d dx dl dd mm xx ll ys k S) (fun _ _ _ _ => trivial) (fun k S hk e => ?_) (fun S e => ?_) ?init
  case init => exact LI.mk (tn := 0 + 1) (gl := gl) (gg := gg0) (sg := fun _ => Str.ofString "none") (T := fun _ => false) (f := fun _ => 0) (D := fun _ => 229) (g := fun _ _ => 0) (E := fun _ _ => 229) (by (lia)) ⟨_, _, _, _, _, Inv.init⟩ (fun v _ => .inr ⟨rfl, .inl rfl⟩) (by wtm_at "m:cut")
  · refine LI.elim e fun tn gl gg sg T f D g E R0 htn iE hst e => ?_
    refine InvE.elim iE fun kk kk' dc wr cln I => ?_
    have h8 : k ≤ 8 := by (lia)
    refine ⟨_, put_newK (by kernel_rfl), WSs.cut e ?_⟩
    refine WSs.gen fun kn kr hkn hkr => ?_
    with_reducible refine WSs.cons (WS.swap2 ok ?q1n4 ?q2n4 ?q4n4 ?qhn4 ?q5n4 ?q6n4 ?q7n4 ?q8n4)
    case q1n4 => wtm_at "m:kind"
    case q2n4 => wtm_at "m:kind"
    case q4n4 => decide +kernel
    case q5n4 => rfl
    case q6n4 => rfl
    case q7n4 => rfl
    case q8n4 => rfl
    wtm_at "m:ws"
    refine CallV.fr (Call.lift (c_law_next (t := tn) hy30 (by (lia)) (by (lia)))) (by first | (rw [hn]; decide) | (lia)) (by wtm_at "m:cut") ?_
    refine exP12 fun uv u0 u1 => ?_
    wtm_at "m:ws"
    refine CallV.fr (Call.lift (c_law_next (t := tn + 1) hy30 (by (lia)) (by (lia)))) (by first | (rw [hn]; decide) | (lia)) (by wtm_at "m:cut") ?_
    refine exP12 fun n n0 n1 => ?_
    wtm_at "m:ws"
    refine ⟨_, _, rfl, _, _, put_newK (by kernel_rfl), put_newK (by kernel_rfl), ?_⟩
    obtain ⟨u, rfl, hu⟩ : ∃ u : Nat, uv = (u : Int) ∧ u < 2 := ⟨uv.toNat, by (lia), by (lia)⟩
    obtain ⟨v, huv⟩ : ∃ v : Nat, (u = 0 ∧ v = 1) ∨ (u = 1 ∧ v = 0) := ⟨1 - u, by (lia)⟩
    have uv1 : u + v = 1 := by (lia)
    replace huv := Hid.mk huv
    with_reducible refine WSs.cut (S₁ := QL fe cl dks al st m d dx gl dl dd mm xx ll gg ys (tn + 1 + 1) sg f D g E 0 1) (by wtm_at "m:cut") ?_
    obtain ⟨⟨R1, hR1⟩, -⟩ := ql_swap (fe := fe) (cl := cl) (dks := dks) (al := al) (st := st) (m := m) (d := d) (dx := dx) (gl := gl) (dl := dl) (dd := dd) (mm := mm) (xx := xx) (ll := ll) (gg := gg) (xs := ys) (tn := tn + 1 + 1) (sg := sg) (f := f) (D := D) (g := g) (E := E) huv
    with_reducible refine WSs.cut hR1 ?_
    with_reducible refine WSs.cons (WS.assign ok ?q1n5 (WE.subDict (hs := scr_sub) ?q2n5 ?q3n5 ?q4n5 ?q5n5 ?qhn5) swaps_sub)
    case q1n5 => wtm_at "m:kind"
    case q2n5 => rfl
    case q3n5 => rfl
    case q4n5 => exact List.cons_ne_nil _ _
    case q5n5 => decide
    with_reducible refine WPs.cons ?_
    wtm_at "m:ws"
    refine ⟨by simp, fun o1 => ?_⟩
    with_reducible refine WPs.cons ?_
    wtm_at "m:ws"
    refine ⟨by simp, fun o2 => ?_⟩
    with_reducible refine WPs.cons ?_
    wtm_at "m:ws"
    refine ⟨by simp, fun o3 => ?_⟩
    with_reducible refine WPs.nil ⟨?q1n6, ?qhn6⟩
    case q1n6 => exact nd_of (ns := [Str.ofString "none", Str.ofString "gone", Str.ofString "there"]) rfl (by decide +kernel)
    wtm_at "m:ws"
    refine SubV.list (v := .str (sg u)) (by wtm_at "m:mem") (by (lia)) (by (lia)) (two_at (h := fun i => V.str (sg i)) hu) ?_
    obtain ⟨so, ol, hol, hcase, hlk⟩ : ∃ (so : Addr) (ol : List Nat), OlOk (T u) ol ∧ ((so = o1 ∧ ol = [0, 1, 2, 0]) ∨ (so = o2 ∧ ol = [1, 0, 2, 0]) ∨ (so = o3 ∧ ol = [3, 3, 4, 5, 6, 1, 2, 7, 8, 3])) ∧ [(Str.ofString "none", V.ref o1), (Str.ofString "gone", V.ref o2), (Str.ofString "there", V.ref o3)].lookup (sg u) = some (V.ref so) := by
      rcases hst u hu with ⟨h1, h2⟩ | ⟨h1, h2 | h2⟩
      · exact ⟨o3, _, .inr ⟨h1, rfl⟩, .inr (.inr ⟨rfl, rfl⟩), by rw [h2]; kernel_rfl⟩
      · exact ⟨o1, _, .inl ⟨h1, .inl rfl⟩, .inl ⟨rfl, rfl⟩, by rw [h2]; kernel_rfl⟩
      · exact ⟨o2, _, .inl ⟨h1, .inr rfl⟩, .inr (.inl ⟨rfl, rfl⟩), by rw [h2]; kernel_rfl⟩
    replace hcase := Hid.mk hcase
    refine ⟨sg u, .ref so, rfl, hlk, ?_⟩
    first | refine Asg.mk (put_newK (by kernel_rfl)) ?_ | refine ⟨_, put_newK (by kernel_rfl), ?_⟩
    obtain ⟨R2, hR2⟩ : ∃ R, Cut ((so, .list (ol.map fun q => V.str (dn q))) :: QL fe cl dks al st m d dx gl dl dd mm xx ll gg ys (tn + 1 + 1) sg f D g E u v) (QL fe cl dks al st m d dx gl dl dd mm xx ll gg ys (tn + 1 + 1) sg f D g E u v ++ [(o1, .list ([0, 1, 2, 0].map fun q => V.str (dn q)))] ++ [(o2, .list ([1, 0, 2, 0].map fun q => V.str (dn q)))] ++ [(o3, .list ([3, 3, 4, 5, 6, 1, 2, 7, 8, 3].map fun q => V.str (dn q)))]) R := by
      rcases hcase with ⟨rfl, rfl⟩ | ⟨rfl, rfl⟩ | ⟨rfl, rfl⟩
      · (try wtm_at "m:k"); exact ⟨_, by wtm_at "m:cut"⟩
      · (try wtm_at "m:k"); exact ⟨_, by wtm_at "m:cut"⟩
      · (try wtm_at "m:k"); exact ⟨_, by wtm_at "m:cut"⟩
    with_reducible refine WSs.cut hR2 ?_
    obtain ⟨ol0, ol1, q, hq1, q8, hqT, hq5⟩ := pick_q hol n0
    replace hqT := Hid.mk hqT
    with_reducible refine WSs.cons (WS.swap2 ok ?q1n7 ?q2n7 ?q4n7 ?qhn7 ?q5n7 ?q6n7 ?q7n7 ?q8n7)
    case q1n7 => wtm_at "m:kind"
    case q2n7 => wtm_at "m:kind"
    case q4n7 => decide +kernel
    case q5n7 => rfl
    case q6n7 => rfl
    case q7n7 => rfl
    case q8n7 => rfl
    wtm_at "m:ws"
    refine CallV.len (by wtm_at "m:mem") (by rw [List.length_map]; (lia)) ?_
    rw [List.length_map]
    wtm_at "m:ws"
    refine SubV.list (v := .str (dn q)) (by wtm_at "m:mem") (Int.fmod_nonneg_of_pos _ (by (lia))) (by have := Int.fmod_lt_of_pos n (show (0 : Int) < ol.length by (lia)); (lia)) (by rw [List.getElem?_map, hq1]; rfl) ?_
    wtm_at "m:ws"
    refine SlE.mk (l := m) (by wtm_at "m:mem") (by rw [tl_length]; (lia)) (pick_tlE (a := 40 * v) (b := 40 * v + 36) (m := 36) (by (lia)) (by (lia)) (by (lia)) (by (lia)) (by (lia))) fun ot => ?_
    wtm_at "m:ws"
    refine ⟨_, _, rfl, _, _, put_newK (by kernel_rfl), put_newK (by kernel_rfl), ?_⟩
    with_reducible refine WSs.cut (S₁ := (ot, .list (tl 36 fun i => f (40 * v + i))) :: QL fe cl dks al st m d dx gl dl dd mm xx ll gg ys (tn + 1 + 1) sg f D g E u v) (by wtm_at "m:cut") ?_
    with_reducible refine WSs.cons (WS.unpack ?qhn8 ?q1n8 ?q2n8 ?q3n8)
    case q1n8 => with_unfolding_all rfl
    case q2n8 => exact swapped_noS
    case q3n8 => rfl
    wtm_at "m:ws"
    refine ⟨by simp, fun y1 => ?_⟩
    wtm_at "m:ws"
    refine BinV.repT 16 (by wtm_at "m:mem") (by decide) rfl fun z1 => ?_
    wtm_at "m:ws"
    refine ⟨by simp, fun y2 => ?_⟩
    wtm_at "m:ws"
    refine BinV.repT 16 (by wtm_at "m:mem") (by decide) rfl fun z2 => ?_
    wtm_at "m:ws"
    refine ⟨by simp, fun tu => ?_⟩
    refine ⟨tu, [.ref z1, .ref z2], rfl, .inl (by wtm_at "m:mem"), rfl, ?_⟩
    refine WA.slice2 ?_
    wtm_at "m:ws"
    refine SlA.mk (l := m) (vs := tl 112 f) (by wtm_at "m:mem") (by simp [tl_length]) (by simp [tl_length]) (by wtm_at "m:chg") ?_
    rw [show paste (tl 112 f) (tl 16 fun _ => 0) (some 96) (some 112) = tl 112 (F0 f) from paste_tl (a := 96) (b := 112) rfl (by (lia))]
    refine WA.slice2 ?_
    wtm_at "m:ws"
    refine SubV.list (v := .ref (mm u)) (by wtm_at "m:mem") (by (lia)) (by (lia)) (two_at (h := fun i => V.ref (mm i)) hu) ?_
    wtm_at "m:ws"
    refine SlA.mk (l := mm u) (vs := tl 112 (g u)) (by wtm_at "m:mem") (by simp [tl_length]) (by simp [tl_length]) (by wtm_at "m:chg") ?_
    rw [show paste (tl 112 (g u)) (tl 16 fun _ => 0) (some 96) (some 112) = tl 112 (F0 (g u)) from paste_tl (a := 96) (b := 112) rfl (by (lia))]
    show WSs _ _ _ _ _ _ _
    with_reducible refine WSs.cut (S₁ := (ot, .list (tl 36 fun i => f (40 * v + i))) :: (LH fe cl dks al st (dd 0) (dd 1) (mm 0) (mm 1) ys (tn + 1 + 1) (sg 0) (sg 1) ++ (AU m d dx gl dl (F0 f) D ++ (AU (mm u) (dd u) (xx u) (gg u) (ll u) (F0 (g u)) (E u) ++ AU (mm v) (dd v) (xx v) (gg v) (ll v) (g v) (E v))))) (by wtm_at "m:cut") ?_
    have hqc : T u = true ∨ q ≤ 2 := by
      rcases hqT with h | h
      · exact .inl h.1
      · exact .inr h.2
    have C1 := I.can1 (q := q) (n := n) hu h8 hqc hq5
    have C2 := I.can2 (q := q) (n := n) hu h8 hqc hq5
    wtm_at "m:ws"
    refine CallV.fr (Call.lift (c_law_done hu n0 n1 q8 C1)) (by first | (rw [hn]; decide) | (lia)) (by wtm_at "m:cut") ?_
    refine exP41 fun gl' c1 f' D' s1 => ?_
    first | refine Asg.mk (put_newK (by kernel_rfl)) ?_ | refine ⟨_, put_newK (by kernel_rfl), ?_⟩
    wtm_at "m:ws"
    refine SubV.list (v := .ref (dd u)) (by wtm_at "m:mem") (by (lia)) (by (lia)) (two_at (h := fun i => V.ref (dd i)) hu) ?_
    wtm_at "m:ws"
    refine SubV.list (v := .ref (mm u)) (by wtm_at "m:mem") (by (lia)) (by (lia)) (two_at (h := fun i => V.ref (mm i)) hu) ?_
    wtm_at "m:ws"
    refine CallV.fr (Call.lift (c_law_done hu n0 n1 q8 C2)) (by first | (rw [hn]; decide) | (lia)) (by wtm_at "m:cut") ?_
    refine exP41 fun gl2 c2 g' E' s2 => ?_
    have OU := I.deed hu h8 (q := q) hqT s1 s2
    have oc := OU.code
    subst oc
    wtm_at "m:ws"
    refine ⟨fun h => absurd h (by simp), fun _ => ?_⟩
    with_reducible refine WSs.nil ?_
    with_reducible refine WSs.cut (S₁ := (ot, .list (tl 36 fun i => f (40 * v + i))) :: (LH fe cl dks al st (dd 0) (dd 1) (mm 0) (mm 1) ys (tn + 1 + 1) (sg 0) (sg 1) ++ (AU m d dx gl' dl f' D' ++ (AU (mm u) (dd u) (xx u) gl2 (ll u) g' E' ++ AU (mm v) (dd v) (xx v) (gg v) (ll v) (g v) (E v))))) (by wtm_at "m:cut") ?_
    wtm_at "m:ws"
    refine SlE.mk (l := m) (by wtm_at "m:mem") (by rw [tl_length]; (lia)) (pick_tlE (a := 96) (b := 112) (m := 16) (by (lia)) (by (lia)) (by (lia)) (by (lia)) (by (lia))) fun p1 => ?_
    wtm_at "m:ws"
    refine SubV.list (v := .ref (mm u)) (by wtm_at "m:mem") (by (lia)) (by (lia)) (two_at (h := fun i => V.ref (mm i)) hu) ?_
    wtm_at "m:ws"
    refine SlE.mk (l := mm u) (by wtm_at "m:mem") (by rw [tl_length]; (lia)) (pick_tlE (a := 96) (b := 112) (m := 16) (by (lia)) (by (lia)) (by (lia)) (by (lia)) (by (lia))) fun p2 => ?_
    refine CmpV.neL (xs := tab 16 fun i => f' (96 + i)) (ys := tab 16 fun i => g' (96 + i)) (by (show (p1, O.list (tl 16 fun i => f' (96 + i))) ∈ _); wtm_at "m:mem") (by (show (p2, O.list (tl 16 fun i => g' (96 + i))) ∈ _); wtm_at "m:mem") ?_
    rw [tab_ext OU.mem, decide_eq_true rfl]
    refine ⟨fun _ => ?_, fun h => absurd h (by decide)⟩
    wtm_at "m:ws"
    refine CallV.fr (Call.lift (c_law_seen (a := 40 * u) ?_ ?_)) (by first | (rw [hn]; decide) | (lia)) (by wtm_at "m:cut") ?_
    · wtm_at "m:side"
    · wtm_at "m:side"
    refine ex1 fun w1 => ?_
    wtm_at "m:ws"
    refine SubV.list (v := .ref (mm u)) (by wtm_at "m:mem") (by (lia)) (by (lia)) (two_at (h := fun i => V.ref (mm i)) hu) ?_
    wtm_at "m:ws"
    refine CallV.fr (Call.lift (c_law_seen (a := 40 * u) ?_ ?_)) (by first | (rw [hn]; decide) | (lia)) (by wtm_at "m:cut") ?_
    · wtm_at "m:side"
    · wtm_at "m:side"
    refine ex1 fun w2 => ?_
    refine CmpV.neL (xs := tab 36 (seenF f' (40 * u))) (ys := tab 36 (seenF g' (40 * u))) (by (show (w1, O.list (tl 36 (seenF f' (40 * u)))) ∈ _); wtm_at "m:mem") (by (show (w2, O.list (tl 36 (seenF g' (40 * u)))) ∈ _); wtm_at "m:mem") ?_
    refine InvE.elim OU.inv fun k2 k2' dc2 wr2 cl2 I2 => ?_
    have es : tab 36 (seenF f' (40 * u)) = tab 36 (seenF g' (40 * u)) := tab_ext (seen_eq (by have := I2.h u hu; rw [updG_at] at this; exact this) (by have := I2.z u hu; rw [updG_at] at this; exact this) (fun i hi => (I2.s.fo _ (by (lia))).1) (fun i hi => by have := (I2.a u hu).fo (40 * u + i) (by (lia)); rw [updG_at] at this; exact this.1))
    rw [es, decide_eq_true rfl]
    refine ⟨fun h => absurd h (by decide), fun _ => ?_⟩
    wtm_at "m:ws"
    refine SlE.mk (l := m) (by wtm_at "m:mem") (by rw [tl_length]; (lia)) (pick_tlE (a := 40 * v) (b := 40 * v + 36) (m := 36) (by (lia)) (by (lia)) (by (lia)) (by (lia)) (by (lia))) fun p3 => ?_
    wtm_at "m:ws"
    refine CmpV.neL (xs := tab 36 fun i => f' (40 * v + i)) (ys := tab 36 fun i => f (40 * v + i)) (by (show (p3, O.list (tl 36 fun i => f' (40 * v + i))) ∈ _); wtm_at "m:mem") (by (show (ot, O.list (tl 36 fun i => f (40 * v + i))) ∈ _); wtm_at "m:mem") ?_
    rw [tab_ext (f := fun i => f' (40 * v + i)) (g := fun i => f (40 * v + i)) fun i hi => OU.oth _ (by (lia)) (by (lia)), decide_eq_true rfl]
    refine ⟨fun h => absurd h (by decide), fun _ => ?_⟩
    with_reducible refine WSs.nil ?_
    with_reducible refine WSs.cut (S₁ := LH fe cl dks al st (dd 0) (dd 1) (mm 0) (mm 1) ys (tn + 1 + 1) (sg 0) (sg 1) ++ (AU m d dx gl' dl f' D' ++ (AU (mm u) (dd u) (xx u) gl2 (ll u) g' E' ++ AU (mm v) (dd v) (xx v) (gg v) (ll v) (g v) (E v)))) (by wtm_at "m:cut") ?_
    with_reducible refine WSs.merge (fun S'' => ∃ (sg' : Nat → Str) (R : Led), (∀ x, x < 2 → StOk (After q u T x) (sg' x)) ∧ Cut (LH fe cl dks al st (dd 0) (dd 1) (mm 0) (mm 1) ys (tn + 1 + 1) (sg' 0) (sg' 1) ++ (AU m d dx gl' dl f' D' ++ (AU (mm u) (dd u) (xx u) gl2 (ll u) g' E' ++ AU (mm v) (dd v) (xx v) (gg v) (ll v) (g v) (E v)))) S'' R) ?q1n9 ?qhn9
    case q1n9 =>
      with_reducible refine WS.ifs ?_
      wtm_at "m:ws"
      refine ⟨by simp, fun t2 => ?_⟩
      refine CmpV.inT (xs := [Str.ofString "make", Str.ofString "delete"]) (by (show (t2, O.tup [V.str (Str.ofString "make"), V.str (Str.ofString "delete")]) ∈ _); wtm_at "m:mem") ?_
      rw [dn_two q8]
      refine ⟨fun h => ?_, fun h => ?_⟩
      · have hq := of_decide_eq_true h
        wtm_at "m:ws"
        rw [dn_make q8]
        refine ⟨fun h2 => ?_, fun h2 => ?_⟩
        · have hq0 := of_decide_eq_true h2
          wtm_at "m:ws"
          refine SetI.list (by wtm_at "m:chg") (by (lia)) (by simp; (lia)) (by simp) ?_
          rw [st_set hu]
          wtm_at "m:ws"
          (try wtm_at "m:k"); exact ⟨rfl, updS sg u (Str.ofString "there"), _, fun x hx => by have := stAfter hst hqT x hx; rw [if_pos hq0] at this; exact this, by wtm_at "m:cut"⟩
        · have hq0 := of_decide_eq_false h2
          wtm_at "m:ws"
          refine SetI.list (by wtm_at "m:chg") (by (lia)) (by simp; (lia)) (by simp) ?_
          rw [st_set hu]
          wtm_at "m:ws"
          (try wtm_at "m:k"); exact ⟨rfl, updS sg u (Str.ofString "gone"), _, fun x hx => by have := stAfter hst hqT x hx; rw [if_neg hq0, if_pos (hq.resolve_left hq0)] at this; exact this, by wtm_at "m:cut"⟩
      · have hq := of_decide_eq_false h
        wtm_at "m:ws"
        (try wtm_at "m:k"); exact ⟨rfl, sg, _, fun x hx => by have := stAfter hst hqT x hx; rw [if_neg (fun z => hq (.inl z)), if_neg (fun z => hq (.inr z))] at this; exact this, by wtm_at "m:cut"⟩
    rintro S₂ ⟨sg', R3, hst', hcut⟩
    with_reducible refine WSs.cut hcut ?_
    have hvu : v ≠ u := by (lia)
    obtain ⟨-, ⟨R4, hR4⟩⟩ := ql_swap (fe := fe) (cl := cl) (dks := dks) (al := al) (st := st) (m := m) (d := d) (dx := dx) (gl := gl') (dl := dl) (dd := dd) (mm := mm) (xx := xx) (ll := ll) (gg := updA gg u gl2) (xs := ys) (tn := tn + 1 + 1) (sg := sg') (f := f') (D := D') (g := updG g u g') (E := updG E u E') huv
    have hQ : QL fe cl dks al st m d dx gl' dl dd mm xx ll (updA gg u gl2) ys (tn + 1 + 1) sg' f' D' (updG g u g') (updG E u E') u v = LH fe cl dks al st (dd 0) (dd 1) (mm 0) (mm 1) ys (tn + 1 + 1) (sg' 0) (sg' 1) ++ (AU m d dx gl' dl f' D' ++ (AU (mm u) (dd u) (xx u) gl2 (ll u) g' E' ++ AU (mm v) (dd v) (xx v) (gg v) (ll v) (g v) (E v))) := by
      show LH fe cl dks al st (dd 0) (dd 1) (mm 0) (mm 1) ys (tn + 1 + 1) (sg' 0) (sg' 1) ++ (AU m d dx gl' dl f' D' ++ (AU (mm u) (dd u) (xx u) (updA gg u gl2 u) (ll u) (updG g u g' u) (updG E u E' u) ++ AU (mm v) (dd v) (xx v) (updA gg u gl2 v) (ll v) (updG g u g' v) (updG E u E' v))) = _
      rw [updG_at, updG_at, updA_at, updG_ne _ _ hvu, updG_ne _ _ hvu, updA_ne _ _ hvu]
    rw [hQ] at hR4
    with_reducible refine WSs.cut hR4 ?_
    with_reducible refine WSs.cons (WS.assignComp (Y := Y1) (Bind := fun a r r' => Put (Str.ofString "disk") a r r') (hs := ?qbn10) (ext := fun a => [(Str.ofString "disk", a)]) ([] : Loc) ok ?q1n10 ?q2n10 ?q3n10 ?q4n10 ?q5n10 ?q6n10 ?q7n10 ?q8n10 ?q9n10 ?qan10 ?qhn10)
    case q1n10 => wtm_at "m:kind"
    case q2n10 => exact swaps_name ok (by wtm_at "m:kind") (by decide) (by decide)
    case q3n10 => exact free_ok hs hc (by decide)
    case q4n10 => decide
    case q5n10 => decide
    case q6n10 => rfl
    case q7n10 => wtm_at "m:hr"
    case q8n10 => exact nd_of (ns := []) rfl (by decide)
    case q9n10 => exact fun c₂ ok₂ k₂ => bnd_name ok₂ (Kinds.at k₂ (by decide))
    case qan10 => exact fun a => put_newK (by kernel_rfl)
    case qbn10 => intro _; rfl
    with_reducible refine WI.tup ?_
    wtm_at "m:ws"
    refine SubV.list (v := .ref (dd 0)) (by wtm_at "m:mem") (by decide) (by decide) rfl ?_
    wtm_at "m:ws"
    refine SubV.list (v := .ref (dd 1)) (by wtm_at "m:mem") (by decide) (by decide) rfl ?_
    wtm_at "m:ws"
    refine ⟨by simp, fun t3 => ?_⟩
    refine ⟨t3, [.ref d, .ref (dd 0), .ref (dd 1)], rfl, by wtm_at "m:mem", ?_⟩
    intro c₂ ok₂ hf₂ hn₂ hs₂
    have hlen20 : ∀ {l : List V} {A : Nat → Bool}, l.length = ((List.range 20).filter fun i => !A i).length → l.length ≤ 20 := fun h => by rw [h]; exact Nat.le_trans (List.length_filter_le _ _) (by simp)
    refine ⟨by wtm_at "m:mem", by simp, fun _ => ?_, fun h => (by cases h)⟩
    wtm_at "m:ws"
    refine CallV.fr (Call.lift (c_free_blocks I2.s.HL)) (by first | (rw [hn]; decide) | (lia)) (by wtm_at "m:cut") ?_
    refine exQ32 fun b1 l1 A1 hA1 hl1 => ?_
    have hl1' := hlen20 hl1
    wtm_at "m:ws"
    refine CallV.len (by wtm_at "m:mem") (by (lia)) ?_
    wtm_at "m:ws"
    refine ⟨by wtm_at "m:mem", by simp, fun _ => ?_, fun h => (by cases h)⟩
    wtm_at "m:ws"
    refine CallV.fr (Call.lift (c_free_blocks (I2.a 0 (by (lia))).HL)) (by first | (rw [hn]; decide) | (lia)) (by wtm_at "m:cut") ?_
    refine exQ32 fun b2 l2 A2 hA2 hl2 => ?_
    have hl2' := hlen20 hl2
    wtm_at "m:ws"
    refine CallV.len (by wtm_at "m:mem") (by (lia)) ?_
    wtm_at "m:ws"
    refine ⟨by wtm_at "m:mem", by simp, fun _ => ?_, fun h => (by cases h)⟩
    wtm_at "m:ws"
    refine CallV.fr (Call.lift (c_free_blocks (I2.a 1 (by (lia))).HL)) (by first | (rw [hn]; decide) | (lia)) (by wtm_at "m:cut") ?_
    refine exQ32 fun b3 l3 A3 hA3 hl3 => ?_
    have hl3' := hlen20 hl3
    wtm_at "m:ws"
    refine CallV.len (by wtm_at "m:mem") (by (lia)) ?_
    wtm_at "m:ws"
    refine ⟨by wtm_at "m:mem", fun tk => ?_⟩
    first | refine Asg.mk (put_newK (by kernel_rfl)) ?_ | refine ⟨_, put_newK (by kernel_rfl), ?_⟩
    wtm_at "m:ws"
    refine SubV.list (v := .int (12 - (l1.length : Int))) (by wtm_at "m:mem") (by decide) (by decide) rfl ?_
    wtm_at "m:ws"
    refine SubV.list (v := .int (12 - (l2.length : Int))) (by wtm_at "m:mem") (by decide) (by decide) rfl ?_
    wtm_at "m:ws"
    refine SubV.list (v := .int (12 - (l3.length : Int))) (by wtm_at "m:mem") (by decide) (by decide) rfl ?_
    wtm_at "m:ws"
    have et := I2.taken hA1 hA2 hA3
    rw [← hl1, ← hl2, ← hl3] at et
    rw [et]
    refine ⟨fun h => absurd h (by simp), fun _ => ?_⟩
    wtm_at "m:ws"
    (try wtm_at "m:k"); exact ⟨by wtm_at "m:sub", QL fe cl dks al st m d dx gl' dl dd mm xx ll (updA gg u gl2) ys (tn + 1 + 1) sg' f' D' (updG g u g') (updG E u E') 0 1, _, by wtm_at "m:cut", LI.mk (by (lia)) OU.inv hst' Cut.refl⟩
  · refine LI.elim e fun tn gl gg sg T f D g E R0 htn iE hst e => ?_
    with_reducible refine WSs.cut e ?_
    wtm_at "m:ws"
    (try wtm_at "m:k"); exact ⟨_, _, Cut.refl, rfl⟩
end

end
end Mine
end

section
open PySem PySem.W PyProof.Rows
set_option maxRecDepth 100000
set_option maxHeartbeats 0
namespace Mine
theorem intsRV : ∀ {vs : List Value} {ns : List Int}, IntsAre vs ns → All2 RV (zs ns) vs
  | _, _, .nil => .nil
  | _, _, .cons n t h => .cons ⟨t, rfl⟩ (intsRV h)
theorem holds_ : PySem.Challenge.rw_sm0126_01.Holds := hd (by
  k_fill
  intro w s₀ s₁ mg mb G Y fa o pm cd doc dV kV ho hd1 hcd hD hmg hg args vals as hpre hlay hrd hwl hlo
  have KX := kIn_of Y
  refine Ground.open G ?_
  intro T B D TE TW
  clear hcd hd1 hD
  wrow_args hpre hlay hrd hwl hlo
  rename_i xs _ _ _ _ _ _ _ sc its _ hL _ _ _ hI _ hlen _
  have hfa : fa = 581 := by
    have e := mg_of KX (topRead_of T).g (show nsIn (hd.heap_39 w.params) mainGlobals (Str.ofString "law") = some (some (.ref 581)) by k_is)
    have hmg' : mg (Str.ofString "law") = some (.ref fa) := hmg
    rw [e] at hmg'
    cases hmg'
    rfl
  subst hfa
  have hL2 := hL
  obtain ⟨ob, hob, hcls, n, hdat⟩ := hL2
  have hK : (hd.heap_39 w.params ++ [(sc, ob)]).lookup sc = some ob := by
    rw [List.lookup_append]
    cases z : (hd.heap_39 w.params).lookup sc with
    | some o' =>
      have := KX sc o' z
      rw [hob] at this
      cases this
      rfl
    | none => rw [Option.none_or, List.lookup_cons, beq_self_eq_true]
  have hlaw := c_law (w := w) (mg := mg) (mb := mb) (os := s₁.os) (sc := sc) (ob := ob) (xs := xs) (its := its) (n := n) hcls hdat (intsRV hI) (by have := hlen; (lia)) hK
  have hwalk := hlaw callerA s₁.heap s₁ (.ref 581) [.ref sc] rfl (by decide +kernel) (by decide +kernel) ⟨lift_in KX hob, topRead_of T⟩ hg rfl ⟨fun b o e => e, fun p hp => (by cases hp), fun p hp => (by cases hp), List.nodup_nil⟩ (Nat.le_refl _) rfl (.cons rfl .nil)
  refine wpAny_mono hwalk (fun v s' ⟨v', S', rv, g1, g2, O', e⟩ => ?_) (fun e s' h => h.elim)
  subst e
  cases rv
  exact ⟨.inl ⟨.bool true, .bool true, [], rfl, fun _ => rfl, .bool true, (by first | kernel_rfl | (with_unfolding_all rfl) | (simp [RowW.claim]; trace_state; done)), fun _ => ⟨List.nodup_nil, fun a ha => (by cases ha)⟩⟩, OldK.of_keep O'.keep, g2, AllBare.of_eq g1⟩)
end Mine
end

theorem PySem.Challenge.cw_sm0126_01_holds : PySem.Challenge.rw_sm0126_01.Holds :=
  Mine.holds_
