import PyProof.Rows.All
import Wide.All
import OpenK.AllK
import Wide.FinOn
import Lean
import PySem.Challenge.RW_xm0133_01
open PySem PySem.W PyProof.Rows
set_option Elab.async false
set_option maxRecDepth 100000
set_option linter.unusedVariables false
namespace Mine

/-! data -/
noncomputable abbrev K2 := List Int × Int

inductive D where
  | none
  | bool (b : Bool)
  | int (i : Int)
  | tup (l : List D)
  | list (l : List D)
  | dict (l : List (K2 × Int))
  | adr (a : Addr)
deriving Inhabited

noncomputable abbrev PA := Addr → Prop

noncomputable def IsIntTup (h : Heap) (ws : List Int) (b : Addr) : Prop := ∃ vs, h.IsTuple b vs ∧ IntsAre vs.toList ws
noncomputable def IsKey2 (P : PA) (h : Heap) (k : K2) (a : Addr) : Prop := P a ∧ ∃ b t, P b ∧ h.IsTuple a #[.ref b, .int k.2 t] ∧ IsIntTup h k.1 b

noncomputable def keyHash2 (k : K2) : Int := reduceHash (Builtin.Tuple.tupleHashOf [reduceHash (Builtin.Tuple.tupleHashOf (k.1.map hashInt)), hashInt k.2])

/-- entries of a dict of the law's: keys (word, count), values ints -/
inductive EntsAre (P : PA) (h : Heap) : List DictEntry → List (K2 × Int) → Prop
  | nil : EntsAre P h [] []
  | cons {k : K2} {n : Int} {a : Addr} {t : Tok} {es l} : IsKey2 P h k a → EntsAre P h es l → EntsAre P h (⟨keyHash2 k, .ref a, .int n t⟩ :: es) ((k, n) :: l)

noncomputable def IsDict2 (P : PA) (h : Heap) (a : Addr) (l : List (K2 × Int)) : Prop :=
  ∃ o es ep, h.get? a = some o ∧ o.ExactDict ∧ o.data = .dict es ep ∧ EntsAre P h es.toList l ∧ (l.map (·.1)).Nodup ∧ a ≠ 1

noncomputable abbrev PTup (h : Heap) (a : Addr) (vs : Array Value) : Prop := h.IsTuple a vs

mutual
noncomputable def Rv (P : PA) (h : Heap) : D → Value → Prop
  | .none, v => v = .none
  | .bool b, v => v = .bool b
  | .int i, v => ∃ t, v = .int i t
  | .tup ds, v => ∃ a vs, v = .ref a ∧ P a ∧ PTup h a vs ∧ Rvs P h ds vs.toList
  | .list ds, v => ∃ a vs, v = .ref a ∧ P a ∧ h.PlainList a vs ∧ Rvs P h ds vs.toList
  | .dict l, v => ∃ a, v = .ref a ∧ P a ∧ IsDict2 P h a l
  | .adr a, v => v = .ref a
noncomputable def Rvs (P : PA) (h : Heap) : List D → List Value → Prop
  | [], vs => vs = []
  | d :: ds, vs => ∃ v r, vs = v :: r ∧ Rv P h d v ∧ Rvs P h ds r
end

/-- P's objects stay -/
structure Tr (P Q : PA) (h h' : Heap) : Prop where
  keep : ∀ b o, P b → h.get? b = some o → h'.get? b = some o
  sub : ∀ b, P b → Q b

theorem IsTuple.tr {P Q h h' a vs} (T : Tr P Q h h') (p : P a) (x : Heap.IsTuple h a vs) : Heap.IsTuple h' a vs := by
  obtain ⟨o, ho, r⟩ := x
  exact ⟨o, T.keep _ _ p ho, r⟩
theorem IsKey2.tr {P Q h h' k a} (T : Tr P Q h h') (x : IsKey2 P h k a) : IsKey2 Q h' k a :=
  let ⟨p, b, t, q, u, vs, w, z⟩ := x; ⟨T.sub _ p, b, t, T.sub _ q, IsTuple.tr T p u, vs, IsTuple.tr T q w, z⟩
theorem EntsAre.tr {P Q h h'} (T : Tr P Q h h') : ∀ {es l}, EntsAre P h es l → EntsAre Q h' es l
  | _, _, .nil => .nil
  | _, _, .cons k r => .cons (k.tr T) (EntsAre.tr T r)
theorem IsDict2.tr {P Q h h' a l} (T : Tr P Q h h') (e : ∀ o, h.get? a = some o → h'.get? a = some o) (x : IsDict2 P h a l) : IsDict2 Q h' a l :=
  let ⟨o, es, ep, ho, hx, hd, he, hn⟩ := x; ⟨o, es, ep, e _ ho, hx, hd, he.tr T, hn⟩

mutual
theorem Rv.tr {P Q : PA} {h h' : Heap} (T : Tr P Q h h') : ∀ {d : D} {v : Value}, Rv P h d v → Rv Q h' d v
  | .none, _, x => x
  | .bool _, _, x => x
  | .int _, _, x => x
  | .tup _, _, ⟨a, vs, e, pa, ht, r⟩ => ⟨a, vs, e, T.sub _ pa, IsTuple.tr T pa ht, Rvs.tr T r⟩
  | .list _, _, ⟨a, vs, e, pa, ⟨n, ho⟩, r⟩ => ⟨a, vs, e, T.sub _ pa, ⟨n, T.keep _ _ pa ho⟩, Rvs.tr T r⟩
  | .dict _, _, ⟨a, e, pa, x⟩ => ⟨a, e, T.sub _ pa, x.tr T fun o => T.keep _ o pa⟩
  | .adr _, _, x => x
theorem Rvs.tr {P Q : PA} {h h' : Heap} (T : Tr P Q h h') : ∀ {ds : List D} {vs : List Value}, Rvs P h ds vs → Rvs Q h' ds vs
  | [], _, x => x
  | _ :: _, _, ⟨v, r, e, x, y⟩ => ⟨v, r, e, Rv.tr T x, Rvs.tr T y⟩
end

theorem Tr.refl (P : PA) (h : Heap) : Tr P P h h := ⟨fun _ _ _ e => e, fun _ p => p⟩
theorem Tr.of_keep {P Q : PA} {h h' : Heap} (k : ∀ b o, h.get? b = some o → h'.get? b = some o) (sub : ∀ b, P b → Q b) : Tr P Q h h' :=
  ⟨fun b o _ e => k b o e, sub⟩
theorem Tr.trans {P Q R : PA} {h h' h'' : Heap} (x : Tr P Q h h') (y : Tr Q R h' h'') : Tr P R h h'' :=
  ⟨fun b o p e => y.keep b o (x.sub b p) (x.keep b o p e), fun b p => y.sub b (x.sub b p)⟩

theorem Rv.sub {P Q : PA} {h : Heap} (s : ∀ b, P b → Q b) {d v} (x : Rv P h d v) : Rv Q h d v := x.tr (.of_keep (fun _ _ e => e) s)
theorem Rvs.sub {P Q : PA} {h : Heap} (s : ∀ b, P b → Q b) {d v} (x : Rvs P h d v) : Rvs Q h d v := x.tr (.of_keep (fun _ _ e => e) s)

/-- data without a list or a dict -/
noncomputable def D.flat : D → Bool
  | .none => true | .bool _ => true | .int _ => true
  | .tup l => flats l
  | .list _ => false | .dict _ => false
  | .adr _ => true
where
  flats : List D → Bool
  | [] => true
  | d :: r => d.flat && flats r

mutual
/-- flat data do not reach what is no tuple -/
theorem Rv.away {P : PA} {h : Heap} {X : Addr → Prop} (hx : ∀ a vs, X a → ¬ h.IsTuple a vs) : ∀ {d : D} {v : Value}, d.flat = true → Rv P h d v → Rv (fun a => P a ∧ ¬ X a) h d v
  | .none, _, _, x => x
  | .bool _, _, _, x => x
  | .int _, _, _, x => x
  | .tup ds, _, f, ⟨a, vs, e, pa, ht, r⟩ => ⟨a, vs, e, ⟨pa, fun y => hx a vs y ht⟩, ht, Rvs.away hx (by simpa [D.flat] using f) r⟩
  | .list _, _, f, _ => by simp [D.flat] at f
  | .dict _, _, f, _ => by simp [D.flat] at f
  | .adr _, _, _, x => x
theorem Rvs.away {P : PA} {h : Heap} {X : Addr → Prop} (hx : ∀ a vs, X a → ¬ h.IsTuple a vs) : ∀ {ds : List D} {vs : List Value}, D.flat.flats ds = true → Rvs P h ds vs → Rvs (fun a => P a ∧ ¬ X a) h ds vs
  | [], _, _, x => x
  | d :: ds, _, f, ⟨v, r, e, x, y⟩ => by
    have f' := f
    simp only [D.flat.flats, Bool.and_eq_true] at f'
    exact ⟨v, r, e, Rv.away hx f'.1 x, Rvs.away hx f'.2 y⟩
end
mutual
/-- what is reached stands -/
theorem Rv.live {P : PA} {h : Heap} : ∀ {d : D} {v : Value}, Rv P h d v → Rv (fun a => P a ∧ (h.get? a).isSome = true) h d v
  | .none, _, x => x
  | .bool _, _, x => x
  | .int _, _, x => x
  | .tup _, _, ⟨a, vs, e, pa, ⟨o, ho, c⟩, r⟩ => ⟨a, vs, e, ⟨pa, by rw [ho]; rfl⟩, ⟨o, ho, c⟩, Rvs.live r⟩
  | .list _, _, ⟨a, vs, e, pa, ⟨n, ho⟩, r⟩ => ⟨a, vs, e, ⟨pa, by rw [ho]; rfl⟩, ⟨n, ho⟩, Rvs.live r⟩
  | .dict _, _, ⟨a, e, pa, o, es, ep, ho, hx, hd, he, hn⟩ => ⟨a, e, ⟨pa, by rw [ho]; rfl⟩, o, es, ep, ho, hx, hd, EntsAre.live he, hn⟩
  | .adr _, _, x => x
theorem Rvs.live {P : PA} {h : Heap} : ∀ {ds : List D} {vs : List Value}, Rvs P h ds vs → Rvs (fun a => P a ∧ (h.get? a).isSome = true) h ds vs
  | [], _, x => x
  | _ :: _, _, ⟨v, r, e, x, y⟩ => ⟨v, r, e, Rv.live x, Rvs.live y⟩
theorem EntsAre.live {P : PA} {h : Heap} : ∀ {es l}, EntsAre P h es l → EntsAre (fun a => P a ∧ (h.get? a).isSome = true) h es l
  | _, _, .nil => .nil
  | _, _, .cons ⟨p, b, t, q, ⟨o, ho, c⟩, vs, ⟨o', ho', c'⟩, i⟩ r => .cons ⟨⟨p, by rw [ho]; rfl⟩, b, t, ⟨q, by rw [ho']; rfl⟩, ⟨o, ho, c⟩, vs, ⟨o', ho', c'⟩, i⟩ (EntsAre.live r)
end

theorem Rvs.length {P h} : ∀ {ds : List D} {vs : List Value}, Rvs P h ds vs → vs.length = ds.length
  | [], _, x => by rw [show _ = [] from x]; rfl
  | _ :: _, _, ⟨_, _, e, _, y⟩ => by rw [e, List.length_cons, List.length_cons, Rvs.length y]
theorem Rvs.get {P h} : ∀ {ds : List D} {vs : List Value}, Rvs P h ds vs → ∀ {i : Nat} {d : D}, ds[i]? = some d → ∃ v, vs[i]? = some v ∧ Rv P h d v
  | [], _, _, _, _, hi => by simp at hi
  | d :: _, _, ⟨v, r, e, x, y⟩, 0, d', hi => by simp at hi; subst hi; exact ⟨v, by rw [e]; rfl, x⟩
  | _ :: _, _, ⟨v, r, e, x, y⟩, i + 1, d', hi => by
    obtain ⟨v', h1, h2⟩ := Rvs.get y (i := i) (by simpa using hi)
    exact ⟨v', by rw [e]; simpa using h1, h2⟩
theorem Rvs.nil {P h} : Rvs P h [] [] := rfl
theorem Rvs.cons {P h d v ds vs} (x : Rv P h d v) (y : Rvs P h ds vs) : Rvs P h (d :: ds) (v :: vs) := ⟨v, vs, rfl, x, y⟩
theorem Rvs.append {P h} : ∀ {ds : List D} {vs : List Value} {es us}, Rvs P h ds vs → Rvs P h es us → Rvs P h (ds ++ es) (vs ++ us)
  | [], _, _, _, x, y => by rw [show _ = [] from x]; exact y
  | _ :: _, _, _, _, ⟨_, _, e, x, r⟩, y => by rw [e]; exact ⟨_, _, rfl, x, Rvs.append r y⟩
theorem Rvs.split {P h} : ∀ {ds es : List D} {vs : List Value}, Rvs P h (ds ++ es) vs → ∃ us ws, vs = us ++ ws ∧ Rvs P h ds us ∧ Rvs P h es ws
  | [], _, vs, x => ⟨[], vs, rfl, rfl, x⟩
  | d :: ds, es, vs, ⟨v, r, e, x, y⟩ => by
    obtain ⟨us, ws, e', a, b⟩ := Rvs.split (ds := ds) (es := es) y
    exact ⟨v :: us, ws, by rw [e, e']; rfl, ⟨v, us, rfl, x, a⟩, b⟩
theorem Rvs.take {P h} {ds : List D} {vs : List Value} (x : Rvs P h ds vs) (n : Nat) : Rvs P h (ds.take n) (vs.take n) := by
  induction n generalizing ds vs with
  | zero => simp; exact rfl
  | succ n ih => cases ds with
    | nil => rw [show vs = [] from x]; simp; exact rfl
    | cons d ds => obtain ⟨v, r, e, a, b⟩ := x; rw [e]; simp; exact ⟨_, _, rfl, a, ih b⟩
theorem Rvs.drop {P h} {ds : List D} {vs : List Value} (x : Rvs P h ds vs) (n : Nat) : Rvs P h (ds.drop n) (vs.drop n) := by
  induction n generalizing ds vs with
  | zero => simpa using x
  | succ n ih => cases ds with
    | nil => rw [show vs = [] from x]; simp; exact rfl
    | cons d ds => obtain ⟨v, r, e, a, b⟩ := x; rw [e]; simp; exact ih b
theorem Rvs.reverse {P h} {ds : List D} {vs : List Value} (x : Rvs P h ds vs) : Rvs P h ds.reverse vs.reverse := by
  induction ds generalizing vs with
  | nil => rw [show vs = [] from x]; exact rfl
  | cons d ds ih => obtain ⟨v, r, e, a, b⟩ := x; rw [e]; simp only [List.reverse_cons]; exact (ih b).append (.cons a .nil)
theorem Rvs.ints {P h} : ∀ {ns : List Int} {vs : List Value}, Rvs P h (ns.map D.int) vs → IntsAre vs ns
  | [], _, x => by rw [show _ = [] from x]; exact .nil
  | n :: ns, _, ⟨v, r, e, ⟨t, x⟩, y⟩ => by rw [e, x]; exact .cons n t (Rvs.ints y)
theorem Rvs.of_ints {P h} : ∀ {ns : List Int} {vs : List Value}, IntsAre vs ns → Rvs P h (ns.map D.int) vs
  | _, _, .nil => rfl
  | _, _, .cons n t r => ⟨_, _, rfl, ⟨t, rfl⟩, Rvs.of_ints r⟩
theorem Rvs.set {P h} {ds : List D} {vs : List Value} (x : Rvs P h ds vs) (i : Nat) {d v} (y : Rv P h d v) : Rvs P h (ds.set i d) (vs.set i v) := by
  induction ds generalizing vs i with
  | nil => rw [show vs = [] from x]; simp; exact rfl
  | cons e ds ih =>
    obtain ⟨u, r, eq, a, b⟩ := x
    rw [eq]
    cases i with
    | zero => exact ⟨_, _, rfl, y, b⟩
    | succ i => exact ⟨_, _, rfl, a, ih b i⟩

/-! states -/
/-- P, and what did not stand yet -/
noncomputable def PN (s : Shared) (P : PA) : PA := fun a => P a ∨ s.heap.get? a = none

noncomputable def Kp (s s' : Shared) : Prop := ∃ h' tk, s' = { s with heap := h', toks := tk } ∧ ∀ b o, s.heap.get? b = some o → h'.get? b = some o

theorem Kp.refl (s : Shared) : Kp s s := ⟨s.heap, s.toks, rfl, fun _ _ e => e⟩
theorem Kp.trans {s t u : Shared} : Kp s t → Kp t u → Kp s u
  | ⟨_, _, e, k⟩, ⟨h, tk, e', k'⟩ => ⟨h, tk, by rw [e', e], fun b o x => k' b o (by rw [e]; exact k b o x)⟩
theorem Kp.keep {s t : Shared} (k : Kp s t) : ∀ b o, s.heap.get? b = some o → t.heap.get? b = some o := by
  obtain ⟨_, _, e, k⟩ := k; rw [e]; exact k
theorem Kp.tok (s : Shared) (n : Nat) : Kp s { s with toks := n } := ⟨s.heap, n, rfl, fun _ _ e => e⟩
theorem Kp.push (s : Shared) (o : Obj) : Kp s { s with heap := s.heap.push o } := ⟨s.heap.push o, s.toks, rfl, fun _ _ e => Heap.get?_push_of_some _ e⟩
theorem Kp.of {s : Shared} {h : Heap} {n : Nat} (k : ∀ b o, s.heap.get? b = some o → h.get? b = some o) : Kp s { s with heap := h, toks := n } := ⟨h, n, rfl, k⟩
theorem Kp.tr {s t : Shared} (k : Kp s t) (P : PA) : Tr P (PN s P) s.heap t.heap := .of_keep k.keep fun _ p => .inl p
theorem Kp.trP {s t : Shared} (k : Kp s t) (P : PA) : Tr P P s.heap t.heap := .of_keep k.keep fun _ p => p

theorem get_none_of_ge {h : Heap} {a : Addr} (x : h.objs.size ≤ a) : h.get? a = none := by
  cases e : h.get? a with
  | none => rfl
  | some o => exact absurd (Heap.lt_size e) (Nat.not_lt.mpr x)
theorem Kp.none {s t : Shared} (k : Kp s t) {a : Addr} (x : t.heap.get? a = none) : s.heap.get? a = none := by
  cases e : s.heap.get? a with
  | none => rfl
  | some o => rw [k.keep a o e] at x; cases x
theorem PN.step {s t : Shared} (k : Kp s t) {P : PA} : ∀ a, PN t (PN s P) a → PN s P a
  | _, .inl x => x
  | _, .inr x => .inr (k.none x)
theorem PN.mono {s : Shared} {P Q : PA} (x : ∀ a, P a → Q a) : ∀ a, PN s P a → PN s Q a
  | _, .inl y => .inl (x _ y)
  | _, .inr y => .inr y
theorem PN.later {s t : Shared} (k : Kp s t) {P : PA} : ∀ a, PN t P a → PN s P a
  | _, .inl y => .inl y
  | _, .inr y => .inr (k.none y)

end Mine

namespace Mine

/-- what the law's world is: the program, the world, the text's own objects, the names -/
structure Wd where
  prog : Program
  w : World
  h₀ : Heap
  K : Frag
  mg : Str → Option Value
  mb : Str → Option Value

noncomputable abbrev Wd.M (G : Wd) : Model := model G.prog G.w

theorem Ns.keep' {h h' : Heap} {a m} (k : ∀ b o, h.get? b = some o → h'.get? b = some o) (x : h.Ns a m) : h'.Ns a m :=
  let ⟨o, es, ep, ho, r⟩ := x; ⟨o, es, ep, k _ _ ho, r⟩

/-- the heap that the law's call finds -/
structure Bs (G : Wd) : Prop where
  k : G.K.In G.h₀
  g : G.h₀.Ns mainGlobals G.mg
  b : G.h₀.Ns builtinsNs G.mb
  lim : G.h₀.NoLimit

structure GOk (G : Wd) (h : Heap) : Prop where
  base : Bs G
  ext : ∀ b o, G.h₀.get? b = some o → h.get? b = some o

theorem GOk.keep {G h h'} (x : GOk G h) (k : ∀ b o, h.get? b = some o → h'.get? b = some o) : GOk G h' := ⟨x.base, fun b o e => k b o (x.ext b o e)⟩
theorem GOk.k {G h} (x : GOk G h) : G.K.In h := fun a o e => x.ext a o (x.base.k a o e)
theorem GOk.g {G h} (x : GOk G h) : h.Ns mainGlobals G.mg := Ns.keep' x.ext x.base.g
theorem GOk.b {G h} (x : GOk G h) : h.Ns builtinsNs G.mb := Ns.keep' x.ext x.base.b
theorem GOk.lim {G h} (x : GOk G h) : h.NoLimit := let ⟨mc, n, e⟩ := x.base.lim; ⟨mc, Ns.keep' x.ext n, e⟩

/-- room on the stack -/
structure Room (n : Nat) (A : Around) : Prop where
  handled : A.handled = none
  depth : A.depth + 2 * n ≤ 900
  units : A.units + 20 * n + 600 ≤ cLine

theorem Room.le {n m A} (h : Room n A) (x : m ≤ n) : Room m A := ⟨h.handled, by have := h.depth; omega, by have := h.units; omega⟩
theorem Room.in1 {n A} (h : Room (n + 1) A) : Room n A.in1 := ⟨h.handled, by have := h.depth; show A.depth + _ ≤ _; omega, by have := h.units; show A.units + 1 + _ + _ ≤ _; omega⟩
theorem Room.deeper {n A env} (h : Room (n + 1) A) : Room n (A.deeper env) := ⟨h.handled, by have := h.depth; show A.depth + 1 + _ ≤ _; omega, by have := h.units; show A.units + 3 + _ + _ ≤ _; omega⟩
theorem Room.u {n A} (h : Room n A) : A.units < cLine := by have := h.units; omega
theorem Room.u64 {n A} (h : Room n A) : A.units + 64 < cLine := by have := h.units; omega
theorem Room.d {n A} (h : Room n A) : A.depth < recursionLimit := by have := h.depth; show A.depth < 1000; omega

/-- a name of the block read -/
noncomputable def Reads1 (env : Env) (h : Heap) (x : Str) (v : Value) : Prop :=
  (env.kindOf x = some .local ∧ ∃ m, h.Ns env.locals m ∧ m x = some v) ∨
  ((env.kindOf x = some .cell ∨ env.kindOf x = some .free) ∧ ∃ c, env.cells.lookup x = some c ∧ h.IsCell c (some v))

theorem Reads1.keep {env h h' x v} (k : ∀ b o, h.get? b = some o → h'.get? b = some o) : Reads1 env h x v → Reads1 env h' x v
  | .inl ⟨a, m, n, e⟩ => .inl ⟨a, m, Ns.keep' k n, e⟩
  | .inr ⟨a, c, e, i⟩ => .inr ⟨a, c, e, i.keeps k⟩

noncomputable abbrev Sg := List (Str × D)

/-- the kinds of the names of a block, as far as they matter -/
structure ScOk (sc : Scope) (env : Env) : Prop where
  kind : env.scope.kind = .function
  glob : ∀ x, sc.names.lookup x = some .globalImplicit → env.kindOf x = some .globalImplicit
  loc : ∀ x, sc.names.lookup x = some .local → env.kindOf x = some .local
  cel : ∀ x, sc.names.lookup x = some .cell → env.kindOf x = some .cell
  cf : ∀ x, sc.names.lookup x = some .free → env.kindOf x = some .cell ∨ env.kindOf x = some .free
  clo : ∀ x, sc.names.lookup x = some .cell ∨ sc.names.lookup x = some .free → ∃ c, env.cells.lookup x = some c
  g : env.globals = mainGlobals
  b : env.builtins = builtinsNs

structure EnvOk (G : Wd) (sc : Scope) (σ : Sg) (P : PA) (env : Env) (s : Shared) : Prop where
  sc : ScOk sc env
  gok : GOk G s.heap
  old : ∀ a o, G.h₀.get? a = some o → P a
  cin : ∀ x c, env.cells.lookup x = some c → (s.heap.get? c).isSome = true
  var : ∀ x d, σ.lookup x = some d → ∃ v, Reads1 env s.heap x v ∧ Rv P s.heap d v

theorem EnvOk.keep {G sc σ P Q env s t} (x : EnvOk G sc σ P env s) (k : Kp s t) (sub : ∀ b, P b → Q b) : EnvOk G sc σ Q env t :=
  ⟨x.sc, x.gok.keep k.keep, fun a o e => sub a (x.old a o e), fun y c e => by obtain ⟨o, ho⟩ := Option.isSome_iff_exists.mp (x.cin y c e); rw [k.keep c o ho]; rfl, fun y d e => let ⟨v, r, a⟩ := x.var y d e; ⟨v, r.keep k.keep, a.tr (.of_keep k.keep sub)⟩⟩

noncomputable abbrev Post := Value → Shared → Prop
noncomputable def NoE : Value → Shared → Prop := fun _ _ => False

/-- what an expression hands on -/
noncomputable def Ans (s : Shared) (P : PA) (d : D) : Post := fun v s' => Kp s s' ∧ Rv (PN s P) s'.heap d v

noncomputable def EvE (G : Wd) (n : Nat) (sc : Scope) (σ : Sg) (e : Expr) (d : D) : Prop :=
  ∀ A env P s, Room n A → EnvOk G sc σ P env s → wpAny G.M A (eval e env) (Ans s P d) NoE s

noncomputable def EvT (G : Wd) (n : Nat) (sc : Scope) (σ : Sg) (e : Expr) (b : Bool) : Prop :=
  ∀ A env P s, Room n A → EnvOk G sc σ P env s → wpAny G.M A (isTrue e env (eval e env)) (fun c s' => c = b ∧ Kp s s') NoE s

noncomputable def AnsS (s : Shared) (P : PA) (ds : List D) : List Value → Shared → Prop := fun vs s' => Kp s s' ∧ Rvs (PN s P) s'.heap ds vs

noncomputable def EvS (G : Wd) (n : Nat) (sc : Scope) (σ : Sg) (es : List Expr) (ds : List D) : Prop :=
  ∀ A env P s pos, Room n A → EnvOk G sc σ P env s → wpAny G.M A (spliced (backTo pos (starEach es env))) (AnsS s P ds) NoE s

theorem wpNo {α} {M A} {t : Sem α} {Q : α → Shared → Prop} {E s} (h : wpAny M A t Q NoE s) : wpAny M A t Q E s := wpAny_mono h (fun _ _ x => x) fun _ _ x => x.elim

/-- one after the other -/
theorem Ans.then {s s₁ : Shared} {P : PA} {d : D} (k : Kp s s₁) {v s₂} (h : Ans s₁ (PN s P) d v s₂) : Ans s P d v s₂ := ⟨k.trans h.1, h.2.sub (PN.step k)⟩
theorem Ans.old {s s₁ : Shared} {P : PA} {d : D} (k : Kp s s₁) {v s₂} (h : Ans s₁ P d v s₂) : Ans s P d v s₂ := ⟨k.trans h.1, h.2.sub (PN.later k)⟩

section
variable {G : Wd} {n : Nat} {sc : Scope} {σ : Sg}

theorem ev_int {i k pos} : EvE G n sc σ (.Constant (.int i) k pos) (.int i) := fun _ _ _ s _ _ =>
  wpAny_Constant_int ⟨Kp.tok s _, _, rfl⟩
theorem ev_none {k pos} : EvE G n sc σ (.Constant .none k pos) .none := fun _ _ _ s _ _ => wpAny_Constant_none ⟨Kp.refl s, rfl⟩
theorem ev_cbool {b k pos} : EvE G n sc σ (.Constant (.bool b) k pos) (.bool b) := fun _ _ _ s _ _ => wpAny_Constant_bool ⟨Kp.refl s, rfl⟩

theorem read_name {A : Around} {env : Env} {s : Shared} {x : Str} {v : Value} {Q : Post} {E} (hk : env.scope.kind = .function) (r : Reads1 env s.heap x v) (hc : (x == ("__classdict__" : Str)) = false)
    (h : Q v s) : wpAny G.M A (loadName env x) Q E s := by
  rcases r with ⟨l, m, hn, hv⟩ | ⟨l | l, c, hc', hi⟩
  · exact wpAny_loadName_local hk l hn hv h
  · exact wpAny_loadName_cell hk l hc' hi h
  · exact wpAny_loadName_free hk l hc' hi h hc

theorem ev_var {x pos d} (hx : σ.lookup x = some d) (hd : (x == ("__debug__" : Str)) = false := by decide +kernel) (hc : (x == ("__classdict__" : Str)) = false := by decide +kernel) :
    EvE G n sc σ (.Name x pos) d := fun A env P s _ e => by
  obtain ⟨v, r, a⟩ := e.var x d hx
  exact wpAny_Name (read_name e.sc.kind r hc ⟨Kp.refl s, a.sub fun _ p => .inl p⟩) hd

/-- a name of the text's top, or a built-in -/
noncomputable def GlobIs (G : Wd) (x : Str) (v : Value) : Prop := G.mg x = some v ∨ (G.mg x = none ∧ G.mb x = some v)

theorem load_glob {A : Around} {env : Env} {s : Shared} {x : Str} {v : Value} {Q : Post} {E} (g : GOk G s.heap) (hg : env.globals = mainGlobals) (hb : env.builtins = builtinsNs) (x' : GlobIs G x v) (h : Q v s) :
    wpAny G.M A (loadGlobal env x) Q E s := by
  rcases x' with e | ⟨e, e'⟩
  · exact Calls.loadGlobal_global (hg ▸ g.g) e h
  · exact Calls.loadGlobal_builtin (hg ▸ g.g) e (hb ▸ g.b) e' h

theorem eval_glob {A : Around} {env : Env} {s : Shared} {x : Str} {pos : Pos} {v : Value} {Q : Post} {E} {P} (e : EnvOk G sc σ P env s) (hk : sc.names.lookup x = some .globalImplicit) (hv : GlobIs G x v) (h : Q v s)
    (hd : (x == ("__debug__" : Str)) = false := by decide +kernel) : wpAny G.M A (eval (.Name x pos) env) Q E s :=
  Calls.Name_function_global e.sc.kind (e.sc.glob x hk) (load_glob e.gok e.sc.g e.sc.b hv h) hd

/-- a constant of the top's -/
theorem ev_const {x pos d v} (hk : sc.names.lookup x = some .globalImplicit) (hv : GlobIs G x v) (h : ∀ P h, GOk G h → (∀ a o, G.h₀.get? a = some o → P a) → Rv P h d v) (hd : (x == ("__debug__" : Str)) = false := by decide +kernel) :
    EvE G n sc σ (.Name x pos) d := fun A env P s _ e => eval_glob e hk hv ⟨Kp.refl s, h _ _ e.gok fun a o x => .inl (e.old a o x)⟩ hd

/-! operators -/
noncomputable def BinOk (G : Wd) (n : Nat) (op : Operator) (a b c : D) : Prop :=
  ∀ A s P va vb, Room n A → GOk G s.heap → Rv P s.heap a va → Rv P s.heap b vb → wpAny G.M A (binaryOp op va vb) (Ans s P c) NoE s
noncomputable def CmpOk (G : Wd) (n : Nat) (op : CmpOp) (a b : D) (r : Bool) : Prop :=
  ∀ A s P va vb, Room n A → Rv P s.heap a va → Rv P s.heap b vb → wpAny G.M A (compareOp op va vb) (fun v s' => v = .bool r ∧ Kp s s') NoE s

theorem ev_bin {l op r pos a b c} (h1 : EvE G n sc σ l a) (h2 : EvE G n sc σ r b) (h : BinOk G n op a b c) : EvE G n sc σ (.BinOp l op r pos) c := fun A env P s R e => by
  refine wpAny_BinOp (wpAny_mono (h1 A env P s R e) (fun va s₁ q₁ => ?_) fun _ _ x => x)
  have e₁ := e.keep q₁.1 (Q := PN s P) fun _ p => .inl p
  refine wpAny_mono (h2 A env _ s₁ R e₁) (fun vb s₂ q₂ => ?_) fun _ _ x => x
  have k₂ := q₁.1.trans q₂.1
  refine wpAny_mono (h A s₂ (PN s P) va vb R (e.gok.keep k₂.keep) (q₁.2.tr (q₂.1.trP _)) (q₂.2.sub (PN.step q₁.1))) (fun v s₃ q => ?_) fun _ _ x => x
  exact Ans.then k₂ q

theorem ev_cmp {l op r pos a b c} (h1 : EvE G n sc σ l a) (h2 : EvE G n sc σ r b) (h : CmpOk G n op a b c) (hm : behindInMarks op r = false := by with_unfolding_all rfl) :
    EvE G n sc σ (.Compare l [op] [r] pos) (.bool c) := fun A env P s R e => by
  refine wpAny_Compare1 (wpAny_mono (h1 A env P s R e) (fun va s₁ q₁ => ?_) fun _ _ x => x) hm
  have e₁ := e.keep q₁.1 (Q := PN s P) fun _ p => .inl p
  refine wpAny_mono (h2 A env _ s₁ R e₁) (fun vb s₂ q₂ => ?_) fun _ _ x => x
  refine wpAny_mono (h A s₂ (PN s P) va vb R (q₁.2.tr (q₂.1.trP _)) (q₂.2.sub (PN.step q₁.1))) (fun v s₃ q => ?_) fun _ _ x => x
  exact ⟨(q₁.1.trans q₂.1).trans q.2, q.1⟩

theorem evt_cmp {l op r pos a b c} (h1 : EvE G n sc σ l a) (h2 : EvE G n sc σ r b) (h : CmpOk G n op a b c) (hm : behindInMarks op r = false := by with_unfolding_all rfl) :
    EvT G n sc σ (.Compare l [op] [r] pos) c := fun A env P s R e => by
  refine wpAny_isTrue_Compare1 (wpAny_mono (h1 A env P s R e) (fun va s₁ q₁ => ?_) fun _ _ x => x) hm
  have e₁ := e.keep q₁.1 (Q := PN s P) fun _ p => .inl p
  refine wpAny_mono (h2 A env _ s₁ R e₁) (fun vb s₂ q₂ => ?_) fun _ _ x => x
  refine wpAny_mono (h A s₂ (PN s P) va vb R (q₁.2.tr (q₂.1.trP _)) (q₂.2.sub (PN.step q₁.1))) (fun v s₃ q => ?_) fun _ _ x => x
  obtain ⟨rfl, k⟩ := q
  exact wpAny_truthy_bool ⟨rfl, (q₁.1.trans q₂.1).trans k⟩

theorem evt_and {x y pos a b} (h1 : EvT G n sc σ x a) (h2 : a = true → EvT G n sc σ y b) : EvT G n sc σ (.BoolOp .And [x, y] pos) (a && b) := fun A env P s R e => by
  refine wpAny_isTrue_BoolOp (wpAny_allTrue_And_cons (wpAny_mono (h1 A env P s R e) (fun c s₁ q₁ => ?_) fun _ _ x => x))
  obtain ⟨rfl, k₁⟩ := q₁
  cases c with
  | false => exact ⟨rfl, k₁⟩
  | true =>
    refine wpAny_allTrue_And_cons (wpAny_mono (h2 rfl A env P s₁ R (e.keep k₁ fun _ p => p)) (fun c s₂ q₂ => ?_) fun _ _ x => x)
    obtain ⟨rfl, k₂⟩ := q₂
    cases c with
    | false => exact ⟨rfl, k₁.trans k₂⟩
    | true => exact wpAny_allTrue_And_nil ⟨rfl, k₁.trans k₂⟩

/-- `x and y` as a value, both bools -/
theorem ev_and {x y pos a b} (h1 : EvE G n sc σ x (.bool a)) (h2 : a = true → EvE G n sc σ y (.bool b)) : EvE G n sc σ (.BoolOp .And [x, y] pos) (.bool (a && b)) := fun A env P s R e => by
  refine wpAny_And2 (wpAny_mono (h1 A env P s R e) (fun v s₁ q₁ => ?_) fun _ _ x => x)
  obtain ⟨k₁, rfl⟩ := q₁
  refine wpAny_truthy_bool ?_
  cases a with
  | false => exact ⟨k₁, rfl⟩
  | true =>
    refine wpAny_mono (h2 rfl A env P s₁ R (e.keep k₁ fun _ p => p)) (fun v s₂ q₂ => ?_) fun _ _ x => x
    obtain ⟨k₂, rfl⟩ := q₂
    exact ⟨k₁.trans k₂, rfl⟩

theorem ev_if {t x y pos b d} (h1 : EvT G n sc σ t b) (h2 : b = true → EvE G n sc σ x d) (h3 : b = false → EvE G n sc σ y d) : EvE G n sc σ (.IfExp t x y pos) d := fun A env P s R e => by
  refine wpAny_IfExp (wpAny_mono (h1 A env P s R e) (fun c s₁ q₁ => ?_) fun _ _ x => x)
  obtain ⟨rfl, k₁⟩ := q₁
  have e₁ := e.keep k₁ (Q := P) fun _ p => p
  cases c with
  | true => exact wpAny_mono (h2 rfl A env P s₁ R e₁) (fun v s₂ q => Ans.old k₁ q) fun _ _ x => x
  | false => exact wpAny_mono (h3 rfl A env P s₁ R e₁) (fun v s₂ q => Ans.old k₁ q) fun _ _ x => x

theorem evs_nil : EvS G n sc σ [] [] := fun _ _ _ s _ _ _ => wpAny_items_nil ⟨Kp.refl s, rfl⟩
theorem evs_cons {e es d ds} (h1 : EvE G n sc σ e d) (h2 : EvS G n sc σ es ds) (he : ∀ env, starEach (e :: es) env = (false, eval e env) :: starEach es env := by intro _; rfl) :
    EvS G n sc σ (e :: es) (d :: ds) := fun A env P s pos R x => by
  refine wpAny_items_cons (wpAny_mono (h1 A env P s R x) (fun v s₁ q₁ => ?_) fun _ _ x => x) (he env)
  have e₁ := x.keep q₁.1 (Q := PN s P) fun _ p => .inl p
  refine wpAny_mono (h2 A env _ s₁ pos R e₁) (fun vs s₂ q₂ => ?_) fun _ _ x => x
  exact ⟨q₁.1.trans q₂.1, .cons (q₁.2.tr (q₂.1.trP _)) (q₂.2.sub (PN.step q₁.1))⟩

theorem push_new {s : Shared} {o : Obj} (hf : o.isFreed = false) : (s.heap.push o).get? s.heap.objs.size = some o := Heap.get?_push_size _ hf
theorem size_none (s : Shared) : s.heap.get? s.heap.objs.size = none := get_none_of_ge (Nat.le_refl _)

theorem ev_tup {es k pos ds} (h : EvS G n sc σ es ds) (hz : ds.length ≤ 16777216 := by decide) : EvE G n sc σ (.Tuple es k pos) (.tup ds) := fun A env P s R e => by
  refine wpAny_Tuple (wpAny_mono (h A env P s pos R e) (fun vs s₁ q => ?_) fun _ _ x => x)
  have hl : vs.length = ds.length := q.2.length
  refine ⟨by rw [hl]; exact hz, q.1.trans (Kp.push _ _), _, vs.toArray, rfl, .inr (q.1.none (size_none s₁)), ⟨_, push_new rfl, rfl, _, rfl⟩, ?_⟩
  exact q.2.tr ((Kp.push _ _).trP _)

theorem ev_list {es pos ds} (h : EvS G n sc σ es ds) (hz : ds.length ≤ 16777216 := by decide) : EvE G n sc σ (.List es pos) (.list ds) := fun A env P s R e => by
  refine wpAny_List (wpAny_mono (h A env P s pos R e) (fun vs s₁ q => ?_) fun _ _ x => x)
  have hl : vs.length = ds.length := q.2.length
  refine ⟨by rw [hl]; exact hz, q.1.trans (Kp.push _ _), _, vs.toArray, rfl, .inr (q.1.none (size_none s₁)), ⟨_, push_new rfl⟩, ?_⟩
  exact q.2.tr ((Kp.push _ _).trP _)

/-! calls -/
noncomputable def CallOk (G : Wd) (n : Nat) (f : Value) (ds : List D) (d : D) : Prop :=
  ∀ A s P vs, Room n A → GOk G s.heap → (∀ a o, G.h₀.get? a = some o → P a) → Rvs P s.heap ds vs → wpAny G.M A (call f vs) (Ans s P d) NoE s

/-- what a written call may call: a built-in, a type, a def -/
noncomputable def Callee (G : Wd) : Value → Prop
  | .builtin _ => True
  | .type _ => True
  | .ref a => ∃ o fd, G.K.lookup a = some o ∧ o.data = .func fd
  | _ => False

theorem callWith_plain {A : Around} {s : Shared} {pos : Pos} {f : Value} {args : List (Bool × Sem Value)} {Q : Post} (hc : Callee G f) (hplain : args.any (·.1) = false)
    (h : wpAny G.M A (evalArgs f true args []) (fun a s₁ => GOk G s₁.heap ∧ a.kw = [] ∧ wpAny G.M A (call f a.pos) Q NoE s₁) NoE s) :
    wpAny G.M A (callWith pos f [] args []) Q NoE s := by
  unfold callWith
  refine wpAny_bind (wpAny_holding (wpAny_mono h (fun a s₁ h₁ => wpAny_bind (wpAny_standAt ?_)) fun _ _ x => x))
  obtain ⟨g, hkw, h₁⟩ := h₁
  have tail : ∀ {t : Sem Value}, wpAny G.M A t Q NoE s₁ → wpAny G.M A (t >>= fun r => holding [r] point >>= fun _ => pure r) Q NoE s₁ :=
    fun ht => wpAny_bind (wpAny_mono ht (fun r s₂ hr => wpAny_bind (wpAny_holding (wpAny_point (wpAny_pure hr)))) fun _ _ x => x)
  simp only [hplain, List.any_nil, Bool.or_false, List.nil_append, hkw]
  cases f with
  | builtin id => exact wpAny_bind (wpAny_pure (tail h₁))
  | type T => exact wpAny_bind (wpAny_pure (tail h₁))
  | ref a =>
    obtain ⟨o, fd, hk, hd⟩ := hc
    refine wpAny_bind (m := keeperOf (.ref a)) ?_
    unfold keeperOf
    refine wpAny_bind (wpAny_load (g.k a o hk) ?_)
    rw [hd]
    refine wpAny_pure ?_
    first
      | refine wpAny_ite ?_
      | skip
    split <;> first
      | exact tail h₁
      | exact tail (by unfold callMarked; exact Calls.wpAny_keep h₁)
  | _ => exact hc.elim

theorem ev_call {x px e es pos ds d f} (hk : sc.names.lookup x = some .globalImplicit) (hv : GlobIs G x f) (hc : Callee G f) (h : EvS G n sc σ (e :: es) ds) (hf : CallOk G n f ds d)
    (hs : ∀ env, starEach (e :: es) env = (false, eval e env) :: starEach es env := by intro _; rfl)
    (hall : ∀ env, (backTo pos (starEach (e :: es) env)).any (·.1) = false := by intro _; rfl)
    (hd : (x == ("__debug__" : Str)) = false := by decide +kernel) : EvE G n sc σ (.Call (.Name x px) (e :: es) [] pos) d := fun A env P s R E => by
  show wpAny _ _ (eval (.Name x px) env >>= fun f => callWith pos f [] (backTo pos (starEach (e :: es) env)) (backToKw pos (keywordEach [] env))) _ _ s
  refine wpAny_bind (eval_glob E hk hv (callWith_plain hc (hall env) ?_) hd)
  have := h A env P s pos R E
  rw [hs env] at this ⊢
  refine Calls.evalArgs_plain (x := eval e env) (rest := backTo pos (starEach es env)) (wpAny_mono this (fun vs s₁ q => ?_) fun _ _ x => x)
  have g := E.gok.keep q.1.keep
  refine ⟨g, rfl, wpAny_mono (hf A s₁ _ vs R g (fun a o e => .inl (E.old a o e)) q.2) (fun v s₂ q₂ => ?_) fun _ _ x => x⟩
  exact Ans.then q.1 q₂
end
end Mine

namespace Mine
open PySem.SeqAt

/-- an int of a size that products like -/
noncomputable abbrev Sm (a : Int) : Prop := -1152921504606846976 < a ∧ a < 1152921504606846976

section
variable {G : Wd} {n : Nat}

theorem add_ii {a b : Int} : BinOk G n .Add (.int a) (.int b) (.int (a + b)) := fun A s P va vb R g ha hb => by
  obtain ⟨t, rfl⟩ := ha; obtain ⟨u, rfl⟩ := hb
  exact wpAny_add_int ⟨Kp.tok s _, _, rfl⟩
theorem sub_ii {a b : Int} : BinOk G n .Sub (.int a) (.int b) (.int (a - b)) := fun A s P va vb R g ha hb => by
  obtain ⟨t, rfl⟩ := ha; obtain ⟨u, rfl⟩ := hb
  exact PyProof.Rows.sub_int ⟨Kp.tok s _, _, rfl⟩
theorem mul_ii {a b : Int} (h : Sm a ∨ Sm b) : BinOk G n .Mult (.int a) (.int b) (.int (a * b)) := fun A s P va vb R g ha hb => by
  obtain ⟨t, rfl⟩ := ha; obtain ⟨u, rfl⟩ := hb
  refine PyProof.Rows.mul_int ⟨Kp.tok s _, _, rfl⟩ ?_
  rcases h with h | h
  · exact IntMulOk.of_left (intBits_le_64 (by have := h.1; omega) (by have := h.2; omega))
  · exact IntMulOk.of_right (intBits_le_64 (by have := h.1; omega) (by have := h.2; omega))
theorem fdiv_ii {a b : Int} (h : b ≠ 0) (hs : -1073741824 < b ∧ b < 1073741824) : BinOk G n .FloorDiv (.int a) (.int b) (.int (a.fdiv b)) := fun A s P va vb R g ha hb => by
  obtain ⟨t, rfl⟩ := ha; obtain ⟨u, rfl⟩ := hb
  exact PyProof.Rows.floordiv_int h ⟨Kp.tok s _, _, rfl⟩ (.inl (PyProof.noPylong_small (by omega)))
theorem mod_ii {a b : Int} (h : b ≠ 0) : BinOk G n .Mod (.int a) (.int b) (.int (a.fmod b)) := fun A s P va vb R g ha hb => by
  obtain ⟨t, rfl⟩ := ha; obtain ⟨u, rfl⟩ := hb
  exact PyProof.Rows.mod_int' h ⟨Kp.tok s _, _, rfl⟩
theorem pow_ii {a b : Int} (hn : 0 ≤ b) (hsz : (Builtin.Int.intBits a : Int) * b ≤ 2 ^ 27) : BinOk G n .Pow (.int a) (.int b) (.int (a ^ b.toNat)) := fun A s P va vb R g ha hb => by
  obtain ⟨t, rfl⟩ := ha; obtain ⟨u, rfl⟩ := hb
  exact PyProof.Rows.pow_int hn hsz ⟨Kp.tok s _, _, rfl⟩

theorem add_ll {a b : List D} (hz : a.length + b.length ≤ 16777216) : BinOk G n .Add (.list a) (.list b) (.list (a ++ b)) := fun A s P va vb R g ha hb => by
  obtain ⟨x, vs, rfl, px, ⟨i, hx⟩, rx⟩ := ha; obtain ⟨y, us, rfl, py, ⟨j, hy⟩, ry⟩ := hb
  have l1 := rx.length; have l2 := ry.length
  rw [Array.length_toList] at l1 l2
  refine PySem.P.add_list hx hy ⟨Kp.push s _, _, vs ++ us, rfl, .inr (size_none s), ⟨_, push_new rfl⟩, ?_⟩ (by rw [l1, l2]; exact hz)
  rw [Array.toList_append]
  exact (rx.append ry).tr ((Kp.push s _).tr P)
theorem add_tt {a b : List D} (hz : a.length + b.length ≤ 16777216) : BinOk G n .Add (.tup a) (.tup b) (.tup (a ++ b)) := fun A s P va vb R g ha hb => by
  obtain ⟨x, vs, rfl, px, hx', rx⟩ := ha; obtain ⟨y, us, rfl, py, hy', ry⟩ := hb
  have l1 := rx.length; have l2 := ry.length
  rw [Array.length_toList] at l1 l2
  obtain ⟨⟨c1, d1, t1, s1⟩, hx, hc1, i, hd1⟩ := id hx'
  obtain ⟨⟨c2, d2, t2, s2⟩, hy, hc2, j, hd2⟩ := id hy'
  simp only at hc1 hd1 hc2 hd2
  subst hc1 hd1 hc2 hd2
  by_cases h1 : vs.isEmpty = true
  · have e : a = [] := by have : vs = #[] := by simpa using h1
                          subst this; cases a with | nil => rfl | cons => simp at l1
    subst e
    exact concat_meets ⟨_, hx, rfl⟩ ⟨_, hy, rfl⟩ noFill_tuple_add seq_tuple_add F.slot_tuple_add F.entry_tuple_add (F.args_tuple_add_2 _ _) (tuple_addW0 x y vs us i j d1 d2 s1 s2 h1)
      ⟨hx, hy, Kp.refl s, y, us, rfl, .inl py, hy', ry.sub fun _ p => .inl p⟩
  · by_cases h2 : us.isEmpty = true
    · have e : b = [] := by have : us = #[] := by simpa using h2
                            subst this; cases b with | nil => rfl | cons => simp at l2
      subst e
      rw [List.append_nil]
      exact concat_meets ⟨_, hx, rfl⟩ ⟨_, hy, rfl⟩ noFill_tuple_add seq_tuple_add F.slot_tuple_add F.entry_tuple_add (F.args_tuple_add_2 _ _) (tuple_addW1 x y vs us i j d1 d2 s1 s2 h1 h2)
        ⟨hx, hy, Kp.refl s, x, vs, rfl, .inl px, hx', rx.sub fun _ p => .inl p⟩
    · refine concat_meets ⟨_, hx, rfl⟩ ⟨_, hy, rfl⟩ noFill_tuple_add seq_tuple_add F.slot_tuple_add F.entry_tuple_add (F.args_tuple_add_2 _ _) (tuple_addW2 x y vs us i j d1 d2 s1 s2 h1 h2 (by rw [l1, l2]; exact hz))
        ⟨hx, hy, Kp.push s _, _, vs ++ us, rfl, .inr (size_none s), ⟨_, push_new rfl, rfl, _, rfl⟩, ?_⟩
      rw [Array.toList_append]
      exact (rx.append ry).tr ((Kp.push s _).tr P)

theorem Rvs.replicate {P h} {ds : List D} {vs : List Value} (x : Rvs P h ds vs) : ∀ k : Nat, Rvs P h (List.replicate k ds).flatten (List.replicate k vs).flatten
  | 0 => rfl
  | k + 1 => by rw [List.replicate_succ, List.replicate_succ, List.flatten_cons, List.flatten_cons]; exact x.append (Rvs.replicate x k)

theorem foldl_app (k : Nat) (vs : Array Value) (acc : Array Value) : (List.foldl (fun x1 x2 => x1 ++ x2) acc (List.replicate k vs)).toList = acc.toList ++ (List.replicate k vs.toList).flatten := by
  induction k generalizing acc with
  | zero => simp
  | succ k ih => rw [List.replicate_succ, List.foldl_cons, ih, List.replicate_succ, List.flatten_cons, Array.toList_append, List.append_assoc]

theorem mul_li {a : List D} {k : Int} (h1 : k < 9223372036854775808) (h0 : -9223372036854775808 ≤ k) (hz : a.length * k.toNat ≤ 16777216) : BinOk G n .Mult (.list a) (.int k) (.list (List.replicate k.toNat a).flatten) := fun A s P va vb R g ha hb => by
  obtain ⟨x, vs, rfl, px, ⟨i, hx⟩, rx⟩ := ha; obtain ⟨u, rfl⟩ := hb
  have l1 := rx.length
  rw [Array.length_toList] at l1
  refine wpAny_binaryOp_repeat_ref (T := "list") (U := "int") (by decide) ⟨_, hx, rfl⟩ (fun s' => typeIs_int s' k u) noFill_list_mul F.fills_int_mul F.slot_int_rmul repeat_list F.slot_int_index.lookup
    (call_meets F.slot_int_rmul (typeIs_int s k u) F.entry_int_rmul (F.args_int_rmul_2 _ _) (int___rmul___int_list k u x vs i)
      ⟨hx, rfl, ⟨_, hx, rfl⟩, call_meets F.slot_list_mul ⟨_, hx, rfl⟩ F.entry_list_mul (F.args_list_mul_2 _ _)
        (AutoListH.list___mul___list_int_3 x vs i k u (by simp [Builtin.List.listFitsIndex]; omega) (by rw [l1]; omega) (by simp [Builtin.List.listTooLong, sizeLine]; rw [l1]; omega))
        ⟨hx, Kp.push s _, _, _, rfl, .inr (size_none s), ⟨_, push_new rfl⟩, ?_⟩⟩)
  rw [foldl_app]
  refine Rvs.tr ((Kp.push s _).tr P) ?_
  by_cases he : vs.isEmpty = true
  · rw [if_pos he]
    have : vs = #[] := by simpa using he
    subst this
    cases a with
    | nil => simp; exact rfl
    | cons => simp at l1
  · rw [if_neg he]; simpa using rx.replicate k.toNat

/-! comparisons -/
noncomputable def deqL (f : D → D → Option Bool) : List D → List D → Option Bool
  | [], [] => some true
  | a :: as, b :: bs => match f a b, deqL f as bs with
    | some x, some y => some (x && y)
    | _, _ => none
  | _, _ => some false
noncomputable def deq : Nat → D → D → Option Bool
  | _, .none, .none => some true
  | _, .int a, .int b => some (a == b)
  | k + 1, .tup a, .tup b => deqL (deq k) a b
  | k + 1, .list a, .list b => deqL (deq k) a b
  | _, _, _ => none

theorem deqL_spec {f : D → D → Option Bool} : ∀ {a b : List D} {r : Bool}, deqL f a b = some r →
    ∃ e : Nat → Bool, (∀ j x y, a[j]? = some x → b[j]? = some y → f x y = some (e j)) ∧ r = ((List.range (min a.length b.length)).all e && a.length == b.length)
  | [], [], r, h => by simp [deqL] at h; subst h; exact ⟨fun _ => true, by simp, by simp⟩
  | [], y :: b, r, h => by simp [deqL] at h; subst h; exact ⟨fun _ => true, by simp, by simp⟩
  | x :: a, [], r, h => by simp [deqL] at h; subst h; exact ⟨fun _ => true, by simp, by simp⟩
  | x :: a, y :: b, r, h => by
    unfold deqL at h
    cases h1 : f x y with
    | none => rw [h1] at h; simp at h
    | some p => cases h2 : deqL f a b with
      | none => rw [h1, h2] at h; simp at h
      | some q =>
        rw [h1, h2] at h
        simp only [Option.some.injEq] at h
        obtain ⟨e, he, hq⟩ := deqL_spec h2
        refine ⟨fun j => match j with | 0 => p | j + 1 => e j, fun j u v hu hv => ?_, ?_⟩
        · cases j with
          | zero => simp at hu hv; subst hu hv; exact h1
          | succ j => exact he j u v (by simpa using hu) (by simpa using hv)
        · rw [← h, hq]
          simp only [List.length_cons, Nat.succ_min_succ, List.range_succ_eq_map, List.all_cons, List.all_map, Bool.and_assoc]
          congr 1
          congr 1
          by_cases hl : a.length = b.length <;> simp [hl]

theorem deq_same {P Q h} : ∀ (k : Nat) {a b : D} {v : Value} {r : Bool}, Rv P h a v → Rv Q h b v → deq k a b = some r → r = true := by
  intro k
  induction k with
  | zero =>
    intro a b v r ha hb hd
    cases a <;> cases b <;> simp [deq] at hd
    · exact hd.symm ▸ rfl
    · obtain ⟨t, e⟩ := ha; obtain ⟨u, e'⟩ := hb; rw [e] at e'; cases e'; simpa using hd.symm
  | succ k ih =>
    have go : ∀ {as bs : List D} {us ws : List Value} {r : Bool}, us = ws → Rvs P h as us → Rvs Q h bs ws → deqL (deq k) as bs = some r → r = true := by
      intro as
      induction as with
      | nil =>
        intro bs us ws r e ha hb hd
        rw [show us = [] from ha] at e
        subst e
        cases bs with
        | nil => simp [deqL] at hd; exact hd.symm ▸ rfl
        | cons => obtain ⟨_, _, e, _⟩ := hb; cases e
      | cons x as ih2 =>
        intro bs us ws r e ha hb hd
        obtain ⟨v, us', e1, hx, has⟩ := ha
        cases bs with
        | nil => rw [show ws = [] from hb] at e; rw [e1] at e; cases e
        | cons y bs =>
          obtain ⟨w, ws', e2, hy, hbs⟩ := hb
          rw [e1, e2] at e
          injection e with e3 e4
          unfold deqL at hd
          cases h1 : deq k x y with
          | none => rw [h1] at hd; simp at hd
          | some p => cases h2 : deqL (deq k) as bs with
            | none => rw [h1, h2] at hd; simp at hd
            | some q =>
              rw [h1, h2] at hd
              simp only [Option.some.injEq] at hd
              rw [← hd, ih hx (e3 ▸ hy) h1, ih2 e4 has hbs h2]; rfl
    intro a b v r ha hb hd
    cases a <;> cases b <;> simp [deq] at hd
    · exact hd.symm ▸ rfl
    · obtain ⟨t, e⟩ := ha; obtain ⟨u, e'⟩ := hb; rw [e] at e'; cases e'; simpa using hd.symm
    · obtain ⟨x, vs, rfl, _, ⟨o, hx, _, i, dx⟩, rx⟩ := ha; obtain ⟨y, us, e, _, ⟨o', hy, _, j, dy⟩, ry⟩ := hb
      cases e
      have := Option.some.inj (hx.symm.trans hy)
      subst this
      rw [dx] at dy
      injection dy with e1 e2
      exact go (by rw [e1]) rx ry hd
    · obtain ⟨x, vs, rfl, _, ⟨i, hx⟩, rx⟩ := ha; obtain ⟨y, us, e, _, ⟨j, hy⟩, ry⟩ := hb
      cases e
      have := Option.some.inj (hx.symm.trans hy)
      simp only [Obj.mk.injEq, Data.seq.injEq, true_and, and_true] at this
      exact go (by rw [this.1]) rx ry hd

theorem PL.is {h : Heap} {a vs} (x : h.PlainList a vs) : h.IsList a vs := let ⟨n, x⟩ := x; ⟨_, x, rfl, n, rfl⟩

theorem rvs_at {P h} {ds : List D} {vs : Array Value} (x : Rvs P h ds vs.toList) {j : Nat} (hj : j < vs.size) : ∃ d, ds[j]? = some d ∧ Rv P h d vs[j] := by
  have hl := x.length
  rw [Array.length_toList] at hl
  obtain ⟨v, hv, r⟩ := x.get (i := j) (d := ds[j]'(by omega)) (by simp)
  refine ⟨_, List.getElem?_eq_getElem (by omega), ?_⟩
  have : vs[j]? = some v := by simpa using hv
  rw [Array.getElem?_eq_getElem hj] at this
  cases this; exact r

theorem eqAt {P Q} : ∀ (k : Nat) {A : Around} {s : Shared} {a b : D} {v u : Value} {r : Bool}, A.units + k < cLine → Rv P s.heap a v → Rv Q s.heap b u → deq k a b = some r → EqAt A s v u r := by
  intro k
  induction k with
  | zero =>
    intro A s a b v u r hu ha hb hd
    cases a <;> cases b <;> simp [deq] at hd
    · rw [show v = _ from ha, show u = _ from hb, hd]; exact EqAt.same _
    · obtain ⟨t, rfl⟩ := ha; obtain ⟨w, rfl⟩ := hb; rw [← hd]; exact fun prog w E Q hq => wpAny_eqBool_int hq
  | succ k ih =>
    intro A s a b v u r hu ha hb hd
    cases a <;> cases b <;> simp [deq] at hd
    · rw [show v = _ from ha, show u = _ from hb, hd]; exact EqAt.same _
    · obtain ⟨t, rfl⟩ := ha; obtain ⟨w, rfl⟩ := hb; rw [← hd]; exact fun prog w E Q hq => wpAny_eqBool_int hq
    · rename_i as bs
      have hd' : deq (k + 1) (.tup as) (.tup bs) = some r := hd
      obtain ⟨x, vs, rfl, _, px, rx⟩ := id ha; obtain ⟨y, us, rfl, _, py, ry⟩ := id hb
      by_cases hxy : x = y
      · subst hxy; rw [deq_same _ ha hb hd']; exact EqAt.same _
      · obtain ⟨e, he, hr⟩ := deqL_spec hd
        have l1 := rx.length; have l2 := ry.length
        rw [Array.length_toList] at l1 l2
        refine EqAt.of_refs hxy ?_
        rw [hr, ← l1, ← l2]
        refine RcAt.tuples (e := e) px py (by omega) fun j h1 h2 => ?_
        obtain ⟨d1, g1, q1⟩ := rvs_at rx h1
        obtain ⟨d2, g2, q2⟩ := rvs_at ry h2
        exact ih (A := A.in1) (by show A.units + 1 + k < cLine; omega) q1 q2 (he j _ _ g1 g2)
    · rename_i as bs
      have hd' : deq (k + 1) (.list as) (.list bs) = some r := hd
      obtain ⟨x, vs, rfl, _, px, rx⟩ := id ha; obtain ⟨y, us, rfl, _, py, ry⟩ := id hb
      by_cases hxy : x = y
      · subst hxy; rw [deq_same _ ha hb hd']; exact EqAt.same _
      · obtain ⟨e, he, hr⟩ := deqL_spec hd
        have l1 := rx.length; have l2 := ry.length
        rw [Array.length_toList] at l1 l2
        refine EqAt.of_refs hxy ?_
        by_cases hs : vs.size = us.size
        · have : r = ((List.range vs.size).all e) := by rw [hr, ← l1, ← l2, hs]; simp
          rw [this]
          refine RcAt.lists (e := e) (PL.is px) (PL.is py) hs (by omega) fun j h1 h2 => ?_
          obtain ⟨d1, g1, q1⟩ := rvs_at rx h1
          obtain ⟨d2, g2, q2⟩ := rvs_at ry h2
          exact ih (A := A.in1) (by show A.units + 1 + k < cLine; omega) q1 q2 (he j _ _ g1 g2)
        · have : r = false := by rw [hr, ← l1, ← l2]; simp [hs]
          rw [this]
          exact RcAt.lists_lengths (PL.is px) (PL.is py) (by simpa using hs) (by omega)
end
end Mine

namespace Mine
open PySem.SeqAt

section
variable {G : Wd} {n : Nat}

theorem eq_ii {a b : Int} : CmpOk G n .Eq (.int a) (.int b) (a == b) := fun A s P va vb R ha hb => by
  obtain ⟨t, rfl⟩ := ha; obtain ⟨u, rfl⟩ := hb
  exact PyProof.Rows.eq_int ⟨rfl, Kp.refl s⟩
theorem ne_ii {a b : Int} : CmpOk G n .NotEq (.int a) (.int b) (a != b) := fun A s P va vb R ha hb => by
  obtain ⟨t, rfl⟩ := ha; obtain ⟨u, rfl⟩ := hb
  exact PyProof.Rows.ne_int ⟨rfl, Kp.refl s⟩
theorem lt_ii {a b : Int} : CmpOk G n .Lt (.int a) (.int b) (decide (a < b)) := fun A s P va vb R ha hb => by
  obtain ⟨t, rfl⟩ := ha; obtain ⟨u, rfl⟩ := hb
  exact PyProof.Rows.lt_int ⟨rfl, Kp.refl s⟩
theorem gt_ii {a b : Int} : CmpOk G n .Gt (.int a) (.int b) (decide (b < a)) := fun A s P va vb R ha hb => by
  obtain ⟨t, rfl⟩ := ha; obtain ⟨u, rfl⟩ := hb
  exact PyProof.Rows.gt_int ⟨rfl, Kp.refl s⟩
theorem ge_ii {a b : Int} : CmpOk G n .GtE (.int a) (.int b) (decide (b ≤ a)) := fun A s P va vb R ha hb => by
  obtain ⟨t, rfl⟩ := ha; obtain ⟨u, rfl⟩ := hb
  exact PyProof.Rows.ge_int ⟨rfl, Kp.refl s⟩
theorem le_ii {a b : Int} : CmpOk G n .LtE (.int a) (.int b) (decide (a ≤ b)) := fun A s P va vb R ha hb => by
  obtain ⟨t, rfl⟩ := ha; obtain ⟨u, rfl⟩ := hb
  exact PyProof.Rows.le_int ⟨rfl, Kp.refl s⟩
theorem eq_bb {a b : Bool} : CmpOk G n .Eq (.bool a) (.bool b) (a == b) := fun A s P va vb R ha hb => by
  rw [show va = _ from ha, show vb = _ from hb]
  exact PyProof.Rows.eq_bool ⟨rfl, Kp.refl s⟩

theorem eq_tt {a b : List D} {r : Bool} (h : deqL (deq 7) a b = some r) : CmpOk G n .Eq (.tup a) (.tup b) r := fun A s P va vb R ha hb => by
  obtain ⟨x, vs, rfl, _, px, rx⟩ := ha; obtain ⟨y, us, rfl, _, py, ry⟩ := hb
  obtain ⟨e, he, hr⟩ := deqL_spec h
  have l1 := rx.length; have l2 := ry.length
  rw [Array.length_toList] at l1 l2
  refine cmp_ofEq (RcAt.tuples (e := e) px py R.u (fun j h1 h2 => ?_) _ _ _ _ ⟨by rw [hr, l1, l2], Kp.refl s⟩)
  obtain ⟨d1, g1, q1⟩ := rvs_at rx h1
  obtain ⟨d2, g2, q2⟩ := rvs_at ry h2
  exact eqAt 7 (A := A.in1) (by have := R.u64; show A.units + 1 + 7 < cLine; omega) q1 q2 (he j _ _ g1 g2)
theorem ne_tt {a b : List D} {r : Bool} (h : deqL (deq 7) a b = some r) : CmpOk G n .NotEq (.tup a) (.tup b) (!r) := fun A s P va vb R ha hb => by
  obtain ⟨x, vs, rfl, _, px, rx⟩ := ha; obtain ⟨y, us, rfl, _, py, ry⟩ := hb
  obtain ⟨e, he, hr⟩ := deqL_spec h
  have l1 := rx.length; have l2 := ry.length
  rw [Array.length_toList] at l1 l2
  refine cmp_ofNotEq (RcNeAt.tuples (e := e) px py R.u (fun j h1 h2 => ?_) _ _ _ _ ⟨by rw [hr, l1, l2], Kp.refl s⟩)
  obtain ⟨d1, g1, q1⟩ := rvs_at rx h1
  obtain ⟨d2, g2, q2⟩ := rvs_at ry h2
  exact eqAt 7 (A := A.in1) (by have := R.u64; show A.units + 1 + 7 < cLine; omega) q1 q2 (he j _ _ g1 g2)
theorem eq_ll {a b : List D} {r : Bool} (h : deqL (deq 7) a b = some r) : CmpOk G n .Eq (.list a) (.list b) r := fun A s P va vb R ha hb => by
  obtain ⟨x, vs, rfl, _, px, rx⟩ := ha; obtain ⟨y, us, rfl, _, py, ry⟩ := hb
  obtain ⟨e, he, hr⟩ := deqL_spec h
  have l1 := rx.length; have l2 := ry.length
  rw [Array.length_toList] at l1 l2
  by_cases hs : vs.size = us.size
  · refine cmp_ofEq (RcAt.lists (e := e) (PL.is px) (PL.is py) hs R.u (fun j h1 h2 => ?_) _ _ _ _ ⟨by rw [hr, ← l1, ← l2, hs]; simp, Kp.refl s⟩)
    obtain ⟨d1, g1, q1⟩ := rvs_at rx h1
    obtain ⟨d2, g2, q2⟩ := rvs_at ry h2
    exact eqAt 7 (A := A.in1) (by have := R.u64; show A.units + 1 + 7 < cLine; omega) q1 q2 (he j _ _ g1 g2)
  · exact cmp_ofEq (RcAt.lists_lengths (PL.is px) (PL.is py) (by simpa using hs) R.u _ _ _ _ ⟨by rw [hr, ← l1, ← l2]; simp [hs], Kp.refl s⟩)
theorem ne_ll {a b : List D} {r : Bool} (h : deqL (deq 7) a b = some r) : CmpOk G n .NotEq (.list a) (.list b) (!r) := fun A s P va vb R ha hb => by
  obtain ⟨x, vs, rfl, _, px, rx⟩ := ha; obtain ⟨y, us, rfl, _, py, ry⟩ := hb
  obtain ⟨e, he, hr⟩ := deqL_spec h
  have l1 := rx.length; have l2 := ry.length
  rw [Array.length_toList] at l1 l2
  by_cases hs : vs.size = us.size
  · refine cmp_ofNotEq (RcNeAt.lists (e := e) (PL.is px) (PL.is py) hs R.u (fun j h1 h2 => ?_) _ _ _ _ ⟨by rw [hr, ← l1, ← l2, hs]; simp, Kp.refl s⟩)
    obtain ⟨d1, g1, q1⟩ := rvs_at rx h1
    obtain ⟨d2, g2, q2⟩ := rvs_at ry h2
    exact eqAt 7 (A := A.in1) (by have := R.u64; show A.units + 1 + 7 < cLine; omega) q1 q2 (he j _ _ g1 g2)
  · exact cmp_ofNotEq (RcNeAt.lists_lengths (PL.is px) (PL.is py) (by simpa using hs) R.u _ _ _ _ ⟨by rw [hr, ← l1, ← l2]; simp [hs], Kp.refl s⟩)
end
end Mine

namespace Mine

/-- one of the list, one of the tuple: what a slice with step 1 takes -/
noncomputable def slc {α : Type} (l : List α) (lo hi : Option Int) : List α := (l.drop (kms_lo lo l.length)).take (kms_hi hi l.length - kms_lo lo l.length)

theorem Rvs.slc {P h ds vs} (x : Rvs P h ds vs) (lo hi : Option Int) : Rvs P h (Mine.slc ds lo hi) (Mine.slc vs lo hi) := by
  unfold Mine.slc; rw [x.length]; exact (x.drop _).take _

/-- an index of a sequence's -/
noncomputable def PartIs (d : D) (o : Option Int) : Prop := (d = .none ∧ o = none) ∨ ∃ i, d = .int i ∧ o = some i
theorem PartIs.part {d o P h v} (x : PartIs d o) (r : Rv P h d v) : IsPart v o := by
  rcases x with ⟨rfl, rfl⟩ | ⟨i, rfl, rfl⟩
  · rw [show v = _ from r]; exact .none
  · obtain ⟨t, rfl⟩ := r; exact .int i t
theorem partNone : PartIs .none none := .inl ⟨rfl, rfl⟩
theorem partInt {i : Int} : PartIs (.int i) (some i) := .inr ⟨i, rfl, rfl⟩

noncomputable def OptIs (G : Wd) (n : Nat) (sc : Scope) (σ : Sg) : Option Expr → Option Int → Prop
  | none, o => o = none
  | some e, o => ∃ d, EvE G n sc σ e d ∧ PartIs d o

section
variable {G : Wd} {n : Nat}

theorem slicePart_of {A : Around} {E} {s : Shared} {v : Value} {o : Option Int} {Q : Option Int → Shared → Prop} (h : IsPart v o) (q : Q o s) : wpAny G.M A (Builtin.Slice.slicePartIndex v) Q E s := by
  cases h with
  | none => exact slicePart_none q
  | int i t => exact slicePart_int q

theorem adjust_is (lo hi : Option Int) (k : Nat) : Builtin.Slice.sliceAdjust lo hi 1 (k : Int) = (((kms_lo lo k : Nat) : Int), ((kms_hi hi k : Nat) : Int)) := by
  unfold Builtin.Slice.sliceAdjust
  have h1 : ¬ ((1 : Int) < 0) := by omega
  simp only [h1, if_false]
  refine Prod.ext ?_ ?_
  · cases lo with
    | none => rfl
    | some x => simp only [kms_lo]; split <;> omega
  · cases hi with
    | none => rfl
    | some x => simp only [kms_hi]; split <;> omega
theorem places_is (a b : Nat) : Builtin.Slice.slicePlaces (a : Int) (b : Int) 1 = b - a := by
  unfold Builtin.Slice.slicePlaces
  have h1 : (1 : Int) > 0 := by omega
  simp only [h1, if_true, Int.ediv_one]
  split <;> omega

theorem picked_is (xs : Array Value) (a k : Nat) : ((List.range k).filterMap fun (i : Nat) => xs[((a : Int) + (i : Int) * 1).toNat]?) = (xs.toList.drop a).take k := by
  have e : (fun (i : Nat) => xs[((a : Int) + (i : Int) * 1).toNat]?) = fun i => (xs.toList.drop a)[i]? := by
    funext i
    have : ((a : Int) + (i : Int) * 1).toNat = a + i := by omega
    rw [this, List.getElem?_drop]; simp
  rw [e]
  generalize xs.toList.drop a = l
  clear e
  induction k generalizing l with
  | zero => simp
  | succ k ih =>
    cases l with
    | nil => simp
    | cons x l =>
      rw [List.range_succ_eq_map, List.filterMap_cons]
      simp only [List.getElem?_cons_zero, List.filterMap_map, List.take_succ_cons]
      congr 1
      rw [← ih l]
      rfl

theorem sliceApplied_is {A : Around} {E} {s : Shared} {sl : Addr} {vl vu : Value} {lo hi : Option Int} {k : Nat} {Q : Int × Int × Nat → Shared → Prop} (hs : s.heap.IsSliceOf sl vl vu .none) (pl : IsPart vl lo) (pu : IsPart vu hi)
    (h : Q (((kms_lo lo k : Nat) : Int), 1, kms_hi hi k - kms_lo lo k) s) : wpAny G.M A (Builtin.Slice.sliceApplied (.ref sl) (pure (k : Int))) Q E s := by
  obtain ⟨os, hos, hcs, hds⟩ := id hs
  unfold Builtin.Slice.sliceApplied Builtin.Slice.sliceFields
  refine wpAny_bind (wpAny_bind (wpAny_field hos hds (x := vl) rfl (wpAny_bind (wpAny_field hos hds (x := vu) rfl (wpAny_bind (wpAny_field hos hds (x := .none) rfl (wpAny_pure ?_)))))))
  refine wpAny_bind (slicePart_none ?_)
  show wpAny _ _ (if ((1 : Int) == 0) = true then _ else _) _ _ s
  rw [if_neg (by decide)]
  refine wpAny_bind (slicePart_of pl (wpAny_bind (slicePart_of pu (wpAny_bind (wpAny_pure ?_)))))
  show wpAny _ _ (match Builtin.Slice.sliceAdjust lo hi 1 (k : Int) with | (lo, hi) => pure (lo, (1 : Int), Builtin.Slice.slicePlaces lo hi 1)) _ _ s
  rw [adjust_is]
  show wpAny _ _ (pure (((kms_lo lo k : Nat) : Int), (1 : Int), Builtin.Slice.slicePlaces ((kms_lo lo k : Nat) : Int) ((kms_hi hi k : Nat) : Int) 1)) _ _ s
  rw [places_is]
  exact wpAny_pure h

theorem getItem_tupS {A : Around} {E} {s : Shared} {t sl : Addr} {items : Array Value} {vl vu : Value} {lo hi : Option Int} {Q : Post} (ht : s.heap.IsTuple t items) (hs : s.heap.IsSliceOf sl vl vu .none) (pl : IsPart vl lo) (pu : IsPart vu hi)
    (hsz : items.size ≤ 16777216)
    (h0 : slc items.toList lo hi = items.toList → Q (.ref t) s)
    (h : Q (.ref s.heap.objs.size) { s with heap := s.heap.push { cls := .type "tuple", data := .seq (slc items.toList lo hi).toArray } }) : wpAny G.M A (getItem (.ref t) (.ref sl)) Q E s := by
  have hT : s.TypeIs (.ref t) "tuple" := let ⟨o, ho, hc, _⟩ := ht; ⟨o, ho, hc⟩
  have hok : sizeOk (.seq (slc items.toList lo hi).toArray) := by
    show (slc items.toList lo hi).toArray.size ≤ sizeLine
    rw [List.size_toArray]; unfold slc
    rw [List.length_take, List.length_drop, Array.length_toList]
    show _ ≤ 16777216
    omega
  obtain ⟨os, hos, hcs, hds⟩ := id hs
  have hTs : s.TypeIs (.ref sl) "slice" := ⟨os, hos, hcs⟩
  obtain ⟨ot, hot, hct, nt, hdt⟩ := id ht
  unfold getItem
  refine wpAny_holding ?_
  refine wpAny_bind (wpAny_sequenceKey hT (by decide) ?_)
  refine wpAny_bind (wpAny_callSpecial?_slot (name := Str.ofString "__getitem__") hT slot_tuple_getitem (wpAny_call_entry slot_tuple_getitem hT entry_tuple_getitem ?_ (args_tuple_getitem _ _)))
  show wpAny _ _ (Builtin.Tuple.tupleItemsOf (.ref t) >>= _) _ _ s
  refine wpAny_bind (wpAny_tupleItemsOf hot hdt ?_)
  refine wpAny_bind (wpAny_typeOf hTs ?_)
  rw [if_pos (by decide)]
  refine wpAny_bind (sliceApplied_is hs pl pu ?_)
  show wpAny _ _ (if (((kms_lo lo items.size : Nat) : Int) == 0 && (1 : Int) == 1 && (kms_hi hi items.size - kms_lo lo items.size) == items.size) = true then _ else _) _ _ s
  have e : ((List.range (kms_hi hi items.size - kms_lo lo items.size)).filterMap fun (k : Nat) => items[(((kms_lo lo items.size : Nat) : Int) + (k : Int) * 1).toNat]?).toArray = (slc items.toList lo hi).toArray := by
    rw [picked_is]; unfold slc; rw [Array.length_toList]
  by_cases hw : (((kms_lo lo items.size : Nat) : Int) == 0 && (1 : Int) == 1 && (kms_hi hi items.size - kms_lo lo items.size) == items.size) = true
  · rw [if_pos hw]
    simp only [Bool.and_eq_true, beq_iff_eq, and_true] at hw
    have hq := h0 (by
      unfold slc; rw [Array.length_toList, hw.2, show kms_lo lo items.size = 0 by omega]
      rw [List.drop_zero, List.take_of_length_le (by simp)])
    refine wpAny_bind (m := Builtin.Tuple.tupleIsExact (.ref t)) ?_
    unfold Builtin.Tuple.tupleIsExact
    refine wpAny_bind (wpAny_typeOf hT (wpAny_pure ?_))
    rw [if_pos (by decide)]
    exact wpAny_bind (wpAny_rule (wpAny_bind (wpAny_pure (wpAny_pure ⟨_, rfl, wpAny_pure hq⟩))))
  · rw [if_neg hw, e]
    first
      | exact wpAny_bind (m := Builtin.Tuple.tupleExact _) (wpAny_newObj_type (wpAny_pure ⟨_, rfl, wpAny_pure h⟩) hok)
      | exact wpAny_bind (m := Builtin.Tuple.tupleExact _) (wpAny_newObj_type (wpAny_bind (wpAny_pure (wpAny_pure ⟨_, rfl, wpAny_pure h⟩))) hok)
      | exact wpAny_bind (wpAny_bind (m := Builtin.Tuple.tupleExact _) (wpAny_newObj_type (wpAny_pure (wpAny_pure ⟨_, rfl, wpAny_pure h⟩)) hok))
      | exact wpAny_bind (wpAny_bind (m := Builtin.Tuple.tupleExact _) (wpAny_newObj_type (wpAny_pure ⟨_, rfl, wpAny_pure h⟩) hok))

/-! items -/
noncomputable def GetOk (G : Wd) (n : Nat) (o i d : D) : Prop :=
  ∀ A s P vo vi, Room n A → Rv P s.heap o vo → Rv P s.heap i vi →
    (∃ T id, typeLookup (.type T) "__getitem__" = pure (some (.builtin id)) ∧ s.TypeIs vo T) ∧ wpAny G.M A (getItem vo vi) (Ans s P d) NoE s

theorem get_list {l : List D} {i : Int} {d : D} (h0 : 0 ≤ i) (hi : l[i.toNat]? = some d) (hl : i < 9223372036854775808) : GetOk G n (.list l) (.int i) d := fun A s P vo vi R ho hi' => by
  obtain ⟨a, vs, rfl, pa, px, rx⟩ := ho; obtain ⟨t, rfl⟩ := hi'
  obtain ⟨v, hv, r⟩ := rx.get hi
  refine ⟨⟨"list", _, slot_list_getitem.lookup, (PL.is px).typeIs⟩, wpAny_getItem_list (PL.is px) h0 (by omega) (by simpa using hv) ⟨Kp.refl s, r.sub fun _ p => .inl p⟩⟩
theorem get_tup {l : List D} {i : Int} {d : D} (h0 : 0 ≤ i) (hi : l[i.toNat]? = some d) (hl : i < 9223372036854775808) : GetOk G n (.tup l) (.int i) d := fun A s P vo vi R ho hi' => by
  obtain ⟨a, vs, rfl, pa, px, rx⟩ := ho; obtain ⟨t, rfl⟩ := hi'
  obtain ⟨v, hv, r⟩ := rx.get hi
  have hT : s.TypeIs (.ref a) "tuple" := let ⟨o, ho, hc, _⟩ := px; ⟨o, ho, hc⟩
  have hlen : i.toNat < vs.size := by
    have := (List.getElem?_eq_some_iff.mp hv).1
    rwa [Array.length_toList] at this
  refine ⟨⟨"tuple", _, slot_tuple_getitem.lookup, hT⟩, PyProof.Rows.getItem_tuple (j := i.toNat) px (by omega) (by omega) ?_ (by simpa using hv) ⟨Kp.refl s, r.sub fun _ p => .inl p⟩⟩
  unfold seqIndex?
  have h1 : ¬ i < 0 := by omega
  have h2 : (decide (0 ≤ i) && decide (i < (vs.size : Int))) = true := by simp; omega
  simp only [h1, if_false, h2, if_true]

variable {sc : Scope} {σ : Sg}

theorem ev_sub {value slice pos o i d} (h1 : EvE G n sc σ value o) (h2 : EvE G n sc σ slice i) (h : GetOk G n o i d)
    (hs : ∀ a b, subscripted slice false a b = operate [a, b] (getItem a b) := by intro _ _; with_unfolding_all rfl) : EvE G n sc σ (.Subscript value slice pos) d := fun A env P s R e => by
  rw [arm_eval_Subscript]
  refine wpAny_bind (wpAny_mono (h1 A env P s R e) (fun vo s₁ q₁ => ?_) fun _ _ x => x)
  have e₁ := e.keep q₁.1 (Q := PN s P) fun _ p => .inl p
  refine wpAny_bind (wpAny_holding (wpAny_mono (h2 A env _ s₁ R e₁) (fun vi s₂ q₂ => ?_) fun _ _ x => x))
  obtain ⟨⟨T, id, hl, hT⟩, hg⟩ := h A s₂ (PN s P) vo vi R (q₁.2.tr (q₂.1.trP _)) (q₂.2.sub (PN.step q₁.1))
  refine wpAny_bind (wpAny_standAt ?_)
  have fin : wpAny G.M A (operate [vo, vi] (getItem vo vi)) (fun r s₃ => wpAny G.M A (letTemporaryGo value vo r >>= fun _ => pure r) (Ans s P d) NoE s₃) NoE s₂ :=
    wpAny_operating (wpAny_mono hg (fun r s₃ h₃ => wpAny_bind (wpAny_letTemporaryGo (wpAny_pure (Ans.then (q₁.1.trans q₂.1) h₃)))) fun _ _ x => x)
  refine wpAny_bind (m := getitemInPython vo) ?_
  unfold getitemInPython
  refine wpAny_bind (wpAny_specialOf hT hl ?_)
  refine wpAny_pure ?_
  rw [hs]
  exact wpAny_bind fin

theorem evalPart_of {A env P s} {e : Option Expr} {o : Option Int} (h : OptIs G n sc σ e o) (R : Room n A) (x : EnvOk G sc σ P env s) : wpAny G.M A (evalPart e env) (fun v s' => IsPart v o ∧ Kp s s') NoE s := by
  cases e with
  | none => rw [show o = none from h, evalPart_none]; exact wpAny_pure ⟨.none, Kp.refl s⟩
  | some e =>
    obtain ⟨d, h, p⟩ := h
    rw [evalPart_some]
    exact wpAny_mono (h A env P s R x) (fun v s₁ q => ⟨p.part q.2, q.1⟩) fun _ _ x => x

theorem ev_slice {value lo hi p pos o d l u} (h1 : EvE G n sc σ value o) (h2 : OptIs G n sc σ lo l) (h3 : OptIs G n sc σ hi u)
    (ho : (∃ ds, o = .list ds ∧ d = .list (slc ds l u) ∧ ds.length ≤ 16777216) ∨ (∃ ds, o = .tup ds ∧ d = .tup (slc ds l u) ∧ ds.length ≤ 16777216)) : EvE G n sc σ (.Subscript value (.Slice lo hi none p) pos) d := fun A env P s R e => by
  rw [arm_eval_Subscript]
  refine wpAny_bind (wpAny_mono (h1 A env P s R e) (fun vo s₁ q₁ => ?_) fun _ _ x => x)
  have e₁ := e.keep q₁.1 (Q := PN s P) fun _ p => .inl p
  refine wpAny_bind (wpAny_holding (wpAny_Slice (wpAny_mono (evalPart_of h2 R e₁) (fun vl s₂ q₂ => ?_) fun _ _ x => x)))
  have e₂ := e₁.keep q₂.2 fun _ p => p
  refine wpAny_mono (evalPart_of h3 R e₂) (fun vu s₃ q₃ => ?_) fun _ _ x => x
  rw [evalPart_none]
  refine wpAny_pure ?_
  have k₃ := q₂.2.trans q₃.2
  have k₄ := k₃.trans (Kp.push s₃ { cls := .type "slice", data := .fields #[vl, vu, .none] })
  have ro := q₁.2.tr (k₄.trP _)
  generalize hs4 : ({ s₃ with heap := s₃.heap.push { cls := .type "slice", data := .fields #[vl, vu, .none] } } : Shared) = s₄ at k₄ ro ⊢
  have hsl : s₄.heap.IsSliceOf s₃.heap.objs.size vl vu .none := by rw [← hs4]; exact Heap.IsSliceOf.new ..
  have key : (∃ T id, typeLookup (.type T) "__getitem__" = pure (some (.builtin id)) ∧ s₄.TypeIs vo T) ∧ wpAny G.M A (getItem vo (.ref s₃.heap.objs.size)) (Ans s P d) NoE s₄ := by
    rcases ho with ⟨ds, rfl, rfl, hz⟩ | ⟨ds, rfl, rfl, hz⟩
    · obtain ⟨a, vs, rfl, pa, px, rx⟩ := ro
      have hl := rx.length
      rw [Array.length_toList] at hl
      refine ⟨⟨"list", _, slot_list_getitem.lookup, (PL.is px).typeIs⟩, wpAny_getItem_list_slice (PL.is px) hsl q₂.1 q₃.1 .none (fun x => nomatch x) ⟨(q₁.1.trans k₄).trans (Kp.push _ _), _, _, rfl, .inr ((q₁.1.trans k₄).none (size_none s₄)), ⟨_, push_new rfl⟩, ?_⟩ (by rw [hl]; exact hz)⟩
      rw [kms_pick_eq]
      exact (rx.slc l u).tr ((Kp.push s₄ _).trP _)
    · obtain ⟨a, vs, rfl, pa, px, rx⟩ := ro
      have hl := rx.length
      rw [Array.length_toList] at hl
      have hT : s₄.TypeIs (.ref a) "tuple" := let ⟨o, ho, hc, _⟩ := px; ⟨o, ho, hc⟩
      refine ⟨⟨"tuple", _, slot_tuple_getitem.lookup, hT⟩, getItem_tupS px hsl q₂.1 q₃.1 (by rw [hl]; exact hz) (fun hw => ⟨q₁.1.trans k₄, a, vs, rfl, pa, px, ?_⟩) ⟨(q₁.1.trans k₄).trans (Kp.push _ _), _, _, rfl, .inr ((q₁.1.trans k₄).none (size_none s₄)), ⟨_, push_new rfl, rfl, _, rfl⟩, ?_⟩⟩
      · have := rx.slc l u
        rw [hw] at this; exact this
      · exact (rx.slc l u).tr ((Kp.push s₄ _).trP _)
  obtain ⟨⟨T, id, hl, hT⟩, hg⟩ := key
  refine wpAny_bind (wpAny_standAt ?_)
  have fin : wpAny G.M A (operate [.ref s₃.heap.objs.size, vo] (getItem vo (.ref s₃.heap.objs.size))) (fun r s₅ => wpAny G.M A (letTemporaryGo value vo r >>= fun _ => pure r) (Ans s P d) NoE s₅) NoE s₄ :=
    wpAny_operating (wpAny_mono hg (fun r s₅ h₅ => wpAny_bind (wpAny_letTemporaryGo (wpAny_pure h₅))) fun _ _ x => x)
  refine wpAny_bind (m := getitemInPython vo) ?_
  unfold getitemInPython
  refine wpAny_bind (wpAny_specialOf hT hl ?_)
  refine wpAny_pure ?_
  exact wpAny_bind fin

theorem ev_neg {x pos i} (h : EvE G n sc σ x (.int i)) : EvE G n sc σ (.UnaryOp .USub x pos) (.int (-i)) := fun A env P s R e => by
  refine wpAny_UnaryOp (wpAny_mono (h A env P s R e) (fun v s₁ q => ?_) fun _ _ x => x)
  obtain ⟨t, rfl⟩ := q.2
  exact PyProof.Rows.neg_int ⟨q.1.trans (Kp.tok s₁ _), _, rfl⟩

/-- `x[::-1]` of a list -/
theorem ev_rev {value c p pos ds} (h1 : EvE G n sc σ value (.list ds)) (hc : EvE G n sc σ c (.int (-1))) (hz : ds.length ≤ 16777216) : EvE G n sc σ (.Subscript value (.Slice none none (some c) p) pos) (.list ds.reverse) := fun A env P s R e => by
  rw [arm_eval_Subscript]
  refine wpAny_bind (wpAny_mono (h1 A env P s R e) (fun vo s₁ q₁ => ?_) fun _ _ x => x)
  have e₁ := e.keep q₁.1 (Q := PN s P) fun _ p => .inl p
  refine wpAny_bind (wpAny_holding (wpAny_Slice ?_))
  rw [evalPart_none]
  refine wpAny_pure (wpAny_pure ?_)
  rw [evalPart_some]
  refine wpAny_mono (hc A env _ s₁ R e₁) (fun vc s₃ q₃ => ?_) fun _ _ x => x
  obtain ⟨t, rfl⟩ := q₃.2
  have k₄ := q₃.1.trans (Kp.push s₃ { cls := .type "slice", data := .fields #[.none, .none, .int (-1) t] })
  have ro := q₁.2.tr (k₄.trP _)
  generalize hs4 : ({ s₃ with heap := s₃.heap.push { cls := .type "slice", data := .fields #[.none, .none, .int (-1) t] } } : Shared) = s₄ at k₄ ro ⊢
  have hsl : s₄.heap.IsSliceOf s₃.heap.objs.size .none .none (.int (-1) t) := by rw [← hs4]; exact Heap.IsSliceOf.new ..
  obtain ⟨a, vs, rfl, pa, px, rx⟩ := ro
  have hl := rx.length
  rw [Array.length_toList] at hl
  have hg : wpAny G.M A (getItem (.ref a) (.ref s₃.heap.objs.size)) (Ans s P (.list ds.reverse)) NoE s₄ := by
    refine wpAny_getItem_list_slice (PL.is px) hsl .none .none (.int _ _) (by decide) ⟨(q₁.1.trans k₄).trans (Kp.push _ _), _, _, rfl, .inr ((q₁.1.trans k₄).none (size_none s₄)), ⟨_, push_new rfl⟩, ?_⟩ (by rw [hl]; exact hz)
    rw [krv_pick]
    exact rx.reverse.tr ((Kp.push s₄ _).trP _)
  refine wpAny_bind (wpAny_standAt ?_)
  have fin : wpAny G.M A (operate [.ref a, .ref s₃.heap.objs.size] (getItem (.ref a) (.ref s₃.heap.objs.size))) (fun r s₅ => wpAny G.M A (letTemporaryGo value (.ref a) r >>= fun _ => pure r) (Ans s P (.list ds.reverse)) NoE s₅) NoE s₄ :=
    wpAny_operating (wpAny_mono hg (fun r s₅ h₅ => wpAny_bind (wpAny_letTemporaryGo (wpAny_pure h₅))) fun _ _ x => x)
  refine wpAny_bind (m := getitemInPython (.ref a)) ?_
  unfold getitemInPython
  refine wpAny_bind (wpAny_specialOf (PL.is px).typeIs slot_list_getitem.lookup ?_)
  refine wpAny_pure ?_
  exact wpAny_bind fin
end
end Mine

namespace Mine

/-- all but some addresses stay -/
noncomputable def KpB (wr : List Addr) (s s' : Shared) : Prop := ∃ h' tk, s' = { s with heap := h', toks := tk } ∧ ∀ b o, b ∉ wr → s.heap.get? b = some o → h'.get? b = some o

theorem KpB.refl (wr : List Addr) (s : Shared) : KpB wr s s := ⟨s.heap, s.toks, rfl, fun _ _ _ e => e⟩
theorem KpB.trans {wr} {s t u : Shared} : KpB wr s t → KpB wr t u → KpB wr s u
  | ⟨_, _, e, k⟩, ⟨h, tk, e', k'⟩ => ⟨h, tk, by rw [e', e], fun b o n x => k' b o n (by rw [e]; exact k b o n x)⟩
theorem KpB.keep {wr} {s t : Shared} (k : KpB wr s t) : ∀ b o, b ∉ wr → s.heap.get? b = some o → t.heap.get? b = some o := by
  obtain ⟨_, _, e, k⟩ := k; rw [e]; exact k
theorem KpB.sub {wr wr'} {s t : Shared} (k : KpB wr s t) (h : ∀ b ∈ wr, b ∈ wr') : KpB wr' s t :=
  let ⟨a, b, e, k⟩ := k; ⟨a, b, e, fun c o n => k c o fun m => n (h c m)⟩
theorem Kp.toB {s t : Shared} (k : Kp s t) (wr) : KpB wr s t := let ⟨a, b, e, k⟩ := k; ⟨a, b, e, fun c o _ => k c o⟩
theorem KpB.no {wr} {s t : Shared} (k : KpB wr s t) {a : Addr} (n : a ∉ wr) (x : t.heap.get? a = none) : s.heap.get? a = none := by
  cases e : s.heap.get? a with
  | none => rfl
  | some o => rw [k.keep a o n e] at x; cases x
/-- what is written was not there: all stays -/
theorem KpB.toKp {wr} {s t : Shared} (k : KpB wr s t) (h : ∀ b ∈ wr, s.heap.get? b = none) : Kp s t :=
  let ⟨a, b, e, k⟩ := k; ⟨a, b, e, fun c o x => k c o (fun m => by rw [h c m] at x; cases x) x⟩
theorem KpB.of {wr : List Addr} {s : Shared} {h : Heap} {n : Nat} (k : ∀ b o, b ∉ wr → s.heap.get? b = some o → h.get? b = some o) : KpB wr s { s with heap := h, toks := n } := ⟨h, n, rfl, k⟩
/-- the written ones of the second were new to the first -/
theorem KpB.then {wr wr'} {s t u : Shared} (k : KpB wr s t) (k' : KpB wr' t u) (h : ∀ b ∈ wr', b ∈ wr ∨ s.heap.get? b = none) : KpB wr s u := by
  obtain ⟨_, _, e, k⟩ := k; obtain ⟨h', tk, e', k'⟩ := k'
  exact ⟨h', tk, by rw [e', e], fun b o n x => k' b o (fun m => (h b m).elim n fun y => by rw [y] at x; cases x) (by rw [e]; exact k b o n x)⟩

theorem Ns.ncell {h : Heap} {L m} (n : h.Ns L m) {c v} (x : h.IsCell c v) : c ≠ L := by
  rintro rfl
  obtain ⟨o, es, ep, ho, hd, _⟩ := n
  obtain ⟨o', ho', hd'⟩ := x
  cases ho.symm.trans ho'
  rw [hd] at hd'; cases hd'

/-- the block's own names and cells stand; nothing else reaches them -/
structure FrOk (G : Wd) (sc : Scope) (P : PA) (env : Env) (s : Shared) : Prop where
  ns : ∃ m, s.heap.Ns env.locals m
  np : ¬ P env.locals
  nb : G.h₀.get? env.locals = none
  has : ∀ x, sc.names.lookup x = some .cell → ∃ c, env.cells.lookup x = some c
  cell : ∀ x c, sc.names.lookup x = some .cell → env.cells.lookup x = some c → (∃ v, s.heap.IsCell c v) ∧ ¬ P c ∧ G.h₀.get? c = none
  apart : ∀ x y c, sc.names.lookup x = some .cell → env.cells.lookup x = some c → env.cells.lookup y = some c → x = y

section
variable {G : Wd} {n : Nat} {sc : Scope} {σ : Sg} {P : PA} {env : Env} {s : Shared}

theorem trB {wr : List Addr} {P : PA} {s t : Shared} (k : KpB wr s t) (h : ∀ b ∈ wr, ¬ P b) : Tr P P s.heap t.heap := ⟨fun b o p => k.keep b o fun m => h b m p, fun _ p => p⟩

theorem gokB {wr : List Addr} {s t : Shared} (g : GOk G s.heap) (k : KpB wr s t) (h : ∀ b ∈ wr, G.h₀.get? b = none) : GOk G t.heap :=
  ⟨g.base, fun b o e => k.keep b o (fun m => by rw [h b m] at e; cases e) (g.ext b o e)⟩

theorem lookup_cons (x y : Str) (d : D) (σ : Sg) : List.lookup y ((x, d) :: σ) = if y = x then some d else List.lookup y σ := by
  rw [List.lookup_cons]
  by_cases h : y = x
  · subst h; simp
  · have : (y == x) = false := by simpa using h
    rw [this, if_neg h]

/-- a name of the block's own stored -/
theorem store_local {A : Around} {x : Str} {v : Value} {σ' : Sg} {Q : Unit → Shared → Prop} {E} (hσ : ∀ y d, y ≠ x → σ'.lookup y = some d → σ.lookup y = some d) (e : EnvOk G sc σ P env s) (ns : ∃ m, s.heap.Ns env.locals m) (np : ¬ P env.locals) (nb : G.h₀.get? env.locals = none)
    (hx : env.kindOf x = some .local) (r : ∀ d, σ'.lookup x = some d → Rv P s.heap d v)
    (h : ∀ s', EnvOk G sc σ' P env s' → (∃ m, s'.heap.Ns env.locals m) → KpB [env.locals] s s' → (∀ y u, y ≠ x → Reads1 env s.heap y u → Reads1 env s'.heap y u) → Reads1 env s'.heap x v → Q () s') : wpAny G.M A (storeName env x v) Q E s := by
  obtain ⟨m, hn⟩ := ns
  refine wpAny_storeName_local hx hn (fun h' hn' hs => ?_) (by rw [e.sc.kind]; rfl)
  have k : KpB [env.locals] s { s with heap := h', toks := s.toks + 1 } := .of fun b o nb e => hs.extBut b o (fun q => nb (by simp [q])) e
  have hP : ∀ b ∈ [env.locals], ¬ P b := by simpa using np
  have other : ∀ y u, y ≠ x → Reads1 env s.heap y u → Reads1 env h' y u := fun y u hyx ru => by
    rcases ru with ⟨hk, m', hm', hv⟩ | ⟨hk, c, hc, hi⟩
    · refine .inl ⟨hk, _, hn', ?_⟩
      show (if y = x then some v else m y) = some u
      rw [if_neg hyx, hn.eq_nsMap, ← hm'.eq_nsMap]; exact hv
    · exact .inr ⟨hk, c, hc, hi.sameBut hs (Ns.ncell hn hi)⟩
  refine h _ ⟨e.sc, gokB e.gok k (by simpa using nb), e.old, fun y c hc => ?_, fun y d' hy => ?_⟩ ⟨_, hn'⟩ k other (.inl ⟨hx, _, hn', by simp⟩)
  · obtain ⟨o, ho⟩ := Option.isSome_iff_exists.mp (e.cin y c hc)
    by_cases hcl : c = env.locals
    · obtain ⟨o', _, _, ho', _⟩ := hn'
      show (h'.get? c).isSome = true; rw [hcl, ho']; rfl
    · show (h'.get? c).isSome = true; rw [hs.extBut c o hcl ho]; rfl
  · by_cases hyx : y = x
    · subst hyx
      exact ⟨v, .inl ⟨hx, _, hn', by simp⟩, (r d' hy).tr (trB k hP)⟩
    · obtain ⟨u, ru, rd⟩ := e.var y d' (hσ y d' hyx hy)
      exact ⟨u, other y u hyx ru, rd.tr (trB k hP)⟩

theorem cons_other {x : Str} {d : D} : ∀ y d', y ≠ x → List.lookup y ((x, d) :: σ) = some d' → σ.lookup y = some d' := fun y d' hne h => by rwa [lookup_cons, if_neg hne] at h
theorem cons_here {x : Str} {d : D} {v : Value} (r : Rv P s.heap d v) : ∀ d', List.lookup x ((x, d) :: σ) = some d' → Rv P s.heap d' v := fun d' h => by rw [lookup_cons, if_pos rfl] at h; cases h; exact r

/-- what a block may store into -/
noncomputable def muts (sc : Scope) (env : Env) : List Addr := env.locals :: sc.names.filterMap fun x => if x.2 == .cell && sc.names.lookup x.1 == some .cell then env.cells.lookup x.1 else none

theorem mem_muts {x c} (h : sc.names.lookup x = some .cell) (hc : env.cells.lookup x = some c) : c ∈ muts sc env :=
  List.mem_cons_of_mem _ (List.mem_filterMap.mpr ⟨(x, .cell), mem_of_lookup h, by simp [h, hc]⟩)
theorem muts_is {c} (h : c ∈ muts sc env) : c = env.locals ∨ ∃ x, sc.names.lookup x = some .cell ∧ env.cells.lookup x = some c := by
  rcases List.mem_cons.mp h with h | h
  · exact .inl h
  · obtain ⟨⟨x, k⟩, hx, hc⟩ := List.mem_filterMap.mp h
    by_cases hh : (k == NameKind.cell && sc.names.lookup x == some .cell) = true
    · simp only [hh, if_true] at hc
      simp only [Bool.and_eq_true, beq_iff_eq] at hh
      exact .inr ⟨x, hh.2, hc⟩
    · simp only [hh] at hc
      cases hc
theorem FrOk.off (f : FrOk G sc P env s) : ∀ b ∈ muts sc env, ¬ P b := fun b hb => by
  rcases muts_is hb with rfl | ⟨x, h1, h2⟩
  · exact f.np
  · exact (f.cell x b h1 h2).2.1
theorem FrOk.offB (f : FrOk G sc P env s) : ∀ b ∈ muts sc env, G.h₀.get? b = none := fun b hb => by
  rcases muts_is hb with rfl | ⟨x, h1, h2⟩
  · exact f.nb
  · exact (f.cell x b h1 h2).2.2

/-- a name of a block stored: of its own, or one that a block within reads -/
theorem store_any {A : Around} {x : Str} {v : Value} {σ' : Sg} {Q : Unit → Shared → Prop} {E} (hσ : ∀ y d, y ≠ x → σ'.lookup y = some d → σ.lookup y = some d) (e : EnvOk G sc σ P env s) (f : FrOk G sc P env s)
    (hx : sc.names.lookup x = some .local ∨ sc.names.lookup x = some .cell) (r : ∀ d, σ'.lookup x = some d → Rv P s.heap d v)
    (h : ∀ s', EnvOk G sc σ' P env s' → FrOk G sc P env s' → KpB (muts sc env) s s' → (∀ y u, y ≠ x → Reads1 env s.heap y u → Reads1 env s'.heap y u) → Reads1 env s'.heap x v → Q () s') : wpAny G.M A (storeName env x v) Q E s := by
  rcases hx with hx | hx
  · refine store_local hσ e f.ns f.np f.nb (e.sc.loc x hx) r fun s' e' ns' k o1 o2 => h s' e' ⟨ns', f.np, f.nb, f.has, fun y c hy hc => ?_, f.apart⟩ (k.sub (by simp [muts])) o1 o2
    obtain ⟨⟨u, hu⟩, np, nb⟩ := f.cell y c hy hc
    obtain ⟨m, hn⟩ := f.ns
    have hne := Ns.ncell hn hu
    obtain ⟨o, ho, hd⟩ := hu
    exact ⟨⟨u, o, k.keep c o (by simpa using hne) ho, hd⟩, np, nb⟩
  · obtain ⟨c, hc⟩ := f.has x hx
    obtain ⟨⟨v0, hi⟩, np, nb⟩ := f.cell x c hx hc
    obtain ⟨m, hn⟩ := f.ns
    refine wpAny_storeName_cell e.sc.kind (e.sc.cel x hx) hc hi fun h' hi' hs => ?_
    have k : KpB [c] s { s with heap := h' } := .of (n := s.toks) fun b o nb e => hs.extBut b o (fun q => nb (by simp [q])) e
    have hP : ∀ b ∈ [c], ¬ P b := by simpa using np
    have hLc : env.locals ≠ c := fun q => Ns.ncell hn hi q.symm
    have other : ∀ y u, y ≠ x → Reads1 env s.heap y u → Reads1 env h' y u := fun y u hyx ru => by
      rcases ru with ⟨hk, m', hm', hv⟩ | ⟨hk, c', hc', hi2⟩
      · exact .inl ⟨hk, m', hm'.sameBut hs hLc, hv⟩
      · exact .inr ⟨hk, c', hc', hi2.sameBut hs fun q => hyx (f.apart x y c hx hc (q ▸ hc')).symm⟩
    refine h _ ⟨e.sc, gokB e.gok k (by simpa using nb), e.old, fun y c' hc' => ?_, fun y d' hy => ?_⟩ ⟨?_, f.np, f.nb, f.has, fun y c' hy hc' => ?_, f.apart⟩ (k.sub (by simpa using mem_muts hx hc)) other (.inr ⟨.inl (e.sc.cel x hx), c, hc, hi'⟩)
    · obtain ⟨o, ho⟩ := Option.isSome_iff_exists.mp (e.cin y c' hc')
      by_cases hcl : c' = c
      · obtain ⟨o', ho', _⟩ := hi'
        show (h'.get? c').isSome = true; rw [hcl, ho']; rfl
      · show (h'.get? c').isSome = true; rw [hs.extBut c' o hcl ho]; rfl
    · by_cases hyx : y = x
      · subst hyx
        exact ⟨v, .inr ⟨.inl (e.sc.cel y hx), c, hc, hi'⟩, (r d' hy).tr (trB k hP)⟩
      · obtain ⟨u, ru, rd⟩ := e.var y d' (hσ y d' hyx hy)
        exact ⟨u, other y u hyx ru, rd.tr (trB k hP)⟩
    · exact ⟨m, hn.sameBut hs hLc⟩
    · obtain ⟨⟨u, hu⟩, np', nb'⟩ := f.cell y c' hy hc'
      by_cases hcc : c' = c
      · subst hcc; exact ⟨⟨_, hi'⟩, np', nb'⟩
      · exact ⟨⟨u, hu.sameBut hs hcc⟩, np', nb'⟩
end
end Mine

namespace Mine

/-! targets -/
noncomputable def bindS : List Expr → List D → Sg → Option Sg
  | [], [], σ => some σ
  | .Name x _ :: es, d :: ds, σ => bindS es ds ((x, d) :: σ)
  | _, _, _ => none
noncomputable def bindTo : Expr → D → Sg → Option Sg
  | .Name x _, d, σ => some ((x, d) :: σ)
  | .Tuple es _ _, .tup ds, σ => bindS es ds σ
  | _, _, _ => none
noncomputable def namesS (ok : Str → Bool) : List Expr → Bool
  | [] => true
  | .Name x _ :: es => ok x && namesS ok es
  | _ => false
noncomputable def namesT (ok : Str → Bool) : Expr → Bool
  | .Name x _ => ok x
  | .Tuple es _ _ => namesS ok es
  | _ => false

section
variable {G : Wd} {env : Env} {P : PA}

theorem Kp.of_ext {s : Shared} {h' : Heap} (x : Heap.ExtBut s.heap.objs.size s.heap h') : Kp s { s with heap := h' } := .of (n := s.toks) fun b o e => x b o (Nat.ne_of_lt (Heap.lt_size e)) e

structure Stores (G : Wd) (env : Env) (P : PA) (ok : Str → Bool) (wr : List Addr) (S : Sg → Shared → Prop) : Prop where
  keep : ∀ σ s t, S σ s → Kp s t → S σ t
  away : ∀ b ∈ wr, ¬ P b
  store : ∀ A x d σ s v (Q : Unit → Shared → Prop), ok x = true → S σ s → Rv P s.heap d v → (∀ s', S ((x, d) :: σ) s' → KpB wr s s' → Q () s') → wpAny G.M A (storeName env x v) Q NoE s

theorem bindS_cons {e : Expr} {es : List Expr} {ds : List D} {σ σ' : Sg} (h : bindS (e :: es) ds σ = some σ') : ∃ x p d r, e = .Name x p ∧ ds = d :: r ∧ bindS es r ((x, d) :: σ) = some σ' := by
  cases ds with
  | nil => cases e <;> simp [bindS] at h
  | cons d r => cases e <;> first | exact ⟨_, _, d, r, rfl, rfl, h⟩ | simp [bindS] at h

theorem assignS {ok wr S} (X : Stores G env P ok wr S) {A : Around} : ∀ {es : List Expr} {ds : List D} {vs : List Value} {σ σ' : Sg} {s : Shared} {Q : Unit → Shared → Prop}, namesS ok es = true → bindS es ds σ = some σ' → S σ s → Rvs P s.heap ds vs →
    (∀ s', S σ' s' → KpB wr s s' → Q () s') → wpAny G.M A (assignInOrder ((assignEach es env).map (·.2)) vs) Q NoE s := by
  intro es
  induction es with
  | nil =>
    intro ds vs σ σ' s Q ho hb hS hv h
    cases ds with
    | nil =>
      rw [show vs = [] from hv]
      simp only [bindS, Option.some.injEq] at hb
      subst hb
      exact wpAny_assignInOrder_none (h s hS (KpB.refl _ _))
    | cons => simp [bindS] at hb
  | cons e es ih =>
    intro ds vs σ σ' s Q ho hb hS hv h
    obtain ⟨x, p, d, r, rfl, rfl, hb⟩ := bindS_cons hb
    obtain ⟨v, w, rfl, hv1, hv2⟩ := hv
    simp only [namesS, Bool.and_eq_true] at ho
    show wpAny G.M A (assignInOrder (assign (.Name x p) env :: (assignEach es env).map (·.2)) (v :: w)) Q NoE s
    refine wpAny_assignInOrder_more (wpAny_assign_Name (X.store A x d σ s v _ ho.1 hS hv1 fun s' hS' k => ?_))
    exact ih ho.2 hb hS' (hv2.tr (trB k X.away)) fun s'' hS'' k'' => h s'' hS'' (k.trans k'')

theorem bindS_len : ∀ {es : List Expr} {ds : List D} {σ σ' : Sg}, bindS es ds σ = some σ' → (assignEach es env).length = ds.length ∧ (assignEach es env).findIdx? (·.1) = none := by
  intro es
  induction es with
  | nil =>
    intro ds σ σ' h
    cases ds with
    | nil => exact ⟨rfl, rfl⟩
    | cons => simp [bindS] at h
  | cons e es ih =>
    intro ds σ σ' h
    obtain ⟨x, p, d, r, rfl, rfl, hb⟩ := bindS_cons h
    obtain ⟨a, b⟩ := ih hb
    have e : assignEach (.Name x p :: es) env = (false, assign (.Name x p) env) :: assignEach es env := rfl
    rw [e]
    exact ⟨by simp [a], by rw [List.findIdx?_cons]; simp [b]⟩

theorem assignT {ok wr S} (X : Stores G env P ok wr S) {A : Around} (hh : A.handled = none) {tgt : Expr} {d : D} {v : Value} {σ σ' : Sg} {s : Shared} {Q : Unit → Shared → Prop} (ho : namesT ok tgt = true) (hb : bindTo tgt d σ = some σ') (hS : S σ s) (hv : Rv P s.heap d v)
    (h : ∀ s', S σ' s' → KpB wr s s' → Q () s') : wpAny G.M A (assign tgt env v) Q NoE s := by
  cases tgt with
  | Name x p =>
    simp only [bindTo, Option.some.injEq] at hb
    subst hb
    exact wpAny_assign_Name (X.store A x d σ s v _ ho hS hv h)
  | Tuple es k p =>
    cases d with
    | tup ds =>
      obtain ⟨a, vs, rfl, pa, ht, rs⟩ := hv
      have hl := rs.length
      rw [Array.length_toList] at hl
      obtain ⟨h1, h2⟩ := bindS_len (env := env) (es := es) hb
      refine wpAny_assign_Tuple hh ht (by rw [h1, hl]) h2 fun h' hx => ?_
      have k := Kp.of_ext hx
      exact assignS X ho hb (X.keep _ _ _ hS k) (rs.tr (k.trP P)) fun s'' hS'' k'' => h s'' hS'' ((k.toB wr).trans k'')
    | _ => simp [bindTo] at hb
  | _ => simp [bindTo] at hb

/-- of a block -/
structure Blk (G : Wd) (sc : Scope) (P : PA) (env : Env) (σ : Sg) (s : Shared) : Prop where
  e : EnvOk G sc σ P env s
  fr : FrOk G sc P env s
theorem FrOk.keep {G sc P env s t} (f : FrOk G sc P env s) (k : Kp s t) : FrOk G sc P env t :=
  ⟨let ⟨m, n⟩ := f.ns; ⟨m, Ns.keep' k.keep n⟩, f.np, f.nb, f.has, fun x c h hc => let ⟨⟨v, i⟩, a, b⟩ := f.cell x c h hc; ⟨⟨v, i.keeps k.keep⟩, a, b⟩, f.apart⟩
theorem Blk.keep {G sc P env σ s t} (x : Blk G sc P env σ s) (k : Kp s t) : Blk G sc P env σ t := ⟨x.e.keep k fun _ p => p, x.fr.keep k⟩
noncomputable def isLC (sc : Scope) (x : Str) : Bool := sc.names.lookup x == some .local || sc.names.lookup x == some .cell

theorem storesB {G sc P env} (off : ∀ b ∈ muts sc env, ¬ P b) : Stores G env P (isLC sc) (muts sc env) (Blk G sc P env) where
  keep := fun σ s t x k => x.keep k
  away := off
  store := fun A x d σ s v Q ho x' r h => store_any cons_other x'.e x'.fr (by simpa [isLC] using ho) (cons_here r) fun s' e' f' k _ _ => h s' ⟨e', f'⟩ k
end
end Mine

namespace Mine

/-- an iterator that hands out the items -/
structure Wk (G : Wd) (A : Around) (tgt : Expr) (I : Addr) (wr : List Addr) (P : PA) (items : List D) (St : Nat → Heap → Prop) : Prop where
  frame : ∀ i h h', St i h → (∀ b o, b ∈ wr ∨ P b → h.get? b = some o → h'.get? b = some o) → St i h'
  item : ∀ i s d, items[i]? = some d → St i s.heap → wpAny G.M A (pyNext (.ref I)) (fun r s₁ => ∃ v, r = some v ∧ KpB wr s s₁ ∧
    wpAny G.M A (letOwnedTupleGo tgt (.ref I) v) (fun _ s₂ => KpB wr s₁ s₂ ∧ St (i + 1) s₂.heap ∧ Rv (PN s P) s₂.heap d v) NoE s₁) NoE s
  done : ∀ s, St items.length s.heap → wpAny G.M A (pyNext (.ref I)) (fun r s₁ => r = none ∧ KpB wr s s₁) NoE s
  self : ∀ i s Q, St i s.heap → Q (.ref I) s → wpAny G.M A (pyIter (.ref I)) Q NoE s
  live : ∀ i h, St i h → ∀ b ∈ wr, (h.get? b).isSome = true

noncomputable def isNm : Expr → Bool
  | .Name .. => true
  | _ => false
theorem letGo_nm {e : Expr} (h : isNm e = true) (it v : Value) : letOwnedTupleGo e it v = pure () := by
  cases e <;> first | rfl | simp [isNm] at h
noncomputable def isTu : Expr → Bool
  | .Tuple .. => true
  | _ => false

section
variable {G : Wd} {A : Around} {tgt : Expr} {P : PA}

theorem Wk.list (hh : A.handled = none) (ht : isNm tgt = true) {I ax : Addr} (hI : ¬ P I) (pax : P ax) {vs : Array Value} {ds : List D} : Wk G A tgt I [I] P ds (fun i h => h.IsListIter I ax i ∧ h.IsList ax vs ∧ Rvs P h ds vs.toList) where
  frame := fun i h h' ⟨a, b, c⟩ k => ⟨a.at fun o => k I o (.inl (by simp)), b.at fun o => k ax o (.inr pax), c.tr ⟨fun b o p => k b o (.inr p), fun _ p => p⟩⟩
  item := fun i s d hi ⟨a, b, c⟩ => by
    obtain ⟨v, hv, r⟩ := c.get hi
    refine wpAny_pyNext_list_item a b (x := v) (by simpa using hv) fun h' hit' hs' => ?_
    have k : KpB [I] s { s with heap := h' } := .of (n := s.toks) fun b o nb e => hs'.extBut b o (by simpa using nb) e
    have tr : Tr P P s.heap h' := trB k (by simpa using hI)
    refine ⟨v, rfl, k, ?_⟩
    rw [letGo_nm ht]
    exact wpAny_pure ⟨KpB.refl _ _, ⟨hit', b.at fun o => tr.keep ax o pax, c.tr tr⟩, (r.tr tr).sub fun _ p => .inl p⟩
  done := fun s ⟨a, b, c⟩ => wpAny_pyNext_list_end hh a b (by have := c.length; rw [Array.length_toList] at this; simp [this]) fun h' he' => ⟨rfl, .of (n := s.toks) fun b o nb e => he' b o (by simpa using nb) e⟩
  self := fun i s Q ⟨a, b, c⟩ q => wpAny_pyIter_listiter a q
  live := fun i h ⟨⟨o, ho, _⟩, _⟩ b hb => by rw [List.mem_singleton.mp hb, ho]; rfl

theorem Wk.tup (hh : A.handled = none) (ht : isNm tgt = true) {I ax : Addr} (hI : ¬ P I) (pax : P ax) {vs : Array Value} {ds : List D} : Wk G A tgt I [I] P ds (fun i h => h.IsTupleIter I ax i ∧ h.IsTuple ax vs ∧ Rvs P h ds vs.toList) where
  frame := fun i h h' ⟨a, b, c⟩ k => ⟨a.at fun o => k I o (.inl (by simp)), b.at fun o => k ax o (.inr pax), c.tr ⟨fun b o p => k b o (.inr p), fun _ p => p⟩⟩
  item := fun i s d hi ⟨a, b, c⟩ => by
    obtain ⟨v, hv, r⟩ := c.get hi
    refine wpAny_pyNext_tuple_item a b (x := v) (by simpa using hv) fun h' hit' hs' => ?_
    have k : KpB [I] s { s with heap := h' } := .of (n := s.toks) fun b o nb e => hs'.extBut b o (by simpa using nb) e
    have tr : Tr P P s.heap h' := trB k (by simpa using hI)
    refine ⟨v, rfl, k, ?_⟩
    rw [letGo_nm ht]
    exact wpAny_pure ⟨KpB.refl _ _, ⟨hit', b.at fun o => tr.keep ax o pax, c.tr tr⟩, (r.tr tr).sub fun _ p => .inl p⟩
  done := fun s ⟨a, b, c⟩ => wpAny_pyNext_tuple_end hh a b (by have := c.length; rw [Array.length_toList] at this; simp [this]) fun h' he' => ⟨rfl, .of (n := s.toks) fun b o nb e => he' b o (by simpa using nb) e⟩
  self := fun i s Q ⟨a, b, c⟩ q => wpAny_pyIter_tupleiter a q
  live := fun i h ⟨⟨o, ho, _⟩, _⟩ b hb => by rw [List.mem_singleton.mp hb, ho]; rfl

/-- a, a + 1, .. -/
noncomputable def rng (a : Int) (n : Nat) : List D := (List.range n).map fun (i : Nat) => D.int (a + i)
theorem rng_get {a : Int} {n i : Nat} {d : D} (h : (rng a n)[i]? = some d) : i < n ∧ d = .int (a + i) := by
  unfold rng at h
  rw [List.getElem?_map] at h
  by_cases hi : i < n
  · rw [List.getElem?_range hi] at h; simp at h; exact ⟨hi, h.symm⟩
  · rw [List.getElem?_eq_none (by simpa using hi)] at h; simp at h
theorem rng_len (a : Int) (n : Nat) : (rng a n).length = n := by simp [rng]

theorem Wk.range (hh : A.handled = none) (ht : isNm tgt = true) {I : Addr} (hI : ¬ P I) {a : Int} {n : Nat} : Wk G A tgt I [I] P (rng a n) (fun i h => IsRangeIter h I (a + (i : Nat)) ((n : Int) - (i : Nat)) 1) where
  frame := fun i h h' x k => k I _ (.inl (by simp)) x
  item := fun i s d hi x => by
    obtain ⟨hi, rfl⟩ := rng_get hi
    refine wpAny_pyNext_range_item x (by omega) fun h' hit' hs' => ?_
    have k : KpB [I] s { s with heap := h', toks := s.toks + 1 } := .of fun b o nb e => hs'.extBut b o (by simpa using nb) e
    refine ⟨_, rfl, k, ?_⟩
    rw [letGo_nm ht]
    refine wpAny_pure ⟨KpB.refl _ _, ?_, _, rfl⟩
    have e1 : a + ((i + 1 : Nat) : Int) = a + (i : Int) + 1 := by push_cast; omega
    have e2 : (n : Int) - ((i + 1 : Nat) : Int) = (n : Int) - (i : Int) - 1 := by push_cast; omega
    rw [e1, e2]; exact hit'
  done := fun s x => by
    rw [rng_len] at x
    exact wpAny_pyNext_range_end hh x (by omega) fun h' he' => ⟨rfl, .of (n := s.toks) fun b o nb e => he' b o (by simpa using nb) e⟩
  self := fun i s Q x q => wpAny_pyIter_rangeiter x q
  live := fun i h x b hb => by rw [List.mem_singleton.mp hb, x]; rfl

theorem Wk.ofT {I : Addr} {fp wr0 wr : List Addr} {n : Nat} {Pt : Nat → Array Value → Prop} {St : Nat → Heap → Prop} {Mid : Nat → Addr → Heap → Prop} (W : WalksT G.prog G.w A I fp wr0 n Pt St Mid) (ht : isTu tgt = true)
    (h0 : ∀ b ∈ wr0, b ∈ wr) (hfp : ∀ b ∈ fp, b ∈ wr ∨ P b) (hP : ∀ b ∈ wr, ¬ P b) (ds : List D) (hlen : ds.length = n) (Rf : Heap → Prop) (hR : ∀ h h', Tr P P h h' → Rf h → Rf h')
    (hlive : ∀ i h, St i h → ∀ b ∈ wr, (h.get? b).isSome = true) (hval : ∀ i vals h, Pt i vals → Rf h → ∃ es, ds[i]? = some (.tup es) ∧ Rvs P h es vals.toList) : Wk G A tgt I wr P ds (fun i h => St i h ∧ Rf h) where
  frame := fun i h h' ⟨a, b⟩ k => ⟨W.frame i h h' a fun b hb o => k b o (hfp b hb), hR h h' ⟨fun b o p => k b o (.inr p), fun _ p => p⟩ b⟩
  item := fun i s d hi ⟨a, b⟩ => by
    have hin : i < n := by rw [← hlen]; exact (List.getElem?_eq_some_iff.mp hi).1
    refine W.item i s _ _ hin a fun T vals h' tk hPt hT hTup hM hk => ?_
    have k : KpB wr s { s with heap := h', toks := tk } := .of fun b o nb e => hk b o (fun m => nb (h0 b m)) e
    refine ⟨_, rfl, k, ?_⟩
    cases tgt with
    | Tuple elts kk pos =>
      refine W.go elts kk pos i T _ _ _ hM fun h'' hst hk2 => ?_
      have k2 : KpB wr { s with heap := h', toks := tk } { s with heap := h'', toks := tk } := ⟨h'', tk, rfl, fun b o nb e => hk2 b o (fun m => nb (h0 b m)) e⟩
      have r2 := hR _ _ (trB k2 hP) (hR _ _ (trB k hP) b)
      obtain ⟨es, he, hr⟩ := hval i vals _ hPt r2
      rw [hi] at he
      cases he
      obtain ⟨o, ho, hrest⟩ := hTup
      exact ⟨k2, ⟨hst, r2⟩, T, vals, rfl, .inr (get_none_of_ge hT), ⟨o, hk2 T o (W.apart i T _ hM) ho, hrest⟩, hr.sub fun _ p => .inl p⟩
    | _ => simp [isTu] at ht
  done := fun s ⟨a, b⟩ => by
    rw [hlen] at a
    exact W.done s _ _ a fun h' tk hk => ⟨rfl, .of fun b o nb e => hk b o (fun m => nb (h0 b m)) e⟩
  self := fun i s Q ⟨a, b⟩ q => W.self i s Q _ a q
  live := fun i h ⟨a, _⟩ => hlive i h a

/-- (0, x0), (1, x1), .. -/
noncomputable def enum (ds : List D) : List D := ds.zipIdx.map fun p => .tup [.int p.2, p.1]
noncomputable def zip2 (as bs : List D) : List D := (as.zip bs).map fun p => .tup [p.1, p.2]

theorem Wk.enumerate (hh : A.handled = none) (ht : isTu tgt = true) {e it l : Addr} (hei : e ≠ it) (he : ¬ P e) (hi : ¬ P it) (hl : P l) {vs : Array Value} {ds : List D} (hlen : vs.size = ds.length) :
    Wk G A tgt e [e, it] P (enum ds) (fun i h => ((∃ old, IsEnum h e it i old) ∧ h.IsListIter it l i ∧ h.IsList l vs) ∧ Rvs P h ds vs.toList) :=
  Wk.ofT (WalksT.enumerate hh e it l hei (fun q => he (q ▸ hl)) (fun q => hi (q ▸ hl)) vs) ht (fun _ x => x) (fun b hb => by
      rcases List.mem_cons.mp hb with rfl | hb
      · exact .inl (by simp)
      · rcases List.mem_cons.mp hb with rfl | hb
        · exact .inl (by simp)
        · rw [List.mem_singleton.mp hb]; exact .inr hl)
    (fun b hb => by
      rcases List.mem_cons.mp hb with rfl | hb
      · exact he
      · rw [List.mem_singleton.mp hb]; exact hi) (enum ds) (by simp [enum, hlen]) (fun h => Rvs P h ds vs.toList) (fun h h' t r => r.tr t) (fun i h ⟨⟨old, h1⟩, ⟨o, h2, _⟩, _⟩ b hb => by
      rcases List.mem_cons.mp hb with rfl | hb
      · rw [h1]; rfl
      · rw [List.mem_singleton.mp hb, h2]; rfl) fun i vals h ⟨t, x, hx, hv⟩ r => by
    have hilt : i < ds.length := by
      have := (Array.getElem?_eq_some_iff.mp hx).1; omega
    obtain ⟨v, hv', rv⟩ := r.get (i := i) (d := ds[i]) (by simp)
    have hxv : x = v := by
      have : vs[i]? = some v := by simpa using hv'
      rw [hx] at this; exact Option.some.inj this
    subst hxv
    refine ⟨[.int i, ds[i]], by simp [enum, hilt], ?_⟩
    rw [hv]
    exact .cons ⟨t, rfl⟩ (.cons rv .nil)

theorem Wk.zip (hh : A.handled = none) (ht : isTu tgt = true) {z TI TO i1 i2 l1 l2 : Addr} (D' : ZipApart z TI TO i1 i2 l1 l2) (hz : ¬ P z) (h1 : ¬ P TI) (h2 : ¬ P TO) (h3 : ¬ P i1) (h4 : ¬ P i2) (hl1 : P l1) (hl2 : P l2) {xs ys : Array Value} {as bs : List D}
    (na : xs.size = as.length) (nb : ys.size = bs.length) :
    Wk G A tgt z [z, TI, TO, i1, i2] P (zip2 as bs) (fun i h => (IsZip h z TI TO .none ∧ IsPair h TI (.ref i1) (.ref i2) ∧ (∃ a b, IsPair h TO a b) ∧ h.IsListIter i1 l1 i ∧ h.IsListIter i2 l2 i ∧ h.IsList l1 xs ∧ h.IsList l2 ys) ∧ (Rvs P h as xs.toList ∧ Rvs P h bs ys.toList)) :=
  Wk.ofT (WalksT.zip2 hh z TI TO i1 i2 l1 l2 D' xs ys) ht (fun b hb => by simp at hb ⊢; rcases hb with rfl | rfl | rfl | rfl <;> simp) (fun b hb => by
      simp at hb
      rcases hb with rfl | rfl | rfl | rfl | rfl | rfl | rfl
      · exact .inl (by simp)
      · exact .inl (by simp)
      · exact .inl (by simp)
      · exact .inl (by simp)
      · exact .inl (by simp)
      · exact .inr hl1
      · exact .inr hl2)
    (fun b hb => by
      simp at hb
      rcases hb with rfl | rfl | rfl | rfl | rfl
      · exact hz
      · exact h1
      · exact h2
      · exact h3
      · exact h4) (zip2 as bs) (by simp [zip2, na, nb]) (fun h => Rvs P h as xs.toList ∧ Rvs P h bs ys.toList) (fun h h' t r => ⟨r.1.tr t, r.2.tr t⟩) (fun i h ⟨g1, g2, ⟨_, _, g3⟩, ⟨_, g4, _⟩, ⟨_, g5, _⟩, _⟩ b hb => by
      simp at hb
      rcases hb with rfl | rfl | rfl | rfl | rfl
      · rw [g1]; rfl
      · rw [g2]; rfl
      · rw [g3]; rfl
      · rw [g4]; rfl
      · rw [g5]; rfl) fun i vals h ⟨x, y, hx, hy, hv⟩ r => by
    have ha : i < as.length := by have := (Array.getElem?_eq_some_iff.mp hx).1; omega
    have hb : i < bs.length := by have := (Array.getElem?_eq_some_iff.mp hy).1; omega
    obtain ⟨v, hv', rv⟩ := r.1.get (i := i) (d := as[i]) (by simp)
    obtain ⟨u, hu', ru⟩ := r.2.get (i := i) (d := bs[i]) (by simp)
    have hxv : x = v := by
      have : xs[i]? = some v := by simpa using hv'
      rw [hx] at this; exact Option.some.inj this
    have hyu : y = u := by
      have : ys[i]? = some u := by simpa using hu'
      rw [hy] at this; exact Option.some.inj this
    subst hxv hyu
    refine ⟨[as[i], bs[i]], by simp [zip2, List.getElem?_zip_eq_some, ha, hb], ?_⟩
    rw [hv]
    exact .cons rv (.cons ru .nil)
end
end Mine

namespace Mine

/-- what an iterable's expression leads to -/
structure ItPost (G : Wd) (A : Around) (tgt : Expr) (P : PA) (items : List D) (s s₂ : Shared) (I : Addr) (wr : List Addr) (St : Nat → Heap → Prop) (P' : PA) : Prop where
  kp : Kp s s₂
  up : ∀ a, P a → P' a
  down : ∀ a, P' a → P a ∨ s.heap.get? a = none
  live : ∀ a, P' a → (s₂.heap.get? a).isSome = true
  wk : Wk G A tgt I wr P' items St
  st : St 0 s₂.heap
  new : ∀ b ∈ wr, s.heap.get? b = none
  off : ∀ b ∈ wr, ¬ P' b
  has : ∀ b ∈ wr, (s₂.heap.get? b).isSome = true

noncomputable def EvIt (G : Wd) (n : Nat) (sc : Scope) (σ : Sg) (it tgt : Expr) (items : List D) : Prop :=
  ∀ A env P s, Room n A → EnvOk G sc σ P env s → (∀ a, P a → (s.heap.get? a).isSome = true) →
    wpAny G.M A (eval it env) (fun x s₁ => wpAny G.M A (pyIter x) (fun v s₂ => ∃ I wr St P', v = .ref I ∧ ItPost G A tgt P items s s₂ I wr St P') NoE s₁) NoE s

section
variable {G : Wd} {n : Nat} {sc : Scope} {σ : Sg}

theorem live_keep {s t : Shared} (k : Kp s t) {a} (h : (s.heap.get? a).isSome = true) : (t.heap.get? a).isSome = true := by
  obtain ⟨o, ho⟩ := Option.isSome_iff_exists.mp h
  rw [k.keep a o ho]; rfl
theorem not_live {s : Shared} {a} (h : s.heap.get? a = none) : ¬ (s.heap.get? a).isSome = true := by rw [h]; simp

/-- a list walked -/
theorem it_list {it tgt ds} (h : EvE G n sc σ it (.list ds)) (ht : isNm tgt = true) : EvIt G n sc σ it tgt ds := fun A env P s R e lv => by
  refine wpAny_mono (h A env P s R e) (fun x s₁ q => ?_) fun _ _ x => x
  obtain ⟨k, r⟩ := q
  obtain ⟨a, vs, rfl, ⟨pa, la⟩, ⟨n', px⟩, rx⟩ := Rv.live r
  have hl : s₁.heap.IsList a vs := ⟨_, px, rfl, n', rfl⟩
  refine wpAny_pyIter_list hl ?_
  have k2 := Kp.push s₁ { cls := .type "list_iterator", data := .fields #[.ref a, .int 0 0] }
  have nI : ¬ (fun a => PN s P a ∧ (s₁.heap.get? a).isSome = true) s₁.heap.objs.size := fun q => not_live (size_none s₁) q.2
  refine ⟨_, [s₁.heap.objs.size], _, fun a => PN s P a ∧ (s₁.heap.get? a).isSome = true, rfl, k.trans k2, fun a p => ⟨.inl p, live_keep k (lv a p)⟩, fun a p => p.1, fun a p => live_keep k2 p.2, Wk.list R.handled ht nI ⟨pa, la⟩ (vs := vs),
    ⟨⟨_, push_new rfl, rfl, rfl⟩, hl.push _, rx.tr ((k2.trP _))⟩, ?_, ?_, ?_⟩
  · intro b hb; rw [List.mem_singleton.mp hb]; exact k.none (size_none s₁)
  · intro b hb; rw [List.mem_singleton.mp hb]; exact nI
  · intro b hb; rw [List.mem_singleton.mp hb, push_new rfl]; rfl

/-- a tuple walked -/
theorem it_tup {it tgt ds} (h : EvE G n sc σ it (.tup ds)) (ht : isNm tgt = true) : EvIt G n sc σ it tgt ds := fun A env P s R e lv => by
  refine wpAny_mono (h A env P s R e) (fun x s₁ q => ?_) fun _ _ x => x
  obtain ⟨k, r⟩ := q
  obtain ⟨a, vs, rfl, ⟨pa, la⟩, hl, rx⟩ := Rv.live r
  refine wpAny_pyIter_tuple hl ?_
  have k2 := Kp.push s₁ { cls := .type "tuple_iterator", data := .fields #[.ref a, .int 0 0] }
  have nI : ¬ (fun a => PN s P a ∧ (s₁.heap.get? a).isSome = true) s₁.heap.objs.size := fun q => not_live (size_none s₁) q.2
  refine ⟨_, [s₁.heap.objs.size], _, fun a => PN s P a ∧ (s₁.heap.get? a).isSome = true, rfl, k.trans k2, fun a p => ⟨.inl p, live_keep k (lv a p)⟩, fun a p => p.1, fun a p => live_keep k2 p.2, Wk.tup R.handled ht nI ⟨pa, la⟩ (vs := vs),
    ⟨⟨_, push_new rfl, rfl, rfl⟩, hl.at fun o e => k2.keep _ o e, rx.tr ((k2.trP _))⟩, ?_, ?_, ?_⟩
  · intro b hb; rw [List.mem_singleton.mp hb]; exact k.none (size_none s₁)
  · intro b hb; rw [List.mem_singleton.mp hb]; exact nI
  · intro b hb; rw [List.mem_singleton.mp hb, push_new rfl]; rfl

/-- the call of a name of the top or a built-in type, its arguments evaluated -/
theorem call_then {x px e es pos ds f} {A env P s} {Q : Post} (hk : sc.names.lookup x = some .globalImplicit) (hv : GlobIs G x f) (hc : Callee G f) (h : EvS G n sc σ (e :: es) ds) (R : Room n A) (E : EnvOk G sc σ P env s)
    (hf : ∀ s₁ vs, Kp s s₁ → Rvs (PN s P) s₁.heap ds vs → wpAny G.M A (call f vs) Q NoE s₁)
    (hs : ∀ env, starEach (e :: es) env = (false, eval e env) :: starEach es env := by intro _; rfl)
    (hall : ∀ env, (backTo pos (starEach (e :: es) env)).any (·.1) = false := by intro _; rfl)
    (hd : (x == ("__debug__" : Str)) = false := by decide +kernel) : wpAny G.M A (eval (.Call (.Name x px) (e :: es) [] pos) env) Q NoE s := by
  show wpAny _ _ (eval (.Name x px) env >>= fun f => callWith pos f [] (backTo pos (starEach (e :: es) env)) (backToKw pos (keywordEach [] env))) _ _ s
  refine wpAny_bind (eval_glob E hk hv (callWith_plain hc (hall env) ?_) hd)
  have := h A env P s pos R E
  rw [hs env] at this ⊢
  refine Calls.evalArgs_plain (x := eval e env) (rest := backTo pos (starEach es env)) (wpAny_mono this (fun vs s₁ q => ?_) fun _ _ x => x)
  exact ⟨E.gok.keep q.1.keep, rfl, hf s₁ vs q.1 q.2⟩

theorem small_ok {a b : Int} (h1 : -1152921504606846976 < a) (h2 : a < 1152921504606846976) (h3 : -1152921504606846976 < b) (h4 : b < 1152921504606846976) : Builtin.Range.small a b 1 = true := by
  unfold Builtin.Range.small Builtin.Range.rangeSize Builtin.Range.rangeFitsLong
  simp only [show (1 : Int) > 0 by decide, if_true, Int.ediv_one, Bool.and_eq_true, Bool.or_eq_true, decide_eq_true_eq, beq_iff_eq]
  split <;> omega

theorem rangeSize_is (a b : Int) : Builtin.Range.rangeSize a b 1 = (((b - a).toNat : Nat) : Int) := by
  unfold Builtin.Range.rangeSize
  simp only [show (1 : Int) > 0 by decide, if_true, Int.ediv_one]
  split <;> omega

theorem it_ranged {A : Around} {tgt : Expr} {P : PA} {s s₁ : Shared} {a b : Int} {r : Addr} {t u v : Tok} (hh : A.handled = none) (ht : isNm tgt = true) (k : Kp s s₁) (lv : ∀ a, P a → (s.heap.get? a).isSome = true) (hr : IsRange s₁.heap r a b 1 t u v)
    (hs : Builtin.Range.small a b 1 = true) :
    wpAny G.M A (pyIter (.ref r)) (fun v s₂ => ∃ I wr St P', v = .ref I ∧ ItPost G A tgt P (rng a (b - a).toNat) s s₂ I wr St P') NoE s₁ := by
  refine wpAny_pyIter_range hr hs ?_
  have k2 := Kp.push s₁ { cls := .type "range_iterator", data := .fields #[rawInt a, rawInt (Builtin.Range.rangeSize a b 1), rawInt 1] }
  have nI : ¬ P s₁.heap.objs.size := fun q => not_live (k.none (size_none s₁)) (lv _ q)
  refine ⟨_, [s₁.heap.objs.size], _, P, rfl, k.trans k2, fun a p => p, fun a p => .inl p, fun a p => live_keep (k.trans k2) (lv a p), Wk.range hh ht nI, ?_, ?_, ?_, ?_⟩
  · have := push_new (s := s₁) (o := { cls := .type "range_iterator", data := .fields #[rawInt a, rawInt (Builtin.Range.rangeSize a b 1), rawInt 1] }) rfl
    rw [rangeSize_is] at this
    show IsRangeIter (s₁.heap.push _) _ _ _ _
    rw [rangeSize_is]
    simpa using this
  · intro b hb; rw [List.mem_singleton.mp hb]; exact k.none (size_none s₁)
  · intro b hb; rw [List.mem_singleton.mp hb]; exact nI
  · intro b hb; rw [List.mem_singleton.mp hb, push_new rfl]; rfl

theorem callee_type {T} : Callee G (.type T) := trivial
theorem callee_builtin {T} : Callee G (.builtin T) := trivial

theorem it_range1 {px e es pos tgt b} (hk : sc.names.lookup (Str.ofString "range") = some .globalImplicit) (hv : GlobIs G (Str.ofString "range") (.type "range")) (ht : isNm tgt = true) (he : es = []) (h : EvE G n sc σ e (.int b)) (hs : Builtin.Range.small 0 b 1 = true)
    (hst : ∀ env, starEach (e :: es) env = (false, eval e env) :: starEach es env := by intro _; rfl)
    (hall : ∀ env, (backTo pos (starEach (e :: es) env)).any (·.1) = false := by intro _; rfl) :
    EvIt G n sc σ (.Call (.Name (Str.ofString "range") px) (e :: es) [] pos) tgt (rng 0 b.toNat) := fun A env P s R E lv => by
  subst he
  refine call_then hk hv callee_type (evs_cons h evs_nil hst) R E (fun s₁ vs k q => ?_) hst hall
  obtain ⟨v, r, rfl, ⟨t, rfl⟩, hr⟩ := q
  rw [show r = [] from hr]
  refine call_range_1 ?_
  have := it_ranged (G := G) (A := A) (tgt := tgt) (P := P) (s := s) (s₁ := { s₁ with heap := s₁.heap.push { cls := .type "range", data := .fields #[.int 0 s₁.toks, .int b t, .int 1 (s₁.toks + 1)] }, toks := s₁.toks + 1 + 1 }) (a := 0) (b := b) (r := s₁.heap.objs.size) (t := s₁.toks) (u := t) (v := s₁.toks + 1)
    R.handled ht (k.trans (.of fun b o e => Heap.get?_push_of_some _ e)) lv (push_new rfl) hs
  rw [Int.sub_zero] at this
  exact this

theorem it_range2 {px e e2 pos tgt a b} (hk : sc.names.lookup (Str.ofString "range") = some .globalImplicit) (hv : GlobIs G (Str.ofString "range") (.type "range")) (ht : isNm tgt = true) (h : EvE G n sc σ e (.int a)) (h2 : EvE G n sc σ e2 (.int b)) (hs : Builtin.Range.small a b 1 = true)
    (hst : ∀ env, starEach [e, e2] env = (false, eval e env) :: starEach [e2] env := by intro _; rfl) (hst2 : ∀ env, starEach [e2] env = (false, eval e2 env) :: starEach [] env := by intro _; rfl)
    (hall : ∀ env, (backTo pos (starEach [e, e2] env)).any (·.1) = false := by intro _; rfl) :
    EvIt G n sc σ (.Call (.Name (Str.ofString "range") px) [e, e2] [] pos) tgt (rng a (b - a).toNat) := fun A env P s R E lv => by
  refine call_then hk hv callee_type (evs_cons h (evs_cons h2 evs_nil hst2) hst) R E (fun s₁ vs k q => ?_) hst hall
  obtain ⟨v, r, rfl, ⟨t, rfl⟩, v2, r2, rfl, ⟨u, rfl⟩, hr⟩ := q
  rw [show r2 = [] from hr]
  refine call_range_2 ?_
  exact it_ranged (G := G) (A := A) (tgt := tgt) (P := P) (s := s) (s₁ := { s₁ with heap := s₁.heap.push { cls := .type "range", data := .fields #[.int a t, .int b u, .int 1 s₁.toks] }, toks := s₁.toks + 1 }) (a := a) (b := b) (r := s₁.heap.objs.size) (t := t) (u := u) (v := s₁.toks)
    R.handled ht (k.trans (.of fun b o e => Heap.get?_push_of_some _ e)) lv (push_new rfl) hs

theorem it_enum {px e pos tgt ds} (hk : sc.names.lookup (Str.ofString "enumerate") = some .globalImplicit) (hv : GlobIs G (Str.ofString "enumerate") (.type "enumerate")) (ht : isTu tgt = true) (h : EvE G n sc σ e (.list ds))
    (hst : ∀ env, starEach [e] env = (false, eval e env) :: starEach [] env := by intro _; rfl)
    (hall : ∀ env, (backTo pos (starEach [e] env)).any (·.1) = false := by intro _; rfl) :
    EvIt G n sc σ (.Call (.Name (Str.ofString "enumerate") px) [e] [] pos) tgt (enum ds) := fun A env P s R E lv => by
  refine call_then hk hv callee_type (evs_cons h evs_nil hst) R E (fun s₁ vs k q => ?_) hst hall
  obtain ⟨v, r, rfl, rv, hr⟩ := q
  rw [show r = [] from hr]
  obtain ⟨a, ws, rfl, ⟨pa, la⟩, ⟨n', px'⟩, rx⟩ := Rv.live rv
  have hl : s₁.heap.IsList a ws := ⟨_, px', rfl, n', rfl⟩
  refine call_enumerate_list hl fun h' hE hI hz hk => ?_
  have k2 : Kp s₁ { s₁ with heap := h' } := .of (n := s₁.toks) hk
  refine wpAny_pyIter_enum hE ?_
  have big : ∀ x, s₁.heap.objs.size ≤ x → ¬ (fun a => PN s P a ∧ (s₁.heap.get? a).isSome = true) x := fun x hx q => not_live (get_none_of_ge hx) q.2
  have hlen : ws.size = ds.length := by have := rx.length; rwa [Array.length_toList] at this
  refine ⟨_, [s₁.heap.objs.size + 1, s₁.heap.objs.size], _, fun a => PN s P a ∧ (s₁.heap.get? a).isSome = true, rfl, k.trans k2, fun a p => ⟨.inl p, live_keep k (lv a p)⟩, fun a p => p.1, fun a p => live_keep k2 p.2,
    Wk.enumerate R.handled ht (Nat.succ_ne_self _) (big _ (Nat.le_succ _)) (big _ (Nat.le_refl _)) ⟨pa, la⟩ hlen, ⟨⟨⟨_, hE⟩, hI, hl.at fun o => k2.keep _ o⟩, rx.tr (k2.trP _)⟩, ?_, ?_, ?_⟩
  · intro b hb
    simp at hb
    rcases hb with rfl | rfl
    · exact k.none (get_none_of_ge (Nat.le_succ _))
    · exact k.none (size_none s₁)
  · intro b hb
    simp at hb
    rcases hb with rfl | rfl
    · exact big _ (Nat.le_succ _)
    · exact big _ (Nat.le_refl _)
  · intro b hb
    simp at hb
    rcases hb with rfl | rfl
    · show (h'.get? _).isSome = true; rw [hE]; rfl
    · obtain ⟨o, ho, _⟩ := hI
      show (h'.get? _).isSome = true; rw [ho]; rfl

theorem it_zip {px e e2 pos tgt as bs} (hk : sc.names.lookup (Str.ofString "zip") = some .globalImplicit) (hv : GlobIs G (Str.ofString "zip") (.type "zip")) (ht : isTu tgt = true) (h : EvE G n sc σ e (.list as)) (h2 : EvE G n sc σ e2 (.list bs))
    (hst : ∀ env, starEach [e, e2] env = (false, eval e env) :: starEach [e2] env := by intro _; rfl) (hst2 : ∀ env, starEach [e2] env = (false, eval e2 env) :: starEach [] env := by intro _; rfl)
    (hall : ∀ env, (backTo pos (starEach [e, e2] env)).any (·.1) = false := by intro _; rfl) :
    EvIt G n sc σ (.Call (.Name (Str.ofString "zip") px) [e, e2] [] pos) tgt (zip2 as bs) := fun A env P s R E lv => by
  refine call_then hk hv callee_type (evs_cons h (evs_cons h2 evs_nil hst2) hst) R E (fun s₁ vs k q => ?_) hst hall
  obtain ⟨v, r, rfl, rv, v2, r2, rfl, rv2, hr⟩ := q
  rw [show r2 = [] from hr]
  obtain ⟨a, ws, rfl, ⟨pa, la⟩, ⟨n1, px1⟩, rx⟩ := Rv.live rv
  obtain ⟨b, us, rfl, ⟨pb, lb⟩, ⟨n2, px2⟩, ry⟩ := Rv.live rv2
  have hl1 : s₁.heap.IsList a ws := ⟨_, px1, rfl, n1, rfl⟩
  have hl2 : s₁.heap.IsList b us := ⟨_, px2, rfl, n2, rfl⟩
  refine call_zip_2 hl1 hl2 fun h' hZ hP1 hP2 hI1 hI2 hz hk => ?_
  have k2 : Kp s₁ { s₁ with heap := h' } := .of (n := s₁.toks) hk
  refine wpAny_pyIter_zip hZ ?_
  have big : ∀ x, s₁.heap.objs.size ≤ x → ¬ (fun a => PN s P a ∧ (s₁.heap.get? a).isSome = true) x := fun x hx q => not_live (get_none_of_ge hx) q.2
  have na : ws.size = as.length := by have := rx.length; rwa [Array.length_toList] at this
  have nb : us.size = bs.length := by have := ry.length; rwa [Array.length_toList] at this
  have sa : @LT.lt Nat _ a s₁.heap.objs.size := Heap.lt_size px1
  have sb : @LT.lt Nat _ b s₁.heap.objs.size := Heap.lt_size px2
  refine ⟨_, [s₁.heap.objs.size + 4, s₁.heap.objs.size + 2, s₁.heap.objs.size + 3, s₁.heap.objs.size, s₁.heap.objs.size + 1], _, fun a => PN s P a ∧ (s₁.heap.get? a).isSome = true, rfl, k.trans k2, fun a p => ⟨.inl p, live_keep k (lv a p)⟩, fun a p => p.1, fun a p => live_keep k2 p.2,
    Wk.zip R.handled ht ⟨by show @Ne Nat _ _; omega, by show @Ne Nat _ _; omega, by show @Ne Nat _ _; omega, by show @Ne Nat _ _; omega, by show @Ne Nat _ _; omega, by show @Ne Nat _ _; omega, by show @Ne Nat _ _; omega, by show @Ne Nat _ _; omega, by show @Ne Nat _ _; omega, by show @Ne Nat _ _; omega, by show @Ne Nat _ _; omega, by show @Ne Nat _ _; omega, by show @Ne Nat _ _; omega, by show @Ne Nat _ _; omega, by show @Ne Nat _ _; omega, by show @Ne Nat _ _; omega, by show @Ne Nat _ _; omega, by show @Ne Nat _ _; omega⟩
      (big _ (by omega)) (big _ (by omega)) (big _ (by omega)) (big _ (by omega)) (big _ (by omega)) ⟨pa, la⟩ ⟨pb, lb⟩ na nb,
    ⟨⟨hZ, hP1, ⟨_, _, hP2⟩, hI1, hI2, hl1.at fun o => k2.keep _ o, hl2.at fun o => k2.keep _ o⟩, rx.tr (k2.trP _), ry.tr (k2.trP _)⟩, ?_, ?_, ?_⟩
  · intro b hb
    simp at hb
    rcases hb with rfl | rfl | rfl | rfl | rfl <;> exact k.none (get_none_of_ge (by omega))
  · intro b hb
    simp at hb
    rcases hb with rfl | rfl | rfl | rfl | rfl <;> exact big _ (by omega)
  · intro b hb
    simp at hb
    obtain ⟨o1, ho1, _⟩ := hI1
    obtain ⟨o2, ho2, _⟩ := hI2
    show (h'.get? _).isSome = true
    rcases hb with rfl | rfl | rfl | rfl | rfl
    · rw [hZ]; rfl
    · rw [hP1]; rfl
    · rw [hP2]; rfl
    · rw [ho1]; rfl
    · rw [ho2]; rfl
end
end Mine

namespace Mine

/-! the closure of a block within -/
noncomputable def frees (f : Str → Option Addr) : List (Str × NameKind) → List (Str × Addr) → List (Str × Addr)
  | [], acc => acc
  | (x, k) :: r, acc => if k == .free then frees f r ((x, (f x).getD 0) :: acc) else frees f r acc

theorem closure_loop (env : Env) (f : Str × NameKind → List (Str × Addr) → Sem (ForInStep (List (Str × Addr))))
    (hf : ∀ name kind cs, f (name, kind) cs = if kind == .free then (do let a ← cellOf env name; pure (.yield ((name, a) :: cs))) else pure (.yield cs)) :
    ∀ (names : List (Str × NameKind)) (acc : List (Str × Addr)), (∀ x, (x, NameKind.free) ∈ names → ∃ c, env.cells.lookup x = some c) → forIn names acc f = pure (frees (fun x => env.cells.lookup x) names acc)
  | [], acc, _ => by rw [List.forIn_nil]; rfl
  | (x, k) :: r, acc, h => by
    rw [List.forIn_cons, hf]
    unfold frees
    by_cases hk : (k == NameKind.free) = true
    · rw [if_pos hk, if_pos hk]
      obtain ⟨c, hc⟩ := h x (by have : k = .free := by simpa using hk
                                subst this; exact List.mem_cons_self)
      unfold cellOf
      rw [hc]
      exact closure_loop env f hf r _ fun y hy => h y (List.mem_cons_of_mem _ hy)
    · rw [if_neg hk, if_neg hk]
      exact closure_loop env f hf r _ fun y hy => h y (List.mem_cons_of_mem _ hy)

theorem closure_is {env : Env} {scope : Scope} (h : ∀ x, (x, NameKind.free) ∈ scope.names → ∃ c, env.cells.lookup x = some c) : closureFor scope env = pure (frees (fun x => env.cells.lookup x) scope.names []) := by
  simp only [closureFor]
  rw [closure_loop env _ (fun name kind cs => by rfl) scope.names [] h]
  rfl

theorem frees_acc (f : Str → Option Addr) : ∀ (names : List (Str × NameKind)) (acc : List (Str × Addr)) (x : Str) (c : Addr), f x = some c → (∀ p ∈ acc, p.2 = (f p.1).getD 0) → ((x, NameKind.free) ∈ names ∨ ∃ a, (x, a) ∈ acc) → (frees f names acc).lookup x = some c
  | [], acc, x, c, hf, ha, hx => by
    rcases hx with hx | ⟨a, hx⟩
    · cases hx
    · unfold frees
      induction acc with
      | nil => cases hx
      | cons p acc ih =>
        obtain ⟨y, b⟩ := p
        rw [List.lookup_cons]
        by_cases hxy : x = y
        · subst hxy
          have := ha (x, b) List.mem_cons_self
          simp only [hf, Option.getD_some] at this
          simp [this]
        · have : (x == y) = false := by simpa using hxy
          rw [this]
          rcases List.mem_cons.mp hx with e | hx
          · exact absurd (Prod.mk.inj e).1 hxy
          · exact ih (fun p hp => ha p (List.mem_cons_of_mem _ hp)) hx
  | (y, k) :: r, acc, x, c, hf, ha, hx => by
    unfold frees
    by_cases hk : (k == NameKind.free) = true
    · rw [if_pos hk]
      refine frees_acc f r _ x c hf (fun p hp => ?_) ?_
      · rcases List.mem_cons.mp hp with rfl | hp
        · rfl
        · exact ha p hp
      · rcases hx with hx | ⟨a, hx⟩
        · rcases List.mem_cons.mp hx with e | hx
          · right; exact ⟨_, List.mem_cons.mpr (.inl (by rw [(Prod.mk.inj e).1]))⟩
          · exact .inl hx
        · exact .inr ⟨a, List.mem_cons_of_mem _ hx⟩
    · rw [if_neg hk]
      refine frees_acc f r _ x c hf ha ?_
      rcases hx with hx | hx
      · rcases List.mem_cons.mp hx with e | hx
        · exfalso
          have : k = .free := (Prod.mk.inj e).2.symm
          subst this; exact hk rfl
        · exact .inl hx
      · exact .inr hx

/-! the cells of a block's own -/
theorem cellsFrom_stays (x : Str) : ∀ (names : List (Str × NameKind)) (n : Nat) (acc : List (Str × Addr)), (∃ c, acc.lookup x = some c) → ∃ c, (cellsFrom n names acc).lookup x = some c := by
  intro names
  induction names with
  | nil => intro n acc h; exact h
  | cons q r ih =>
    intro n acc h
    obtain ⟨z, k⟩ := q
    unfold cellsFrom
    split
    · refine ih _ _ ?_
      rw [List.lookup_cons]
      by_cases hxz : (x == z) = true
      · rw [hxz]; exact ⟨n, rfl⟩
      · rw [Bool.eq_false_iff.mpr hxz]; exact h
    · exact ih _ _ h
theorem cellsFrom_lookup_own : ∀ (names : List (Str × NameKind)) (n : Nat) (acc : List (Str × Addr)) (x : Str), (x, NameKind.cell) ∈ names → ∃ c, (cellsFrom n names acc).lookup x = some c := by
  intro names
  induction names with
  | nil => intro n acc x h; cases h
  | cons p r ih =>
    intro n acc x h
    obtain ⟨y, k⟩ := p
    unfold cellsFrom
    rcases List.mem_cons.mp h with e | h
    · obtain ⟨rfl, rfl⟩ := Prod.mk.inj e
      rw [if_pos (by rfl)]
      exact cellsFrom_stays _ _ _ _ ⟨n, by simp⟩
    · split
      · exact ih _ _ _ h
      · exact ih _ _ _ h

theorem cellsFrom_lookup_other : ∀ (names : List (Str × NameKind)) (n : Nat) (acc : List (Str × Addr)) (x : Str), (x, NameKind.cell) ∉ names → (cellsFrom n names acc).lookup x = acc.lookup x := by
  intro names
  induction names with
  | nil => intro n acc x h; rfl
  | cons p r ih =>
    intro n acc x h
    obtain ⟨y, k⟩ := p
    unfold cellsFrom
    have hr : (x, NameKind.cell) ∉ r := fun m => h (List.mem_cons_of_mem _ m)
    split
    · rename_i hk
      rw [ih _ _ _ hr, List.lookup_cons]
      have : (x == y) = false := by
        rw [beq_eq_false_iff_ne]
        rintro rfl
        have : k = .cell := by simpa using hk
        subst this
        exact h List.mem_cons_self
      rw [this]
    · exact ih _ _ _ hr

theorem cellsFrom_ge : ∀ (names : List (Str × NameKind)) (n : Nat) (acc : List (Str × Addr)) (x : Str) (c : Addr), (x, NameKind.cell) ∈ names → (cellsFrom n names acc).lookup x = some c → n ≤ c := by
  have key : ∀ (names : List (Str × NameKind)) (n : Nat) (acc : List (Str × Addr)) (x : Str) (c : Addr) (lo : Nat), lo ≤ n → (∀ c, acc.lookup x = some c → lo ≤ c) → (cellsFrom n names acc).lookup x = some c → lo ≤ c := by
    intro names
    induction names with
    | nil => intro n acc x c lo _ h e; exact h c e
    | cons p r ih =>
      intro n acc x c lo hl h e
      obtain ⟨y, k⟩ := p
      unfold cellsFrom at e
      split at e
      · refine ih _ _ _ _ lo (Nat.le_succ_of_le hl) (fun c' hc' => ?_) e
        rw [List.lookup_cons] at hc'
        by_cases hxy : (x == y) = true
        · rw [hxy] at hc'; cases hc'; exact hl
        · rw [Bool.eq_false_iff.mpr hxy] at hc'; exact h c' hc'
      · exact ih _ _ _ _ lo hl h e
  intro names
  induction names with
  | nil => intro n acc x c h; cases h
  | cons p r ih =>
    intro n acc x c h e
    obtain ⟨y, k⟩ := p
    unfold cellsFrom at e
    rcases List.mem_cons.mp h with q | h
    · obtain ⟨rfl, rfl⟩ := Prod.mk.inj q
      rw [if_pos (by rfl)] at e
      exact key r (n + 1) _ x c n (Nat.le_succ n) (fun c' hc' => by rw [List.lookup_cons, beq_self_eq_true] at hc'; cases hc'; exact Nat.le_refl _) e
    · split at e
      · exact Nat.le_of_succ_le (ih _ _ _ _ h e)
      · exact ih _ _ _ _ h e
end Mine

namespace Mine

theorem cellsFrom_inj (n₀ : Nat) : ∀ (names : List (Str × NameKind)) (n : Nat) (acc : List (Str × Addr)), (∀ x y c, n₀ ≤ c → acc.lookup x = some c → acc.lookup y = some c → x = y) → (∀ x (c : Nat), acc.lookup x = some c → c < n) →
    ∀ x y (c : Nat), n₀ ≤ c → (cellsFrom n names acc).lookup x = some c → (cellsFrom n names acc).lookup y = some c → x = y := by
  intro names
  induction names with
  | nil => intro n acc h _ x y c h1 h2 h3; exact h x y c h1 h2 h3
  | cons p r ih =>
    intro n acc h hlt x y c h1 h2 h3
    obtain ⟨z, k⟩ := p
    unfold cellsFrom at h2 h3
    split at h2
    · rename_i hk
      rw [if_pos hk] at h3
      refine ih _ _ (fun x y c h1 hx hy => ?_) (fun x c hx => ?_) x y c h1 h2 h3
      · rw [List.lookup_cons] at hx hy
        by_cases hxz : x = z
        · subst hxz
          rw [beq_self_eq_true] at hx
          cases hx
          by_cases hyz : y = x
          · exact hyz.symm
          · rw [show (y == x) = false by simpa using hyz] at hy
            exact absurd (hlt y n hy) (Nat.lt_irrefl _)
        · rw [show (x == z) = false by simpa using hxz] at hx
          by_cases hyz : y = z
          · subst hyz
            rw [beq_self_eq_true] at hy
            cases hy
            exact absurd (hlt x n hx) (Nat.lt_irrefl _)
          · rw [show (y == z) = false by simpa using hyz] at hy
            exact h x y c h1 hx hy
      · rw [List.lookup_cons] at hx
        by_cases hxz : x = z
        · subst hxz
          rw [beq_self_eq_true] at hx
          cases hx; exact Nat.lt_succ_self _
        · rw [show (x == z) = false by simpa using hxz] at hx
          exact Nat.lt_succ_of_lt (hlt x c hx)
    · rename_i hk
      rw [if_neg hk] at h3
      exact ih _ _ h hlt x y c h1 h2 h3

theorem pushCells_is (n₀ : Nat) : ∀ (names : List (Str × NameKind)) (h : Heap) (acc : List (Str × Addr)), (∀ x (c : Nat), n₀ ≤ c → acc.lookup x = some c → h.IsCell c none) →
    ∀ x (c : Nat), n₀ ≤ c → (cellsFrom h.objs.size names acc).lookup x = some c → (pushCells h names).IsCell c none := by
  intro names
  induction names with
  | nil => intro h acc ha x c h1 h2; exact ha x c h1 h2
  | cons p r ih =>
    intro h acc ha x c h1 h2
    obtain ⟨z, k⟩ := p
    unfold cellsFrom at h2
    unfold pushCells
    split at h2
    · rename_i hk
      rw [if_pos hk]
      refine ih (h.push { cls := .type "cell", data := .cell none }) ((z, h.objs.size) :: acc) (fun y c' hc' hy => ?_) x c h1 (by rw [Heap.size_push]; exact h2)
      rw [List.lookup_cons] at hy
      by_cases hyz : y = z
      · subst hyz
        rw [beq_self_eq_true] at hy
        cases hy
        exact ⟨_, Heap.get?_push_size _ rfl, rfl⟩
      · rw [show (y == z) = false by simpa using hyz] at hy
        exact (ha y c' hc' hy).keeps fun b o e => Heap.get?_push_of_some _ e
    · rename_i hk
      rw [if_neg hk]
      exact ih h acc ha x c h1 h2

section
variable {M : Model} {A : Around} {E : Value → Shared → Prop} {s : Shared}
theorem newEnv_comp {scope : Scope} {globals : Addr} {cl : List (Str × Addr)} {qual : Str} {outer : Env} {Q : Env → Shared → Prop}
    (h : Q { scope, locals := s.heap.objs.size, globals, cells := cellsFrom (s.heap.objs.size + 1) scope.names cl, qual, func := none, code := outer.code, frame := outer.frame, builtins := outer.builtins }
      { s with heap := pushCells (s.heap.push { cls := .type "dict", data := .dict #[] }) scope.names }) :
    wpAny M A (newFunctionEnv scope globals cl [] qual none .none (some outer)) Q E s := by
  simp only [newFunctionEnv, Option.isSome_some, if_true]
  refine wpAny_bind (wpAny_alloc ?_)
  refine wpAny_bind (wpAny_layCells _ (fun name kind cells => by rfl) scope.names cl _ _ ?_)
  rw [show ({ s with heap := s.heap.push { cls := .type "dict", data := .dict #[] } } : Shared).heap.objs.size = s.heap.objs.size + 1 from Heap.size_push ..]
  rw [List.forIn_nil]
  exact wpAny_bind (wpAny_pure (wpAny_pure h))
end

theorem lookup_relabel (env : Env) : ∀ (names : List (Str × NameKind)) (x : Str), (names.map fun (n, k) => if (k == NameKind.free && env.scope.kind == .function && env.kindOf n == some .cell) then (n, NameKind.cell) else (n, k)).lookup x =
    (names.lookup x).map fun k => if (k == NameKind.free && env.scope.kind == .function && env.kindOf x == some .cell) then NameKind.cell else k
  | [], x => rfl
  | (n, k) :: r, x => by
    have ih := lookup_relabel env r x
    rw [List.map_cons]
    show List.lookup x ((if (k == NameKind.free && env.scope.kind == .function && env.kindOf n == some .cell) = true then (n, NameKind.cell) else (n, k)) :: _) = _
    have e : (if (k == NameKind.free && env.scope.kind == .function && env.kindOf n == some .cell) = true then (n, NameKind.cell) else (n, k)) = (n, if (k == NameKind.free && env.scope.kind == .function && env.kindOf n == some .cell) = true then NameKind.cell else k) := by split <;> rfl
    rw [e, List.lookup_cons, List.lookup_cons]
    by_cases h : x = n
    · subst h; simp
    · have : (x == n) = false := by simpa using h
      rw [this]; exact ih

theorem lookup_of_mem_nd {α : Type} : ∀ {l : List (Str × α)} {x : Str} {k : α}, (l.map (·.1)).Nodup → (x, k) ∈ l → l.lookup x = some k
  | (y, j) :: r, x, k, hn, h => by
    rw [List.map_cons, List.nodup_cons] at hn
    rw [List.lookup_cons]
    rcases List.mem_cons.mp h with e | hm
    · obtain ⟨rfl, rfl⟩ := Prod.mk.inj e; simp
    · have : (x == y) = false := by
        rw [beq_eq_false_iff_ne]
        intro e
        exact hn.1 (List.mem_map.mpr ⟨(x, k), hm, e⟩)
      rw [this]; exact lookup_of_mem_nd hn.2 hm

/-- the table of a block within: each name once; what is free is the outer block's cell -/
structure ScIn (sc sc' : Scope) : Prop where
  kind : sc'.kind = .function
  nd : (sc'.names.map (·.1)).Nodup
  free : ∀ x, (x, NameKind.free) ∈ sc'.names → sc.names.lookup x = some .cell ∨ sc.names.lookup x = some .free

/-- that table, tested -/
noncomputable def scIn (sc sc' : Scope) : Bool := sc'.kind == .function && decide (sc'.names.map (·.1)).Nodup &&
  sc'.names.all fun p => p.2 != .free || sc.names.lookup p.1 == some .cell || sc.names.lookup p.1 == some .free
theorem scIn_ok {sc sc' : Scope} (h : scIn sc sc' = true) : ScIn sc sc' := by
  simp only [scIn, Bool.and_eq_true, beq_iff_eq, decide_eq_true_eq, List.all_eq_true, Bool.or_eq_true, bne_iff_ne, ne_eq] at h
  refine ⟨h.1.1, h.1.2, fun x hx => ?_⟩
  rcases h.2 _ hx with (h | h) | h
  · exact absurd rfl h
  · exact .inl h
  · exact .inr h
end Mine

namespace Mine

noncomputable def cenvOf (sc' : Scope) (env : Env) (L : Addr) : Env :=
  { scope := relabel sc' env, locals := L, globals := env.globals, cells := cellsFrom (L + 1) sc'.names (frees (fun x => env.cells.lookup x) sc'.names []), qual := env.qual, func := none, code := env.code, frame := env.frame, builtins := env.builtins }

/-- what the block within sees of the outer names -/
noncomputable def Seen (sc' : Scope) (σ σc : Sg) : Prop := ∀ x d, σc.lookup x = some d → σ.lookup x = some d ∧ sc'.names.lookup x = some .free

section
variable {G : Wd} {n : Nat} {sc sc' : Scope} {σ σc : Sg} {P : PA} {env : Env} {s s₃ : Shared}

theorem frees_mem (f : Str → Option Addr) : ∀ (names : List (Str × NameKind)) (acc : List (Str × Addr)) (x : Str) (c : Addr), (frees f names acc).lookup x = some c → acc.lookup x = some c ∨ ((x, NameKind.free) ∈ names ∧ c = (f x).getD 0)
  | [], acc, x, c, h => .inl h
  | (y, k) :: r, acc, x, c, h => by
    unfold frees at h
    split at h
    · rename_i hk
      rcases frees_mem f r _ x c h with h | ⟨h, e⟩
      · rw [List.lookup_cons] at h
        by_cases hxy : x = y
        · subst hxy
          rw [beq_self_eq_true] at h
          cases h
          have : k = .free := by simpa using hk
          subst this
          exact .inr ⟨List.mem_cons_self, rfl⟩
        · rw [show (x == y) = false by simpa using hxy] at h
          exact .inl h
      · exact .inr ⟨List.mem_cons_of_mem _ h, e⟩
    · rcases frees_mem f r _ x c h with h | ⟨h, e⟩
      · exact .inl h
      · exact .inr ⟨List.mem_cons_of_mem _ h, e⟩

theorem seen_cells (e : EnvOk G sc σ P env s) (S : ScIn sc sc') {x} (h : (x, NameKind.free) ∈ sc'.names) : ∃ c, env.cells.lookup x = some c := e.sc.clo x (S.free x h)

theorem comp_blk (e : EnvOk G sc σ P env s) (lv : ∀ a, P a → (s.heap.get? a).isSome = true) (S : ScIn sc sc') (hs : Seen sc' σ σc) (k : Kp s s₃) (s₄ : Shared)
    (h4 : s₄ = { s₃ with heap := pushCells (s₃.heap.push { cls := .type "dict", data := .dict #[] }) sc'.names }) : Blk G sc' P (cenvOf sc' env s₃.heap.objs.size) σc s₄ := by
  have sz : (s₃.heap.push { cls := .type "dict", data := .dict #[] }).objs.size = s₃.heap.objs.size + 1 := Heap.size_push ..
  have k4 : Kp s₃ s₄ := by
    subst h4
    exact .of (n := s₃.toks) fun b o e => pushCells_keeps _ _ b o (Heap.get?_push_of_some _ e)
  have kk := k.trans k4
  have own : ∀ x c, sc'.names.lookup x = some .cell → (cenvOf sc' env s₃.heap.objs.size).cells.lookup x = some c → s₃.heap.objs.size + 1 ≤ c := fun x c hx hc => cellsFrom_ge _ _ _ _ _ (mem_of_lookup hx) hc
  have big : ∀ c, s₃.heap.objs.size ≤ c → ¬ P c ∧ G.h₀.get? c = none := fun c hc => by
    have h3 := get_none_of_ge hc
    refine ⟨fun p => not_live (k.none h3) (lv c p), ?_⟩
    cases e0 : G.h₀.get? c with
    | none => rfl
    | some o => rw [k.keep c o (e.gok.ext c o e0)] at h3; cases h3
  have clo : ∀ x c, (frees (fun x => env.cells.lookup x) sc'.names []).lookup x = some c → env.cells.lookup x = some c ∧ c < s₃.heap.objs.size := fun x c h => by
    rcases frees_mem _ _ _ x c h with h | ⟨hm, hc⟩
    · cases h
    · obtain ⟨c', hc'⟩ := seen_cells e S hm
      simp only [hc', Option.getD_some] at hc
      subst hc
      obtain ⟨o, ho⟩ := Option.isSome_iff_exists.mp (e.cin x c hc')
      exact ⟨hc', Heap.lt_size (k.keep c o ho)⟩
  have nocell : ∀ x, (x, NameKind.free) ∈ sc'.names → (x, NameKind.cell) ∉ sc'.names := fun x h1 h2 => by
    have := (lookup_of_mem_nd S.nd h1).symm.trans (lookup_of_mem_nd S.nd h2)
    cases this
  have inner : ∀ x, (x, NameKind.free) ∈ sc'.names → ∃ c, env.cells.lookup x = some c ∧ (cenvOf sc' env s₃.heap.objs.size).cells.lookup x = some c := fun x hx => by
    obtain ⟨c, hc⟩ := seen_cells e S hx
    refine ⟨c, hc, ?_⟩
    show (cellsFrom _ sc'.names _).lookup x = some c
    rw [cellsFrom_lookup_other _ _ _ _ (nocell x hx)]
    exact frees_acc _ _ _ x c hc (fun p hp => nomatch hp) (.inl hx)
  have kindR : ∀ x, (cenvOf sc' env s₃.heap.objs.size).kindOf x = (sc'.names.lookup x).map fun k => if (k == NameKind.free && env.scope.kind == .function && env.kindOf x == some .cell) then NameKind.cell else k := fun x => lookup_relabel env sc'.names x
  refine ⟨⟨⟨S.kind, fun x h => by rw [kindR, h]; rfl, fun x h => by rw [kindR, h]; rfl, fun x h => by rw [kindR, h]; rfl, fun x h => ?_, fun x h => ?_, e.sc.g, e.sc.b⟩, e.gok.keep kk.keep, e.old, fun x c hc => ?_, fun x d hx => ?_⟩, ?_⟩
  · rw [kindR, h]
    simp only [Option.map_some]
    split
    · exact .inl rfl
    · exact .inr rfl
  · rcases h with h | h
    · exact cellsFrom_lookup_own _ _ _ _ (mem_of_lookup h)
    · obtain ⟨c, _, hc⟩ := inner x (mem_of_lookup h)
      exact ⟨c, hc⟩
  · by_cases hm : (x, NameKind.cell) ∈ sc'.names
    · have hge := cellsFrom_ge _ _ _ _ _ hm hc
      have hc2 : (cellsFrom (s₃.heap.objs.size + 1) sc'.names (frees (fun x => env.cells.lookup x) sc'.names [])).lookup x = some c := hc
      rw [← sz] at hc2
      obtain ⟨o, ho, _⟩ := pushCells_is (s₃.heap.objs.size + 1) sc'.names (s₃.heap.push { cls := .type "dict", data := .dict #[] }) _ (fun y c' h1 h2 => absurd (clo y c' h2).2 (by show ¬ @LT.lt Nat _ c' s₃.heap.objs.size; omega)) x c hge hc2
      subst h4
      show (Heap.get? _ c).isSome = true
      rw [ho]; rfl
    · have hc2 : (cellsFrom (s₃.heap.objs.size + 1) sc'.names (frees (fun x => env.cells.lookup x) sc'.names [])).lookup x = some c := hc
      rw [cellsFrom_lookup_other _ _ _ _ hm] at hc2
      obtain ⟨o, ho⟩ := Option.isSome_iff_exists.mp (e.cin x c (clo x c hc2).1)
      rw [kk.keep c o ho]; rfl
  · obtain ⟨h1, h2⟩ := hs x d hx
    obtain ⟨v, r, a⟩ := e.var x d h1
    refine ⟨v, ?_, a.tr (kk.trP P)⟩
    have hm := mem_of_lookup h2
    obtain ⟨c, hc, hc'⟩ := inner x hm
    have hcell : s.heap.IsCell c (some v) := by
      rcases r with ⟨hk, _⟩ | ⟨hk, c', hcc, hi⟩
      · exfalso
        rcases S.free x hm with q | q
        · rw [e.sc.cel x q] at hk; cases hk
        · rcases e.sc.cf x q with q | q <;> rw [q] at hk <;> cases hk
      · rw [hc] at hcc; cases hcc; exact hi
    refine .inr ⟨?_, c, hc', hcell.keeps kk.keep⟩
    rw [kindR, h2]
    simp only [Option.map_some]
    split
    · exact .inl rfl
    · exact .inr rfl
  · refine ⟨⟨fun _ => none, ?_⟩, (big _ (Nat.le_refl _)).1, (big _ (Nat.le_refl _)).2, fun x hx => cellsFrom_lookup_own _ _ _ _ (mem_of_lookup hx), fun x c hx hc => ?_, fun x y c hx h1 h2 => ?_⟩
    · subst h4
      exact Ns.keep' (pushCells_keeps _ _) (Heap.Ns.new ..)
    · have hge := own x c hx hc
      refine ⟨⟨none, ?_⟩, (big c (by show @LE.le Nat _ s₃.heap.objs.size c; omega)).1, (big c (by show @LE.le Nat _ s₃.heap.objs.size c; omega)).2⟩
      subst h4
      have hc2 : (cellsFrom (s₃.heap.objs.size + 1) sc'.names (frees (fun x => env.cells.lookup x) sc'.names [])).lookup x = some c := hc
      rw [← sz] at hc2
      exact pushCells_is (s₃.heap.objs.size + 1) sc'.names _ _ (fun y c' h1 h2 => absurd (clo y c' h2).2 (by show ¬ @LT.lt Nat _ c' s₃.heap.objs.size; omega)) x c hge hc2
    · refine cellsFrom_inj (s₃.heap.objs.size + 1) sc'.names _ _ (fun x y c h1 hx _ => absurd (clo x c hx).2 (by show ¬ @LT.lt Nat _ c s₃.heap.objs.size; omega)) (fun x c hx => Nat.lt_succ_of_lt (clo x c hx).2) x y c (own x c hx h1) h1 h2
end
end Mine

namespace Mine

section
variable {G : Wd} {A : Around} {s : Shared} {R : Result → Shared → Prop}

theorem compLoop_any {elt target iter : Expr} {ifs : List Expr} {scope : Scope} {pos : Pos} {it acc : Value} {env : Env} (I : Nat → Shared → Prop)
    (turn : ∀ n s, I n s → wpAny G.M A (pyNext it) (fun r s₁ => match r with
      | none => R (.ok .next) s₁
      | some v => wpAny G.M A (letOwnedTupleGo target it v) (fun _ s₁' => wpAny G.M A (assign target env v) (fun _ s₂ =>
          wpAny G.M A (forIn ifs true fun c r => if r = true then do let ok ← isTrue c env (eval c env); pure (ForInStep.yield ok) else pure (ForInStep.yield r)) (fun ok s₃ =>
            if ok = true then wpAny G.M A (eval elt env) (fun x s₄ => wpAny G.M A (call (.builtin "list.append") [acc, x]) (fun _ s₅ => ∃ m, m < n ∧ I m s₅) NoE s₄) NoE s₃
            else ∃ m, m < n ∧ I m s₃) NoE s₂) NoE s₁') NoE s₁) NoE s)
    (n : Nat) (h : I n s) : codeAny G.M A (.compLoop (.ListComp elt [⟨target, iter, ifs, 0⟩] scope pos) 0 it acc env) R s := by
  refine codeAny_loop rfl I (fun n s hI => ?_) n h
  show wpAny _ A ((compTurn (.ListComp elt [⟨target, iter, ifs, 0⟩] scope pos) 0 it acc env).onRaise (fun x => do noteFrame x env; theTreesLotGoes x)) _ _ s
  refine wpAny_noted ?_
  rw [compTurn_list]
  refine wpNo (wpAny_bind (wpAny_standAt (wpAny_bind (wpAny_mono (turn n s hI) (fun r s₁ h₁ => ?_) fun _ _ h' => h'))))
  cases r with
  | none => exact wpAny_pure h₁
  | some v =>
    refine wpAny_bind (wpAny_mono h₁ (fun _ s₁' h₁' => ?_) fun _ _ h' => h')
    refine wpAny_bind (wpAny_mono h₁' (fun _ s₂ h₂ => wpAny_bind (wpAny_mono h₂ (fun ok s₃ h₃ => ?_) fun _ _ h' => h')) fun _ _ h' => h')
    cases ok with
    | false => exact wpAny_pure ⟨rfl, h₃⟩
    | true =>
      exact wpAny_bind (wpAny_bind (wpAny_mono h₃ (fun x s₄ h₄ => wpAny_bind (wpAny_mono h₄ (fun _ s₅ h₅ => wpAny_pure (wpAny_pure ⟨rfl, h₅⟩)) fun _ _ h' => h')) fun _ _ h' => h'))
end

/-- the tests of a comprehension -/
noncomputable def EvIfs (G : Wd) (n : Nat) (sc : Scope) (σ : Sg) : List Expr → Bool → Prop
  | [], b => b = true
  | [c], b => EvT G n sc σ c b
  | _, _ => False

/-- the items and what the comprehension makes of them -/
inductive CR (G : Wd) (n : Nat) (sc : Scope) (σ : Sg) (tgt elt : Expr) (ifs : List Expr) : List D → List D → Prop
  | nil : CR G n sc σ tgt elt ifs [] []
  | skip {d ds ys σd} : bindTo tgt d σ = some σd → EvIfs G n sc σd ifs false → CR G n sc σ tgt elt ifs ds ys → CR G n sc σ tgt elt ifs (d :: ds) ys
  | take {d ds ys σd e} : bindTo tgt d σ = some σd → EvIfs G n sc σd ifs true → EvE G n sc σd elt e → CR G n sc σ tgt elt ifs ds ys → CR G n sc σ tgt elt ifs (d :: ds) (e :: ys)

theorem CR.len {G n sc σ tgt elt ifs} : ∀ {ds ys : List D}, CR G n sc σ tgt elt ifs ds ys → ys.length ≤ ds.length
  | _, _, .nil => Nat.le_refl _
  | _, _, .skip _ _ r => Nat.le_succ_of_le r.len
  | _, _, .take _ _ _ r => Nat.succ_le_succ r.len

section
variable {G : Wd} {n : Nat} {sc sc' : Scope} {σ σc : Sg} {P : PA} {env : Env} {s : Shared} {A : Around}

theorem ifs_run {ifs : List Expr} {b : Bool} (h : EvIfs G n sc σ ifs b) (R : Room n A) (e : EnvOk G sc σ P env s) :
    wpAny G.M A (forIn ifs true fun c r => if r = true then do let ok ← isTrue c env (eval c env); pure (ForInStep.yield ok) else pure (ForInStep.yield r)) (fun ok s' => ok = b ∧ Kp s s') NoE s := by
  match ifs, h with
  | [], h => rw [show b = true from h]; exact wpAny_tests_nil ⟨rfl, Kp.refl s⟩
  | [c], h => exact wpAny_tests_one (h A env P s R e)
  | _ :: _ :: _, h => exact h.elim

/-- at the comprehension's end: the list D, the block's names at C -/
structure CEnd (P : PA) (ys : List D) (D' C : Addr) (s s' : Shared) : Prop where
  kp : Kp s s'
  ns : ∃ m, s'.heap.Ns C m
  nc : s.heap.get? C = none
  nd : s.heap.get? D' = none
  dc : D' ≠ C
  body : ∃ P' : PA, (∀ a, P a → P' a) ∧ (∀ a, P' a → PN s P a) ∧ ¬ P' C ∧ ¬ P' D' ∧ ∃ vs, s'.heap.PlainList D' vs ∧ Rvs P' s'.heap ys vs.toList

theorem Blk.weaken {σ₂ : Sg} (bl : Blk G sc P env σ s) (h : ∀ x d, σ₂.lookup x = some d → σ.lookup x = some d) : Blk G sc P env σ₂ s :=
  ⟨⟨bl.e.sc, bl.e.gok, bl.e.old, bl.e.cin, fun x d hx => bl.e.var x d (h x d hx)⟩, bl.fr⟩

theorem bindS_keeps {ok : Str → Bool} {y : Str} {d : D} (hy : ok y = false) : ∀ {es : List Expr} {ds : List D} {σ σ' : Sg}, namesS ok es = true → bindS es ds σ = some σ' → σ.lookup y = some d → σ'.lookup y = some d := by
  intro es
  induction es with
  | nil =>
    intro ds σ σ' _ h hσ
    cases ds with
    | nil => simp only [bindS, Option.some.injEq] at h; rw [← h]; exact hσ
    | cons => simp [bindS] at h
  | cons e es ih =>
    intro ds σ σ' hn h hσ
    obtain ⟨x, p, d', r, rfl, rfl, hb⟩ := bindS_cons h
    simp only [namesS, Bool.and_eq_true] at hn
    refine ih hn.2 hb ?_
    rw [lookup_cons, if_neg (fun q => by rw [q, hn.1] at hy; cases hy)]
    exact hσ
theorem bindTo_keeps {ok : Str → Bool} {y : Str} {d d' : D} (hy : ok y = false) {tgt : Expr} {σ σ' : Sg} (hn : namesT ok tgt = true) (h : bindTo tgt d' σ = some σ') (hσ : σ.lookup y = some d) : σ'.lookup y = some d := by
  cases tgt with
  | Name x p =>
    simp only [bindTo, Option.some.injEq] at h
    rw [← h, lookup_cons, if_neg (fun q => by rw [q] at hy; rw [show ok x = true from hn] at hy; cases hy)]
    exact hσ
  | Tuple es k p =>
    cases d' with
    | tup ds => exact bindS_keeps hy hn h hσ
    | _ => simp [bindTo] at h
  | _ => simp [bindTo] at h

theorem Blk.other {wr : List Addr} {P2 : PA} {s' : Shared} (bl : Blk G sc P env σ s) (k : KpB wr s s') (h1 : env.locals ∉ wr) (h2 : ∀ x c, env.cells.lookup x = some c → c ∉ wr) (h3 : ∀ b ∈ wr, ¬ P b) (h4 : ∀ b ∈ wr, G.h₀.get? b = none)
    (up : ∀ a, P a → P2 a) (down : ∀ a, P2 a → P a ∨ s.heap.get? a = none) : Blk G sc P2 env σ s' := by
  have cl : ∀ x c v, env.cells.lookup x = some c → s.heap.IsCell c v → s'.heap.IsCell c v := fun x c v hc ⟨o, ho, hd⟩ => ⟨o, k.keep c o (h2 x c hc) ho, hd⟩
  have nsk : ∀ m, s.heap.Ns env.locals m → s'.heap.Ns env.locals m := fun m ⟨o, es, ep, ho, r⟩ => ⟨o, es, ep, k.keep _ o h1 ho, r⟩
  refine ⟨⟨bl.e.sc, gokB bl.e.gok k h4, fun a o q => up a (bl.e.old a o q), fun x c hc => ?_, fun x d' hx => ?_⟩, ⟨?_, fun p => ?_, bl.fr.nb, bl.fr.has, fun x c hx hc => ?_, bl.fr.apart⟩⟩
  · obtain ⟨o, ho⟩ := Option.isSome_iff_exists.mp (bl.e.cin x c hc)
    rw [k.keep c o (h2 x c hc) ho]; rfl
  · obtain ⟨v, r, rv⟩ := bl.e.var x d' hx
    refine ⟨v, ?_, (rv.tr (trB k h3)).sub up⟩
    rcases r with ⟨hk, m, hm, hv⟩ | ⟨hk, c, hc, hi⟩
    · exact .inl ⟨hk, m, nsk m hm, hv⟩
    · exact .inr ⟨hk, c, hc, cl x c _ hc hi⟩
  · obtain ⟨m, hm⟩ := bl.fr.ns
    exact ⟨m, nsk m hm⟩
  · obtain ⟨m, o, _, _, ho, _⟩ := bl.fr.ns
    rcases down _ p with q | q
    · exact bl.fr.np q
    · rw [ho] at q; cases q
  · obtain ⟨⟨v, hv⟩, np, nb⟩ := bl.fr.cell x c hx hc
    refine ⟨⟨v, cl x c v hc hv⟩, fun p => ?_, nb⟩
    rcases down _ p with q | q
    · exact np q
    · obtain ⟨o, ho, _⟩ := hv
      rw [ho] at q; cases q

theorem comp_core {iter tgt elt : Expr} {ifs : List Expr} {pos posc : Pos} {use : Option (Value → Sem Unit)} {items ys : List D} {Q : Post}
    (S : ScIn sc sc') (hs : Seen sc' σ σc) (htn : namesT (isLC sc') tgt = true) (hit : EvIt G n sc σ iter tgt items) (hcr : CR G n sc' σc tgt elt ifs items ys) (hz : items.length ≤ 16777216)
    (R : Room n A) (e : EnvOk G sc σ P env s) (lv : ∀ a, P a → (s.heap.get? a).isSome = true) (hf : ∀ x, foldedSetIterable iter env x = pure x)
    (hQ : ∀ D' C s', CEnd P ys D' C s s' → compPost G.M A NoE use Q (.ref D') C (.ok .next) s') :
    wpAny G.M A (comprehension (.ListComp elt [⟨tgt, iter, ifs, 0⟩] sc' posc) sc' env pos (newList []) false (eval iter env) use) Q NoE s := by
  refine wpAny_comprehension_free rfl hf (closure_is fun x hx => seen_cells e S hx) S.kind (fun x hx hl => lookup_of_mem_nd S.nd (by obtain ⟨a, b⟩ := x; simp only at hl; rw [← hl]; exact hx)) ?_
  refine wpAny_mono (hit A env P s R e lv) (fun x s₁ h₁ => ?_) fun _ _ x => x
  refine wpAny_mono h₁ (fun it s₂ h₂ => ?_) fun _ _ x => x
  obtain ⟨I, wr, St, P₁, rfl, ip⟩ := h₂
  refine wpAny_newObj_type (hd := by size_fits) ?_
  have k₃ := Kp.push s₂ { cls := .type "list", dict := none, data := .seq ([] : List Value).toArray }
  have hD := push_new (s := s₂) (o := { cls := .type "list", dict := none, data := .seq ([] : List Value).toArray }) rfl
  have hDn := size_none s₂
  generalize hs3 : ({ s₂ with heap := s₂.heap.push { cls := .type "list", dict := none, data := .seq ([] : List Value).toArray } } : Shared) = s₃ at k₃ ⊢
  have hD3 : s₃.heap.get? s₂.heap.objs.size = some { cls := .type "list", dict := none, data := .seq #[] } := by rw [← hs3]; exact hD
  generalize hDd : s₂.heap.objs.size = D' at hDn hD3 ⊢
  refine newEnv_comp ?_
  have e₁ : EnvOk G sc σ P₁ env s₂ := e.keep ip.kp ip.up
  have lv1 : ∀ a, P₁ a → (s₂.heap.get? a).isSome = true := ip.live
  have blk := comp_blk e₁ lv1 S hs k₃ _ rfl
  have k₄ : Kp s₃ { s₃ with heap := pushCells (s₃.heap.push { cls := .type "dict", data := .dict #[] }) sc'.names } := .of (n := s₃.toks) fun b o e => pushCells_keeps _ _ b o (Heap.get?_push_of_some _ e)
  have hCn : s₃.heap.get? s₃.heap.objs.size = none := size_none s₃
  show codeAny G.M A (.compStart (.ListComp elt [⟨tgt, iter, ifs, 0⟩] sc' posc) 0 (.ref I) (.ref D') (cenvOf sc' env s₃.heap.objs.size)) (compPost G.M A NoE use Q (.ref D') s₃.heap.objs.size) _
  generalize hC : s₃.heap.objs.size = C at blk hCn ⊢
  generalize hs4 : ({ s₃ with heap := pushCells (s₃.heap.push { cls := .type "dict", data := .dict #[] }) sc'.names } : Shared) = s₄ at blk k₄ ⊢
  have k24 := k₃.trans k₄
  have hCs : (cenvOf sc' env C).locals = C := rfl
  have hP1D : ¬ P₁ D' := fun p => not_live hDn (lv1 _ p)
  have hDC : D' ≠ C := fun q => by rw [q, hCn] at hD3; cases hD3
  have wr4 : ∀ b ∈ wr, b ≠ D' ∧ b ∉ muts sc' (cenvOf sc' env C) := fun b hb => by
    obtain ⟨o, ho⟩ := Option.isSome_iff_exists.mp (ip.has b hb)
    refine ⟨fun q => (by rw [q, hDn] at ho; cases ho), fun hm => ?_⟩
    rcases muts_is hm with q | ⟨x, hx, hc⟩
    · have := k₃.keep b o ho
      rw [q, hCs, hCn] at this; cases this
    · have hge := cellsFrom_ge _ _ _ _ _ (mem_of_lookup hx) hc
      have hlt := Heap.lt_size (k₃.keep b o ho)
      rw [← hC] at hge
      exact absurd (Nat.lt_of_lt_of_le hlt (Nat.le_trans (Nat.le_succ _) hge)) (Nat.lt_irrefl _)
  have Dm : D' ∉ muts sc' (cenvOf sc' env C) := fun hm => by
    have hlt := Heap.lt_size hD3
    rcases muts_is hm with q | ⟨x, hx, hc⟩
    · exact hDC (q.trans hCs)
    · have hge := cellsFrom_ge _ _ _ _ _ (mem_of_lookup hx) hc
      rw [← hC] at hge
      exact absurd (Nat.lt_of_lt_of_le hlt (Nat.le_trans (Nat.le_succ _) hge)) (Nat.lt_irrefl _)
  have Cm : C ∈ muts sc' (cenvOf sc' env C) := List.mem_cons_self
  -- what is written was new
  have newW : ∀ b ∈ wr ++ D' :: muts sc' (cenvOf sc' env C), s.heap.get? b = none := fun b hb => by
    rcases List.mem_append.mp hb with hb | hb
    · exact ip.new b hb
    · rcases List.mem_cons.mp hb with rfl | hb
      · exact ip.kp.none hDn
      · have h23 := ip.kp.trans k₃
        rcases muts_is hb with q | ⟨x, hx, hc⟩
        · rw [q, hCs]; exact h23.none hCn
        · have hge := cellsFrom_ge _ _ _ _ _ (mem_of_lookup hx) hc
          refine h23.none (get_none_of_ge ?_)
          rw [← hC] at hge
          exact Nat.le_trans (Nat.le_succ _) hge
  have loop : codeAny G.M A (.compLoop (.ListComp elt [⟨tgt, iter, ifs, 0⟩] sc' posc) 0 (.ref I) (.ref D') (cenvOf sc' env C)) (compPost G.M A NoE use Q (.ref D') C) s₄ := by
    refine compLoop_any (fun k s' => ∃ (i : Nat) (P' : PA) (vs : Array Value) (done rest : List D), k = items.length + 1 - i ∧ i ≤ items.length ∧ KpB (wr ++ D' :: muts sc' (cenvOf sc' env C)) s₄ s' ∧ Blk G sc' P' (cenvOf sc' env C) σc s' ∧ St i s'.heap ∧
      (∀ a, P₁ a → P' a) ∧ (∀ a, P' a → P₁ a ∨ s₄.heap.get? a = none) ∧ s'.heap.PlainList D' vs ∧ Rvs P' s'.heap done vs.toList ∧ ys = done ++ rest ∧ done.length ≤ i ∧ CR G n sc' σc tgt elt ifs (items.drop i) rest) ?_ (items.length + 1)
      ⟨0, P₁, #[], [], ys, rfl, Nat.zero_le _, KpB.refl _ _, blk, ip.wk.frame _ _ _ ip.st (fun b o _ e => k24.keep b o e), fun a p => p, fun a p => .inl p, ⟨0, k₄.keep _ _ hD3⟩, rfl, rfl, Nat.zero_le _, hcr⟩
    rintro k s' ⟨i, P', vs, done, rest, rfl, hi, kb, bl, st, up, down, hDl, hR, hys, hdl, cr⟩
    have offW : ∀ b ∈ wr, ¬ P' b := fun b hb p => by
      rcases down b p with q | q
      · exact ip.off b hb q
      · obtain ⟨o, ho⟩ := Option.isSome_iff_exists.mp (ip.has b hb)
        rw [k24.keep b o ho] at q; cases q
    have offD : ¬ P' D' := fun p => by
      rcases down _ p with q | q
      · exact hP1D q
      · rw [k₄.keep _ _ hD3] at q; cases q
    have hbW : ∀ b ∈ wr, G.h₀.get? b = none := fun b hb => by
      cases e0 : G.h₀.get? b with
      | none => rfl
      | some o => have := ip.new b hb; rw [e.gok.ext b o e0] at this; cases this
    have frameSt : ∀ {j : Nat} {h1 h2 : Heap}, St j h1 → (∀ b o, b ∈ wr ∨ P₁ b → h1.get? b = some o → h2.get? b = some o) → St j h2 := fun a b => ip.wk.frame _ _ _ a b
    cases hdi : items.drop i with
    | nil =>
      have hil : i = items.length := by
        have := congrArg List.length hdi
        simp at this; omega
      subst hil
      rw [hdi] at cr
      cases cr
      rw [List.append_nil] at hys
      subst hys
      refine wpAny_mono (ip.wk.done s' st) (fun r s'' h => ?_) fun _ _ x => x
      obtain ⟨rfl, kw⟩ := h
      refine hQ D' C s'' ⟨?_, ?_, newW C ?_, newW D' (by simp), hDC, P', fun a p => up a (ip.up a p), fun a p => ?_, hCs ▸ bl.fr.np, offD, vs, ?_, hR.tr (trB kw offW)⟩
      · have kall : KpB (wr ++ D' :: muts sc' (cenvOf sc' env C)) s₄ s'' := kb.trans (kw.sub (fun b hb => List.mem_append_left _ hb))
        exact (((ip.kp.trans k24).toB _).trans kall).toKp newW
      · obtain ⟨m, hm⟩ := bl.fr.ns
        obtain ⟨o, es, ep, ho, rr⟩ := hm
        exact ⟨m, o, es, ep, kw.keep _ o (fun hm => (wr4 _ hm).2 Cm) ho, rr⟩
      · exact List.mem_append_right _ (List.mem_cons_of_mem _ Cm)
      · rcases down a p with q | q
        · exact (ip.down a q).elim .inl .inr
        · exact .inr ((ip.kp.trans k24).none q)
      · obtain ⟨n', hn'⟩ := hDl
        exact ⟨n', kw.keep _ _ (fun hm => (wr4 _ hm).1 rfl) hn'⟩
    | cons d ds =>
      have hdrop : items.drop (i + 1) = ds := by
        rw [← List.drop_drop, hdi]; rfl
      have hget : items[i]? = some d := by
        have := List.getElem?_drop (xs := items) (i := i) (j := 0)
        rw [hdi] at this
        simpa using this.symm
      have hlt : i < items.length := (List.getElem?_eq_some_iff.mp hget).1
      refine wpAny_mono (ip.wk.item i s' d hget st) (fun r s1 h1 => ?_) fun _ _ x => x
      obtain ⟨v, rfl, kw1, h1⟩ := h1
      refine wpAny_mono h1 (fun _ s2 h2 => ?_) fun _ _ x => x
      obtain ⟨kw2, st2, rv⟩ := h2
      have kw := kw1.trans kw2
      -- the state once the item is drawn
      have rvP : Rv (fun a => P' a ∨ (s'.heap.get? a = none ∧ (s2.heap.get? a).isSome = true)) s2.heap d v := rv.live.sub fun a ⟨p, l⟩ => p.elim (fun p => .inl (up a p)) fun q => .inr ⟨q, l⟩
      generalize hP2 : (fun a => P' a ∨ (s'.heap.get? a = none ∧ (s2.heap.get? a).isSome = true)) = P2 at rvP
      have up2 : ∀ a, P' a → P2 a := fun a p => by rw [← hP2]; exact .inl p
      have down2 : ∀ a, P2 a → P' a ∨ s'.heap.get? a = none := fun a p => by rw [← hP2] at p; exact p.elim .inl fun q => .inr q.1
      have there : ∀ b ∈ muts sc' (cenvOf sc' env C), (s'.heap.get? b).isSome = true := fun b hb => by
        rcases muts_is hb with q | ⟨x, hx, hc⟩
        · obtain ⟨m, o, _, _, ho, _⟩ := bl.fr.ns
          rw [q, ho]; rfl
        · obtain ⟨⟨u, o, ho, _⟩, _⟩ := bl.fr.cell x b hx hc
          rw [ho]; rfl
      have offM2 : ∀ b ∈ muts sc' (cenvOf sc' env C), ¬ P2 b := fun b hb p => (down2 b p).elim (bl.fr.off b hb) fun q => not_live q (there b hb)
      have cellW : ∀ x c, (cenvOf sc' env C).cells.lookup x = some c → c ∉ wr := fun x c hc hm => by
        have hx2 : (cellsFrom (C + 1) sc'.names (frees (fun x => env.cells.lookup x) sc'.names [])).lookup x = some c := hc
        by_cases hown : (x, NameKind.cell) ∈ sc'.names
        · exact (wr4 c hm).2 (mem_muts (lookup_of_mem_nd S.nd hown) hc)
        · rw [cellsFrom_lookup_other _ _ _ _ hown] at hx2
          rcases frees_mem _ _ _ x c hx2 with q | ⟨q, q2⟩
          · cases q
          · obtain ⟨c', hc'⟩ := seen_cells e S q
            simp only [hc', Option.getD_some] at q2
            subst q2
            exact not_live (ip.new c hm) (e.cin x c hc')
      have cellD : ∀ x c, (cenvOf sc' env C).cells.lookup x = some c → c ∉ [D'] := fun x c hc hm => by
        rw [List.mem_singleton.mp hm] at hc
        have hx2 : (cellsFrom (C + 1) sc'.names (frees (fun x => env.cells.lookup x) sc'.names [])).lookup x = some D' := hc
        by_cases hown : (x, NameKind.cell) ∈ sc'.names
        · exact Dm (mem_muts (lookup_of_mem_nd S.nd hown) hc)
        · rw [cellsFrom_lookup_other _ _ _ _ hown] at hx2
          rcases frees_mem _ _ _ x _ hx2 with q | ⟨q, q2⟩
          · cases q
          · obtain ⟨c', hc'⟩ := seen_cells e S q
            simp only [hc', Option.getD_some] at q2
            subst q2
            exact not_live (ip.kp.none hDn) (e.cin x _ hc')
      have locW : (cenvOf sc' env C).locals ∉ wr := fun hm => (wr4 _ hm).2 (by simp [muts])
      have bl2 : Blk G sc' P2 (cenvOf sc' env C) σc s2 := bl.other kw locW cellW offW hbW up2 down2
      have offW2 : ∀ b ∈ wr, ¬ P2 b := fun b hb p => (down2 b p).elim (offW b hb) fun q => not_live q (ip.wk.live _ _ st b hb)
      have offD2 : ¬ P2 D' := fun p => (down2 _ p).elim offD fun q => by obtain ⟨n', hn'⟩ := hDl; rw [hn'] at q; cases q
      have hDl2 : s2.heap.PlainList D' vs := let ⟨n', hn'⟩ := hDl; ⟨n', kw.keep _ _ (fun hm => (wr4 _ hm).1 rfl) hn'⟩
      have hR2 : Rvs P2 s2.heap done vs.toList := (hR.tr (trB kw offW)).sub up2
      have bind : ∃ σd, bindTo tgt d σc = some σd := by
        rw [hdi] at cr
        cases cr with
        | skip h _ _ => exact ⟨_, h⟩
        | take h _ _ _ => exact ⟨_, h⟩
      obtain ⟨σd, hbind⟩ := bind
      refine assignT (storesB bl2.fr.off) R.handled htn hbind bl2 rvP fun s3 bl3 kw3 => ?_
      have kwm : KpB (wr ++ D' :: muts sc' (cenvOf sc' env C)) s' s3 := (kw.sub fun b hb => List.mem_append_left _ hb).trans (kw3.sub fun b hb => List.mem_append_right _ (List.mem_cons_of_mem _ hb))
      have st3 : St (i + 1) s3.heap := frameSt st2 fun b o hb ho => kw3.keep b o (fun hm => hb.elim (fun q => (wr4 b q).2 hm) fun q => bl2.fr.off b hm (up2 b (up b q))) ho
      have hDl3 : s3.heap.PlainList D' vs := let ⟨n', hn'⟩ := hDl2; ⟨n', kw3.keep _ _ Dm hn'⟩
      have hR3 : Rvs P2 s3.heap done vs.toList := hR2.tr (trB kw3 bl2.fr.off)
      have down3 : ∀ a, P2 a → P₁ a ∨ s₄.heap.get? a = none := fun a p => (down2 a p).elim (down a) fun q => by
        by_cases hm : a ∈ wr ++ D' :: muts sc' (cenvOf sc' env C)
        · rcases List.mem_append.mp hm with hm | hm
          · exact absurd p (offW2 a hm)
          · rcases List.mem_cons.mp hm with rfl | hm
            · exact absurd p offD2
            · exact absurd p (bl2.fr.off a hm)
        · exact .inr (kb.no hm q)
      have weak : ∀ x d', σc.lookup x = some d' → σd.lookup x = some d' := fun x d' hx => bindTo_keeps (ok := isLC sc') (by simp [isLC, (hs x d' hx).2]) htn hbind hx
      have step : ∀ (s4 : Shared) (vs' : Array Value) (done' rest' : List D) (P4 : PA), KpB (wr ++ D' :: muts sc' (cenvOf sc' env C)) s₄ s4 → Blk G sc' P4 (cenvOf sc' env C) σd s4 → St (i + 1) s4.heap → (∀ a, P₁ a → P4 a) → (∀ a, P4 a → P₁ a ∨ s₄.heap.get? a = none) →
          s4.heap.PlainList D' vs' → Rvs P4 s4.heap done' vs'.toList → ys = done' ++ rest' → done'.length ≤ i + 1 → CR G n sc' σc tgt elt ifs (items.drop (i + 1)) rest' →
          ∃ m, m < items.length + 1 - i ∧ ∃ (i : Nat) (P' : PA) (vs : Array Value) (done rest : List D), m = items.length + 1 - i ∧ i ≤ items.length ∧ KpB (wr ++ D' :: muts sc' (cenvOf sc' env C)) s₄ s4 ∧ Blk G sc' P' (cenvOf sc' env C) σc s4 ∧ St i s4.heap ∧
            (∀ a, P₁ a → P' a) ∧ (∀ a, P' a → P₁ a ∨ s₄.heap.get? a = none) ∧ s4.heap.PlainList D' vs ∧ Rvs P' s4.heap done vs.toList ∧ ys = done ++ rest ∧ done.length ≤ i ∧ CR G n sc' σc tgt elt ifs (items.drop i) rest :=
        fun s4 vs' done' rest' P4 a1 a2 a3 a4 a5 a6 a7 a8 a9 a10 => ⟨items.length + 1 - (i + 1), by omega, i + 1, P4, vs', done', rest', rfl, hlt, a1, a2.weaken weak, a3, a4, a5, a6, a7, a8, a9, a10⟩
      rw [hdi] at cr
      cases cr with
      | skip hb hi' hr =>
        rw [hbind] at hb; cases hb
        refine wpAny_mono (ifs_run hi' R bl3.e) (fun ok s4 h4 => ?_) fun _ _ x => x
        obtain ⟨rfl, k4⟩ := h4
        rw [if_neg (by decide)]
        exact step s4 vs done rest P2 (kb.trans (kwm.trans (k4.toB _))) (bl3.keep k4) (frameSt st3 fun b o _ ho => k4.keep b o ho) (fun a p => up2 a (up a p)) down3 (let ⟨n', hn'⟩ := hDl3; ⟨n', k4.keep _ _ hn'⟩) (hR3.tr (k4.trP _)) hys (Nat.le_succ_of_le hdl) (hdrop ▸ hr)
      | @take _ _ ys' _ ev hb hi' he hr =>
        rw [hbind] at hb; cases hb
        refine wpAny_mono (ifs_run hi' R bl3.e) (fun ok s4 h4 => ?_) fun _ _ x => x
        obtain ⟨rfl, k4⟩ := h4
        rw [if_pos (by rfl)]
        have bl4 := bl3.keep k4
        refine wpAny_mono (he A (cenvOf sc' env C) P2 s4 R bl4.e) (fun x s5 h5 => ?_) fun _ _ x => x
        obtain ⟨k5, rx⟩ := h5
        have k35 := k4.trans k5
        have hDl5 : s5.heap.PlainList D' vs := let ⟨n', hn'⟩ := hDl3; ⟨n', k35.keep _ _ hn'⟩
        have hvs : vs.size = done.length := by have := hR.length; rwa [Array.length_toList] at this
        refine wpAny_list_append_plain (hsz := by rw [hvs]; show done.length ≤ 16777216; omega) hDl5 fun h' hl' hsb => ?_
        have k6 : KpB [D'] s5 { s5 with heap := h' } := .of (n := s5.toks) fun b o nb eo => hsb.extBut b o (by simpa using nb) eo
        have hP3 : ∀ a, (PN s4 P2 a ∧ (s5.heap.get? a).isSome = true) → P2 a ∨ s4.heap.get? a = none := fun a p => p.1
        have offD5 : ∀ b ∈ [D'], ¬ (fun a => P2 a ∨ (s4.heap.get? a = none ∧ (s5.heap.get? a).isSome = true)) b := fun b hb p => by
          rw [List.mem_singleton.mp hb] at p
          rcases p with p | ⟨p, _⟩
          · exact offD2 p
          · obtain ⟨n', hn'⟩ := hDl3
            rw [k4.keep _ _ hn'] at p; cases p
        have bl5 : Blk G sc' (fun a => P2 a ∨ (s4.heap.get? a = none ∧ (s5.heap.get? a).isSome = true)) (cenvOf sc' env C) σd s5 :=
          bl4.other (wr := []) (k5.toB []) (by simp) (by simp) (by simp) (by simp) (fun a p => .inl p) fun a p => p.elim .inl fun q => .inr q.1
        have bl6 := bl5.other (P2 := fun a => P2 a ∨ (s4.heap.get? a = none ∧ (s5.heap.get? a).isSome = true)) k6 (by rw [hCs]; simpa using Ne.symm hDC) cellD offD5 (fun b hb => by
            rw [List.mem_singleton.mp hb]
            cases e0 : G.h₀.get? D' with
            | none => rfl
            | some o => have := e.gok.ext _ _ e0; rw [newW D' (by simp)] at this; cases this) (fun a p => p) fun a p => .inl p
        refine step _ (vs.push x) (done ++ [ev]) ys' _ (kb.trans (kwm.trans ((k35.toB _).trans (k6.sub fun b hb => by rw [List.mem_singleton.mp hb]; simp)))) bl6 ?_ (fun a p => .inl (up2 a (up a p))) (fun a p => ?_) hl' ?_ (by rw [hys]; simp) (by simp; omega) (hdrop ▸ hr)
        · refine frameSt st3 fun b o hb ho => k6.keep b o (fun hm => ?_) (k35.keep b o ho)
          rw [List.mem_singleton.mp hm] at hb
          exact hb.elim (fun q => (wr4 _ q).1 rfl) hP1D
        · rcases p with p | ⟨p, l⟩
          · exact down3 a p
          · by_cases hm : a ∈ wr ++ D' :: muts sc' (cenvOf sc' env C)
            · exfalso
              have p3 := k4.none p
              rcases List.mem_append.mp hm with hm | hm
              · exact not_live p3 (ip.wk.live _ _ st3 a hm)
              · rcases List.mem_cons.mp hm with rfl | hm
                · obtain ⟨n', hn'⟩ := hDl3; rw [hn'] at p3; cases p3
                · rcases muts_is hm with q | ⟨x, hx, hc⟩
                  · obtain ⟨m, o, _, _, ho, _⟩ := bl3.fr.ns
                    rw [q, ho] at p3; cases p3
                  · obtain ⟨⟨u, o, ho, _⟩, _⟩ := bl3.fr.cell x a hx hc
                    rw [ho] at p3; cases p3
            · exact .inr ((kb.trans kwm).no hm (k4.none p))
        · have r5 : Rvs (fun a => P2 a ∨ (s4.heap.get? a = none ∧ (s5.heap.get? a).isSome = true)) s5.heap done vs.toList := (hR3.tr (k35.trP _)).sub fun a p => .inl p
          have rx5 : Rv (fun a => P2 a ∨ (s4.heap.get? a = none ∧ (s5.heap.get? a).isSome = true)) s5.heap ev x := rx.live.sub fun a ⟨p, l⟩ => p.elim .inl fun q => .inr ⟨q, l⟩
          rw [Array.toList_push]
          exact (r5.tr (trB k6 offD5)).append (.cons (rx5.tr (trB k6 offD5)) .nil)
  exact codeAny_compStart_list loop (wpAny_mono (ip.wk.self 0 s₄ (fun v s' => v = .ref I ∧ s' = s₄) (ip.wk.frame _ _ _ ip.st fun b o _ e => k24.keep b o e) ⟨rfl, rfl⟩) (fun v s' h => by obtain ⟨rfl, rfl⟩ := h; exact loop) fun _ _ x => x.elim)
end
end Mine

namespace Mine

section
variable {G : Wd} {n : Nat} {sc sc' : Scope} {σ σc : Sg}

theorem EnvOk.live {P env s} (e : EnvOk G sc σ P env s) : EnvOk G sc σ (fun a => P a ∧ (s.heap.get? a).isSome = true) env s :=
  ⟨e.sc, e.gok, fun a o h => ⟨e.old a o h, by rw [e.gok.ext a o h]; rfl⟩, e.cin, fun x d h => let ⟨v, r, a⟩ := e.var x d h; ⟨v, r, a.live⟩⟩

theorem ev_comp {iter tgt elt : Expr} {ifs : List Expr} {posc : Pos} {items ys : List D} (σc : Sg) (hit : EvIt G n sc σ iter tgt items) (hcr : CR G n sc' σc tgt elt ifs items ys) (S : scIn sc sc' = true) (hs : Seen sc' σ σc) (htn : namesT (isLC sc') tgt = true)
    (hz : items.length ≤ 16777216) (hf : ∀ env x, foldedSetIterable iter env x = pure x := by intro _ _; rfl) : EvE G n sc σ (.ListComp elt [⟨tgt, iter, ifs, 0⟩] sc' posc) (.list ys) := fun A env P s R e => by
  rw [eval_ListComp]
  refine comp_core (scIn_ok S) hs htn hit hcr hz R e.live (fun a p => p.2) (hf env) fun D' C s' ce => ?_
  refine ⟨_, ce.ns.choose_spec, fun h' hsb => ?_⟩
  obtain ⟨P', up, down, nC, nD, vs, ⟨n', hl⟩, hr⟩ := ce.body
  have k : KpB [C] s' { s' with heap := h' } := .of (n := s'.toks) fun b o nb eo => hsb.extBut b o (by simpa using nb) eo
  have kk : Kp s { s' with heap := h' } := ((ce.kp.toB [C]).trans k).toKp (by simpa using ce.nc)
  refine ⟨kk, D', vs, rfl, .inr ce.nd, ⟨n', k.keep _ _ (by simpa using ce.dc) hl⟩, ?_⟩
  exact (hr.tr (trB k (by simpa using nC))).sub fun a p => (down a p).elim (fun q => .inl q.1) .inr

/-- no outer name is seen -/
theorem seen_nil : Seen sc' σ [] := fun x d h => nomatch h
theorem seen_cons {x d} (h1 : σ.lookup x = some d) (h2 : sc'.names.lookup x = some .free) (r : Seen sc' σ σc) : Seen sc' σ ((x, d) :: σc) := fun y d' hy => by
  rw [lookup_cons] at hy
  by_cases h : y = x
  · subst h; rw [if_pos rfl] at hy; cases hy; exact ⟨h1, h2⟩
  · rw [if_neg h] at hy; exact r y d' hy

/-- every item gives -/
theorem cr_map {tgt elt : Expr} (f : D → D) : ∀ (items : List D), (∀ d ∈ items, ∃ σd, bindTo tgt d σ = some σd ∧ EvE G n sc σd elt (f d)) → CR G n sc σ tgt elt [] items (items.map f)
  | [], _ => .nil
  | d :: ds, h => by
    obtain ⟨σd, hb, he⟩ := h d List.mem_cons_self
    exact .take hb rfl he (cr_map f ds fun d hd => h d (List.mem_cons_of_mem _ hd))

/-- a range's items -/
theorem cr_range {x : Str} {p : Pos} {elt : Expr} (a : Int) (k : Nat) (f : Nat → D) (h : ∀ i, i < k → EvE G n sc ((x, .int (a + i)) :: σ) elt (f i)) : CR G n sc σ (.Name x p) elt [] (rng a k) ((List.range k).map f) := by
  have key : ∀ (l : List Nat), (∀ i ∈ l, i < k) → CR G n sc σ (.Name x p) elt [] (l.map fun (i : Nat) => D.int (a + i)) (l.map f) := by
    intro l
    induction l with
    | nil => intro _; exact .nil
    | cons i l ih =>
      intro hl
      exact .take rfl rfl (h i (hl i List.mem_cons_self)) (ih fun j hj => hl j (List.mem_cons_of_mem _ hj))
  exact key _ fun i hi => List.mem_range.mp hi
/-- a list's items, one after the other -/
theorem cr_list {x : Str} {p : Pos} {elt : Expr} (f : D → D) (items : List D) (h : ∀ d ∈ items, EvE G n sc ((x, d) :: σ) elt (f d)) : CR G n sc σ (.Name x p) elt [] items (items.map f) :=
  cr_map f items fun d hd => ⟨_, rfl, h d hd⟩
end
end Mine

namespace Mine

/-- a list or a dict of the block's own, that nothing else reaches -/
noncomputable def OwnAt (P : PA) (h : Heap) (a : Addr) : D → Prop
  | .list ds => ∃ vs, h.PlainList a vs ∧ Rvs P h ds vs.toList
  | .dict l => IsDict2 P h a l
  | _ => False

noncomputable abbrev Ow := Option (Str × D)

structure OwnIs (G : Wd) (sc : Scope) (P : PA) (env : Env) (σ : Sg) (s : Shared) (x : Str) (d : D) (oa : Addr) : Prop where
  nx : σ.lookup x = none
  rd : Reads1 env s.heap x (.ref oa)
  at_ : OwnAt P s.heap oa d
  np : ¬ P oa
  nb : G.h₀.get? oa = none
  nm : oa ∉ muts sc env
  nc : ∀ y c, env.cells.lookup y = some c → c ≠ oa

noncomputable def OwnOk (G : Wd) (sc : Scope) (P : PA) (env : Env) (σ : Sg) (s : Shared) : Ow → Addr → Prop
  | none, oa => oa = env.locals
  | some (x, d), oa => OwnIs G sc P env σ s x d oa

structure SOk (G : Wd) (sc : Scope) (P : PA) (env : Env) (σ : Sg) (ω : Ow) (oa : Addr) (s : Shared) : Prop where
  b : Blk G sc P env σ s
  own : OwnOk G sc P env σ s ω oa
  live : ∀ a, P a → (s.heap.get? a).isSome = true

inductive Out where
  | next (σ : Sg) (ω : Ow)
  | cont (σ : Sg) (ω : Ow)
  | ret (d : D)

noncomputable def OutOk (G : Wd) (sc : Scope) (env : Env) (ω : Ow) (oa : Addr) (Φ : Out → Prop) (s s' : Shared) (P' : PA) : Flow → Prop
  | .next => ∃ σ' ω' oa', Φ (.next σ' ω') ∧ SOk G sc P' env σ' ω' oa' s' ∧ (ω' ≠ none → (oa' = oa ∧ ω ≠ none) ∨ s.heap.get? oa' = none)
  | .cont => ∃ σ' ω' oa', Φ (.cont σ' ω') ∧ SOk G sc P' env σ' ω' oa' s' ∧ (ω' ≠ none → (oa' = oa ∧ ω ≠ none) ∨ s.heap.get? oa' = none)
  | .brk => False
  | .ret v => ∃ d, Φ (.ret d) ∧ Rv P' s'.heap d v

/-- what a statement may do to the world -/
structure Moves (sc : Scope) (P : PA) (env : Env) (ω : Ow) (oa : Addr) (s s' : Shared) (P' : PA) : Prop where
  kb : KpB (oa :: muts sc env) s s'
  up : ∀ a, P a → P' a
  down : ∀ a, P' a → P a ∨ (a = oa ∧ ω ≠ none) ∨ s.heap.get? a = none
  live : ∀ a, P' a → (s'.heap.get? a).isSome = true
  has : ∀ b ∈ oa :: muts sc env, (s'.heap.get? b).isSome = true

noncomputable def SPost (G : Wd) (sc : Scope) (P : PA) (env : Env) (ω : Ow) (oa : Addr) (Φ : Out → Prop) (s : Shared) : Flow → Shared → Prop := fun f s' =>
  ∃ P', Moves sc P env ω oa s s' P' ∧ OutOk G sc env ω oa Φ s s' P' f

noncomputable def DoS (G : Wd) (n : Nat) (sc : Scope) (σ : Sg) (ω : Ow) (ss : List Stmt) (Φ : Out → Prop) : Prop :=
  ∀ A env P oa s, Room n A → SOk G sc P env σ ω oa s → wpAny G.M A (execs ss env) (SPost G sc P env ω oa Φ s) NoE s
noncomputable def Do1 (G : Wd) (n : Nat) (sc : Scope) (σ : Sg) (ω : Ow) (st : Stmt) (Φ : Out → Prop) : Prop :=
  ∀ A env P oa s, Room n A → SOk G sc P env σ ω oa s → wpAny G.M A (exec st env) (SPost G sc P env ω oa Φ s) NoE s

section
variable {G : Wd} {n : Nat} {sc : Scope} {σ σ' : Sg} {ω ω' : Ow} {P P' P2 : PA} {env : Env} {s s' s₁ s₂ : Shared} {oa oa' : Addr} {Φ Ψ : Out → Prop}

theorem Blk.has (b : Blk G sc P env σ s) : ∀ a ∈ muts sc env, (s.heap.get? a).isSome = true := fun a h => by
  rcases muts_is h with q | ⟨x, hx, hc⟩
  · obtain ⟨m, o, _, _, ho, _⟩ := b.fr.ns
    rw [q, ho]; rfl
  · obtain ⟨⟨u, o, ho, _⟩, _⟩ := b.fr.cell x a hx hc
    rw [ho]; rfl

theorem OwnAt.has {h : Heap} {a : Addr} {d : D} (x : OwnAt P h a d) : (h.get? a).isSome = true := by
  cases d with
  | list ds => obtain ⟨vs, ⟨n', ho⟩, _⟩ := x; rw [ho]; rfl
  | dict l => obtain ⟨o, _, _, ho, _⟩ := x; rw [ho]; rfl
  | _ => exact x.elim
theorem OwnAt.tr {h h' : Heap} {a : Addr} {d : D} (x : OwnAt P h a d) (T : Tr P P2 h h') (k : ∀ o, h.get? a = some o → h'.get? a = some o) : OwnAt P2 h' a d := by
  cases d with
  | list ds => obtain ⟨vs, ⟨n', ho⟩, r⟩ := x; exact ⟨vs, ⟨n', k _ ho⟩, r.tr T⟩
  | dict l => exact IsDict2.tr T k x
  | _ => exact x.elim

theorem SOk.has (x : SOk G sc P env σ ω oa s) : ∀ b ∈ oa :: muts sc env, (s.heap.get? b).isSome = true := fun b hb => by
  rcases List.mem_cons.mp hb with rfl | hb
  · cases ω with
    | none => rw [show b = env.locals from x.own]; exact x.b.has _ List.mem_cons_self
    | some p => exact (show OwnIs G sc P env σ s p.1 p.2 b from x.own).at_.has
  · exact x.b.has b hb

theorem SOk.offs (x : SOk G sc P env σ ω oa s) : ∀ b ∈ oa :: muts sc env, ¬ P b := fun b hb => by
  rcases List.mem_cons.mp hb with rfl | hb
  · cases ω with
    | none => rw [show b = env.locals from x.own]; exact x.b.fr.np
    | some p => exact (show OwnIs G sc P env σ s p.1 p.2 b from x.own).np
  · exact x.b.fr.off b hb
theorem SOk.offB (x : SOk G sc P env σ ω oa s) : ∀ b ∈ oa :: muts sc env, G.h₀.get? b = none := fun b hb => by
  rcases List.mem_cons.mp hb with rfl | hb
  · cases ω with
    | none => rw [show b = env.locals from x.own]; exact x.b.fr.nb
    | some p => exact (show OwnIs G sc P env σ s p.1 p.2 b from x.own).nb
  · exact x.b.fr.offB b hb

/-- what an expression's value adds -/
noncomputable def PG (s s₁ : Shared) (P : PA) : PA := fun a => P a ∨ (s.heap.get? a = none ∧ (s₁.heap.get? a).isSome = true)

theorem Rv.grown {d v} (r : Rv (PN s P) s₁.heap d v) (lv : ∀ a, P a → (s.heap.get? a).isSome = true) : Rv (PG s s₁ P) s₁.heap d v := r.live.sub fun a ⟨p, l⟩ => p.elim .inl fun q => .inr ⟨q, l⟩

/-- nothing old is touched; iterators of others may be written -/
theorem SOk.other {wr : List Addr} (x : SOk G sc P env σ ω oa s) (k : KpB wr s s') (h1 : ∀ b ∈ oa :: muts sc env, b ∉ wr) (h2 : ∀ y c, env.cells.lookup y = some c → c ∉ wr) (h3 : ∀ b ∈ wr, ¬ P b) (h4 : ∀ b ∈ wr, G.h₀.get? b = none)
    (up : ∀ a, P a → P2 a) (down : ∀ a, P2 a → P a ∨ s.heap.get? a = none) (lv : ∀ a, P2 a → (s'.heap.get? a).isSome = true) : SOk G sc P2 env σ ω oa s' := by
  have b' := x.b.other k (h1 _ (by simp [muts])) h2 h3 h4 up down
  refine ⟨b', ?_, lv⟩
  cases ω with
  | none => exact x.own
  | some p =>
    have o : OwnIs G sc P env σ s p.1 p.2 oa := x.own
    have hoa : oa ∉ wr := h1 _ List.mem_cons_self
    refine (show OwnIs G sc P2 env σ s' p.1 p.2 oa from ⟨o.nx, ?_, o.at_.tr ⟨fun b q p => k.keep b q (fun m => h3 b m p), up⟩ (fun q => k.keep _ q hoa), fun p => ?_, o.nb, o.nm, o.nc⟩)
    · rcases o.rd with ⟨hk, m, ⟨q, es, ep, hq, r⟩, hv⟩ | ⟨hk, c, hc, q, hq, hd⟩
      · exact .inl ⟨hk, m, ⟨q, es, ep, k.keep _ q (h1 _ (by simp [muts])) hq, r⟩, hv⟩
      · exact .inr ⟨hk, c, hc, q, k.keep _ q (h2 _ _ hc) hq, hd⟩
    · rcases down _ p with q | q
      · exact o.np q
      · exact not_live q o.at_.has

theorem SOk.grow (x : SOk G sc P env σ ω oa s) (k : Kp s s₁) : SOk G sc (PG s s₁ P) env σ ω oa s₁ :=
  x.other (wr := []) (k.toB []) (by simp) (by simp) (by simp) (by simp) (fun a p => .inl p) (fun a p => p.elim .inl fun q => .inr q.1) fun a p => p.elim (fun p => live_keep k (x.live a p)) fun q => q.2
theorem SOk.keep (x : SOk G sc P env σ ω oa s) (k : Kp s s₁) : SOk G sc P env σ ω oa s₁ :=
  x.other (wr := []) (k.toB []) (by simp) (by simp) (by simp) (by simp) (fun a p => p) (fun a p => .inl p) fun a p => live_keep k (x.live a p)
theorem SOk.weaken (x : SOk G sc P env σ ω oa s) (h : ∀ y d, σ'.lookup y = some d → σ.lookup y = some d) : SOk G sc P env σ' ω oa s :=
  ⟨x.b.weaken h, match ω, x.own with
    | none, o => o
    | some p, o => by
      have o' : OwnIs G sc P env σ s p.1 p.2 oa := o
      have nx : σ'.lookup p.1 = none := by
        cases e : σ'.lookup p.1 with
        | none => rfl
        | some d => have := h _ _ e; rw [o'.nx] at this; cases this
      exact (show OwnIs G sc P env σ' s p.1 p.2 oa from ⟨nx, o'.rd, o'.at_, o'.np, o'.nb, o'.nm, o'.nc⟩), x.live⟩

theorem Moves.of_kp (x : SOk G sc P env σ ω oa s) (k : Kp s s₁) : Moves sc P env ω oa s s₁ (PG s s₁ P) :=
  ⟨k.toB _, fun a p => .inl p, fun a p => p.elim .inl fun q => .inr (.inr q.1), fun a p => p.elim (fun p => live_keep k (x.live a p)) fun q => q.2, fun b hb => live_keep k (x.has b hb)⟩

/-- one move after the other -/
theorem Moves.then (x : SOk G sc P env σ ω oa s) (m : Moves sc P env ω oa s s₁ P') (x₁ : SOk G sc P' env σ' ω' oa' s₁) (ho : ω' ≠ none → (oa' = oa ∧ ω ≠ none) ∨ s.heap.get? oa' = none) (m₂ : Moves sc P' env ω' oa' s₁ s₂ P2) : Moves sc P env ω oa s s₂ P2 := by
  have hoa' : ∀ b ∈ oa' :: muts sc env, b ∈ oa :: muts sc env ∨ s.heap.get? b = none := fun b hb => by
    rcases List.mem_cons.mp hb with rfl | hb
    · cases ω' with
      | none => rw [show b = env.locals from x₁.own]; exact .inl (by simp [muts])
      | some p => rcases ho (by simp) with ⟨q, _⟩ | q
                  · exact .inl (by rw [q]; simp)
                  · exact .inr q
    · exact .inl (List.mem_cons_of_mem _ hb)
  refine ⟨m.kb.then m₂.kb hoa', fun a p => m₂.up a (m.up a p), fun a p => ?_, m₂.live, fun b hb => ?_⟩
  · rcases m₂.down a p with q | ⟨q, h⟩ | q
    · exact m.down a q
    · rcases ho h with ⟨h1, h2⟩ | h1
      · exact .inr (.inl ⟨q.trans h1, h2⟩)
      · exact .inr (.inr (q ▸ h1))
    · by_cases hm : a ∈ oa :: muts sc env
      · exact absurd (m.has a hm) (not_live q)
      · exact .inr (.inr (m.kb.no hm q))
  · by_cases hm : b ∈ oa' :: muts sc env
    · exact m₂.has b hm
    · obtain ⟨o, ho'⟩ := Option.isSome_iff_exists.mp (m.has b hb)
      rw [m₂.kb.keep b o hm ho']; rfl

theorem SPost.mono {f} (h : ∀ o, Φ o → Ψ o) : SPost G sc P env ω oa Φ s f s' → SPost G sc P env ω oa Ψ s f s'
  | ⟨P', m, o⟩ => ⟨P', m, match f, o with
    | .next, ⟨a, b, c, d, e⟩ => ⟨a, b, c, h _ d, e⟩
    | .cont, ⟨a, b, c, d, e⟩ => ⟨a, b, c, h _ d, e⟩
    | .brk, o => o
    | .ret v, ⟨d, a, b⟩ => ⟨d, h _ a, b⟩⟩

theorem do_nil (h : Φ (.next σ ω)) : DoS G n sc σ ω [] Φ := fun A env P oa s R x =>
  wpAny_execs_nil ⟨P, ⟨KpB.refl _ _, fun _ p => p, fun _ p => .inl p, x.live, x.has⟩, σ, ω, oa, h, x, fun h => .inl ⟨rfl, h⟩⟩

theorem do_cons {st rest} (h1 : Do1 G n sc σ ω st Ψ) (h2 : ∀ σ' ω', Ψ (.next σ' ω') → DoS G n sc σ' ω' rest Φ) (h3 : ∀ σ' ω', Ψ (.cont σ' ω') → Φ (.cont σ' ω')) (h4 : ∀ d, Ψ (.ret d) → Φ (.ret d)) : DoS G n sc σ ω (st :: rest) Φ := fun A env P oa s R x => by
  refine wpAny_execs_cons (wpAny_mono (h1 A env P oa s R x) (fun f s₁ h => ?_) fun _ _ e => e)
  obtain ⟨P', m, o⟩ := h
  cases f with
  | next =>
    obtain ⟨σ', ω', oa', hΨ, x₁, ho⟩ := o
    refine wpAny_mono (h2 σ' ω' hΨ A env P' oa' s₁ R x₁) (fun f s₂ h => ?_) fun _ _ e => e
    obtain ⟨P2, m₂, o₂⟩ := h
    have mm := Moves.then x m x₁ ho m₂
    have chain : ∀ {ω'' : Ow} {oa'' : Addr}, (ω'' ≠ none → (oa'' = oa' ∧ ω' ≠ none) ∨ s₁.heap.get? oa'' = none) → True → (ω'' ≠ none → (oa'' = oa ∧ ω ≠ none) ∨ s.heap.get? oa'' = none) := fun {ω'' oa''} h _ hn => by
      rcases h hn with ⟨q1, q2⟩ | q
      · rcases ho q2 with ⟨q3, q4⟩ | q3
        · exact .inl ⟨q1.trans q3, q4⟩
        · exact .inr (q1 ▸ q3)
      · by_cases hm : oa'' ∈ oa :: muts sc env
        · exact absurd (m.has _ hm) (not_live q)
        · exact .inr (m.kb.no hm q)
    cases f with
    | next => obtain ⟨a, b, c, d, e, g⟩ := o₂; exact ⟨P2, mm, a, b, c, d, e, chain g trivial⟩
    | cont => obtain ⟨a, b, c, d, e, g⟩ := o₂; exact ⟨P2, mm, a, b, c, d, e, chain g trivial⟩
    | brk => exact o₂.elim
    | ret v => exact ⟨P2, mm, o₂⟩
  | cont => obtain ⟨a, b, c, d, e⟩ := o; exact ⟨P', m, a, b, c, h3 _ _ d, e⟩
  | brk => exact o.elim
  | ret v => obtain ⟨d, a, b⟩ := o; exact ⟨P', m, d, h4 _ a, b⟩

/-- a statement with one way on -/
theorem do_seq {st rest σ₁ ω₁} (h1 : Do1 G n sc σ ω st (· = .next σ₁ ω₁)) (h2 : DoS G n sc σ₁ ω₁ rest Φ) : DoS G n sc σ ω (st :: rest) Φ :=
  do_cons h1 (fun σ' ω' h => by cases h; exact h2) (fun _ _ h => nomatch h) fun _ h => nomatch h

theorem do1_of {st} (h : DoS G n sc σ ω [st] Φ) : DoS G n sc σ ω [st] Φ := h

theorem Do1.mono {st} (h : Do1 G n sc σ ω st Φ) (hm : ∀ o, Φ o → Ψ o) : Do1 G n sc σ ω st Ψ := fun A env P oa s R x => wpAny_mono (h A env P oa s R x) (fun f s' h => h.mono hm) fun _ _ e => e
theorem DoS.mono {st} (h : DoS G n sc σ ω st Φ) (hm : ∀ o, Φ o → Ψ o) : DoS G n sc σ ω st Ψ := fun A env P oa s R x => wpAny_mono (h A env P oa s R x) (fun f s' h => h.mono hm) fun _ _ e => e

/-! returns -/
theorem do_ret {e pos d} (h : EvE G n sc σ e d) (hΦ : Φ (.ret d)) : Do1 G n sc σ ω (.Return (some e) pos) Φ := fun A env P oa s R x => by
  refine wpAny_Return_some (wpAny_mono (h A env P s R x.b.e) (fun v s₁ q => ?_) fun _ _ e => e)
  exact ⟨PG s s₁ P, Moves.of_kp x q.1, d, hΦ, q.2.grown x.live⟩

/-- what the block's own list adds to what is read -/
theorem own_env {x : Str} {d : D} (h : SOk G sc P env σ (some (x, d)) oa s) : EnvOk G sc ((x, d) :: σ) (fun a => P a ∨ a = oa) env s := by
  have o : OwnIs G sc P env σ s x d oa := h.own
  have e := h.b.e
  refine ⟨e.sc, e.gok, fun a b q => .inl (e.old a b q), e.cin, fun y d' hy => ?_⟩
  rw [lookup_cons] at hy
  by_cases hyx : y = x
  · subst hyx
    rw [if_pos rfl] at hy
    have hdd : d = d' := Option.some.inj hy
    subst hdd
    refine ⟨_, o.rd, ?_⟩
    have hat := o.at_
    cases d with
    | list ds => obtain ⟨vs, hp, r⟩ := hat; exact ⟨oa, vs, rfl, .inr rfl, hp, r.sub fun a p => .inl p⟩
    | dict l => exact ⟨oa, rfl, .inr rfl, IsDict2.tr ⟨fun b o _ q => q, fun a p => .inl p⟩ (fun o q => q) hat⟩
    | _ => exact hat.elim
  · rw [if_neg hyx] at hy
    obtain ⟨v, r, a⟩ := e.var y d' hy
    exact ⟨v, r, a.sub fun a p => .inl p⟩

/-- the block's own list handed back -/
theorem do_retO {x : Str} {d : D} {e pos d'} (h : EvE G n sc ((x, d) :: σ) e d') (hΦ : Φ (.ret d')) : Do1 G n sc σ (some (x, d)) (.Return (some e) pos) Φ := fun A env P oa s R y => by
  refine wpAny_Return_some (wpAny_mono (h A env _ s R (own_env y)) (fun v s₁ q => ?_) fun _ _ e => e)
  have k := q.1
  refine ⟨fun a => (PG s s₁ P a ∨ a = oa), ⟨k.toB _, fun a p => .inl (.inl p), fun a p => ?_, fun a p => ?_, fun b hb => live_keep k (y.has b hb)⟩, d', hΦ, q.2.live.sub fun a ⟨p, l⟩ => ?_⟩
  · rcases p with (p | p) | p
    · exact .inl p
    · exact .inr (.inr p.1)
    · exact .inr (.inl ⟨p, by simp⟩)
  · rcases p with (p | p) | p
    · exact live_keep k (y.live a p)
    · exact p.2
    · rw [p]; exact live_keep k (y.has oa List.mem_cons_self)
  · rcases p with (p | p) | p
    · exact .inl (.inl p)
    · exact .inr p
    · exact .inl (.inr ⟨p, l⟩)
end
end Mine

namespace Mine

section
variable {G : Wd} {n : Nat} {sc : Scope} {σ σ' : Sg} {ω ω' : Ow} {P P' P2 : PA} {env : Env} {s s' s₁ s₂ : Shared} {oa oa' : Addr} {Φ Ψ : Out → Prop}

noncomputable def notOwn (ω : Ow) (x : Str) : Bool := match ω with
  | none => true
  | some p => !(p.1 == x)

/-- a name stored, not the own list's -/
theorem SOk.store {A : Around} {x : Str} {v : Value} {d : D} {Q : Unit → Shared → Prop} {E} (y : SOk G sc P env σ ω oa s) (hx : isLC sc x = true) (hn : notOwn ω x = true) (r : Rv P s.heap d v)
    (h : ∀ s', SOk G sc P env ((x, d) :: σ) ω oa s' → KpB (muts sc env) s s' → Q () s') : wpAny G.M A (storeName env x v) Q E s := by
  refine store_any cons_other y.b.e y.b.fr (by simpa [isLC] using hx) (cons_here r) fun s' e' f' k ot hr => h s' ?_ k
  have T : Tr P P s.heap s'.heap := trB k y.b.fr.off
  refine ⟨⟨e', f'⟩, ?_, fun a p => ?_⟩
  · cases ω with
    | none => exact y.own
    | some p =>
      have o : OwnIs G sc P env σ s p.1 p.2 oa := y.own
      have hne : p.1 ≠ x := by simpa [notOwn] using hn
      exact (show OwnIs G sc P env ((x, d) :: σ) s' p.1 p.2 oa from ⟨by rw [lookup_cons, if_neg hne]; exact o.nx, ot _ _ hne o.rd, o.at_.tr T fun q => k.keep _ q o.nm, o.np, o.nb, o.nm, o.nc⟩)
  · obtain ⟨o, ho⟩ := Option.isSome_iff_exists.mp (y.live a p)
    rw [T.keep a o p ho]; rfl

theorem Moves.of_muts (x : SOk G sc P env σ ω oa s) (k : KpB (muts sc env) s s₁) (x₁ : SOk G sc P env σ' ω oa s₁) : Moves sc P env ω oa s s₁ P :=
  ⟨k.sub fun b hb => List.mem_cons_of_mem _ hb, fun a p => p, fun a p => .inl p, x₁.live, x₁.has⟩

theorem own_stays (h : SOk G sc P env σ ω oa s) : ω ≠ none → (oa = oa ∧ ω ≠ none) ∨ s.heap.get? oa = none := fun h => .inl ⟨rfl, h⟩

/-- a value reckoned, then stored -/
theorem store_done {A : Around} {x : Str} {v : Value} {d : D} (y : SOk G sc P env σ ω oa s) (q : Ans s P d v s₁) (hx : isLC sc x = true) (hn : notOwn ω x = true) :
    wpAny G.M A (storeName env x v) (fun _ => SPost G sc P env ω oa (· = .next ((x, d) :: σ) ω) s .next) NoE s₁ := by
  have y₁ := y.grow q.1
  refine y₁.store hx hn (q.2.grown y.live) fun s₂ y₂ k => ?_
  exact ⟨_, (Moves.of_kp y q.1).then y y₁ (own_stays y) (Moves.of_muts y₁ k y₂), _, _, oa, rfl, y₂, own_stays y⟩

theorem do_assign {x px e pos d} (h : EvE G n sc σ e d) (hx : isLC sc x = true) (hn : notOwn ω x = true) (hs : ∀ env, swapsWith e (some (.Name x px)) pos.line env = pure false := by intro _; rfl) :
    Do1 G n sc σ ω (.Assign [.Name x px] e pos) (· = .next ((x, d) :: σ) ω) := fun A env P oa s R y =>
  wpAny_Assign_Name (wpAny_mono (h A env P s R y.b.e) (fun v s₁ q => store_done y q hx hn) fun _ _ e => e) (hs env)

/-- the own list read for a flat value -/
theorem flat_off {x : Str} {d d' : D} {v : Value} (y : SOk G sc P env σ (some (x, d)) oa s) (q : Ans s (fun a => P a ∨ a = oa) d' v s₁) (hf : d'.flat = true) : Ans s P d' v s₁ := by
  refine ⟨q.1, ?_⟩
  have o : OwnIs G sc P env σ s x d oa := y.own
  have hX : ∀ a vs, a = oa → ¬ s₁.heap.IsTuple a vs := fun a vs ha ht => by
    subst ha
    obtain ⟨ob, hob, hc, n', hd⟩ := ht
    have hat := o.at_
    cases d with
    | list ds =>
      obtain ⟨ws, ⟨m, ho⟩, _⟩ := hat
      have := q.1.keep _ _ ho
      rw [hob] at this
      have e1 := Option.some.inj this
      rw [e1] at hc
      have hc2 : Value.type "list" = Value.type "tuple" := hc
      injection hc2 with e2
      exact absurd e2 (by decide)
    | dict l =>
      obtain ⟨o2, _, _, ho, _, hd2, _⟩ := hat
      have := q.1.keep _ _ ho
      rw [hob] at this
      cases this
      rw [hd] at hd2; cases hd2
    | _ => exact hat.elim
  exact (q.2.away hX hf).sub fun a ⟨p, na⟩ => p.elim (fun p => p.elim .inl fun h => absurd h na) .inr

theorem do_assignF {x px e pos d w dw} (h : EvE G n sc ((w, dw) :: σ) e d) (hf : d.flat = true) (hx : isLC sc x = true) (hn : notOwn (some (w, dw)) x = true) (hs : ∀ env, swapsWith e (some (.Name x px)) pos.line env = pure false := by intro _; rfl) :
    Do1 G n sc σ (some (w, dw)) (.Assign [.Name x px] e pos) (· = .next ((x, d) :: σ) (some (w, dw))) := fun A env P oa s R y =>
  wpAny_Assign_Name (wpAny_mono (h A env _ s R (own_env y)) (fun v s₁ q => store_done y (flat_off y q hf) hx hn) fun _ _ e => e) (hs env)

/-! a comprehension's list stored -/
theorem do_assignC {x px e pos d iter tgt elt ifs posc items ys sc'} (σc : Sg) (he : e = .ListComp elt [⟨tgt, iter, ifs, 0⟩] sc' posc) (hd : d = .list ys) (hit : EvIt G n sc σ iter tgt items) (hcr : CR G n sc' σc tgt elt ifs items ys) (S : scIn sc sc' = true) (hs : Seen sc' σ σc)
    (htn : namesT (isLC sc') tgt = true) (hz : items.length ≤ 16777216) (hx : sc.names.lookup x = some .local) (hn : notOwn ω x = true) (hsw : ∀ env, env.scope.kind = .function → env.kindOf x = some .local → swapsWith e (some (.Name x px)) pos.line env = pure true)
    (hf : ∀ env x, foldedSetIterable iter env x = pure x := by intro _ _; rfl) : Do1 G n sc σ ω (.Assign [.Name x px] e pos) (· = .next ((x, d) :: σ) ω) := fun A env P oa s R y => by
  rw [exec_Assign_Name_used _ _ _ _ (hsw env y.b.e.sc.kind (y.b.e.sc.loc x hx))]
  subst he hd
  refine wpAny_bind (wpAny_standAt (wpAny_bind ?_))
  show wpAny _ A (do let _ ← comprehension (.ListComp elt [⟨tgt, iter, ifs, 0⟩] sc' posc) sc' env _ (newList []) false (eval iter env) (some (assign (.Name x px) env))) _ _ s
  refine wpAny_bind (wpAny_mono (comp_core (Q := fun _ s' => SPost G sc P env ω oa (· = .next ((x, .list ys) :: σ) ω) s .next s') (scIn_ok S) hs htn hit hcr hz R y.b.e y.live (hf env) fun D' C s' ce => ?_) (fun _ s' q => wpAny_pure (wpAny_pure q)) fun _ _ e => e)
  show wpAny _ A (assign (.Name x px) env (.ref D')) _ _ s'
  obtain ⟨P', up, down, nC, nD, vs, ⟨n', hl⟩, hr⟩ := ce.body
  have y₁ := y.grow ce.kp
  have hrv : Rv (PG s s' P) s'.heap (.list ys) (.ref D') := ⟨D', vs, rfl, .inr ⟨ce.nd, by rw [hl]; rfl⟩, ⟨n', hl⟩, hr.live.sub fun a ⟨p, l⟩ => (down a p).elim .inl fun q => .inr ⟨q, l⟩⟩
  -- the comprehension's names are let go; nothing of ours is at C
  have nCP : ¬ (fun a => PG s s' P a ∧ a ≠ C) C := fun p => p.2 rfl
  have hCM : C ∉ oa :: muts sc env := fun hm => not_live ce.nc (y.has C hm)
  have hrv2 : Rv (fun a => PG s s' P a ∧ a ≠ C) s'.heap (.list ys) (.ref D') := ⟨D', vs, rfl, ⟨.inr ⟨ce.nd, by rw [hl]; rfl⟩, ce.dc⟩, ⟨n', hl⟩, hr.live.sub fun a ⟨p, l⟩ => ⟨(down a p).elim .inl fun q => .inr ⟨q, l⟩, fun q => nC (q ▸ p)⟩⟩
  have y₂ : SOk G sc (fun a => PG s s' P a ∧ a ≠ C) env σ ω oa s' := y.other (wr := []) (ce.kp.toB []) (by simp) (by simp) (by simp) (by simp) (fun a p => ⟨.inl p, fun q => not_live (q ▸ ce.nc) (y.live a p)⟩) (fun a p => p.1.elim .inl fun q => .inr q.1) fun a p => y₁.live a p.1
  refine wpAny_assign_Name (y₂.store (by simp [isLC, hx]) hn hrv2 fun s₂ y₃ k => ?_)
  have hns : ∃ m, s₂.heap.Ns C m := by
    obtain ⟨m, o, es, ep, ho, r⟩ := ce.ns
    exact ⟨m, o, es, ep, k.keep C o (fun hm => hCM (List.mem_cons_of_mem _ hm)) ho, r⟩
  refine ⟨_, hns.choose_spec, fun h' hsb => ?_⟩
  have k2 : KpB [C] s₂ { s₂ with heap := h' } := .of (n := s₂.toks) fun b o nb eo => hsb.extBut b o (by simpa using nb) eo
  have hCn : G.h₀.get? C = none := by
    cases e0 : G.h₀.get? C with
    | none => rfl
    | some o => have := y.b.e.gok.ext _ _ e0; rw [ce.nc] at this; cases this
  have y₄ : SOk G sc (fun a => PG s s' P a ∧ a ≠ C) env ((x, .list ys) :: σ) ω oa { s₂ with heap := h' } := y₃.other k2 (fun b hb hm => hCM (List.mem_singleton.mp hm ▸ hb)) (fun z c hc hm => by
      rw [List.mem_singleton.mp hm] at hc
      exact not_live ce.nc (y.b.e.cin z C hc)) (by simp) (by simpa using hCn) (fun a p => p) (fun a p => .inl p) fun a p => by
        obtain ⟨o, ho⟩ := Option.isSome_iff_exists.mp (y₃.live a p)
        rw [k2.keep a o (by simpa using p.2) ho]; rfl
  have kk : KpB (oa :: muts sc env) s { s₂ with heap := h' } := ((ce.kp.toB (oa :: muts sc env)).trans (k.sub fun b hb => List.mem_cons_of_mem _ hb)).then k2 fun b hb => .inr (List.mem_singleton.mp hb ▸ ce.nc)
  exact ⟨fun a => PG s s' P a ∧ a ≠ C, ⟨kk, fun a p => ⟨.inl p, fun q => not_live (q ▸ ce.nc) (y.live a p)⟩, fun a p => p.1.elim .inl fun q => .inr (.inr q.1), y₄.live, y₄.has⟩, _, _, oa, rfl, y₄, own_stays y⟩
end
end Mine

namespace Mine

noncomputable def stard : Expr → Bool
  | .Starred .. => true
  | _ => false

theorem swapped2 {x y : Str} {p1 p2 p p' : Pos} {v1 v2 : Expr} {k k' : Nat} {env : Env} (hk : env.scope.kind = .function) (hx : env.kindOf x = some .local) (hy : env.kindOf y = some .local) (hxy : (x == y) = false) (hl : (p1.line == p2.line) = true)
    (hs1 : stard v1 = false) (hs2 : stard v2 = false) (hf : [v1, v2].all (foldedForSure 8) = false) (hc : [v1, v2].all (constantsAlone 8) = false) :
    swappedStores [.Tuple [.Name x p1, .Name y p2] k p] (.Tuple [v1, v2] k' p') env = pure (some [x, y]) := by
  have hb : env.blockKind = .function := by simp [Env.blockKind, hk, ScopeKind.isAnnotationScope]
  have hl1 : p1.line = p2.line := by simpa using hl
  have hxy' : ¬ x = y := by simpa using hxy
  have hyx : (y == x) = false := by simpa using Ne.symm hxy'
  unfold swappedStores
  simp only [List.length_cons, List.length_nil, hb, hf, hc, Bool.false_eq_true, if_false]
  simp [hx, hy, hl1, List.eraseDups, List.eraseDupsBy, List.eraseDupsBy.loop, Expr.pos]
  rw [if_neg]
  · simp [hyx]
  · rintro (h | h)
    · cases v1 <;> first | (simp [stard] at hs1; done) | (simp at h; done)
    · cases v2 <;> first | (simp [stard] at hs2; done) | (simp at h; done)

section
variable {G : Wd} {n : Nat} {sc : Scope} {σ σ' : Sg} {ω ω' : Ow} {P P' P2 : PA} {env : Env} {s s' s₁ s₂ : Shared} {oa oa' : Addr} {Φ Ψ : Out → Prop}

noncomputable def okS (sc : Scope) (ω : Ow) (x : Str) : Bool := isLC sc x && notOwn ω x

theorem storesO (off : ∀ b ∈ muts sc env, ¬ P b) : Stores G env P (okS sc ω) (muts sc env) (fun σ s => SOk G sc P env σ ω oa s) where
  keep := fun σ s t x k => x.keep k
  away := off
  store := fun A x d σ s v Q ho y r h => by
    simp only [okS, Bool.and_eq_true] at ho
    exact y.store ho.1 ho.2 r h

theorem do_assignT {tgt e pos d σ₁} (h : EvE G n sc σ e d) (hb : bindTo tgt d σ = some σ₁) (hn : namesT (okS sc ω) tgt = true) (hw : ∀ env, ScOk sc env → swappedStores [tgt] e env = pure none)
    (he : ∀ env, (assignEach [tgt] env).map (·.2) = [assign tgt env] := by intro _; rfl) (hs : ∀ env, swapsWithSole [tgt] e pos.line env = pure false := by intro _; rfl) :
    Do1 G n sc σ ω (.Assign [tgt] e pos) (· = .next σ₁ ω) := fun A env P oa s R y => by
  refine wpAny_Assign_stores (wpAny_mono (h A env P s R y.b.e) (fun v s₁ q => ?_) fun _ _ e => e) (hs env) (hw env y.b.e.sc)
  rw [he]
  have y₁ := y.grow q.1
  refine assignT (storesO y₁.b.fr.off) R.handled hn hb y₁ (q.2.grown y.live) fun s₂ y₂ k => ?_
  exact ⟨_, (Moves.of_kp y q.1).then y y₁ (own_stays y) (Moves.of_muts y₁ k y₂), _, _, oa, rfl, y₂, own_stays y⟩

theorem do_swap {x y : Str} {p1 p2 p p' pos : Pos} {v1 v2 : Expr} {k k' : Nat} {d1 d2 : D} (h : EvE G n sc σ (.Tuple [v1, v2] k' p') (.tup [d1, d2])) (hx : sc.names.lookup x = some .local) (hy : sc.names.lookup y = some .local) (hnx : notOwn ω x = true) (hny : notOwn ω y = true) (hxy : (x == y) = false) (hl : (p1.line == p2.line) = true)
    (hs1 : stard v1 = false) (hs2 : stard v2 = false) (hf : [v1, v2].all (foldedForSure 8) = false) (hc : [v1, v2].all (constantsAlone 8) = false) :
    Do1 G n sc σ ω (.Assign [.Tuple [.Name x p1, .Name y p2] k p] (.Tuple [v1, v2] k' p') pos) (· = .next ((x, d1) :: (y, d2) :: σ) ω) := fun A env P oa s R z => by
  rw [exec_Assign]
  refine wpAny_bind (wpAny_standAt (wpAny_bind (m := swapsWithSole _ _ _ _) (wpAny_pure ?_)))
  rw [if_neg (by decide)]
  refine wpAny_bind (wpAny_mono (h A env P s R z.b.e) (fun v s₁ q => ?_) fun _ _ e => e)
  rw [swapped2 z.b.e.sc.kind (z.b.e.sc.loc x hx) (z.b.e.sc.loc y hy) hxy hl hs1 hs2 hf hc]
  refine wpAny_bind (wpAny_pure ?_)
  have z₁ := z.grow q.1
  obtain ⟨a, vs, rfl, pa, ht, r⟩ := q.2.grown z.live
  have hlen := r.length
  rw [Array.length_toList] at hlen
  show wpAny _ A (rule "assign.swapped-stores" >>= fun _ => unpackItems (.ref a) 2 none >>= fun items => assignInOrder [fun v => bindName env y v, fun v => bindName env x v] items.reverse >>= fun _ => pure Flow.next) _ _ s₁
  refine wpAny_bind (wpAny_rule (wpAny_bind ?_))
  have h2 : vs.size = 2 := by simpa using hlen
  rw [← h2]
  refine wpAny_unpackItems_tuple R.handled ht fun h' hx' => ?_
  have k := Kp.of_ext hx'
  have z₂ := z₁.keep k
  obtain ⟨v1', r1, e1, rv1, v2', r2, e2, rv2, e3⟩ := r
  rw [show r2 = [] from e3] at e2
  rw [e2] at e1
  rw [e1]
  refine wpAny_bind ?_
  show wpAny _ A (assignInOrder [fun v => bindName env y v, fun v => bindName env x v] [v2', v1']) _ _ _
  have o1 := rv1.tr (k.trP _)
  have o2 := rv2.tr (k.trP _)
  refine wpAny_assignInOrder_more (wpAny_bindName (z₂.store (by simp [isLC, hy]) hny o2 fun s₃ z₃ k3 => ?_))
  refine wpAny_assignInOrder_more (wpAny_bindName (z₃.store (by simp [isLC, hx]) hnx (o1.tr (trB k3 z₂.b.fr.off)) fun s₄ z₄ k4 => ?_))
  refine wpAny_assignInOrder_none (wpAny_pure ?_)
  have m1 := (Moves.of_kp z q.1).then z z₁ (own_stays z) (Moves.of_muts z₁ ((k.toB _).trans (k3.trans k4)) z₄)
  exact ⟨_, m1, _, _, oa, rfl, z₄, own_stays z⟩

/-- `x += e`, ints -/
theorem do_augI {x px e pos a b} (hx : σ.lookup x = some (.int a)) (h : EvE G n sc σ e (.int b)) (hl : isLC sc x = true) (hn : notOwn ω x = true) (hc : (x == ("__classdict__" : Str)) = false := by decide +kernel) :
    Do1 G n sc σ ω (.AugAssign (.Name x px) .Add e pos) (· = .next ((x, .int (a + b)) :: σ) ω) := fun A env P oa s R y => by
  obtain ⟨v, r, rv⟩ := y.b.e.var x _ hx
  obtain ⟨t, rfl⟩ := rv
  refine wpAny_AugAssign_Name (read_name y.b.e.sc.kind r hc (wpAny_mono (h A env P s R y.b.e) (fun v s₁ q => ?_) fun _ _ e => e))
  obtain ⟨u, rfl⟩ := q.2
  refine wpAny_iadd_int ?_
  exact store_done y (d := .int (a + b)) ⟨q.1.trans (Kp.tok s₁ _), _, rfl⟩ hl hn

/-! if -/
theorem do_if {t body orelse pos b} (h : EvT G n sc σ t b) (h1 : b = true → DoS G n sc σ ω body Φ) (h2 : b = false → DoS G n sc σ ω orelse Φ) : Do1 G n sc σ ω (.If t body orelse pos) Φ := fun A env P oa s R y => by
  refine wpAny_If (wpAny_mono (h A env P s R y.b.e) (fun c s₁ q => ?_) fun _ _ e => e)
  obtain ⟨rfl, k⟩ := q
  have y₁ := y.keep k
  have go : ∀ {ss}, DoS G n sc σ ω ss Φ → wpAny G.M A (execs ss env) (SPost G sc P env ω oa Φ s) NoE s₁ := fun hd =>
    wpAny_mono (hd A env P oa s₁ R y₁) (fun f s₂ h => by
      obtain ⟨P', m, o⟩ := h
      have m0 : Moves sc P env ω oa s s₁ P := ⟨k.toB _, fun a p => p, fun a p => .inl p, y₁.live, y₁.has⟩
      refine ⟨P', m0.then y y₁ (own_stays y) m, ?_⟩
      have ch : ∀ {ω'' : Ow} {oa'' : Addr}, (ω'' ≠ none → (oa'' = oa ∧ ω ≠ none) ∨ s₁.heap.get? oa'' = none) → (ω'' ≠ none → (oa'' = oa ∧ ω ≠ none) ∨ s.heap.get? oa'' = none) := fun h hn => (h hn).imp id fun q => k.none q
      cases f with
      | next => obtain ⟨a, b, c, d, e, g⟩ := o; exact ⟨a, b, c, d, e, ch g⟩
      | cont => obtain ⟨a, b, c, d, e, g⟩ := o; exact ⟨a, b, c, d, e, ch g⟩
      | brk => exact o
      | ret v => exact o) fun _ _ e => e
  cases c with
  | true => exact go (h1 rfl)
  | false => exact go (h2 rfl)

/-- the test reads the own list too -/
theorem do_ifO {t body orelse pos b w dw} (h : EvT G n sc ((w, dw) :: σ) t b) (h1 : b = true → DoS G n sc σ (some (w, dw)) body Φ) (h2 : b = false → DoS G n sc σ (some (w, dw)) orelse Φ) : Do1 G n sc σ (some (w, dw)) (.If t body orelse pos) Φ := fun A env P oa s R y => by
  refine wpAny_If (wpAny_mono (h A env _ s R (own_env y)) (fun c s₁ q => ?_) fun _ _ e => e)
  obtain ⟨rfl, k⟩ := q
  have y₁ := y.keep k
  have go : ∀ {ss}, DoS G n sc σ (some (w, dw)) ss Φ → wpAny G.M A (execs ss env) (SPost G sc P env (some (w, dw)) oa Φ s) NoE s₁ := fun hd =>
    wpAny_mono (hd A env P oa s₁ R y₁) (fun f s₂ h => by
      obtain ⟨P', m, o⟩ := h
      have m0 : Moves sc P env (some (w, dw)) oa s s₁ P := ⟨k.toB _, fun a p => p, fun a p => .inl p, y₁.live, y₁.has⟩
      refine ⟨P', m0.then y y₁ (own_stays y) m, ?_⟩
      have ch : ∀ {ω'' : Ow} {oa'' : Addr}, (ω'' ≠ none → (oa'' = oa ∧ some (w, dw) ≠ none) ∨ s₁.heap.get? oa'' = none) → (ω'' ≠ none → (oa'' = oa ∧ some (w, dw) ≠ none) ∨ s.heap.get? oa'' = none) := fun h hn => (h hn).imp id fun q => k.none q
      cases f with
      | next => obtain ⟨a, b, c, d, e, g⟩ := o; exact ⟨a, b, c, d, e, ch g⟩
      | cont => obtain ⟨a, b, c, d, e, g⟩ := o; exact ⟨a, b, c, d, e, ch g⟩
      | brk => exact o
      | ret v => exact o) fun _ _ e => e
  cases c with
  | true => exact go (h1 rfl)
  | false => exact go (h2 rfl)

theorem do_cont {pos} (h : Φ (.cont σ ω)) : Do1 G n sc σ ω (.Continue pos) Φ := fun A env P oa s R y =>
  wpAny_Continue ⟨P, ⟨KpB.refl _ _, fun _ p => p, fun _ p => .inl p, y.live, y.has⟩, σ, ω, oa, h, y, own_stays y⟩
end
end Mine

namespace Mine

section
variable {G : Wd} {n : Nat} {sc : Scope} {σ σ' : Sg} {ω ω' : Ow} {P P' P2 : PA} {env : Env} {s s' s₁ s₂ : Shared} {oa oa' : Addr} {Φ Ψ : Out → Prop}

/-- a turn's ends -/
noncomputable def Turn (I : Sg → Ow → Prop) (Φ : Out → Prop) : Out → Prop
  | .next σ ω => I σ ω
  | .cont σ ω => I σ ω
  | .ret d => Φ (.ret d)

theorem do_for {tgt iter : Expr} {body : List Stmt} {pos : Pos} {items : List D} (I : List D → Sg → Ow → Prop) (hit : EvIt G n sc σ iter tgt items) (h0 : I items σ ω)
    (hstep : ∀ d rest σi ωi, I (d :: rest) σi ωi → ∃ σb, bindTo tgt d σi = some σb ∧ namesT (okS sc ωi) tgt = true ∧ DoS G n sc σb ωi body (Turn (I rest) Φ))
    (hend : ∀ σi ωi, I [] σi ωi → Φ (.next σi ωi)) (hf : ∀ env x, foldedSetIterable iter env x = pure x := by intro _ _; rfl) : Do1 G n sc σ ω (.For tgt iter body [] pos) Φ := fun A env P oa s R y => by
  refine wpAny_For (wpAny_mono (hit A env P s R y.b.e y.live) (fun x s₁ h₁ => ?_) fun _ _ e => e) (hf env)
  refine wpAny_mono h₁ (fun it s₂ h₂ => ?_) fun _ _ e => e
  obtain ⟨I', wr, St, P₁, rfl, ip⟩ := h₂
  have offM : ∀ b ∈ wr, b ∉ oa :: muts sc env := fun b hb hm => not_live (ip.new b hb) (y.has b hm)
  have offC : ∀ x c, env.cells.lookup x = some c → c ∉ wr := fun x c hc hm => not_live (ip.new c hm) (y.b.e.cin x c hc)
  have hbW : ∀ b ∈ wr, G.h₀.get? b = none := fun b hb => by
    cases e0 : G.h₀.get? b with
    | none => rfl
    | some o => have := ip.new b hb; rw [y.b.e.gok.ext b o e0] at this; cases this
  have y₂ : SOk G sc P₁ env σ ω oa s₂ := y.other (wr := []) (ip.kp.toB []) (by simp) (by simp) (by simp) (by simp) ip.up ip.down ip.live
  refine codeAny_forLoop_any (fun k s' => ∃ (i : Nat) (σi : Sg) (ωi : Ow) (oi : Addr) (Pi : PA), k = items.length + 1 - i ∧ i ≤ items.length ∧ I (items.drop i) σi ωi ∧ SOk G sc Pi env σi ωi oi s' ∧ St i s'.heap ∧ Moves sc P env ω oa s s' Pi ∧
    (ωi ≠ none → (oi = oa ∧ ω ≠ none) ∨ s.heap.get? oi = none) ∧ (∀ b ∈ wr, ¬ Pi b ∧ b ∉ oi :: muts sc env) ∧ (∀ a, P₁ a → Pi a)) ?_ (items.length + 1)
    ⟨0, σ, ω, oa, P₁, rfl, Nat.zero_le _, h0, y₂, ip.st, ⟨ip.kp.toB _, ip.up, fun a p => (ip.down a p).imp id .inr, ip.live, y₂.has⟩, fun h => .inl ⟨rfl, h⟩, fun b hb => ⟨ip.off b hb, offM b hb⟩, fun a p => p⟩
  rintro k s' ⟨i, σi, ωi, oi, Pi, rfl, hi, hI, yi, st, mv, ho, hw, hP1⟩
  cases hdi : items.drop i with
  | nil =>
    have hil : i = items.length := by
      have := congrArg List.length hdi
      simp at this; omega
    subst hil
    refine wpNo (wpAny_mono (ip.wk.done s' st) (fun r s'' h => ?_) fun _ _ x => x)
    obtain ⟨rfl, kw⟩ := h
    have hev : ∀ b ∈ oi :: muts sc env, b ∉ wr := fun b hb hm => (hw b hm).2 hb
    have y'' : SOk G sc Pi env σi ωi oi s'' := yi.other kw hev offC (fun b hb => (hw b hb).1) hbW (fun a p => p) (fun a p => .inl p) fun a p => by
      obtain ⟨o, ho'⟩ := Option.isSome_iff_exists.mp (yi.live a p)
      rw [kw.keep a o (fun hm => (hw a hm).1 p) ho']; rfl
    show wpAny G.M A (execs [] env) _ _ s''
    refine wpAny_execs_nil ?_
    refine ⟨Pi, ⟨mv.kb.then kw fun b hb => .inr (ip.new b hb), mv.up, mv.down, y''.live, fun b hb => ?_⟩, σi, ωi, oi, hend σi ωi (hdi ▸ hI), y'', ho⟩
    obtain ⟨o, ho'⟩ := Option.isSome_iff_exists.mp (mv.has b hb)
    rw [kw.keep b o (fun hm => offM b hm hb) ho']; rfl
  | cons d ds =>
    have hdrop : items.drop (i + 1) = ds := by
      rw [← List.drop_drop, hdi]; rfl
    have hget : items[i]? = some d := by
      have := List.getElem?_drop (xs := items) (i := i) (j := 0)
      rw [hdi] at this
      simpa using this.symm
    have hlt : i < items.length := (List.getElem?_eq_some_iff.mp hget).1
    obtain ⟨σb, hb1, hb2, hbody⟩ := hstep d ds σi ωi (hdi ▸ hI)
    refine wpNo (wpAny_mono (ip.wk.item i s' d hget st) (fun r s1 h1 => ?_) fun _ _ x => x)
    obtain ⟨v, rfl, kw1, h1⟩ := h1
    refine wpNo (wpAny_mono h1 (fun _ s2 h2 => ?_) fun _ _ x => x)
    obtain ⟨kw2, st2, rv⟩ := h2
    have kw := kw1.trans kw2
    have hev : ∀ b ∈ oi :: muts sc env, b ∉ wr := fun b hb hm => (hw b hm).2 hb
    have rv2 : Rv (PG s' s2 Pi) s2.heap d v := rv.live.sub fun a ⟨p, l⟩ => p.elim (fun p => .inl (hP1 a p)) fun q => .inr ⟨q, l⟩
    have lvP : ∀ a, PG s' s2 Pi a → (s2.heap.get? a).isSome = true := fun a p => p.elim (fun p => by
      obtain ⟨o, ho'⟩ := Option.isSome_iff_exists.mp (yi.live a p)
      rw [kw.keep a o (fun hm => (hw a hm).1 p) ho']; rfl) fun q => q.2
    have y2 : SOk G sc (PG s' s2 Pi) env σi ωi oi s2 := yi.other kw hev offC (fun b hb => (hw b hb).1) hbW (fun a p => .inl p) (fun a p => p.imp id fun q => q.1) lvP
    have offW2 : ∀ b ∈ wr, ¬ PG s' s2 Pi b := fun b hb p => p.elim (hw b hb).1 fun q => not_live q.1 (ip.wk.live _ _ st b hb)
    refine wpNo (assignT (storesO y2.b.fr.off) R.handled hb2 hb1 y2 rv2 fun s3 y3 k3 => ?_)
    have st3 : St (i + 1) s3.heap := ip.wk.frame _ _ _ st2 fun b o hb ho' => k3.keep b o (fun hm => hb.elim (fun q => (hw b q).2 (List.mem_cons_of_mem _ hm)) fun q => y2.b.fr.off b hm (.inl (hP1 b q))) ho'
    refine wpNo (wpAny_mono (hbody A env _ oi s3 R y3) (fun f s4 h4 => ?_) fun _ _ x => x)
    obtain ⟨P4, m4, o4⟩ := h4
    -- from the start of the turn to the body's start
    have m3 : Moves sc P env ω oa s s3 (PG s' s2 Pi) := by
      refine ⟨(mv.kb.then kw fun b hb => .inr (ip.new b hb)).trans (k3.sub fun b hb => List.mem_cons_of_mem _ hb), fun a p => .inl (mv.up a p), fun a p => ?_, y3.live, fun b hb => ?_⟩
      · rcases p with p | ⟨p, _⟩
        · exact mv.down a p
        · by_cases hm : a ∈ oa :: muts sc env
          · exact absurd (mv.has a hm) (not_live p)
          · exact .inr (.inr (mv.kb.no hm p))
      · by_cases hm : b ∈ muts sc env
        · exact y3.b.has b hm
        · obtain ⟨o, ho'⟩ := Option.isSome_iff_exists.mp (mv.has b hb)
          rw [k3.keep b o hm (kw.keep b o (fun hm => offM b hm hb) ho')]; rfl
    have m := Moves.then y m3 y3 ho m4
    have live3 : ∀ b ∈ wr, (s3.heap.get? b).isSome = true := fun b hb => ip.wk.live _ _ st3 b hb
    have ch : ∀ {ω'' : Ow} {oa'' : Addr}, (ω'' ≠ none → (oa'' = oi ∧ ωi ≠ none) ∨ s3.heap.get? oa'' = none) → (ω'' ≠ none → (oa'' = oa ∧ ω ≠ none) ∨ s.heap.get? oa'' = none) := fun {ω'' oa''} h hn => by
      rcases h hn with ⟨q1, q2⟩ | q
      · rcases ho q2 with ⟨q3, q4⟩ | q3
        · exact .inl ⟨q1.trans q3, q4⟩
        · exact .inr (q1 ▸ q3)
      · by_cases hm : oa'' ∈ oa :: muts sc env
        · exact absurd (m3.has _ hm) (not_live q)
        · exact .inr (m3.kb.no hm q)
    have next : ∀ {σ' : Sg} {ω' : Ow} {oa' : Addr}, I ds σ' ω' → SOk G sc P4 env σ' ω' oa' s4 → (ω' ≠ none → (oa' = oi ∧ ωi ≠ none) ∨ s3.heap.get? oa' = none) →
        ∃ m, m < items.length + 1 - i ∧ ∃ (i : Nat) (σi : Sg) (ωi : Ow) (oi : Addr) (Pi : PA), m = items.length + 1 - i ∧ i ≤ items.length ∧ I (items.drop i) σi ωi ∧ SOk G sc Pi env σi ωi oi s4 ∧ St i s4.heap ∧ Moves sc P env ω oa s s4 Pi ∧
          (ωi ≠ none → (oi = oa ∧ ω ≠ none) ∨ s.heap.get? oi = none) ∧ (∀ b ∈ wr, ¬ Pi b ∧ b ∉ oi :: muts sc env) ∧ (∀ a, P₁ a → Pi a) := fun {σ' ω' oa'} hI' y4 ho4 => by
      refine ⟨items.length + 1 - (i + 1), by omega, i + 1, σ', ω', oa', P4, rfl, hlt, hdrop ▸ hI', y4, ?_, m, ch ho4, fun b hb => ⟨fun p => ?_, fun hm => ?_⟩, fun a p => m4.up a (.inl (hP1 a p))⟩
      · refine ip.wk.frame _ _ _ st3 fun b o hb ho' => m4.kb.keep b o (fun hm => ?_) ho'
        rcases hb with q | q
        · exact (hw b q).2 hm
        · exact y3.offs b hm (.inl (hP1 b q))
      · rcases m4.down b p with q | ⟨q, _⟩ | q
        · exact offW2 b hb q
        · exact (hw b hb).2 (by rw [q]; simp)
        · exact not_live q (live3 b hb)
      · rcases List.mem_cons.mp hm with q | q
        · cases ω' with
          | none =>
            rw [show oa' = env.locals from y4.own] at q
            exact (hw b hb).2 (by rw [q]; simp [muts])
          | some p =>
            rcases ho4 (by simp) with ⟨q1, _⟩ | q1
            · exact (hw b hb).2 (by rw [q, q1]; simp)
            · rw [← q] at q1; exact not_live q1 (live3 b hb)
        · exact (hw b hb).2 (List.mem_cons_of_mem _ q)
    cases f with
    | next => obtain ⟨σ', ω', oa', hT, y4, g⟩ := o4; exact next hT y4 g
    | cont => obtain ⟨σ', ω', oa', hT, y4, g⟩ := o4; exact next hT y4 g
    | brk => exact o4.elim
    | ret v => obtain ⟨d', hT, r⟩ := o4; exact ⟨P4, m, d', hT, r⟩

/-! while -/
theorem do_while {t : Expr} {body : List Stmt} {pos : Pos} (I : Nat → Sg → Ow → Prop) (k₀ : Nat) (h0 : I k₀ σ ω)
    (hstep : ∀ k σi ωi, I k σi ωi → ∃ b, EvT G n sc σi t b ∧ (b = true → DoS G n sc σi ωi body (Turn (fun σ' ω' => ∃ m, m < k ∧ I m σ' ω') Φ)) ∧ (b = false → Φ (.next σi ωi))) :
    Do1 G n sc σ ω (.While t body [] pos) Φ := fun A env P oa s R y => by
  refine wpAny_While ?_
  refine codeAny_whileLoop (fun k s' => ∃ (σi : Sg) (ωi : Ow) (oi : Addr) (Pi : PA), I k σi ωi ∧ SOk G sc Pi env σi ωi oi s' ∧ Moves sc P env ω oa s s' Pi ∧ (ωi ≠ none → (oi = oa ∧ ω ≠ none) ∨ s.heap.get? oi = none)) ?_ k₀
    ⟨σ, ω, oa, P, h0, y, ⟨KpB.refl _ _, fun _ p => p, fun _ p => .inl p, y.live, y.has⟩, fun h => .inl ⟨rfl, h⟩⟩
  rintro k s' ⟨σi, ωi, oi, Pi, hI, yi, mv, ho⟩
  obtain ⟨b, ht, hb1, hb2⟩ := hstep k σi ωi hI
  refine wpNo (wpAny_mono (ht A env Pi s' R yi.b.e) (fun c s1 q => ?_) fun _ _ x => x)
  obtain ⟨rfl, kp⟩ := q
  have y1 := yi.keep kp
  have mk : Moves sc Pi env ωi oi s' s1 Pi := ⟨kp.toB _, fun a p => p, fun a p => .inl p, y1.live, y1.has⟩
  have m1 := Moves.then y mv yi ho mk
  cases c with
  | false =>
    rw [if_neg (by decide)]
    exact wpNo (wpAny_execs_nil ⟨Pi, m1, σi, ωi, oi, hb2 rfl, y1, ho⟩)
  | true =>
    rw [if_pos rfl]
    refine wpNo (wpAny_mono (hb1 rfl A env Pi oi s1 R y1) (fun f s2 h2 => ?_) fun _ _ x => x)
    obtain ⟨P2, m2, o2⟩ := h2
    have m := Moves.then y m1 y1 ho m2
    have ch : ∀ {ω'' : Ow} {oa'' : Addr}, (ω'' ≠ none → (oa'' = oi ∧ ωi ≠ none) ∨ s1.heap.get? oa'' = none) → (ω'' ≠ none → (oa'' = oa ∧ ω ≠ none) ∨ s.heap.get? oa'' = none) := fun {ω'' oa''} h hn => by
      rcases h hn with ⟨q1, q2⟩ | q
      · rcases ho q2 with ⟨q3, q4⟩ | q3
        · exact .inl ⟨q1.trans q3, q4⟩
        · exact .inr (q1 ▸ q3)
      · by_cases hm : oa'' ∈ oa :: muts sc env
        · exact absurd (m1.has _ hm) (not_live q)
        · exact .inr (m1.kb.no hm q)
    cases f with
    | next => obtain ⟨σ', ω', oa', ⟨m', hm', hT⟩, y4, g⟩ := o2; exact ⟨m', hm', σ', ω', oa', P2, hT, y4, m, ch g⟩
    | cont => obtain ⟨σ', ω', oa', ⟨m', hm', hT⟩, y4, g⟩ := o2; exact ⟨m', hm', σ', ω', oa', P2, hT, y4, m, ch g⟩
    | brk => exact o2.elim
    | ret v => obtain ⟨d', hT, r⟩ := o2; exact ⟨P2, m, d', hT, r⟩
end
end Mine

namespace Mine

/-- a value that is new: a list or a dict that nothing else reaches -/
noncomputable def AnsN (s : Shared) (P : PA) (d : D) : Post := fun v s' => Kp s s' ∧ ∃ a, v = .ref a ∧ s.heap.get? a = none ∧ OwnAt (fun b => PN s P b ∧ b ≠ a) s'.heap a d
noncomputable def EvN (G : Wd) (n : Nat) (sc : Scope) (σ : Sg) (e : Expr) (d : D) : Prop :=
  ∀ A env P s, Room n A → EnvOk G sc σ P env s → wpAny G.M A (eval e env) (AnsN s P d) NoE s

theorem live_ne {P : PA} {h : Heap} {a : Addr} (hn : h.get? a = none) : ∀ b, P b ∧ (h.get? b).isSome = true → P b ∧ b ≠ a := fun b ⟨p, l⟩ => ⟨p, fun e => by rw [e, hn] at l; cases l⟩
theorem Rvs.ne {P h a ds vs} (r : Rvs P h ds vs) (hn : h.get? a = none) : Rvs (fun b => P b ∧ b ≠ a) h ds vs := r.live.sub (live_ne hn)

theorem OwnAt.live {P : PA} {h : Heap} {a : Addr} {d : D} (x : OwnAt P h a d) : OwnAt (fun b => P b ∧ (h.get? b).isSome = true) h a d := by
  cases d with
  | list ds => obtain ⟨vs, hp, r⟩ := x; exact ⟨vs, hp, r.live⟩
  | dict l => obtain ⟨o, es, ep, ho, hx, hd, he, hn⟩ := x; exact ⟨o, es, ep, ho, hx, hd, he.live, hn⟩
  | _ => exact x.elim
theorem OwnAt.sub {P Q : PA} {h : Heap} {a : Addr} {d : D} (s : ∀ b, P b → Q b) (x : OwnAt P h a d) : OwnAt Q h a d := x.tr (.of_keep (fun _ _ e => e) s) fun _ e => e

section
variable {G : Wd} {n : Nat} {sc : Scope} {σ σ' : Sg} {ω ω' : Ow} {P P' P2 : PA} {env : Env} {s s' s₁ s₂ : Shared} {oa oa' : Addr} {Φ Ψ : Out → Prop}

theorem evn_list {es pos ds} (h : EvS G n sc σ es ds) (hz : ds.length ≤ 16777216 := by decide) : EvN G n sc σ (.List es pos) (.list ds) := fun A env P s R e => by
  refine wpAny_List (wpAny_mono (h A env P s pos R e) (fun vs s₁ q => ?_) fun _ _ x => x)
  have hl : vs.length = ds.length := q.2.length
  refine ⟨by rw [hl]; exact hz, q.1.trans (Kp.push _ _), _, rfl, q.1.none (size_none s₁), vs.toArray, ⟨_, push_new rfl⟩, ?_⟩
  exact (q.2.ne (size_none s₁)).tr ((Kp.push _ _).trP _)

theorem evn_if {t x y pos b d} (h1 : EvT G n sc σ t b) (h2 : b = true → EvN G n sc σ x d) (h3 : b = false → EvN G n sc σ y d) : EvN G n sc σ (.IfExp t x y pos) d := fun A env P s R e => by
  refine wpAny_IfExp (wpAny_mono (h1 A env P s R e) (fun c s₁ q₁ => ?_) fun _ _ x => x)
  obtain ⟨rfl, k₁⟩ := q₁
  have e₁ := e.keep k₁ (Q := P) fun _ p => p
  have fin : ∀ {v s₂}, AnsN s₁ P d v s₂ → AnsN s P d v s₂ := fun ⟨k, a, ev, ha, o⟩ => ⟨k₁.trans k, a, ev, k₁.none ha, o.sub fun b q => ⟨PN.later k₁ b q.1, q.2⟩⟩
  cases c with
  | true => exact wpAny_mono (h2 rfl A env P s₁ R e₁) (fun v s₂ q => fin q) fun _ _ x => x
  | false => exact wpAny_mono (h3 rfl A env P s₁ R e₁) (fun v s₂ q => fin q) fun _ _ x => x

theorem evn_bin {l op r pos a b c} (h1 : EvE G n sc σ l a) (h2 : EvE G n sc σ r b)
    (h : ∀ A s P va vb, Room n A → GOk G s.heap → Rv P s.heap a va → Rv P s.heap b vb → wpAny G.M A (binaryOp op va vb) (AnsN s P c) NoE s) : EvN G n sc σ (.BinOp l op r pos) c := fun A env P s R e => by
  refine wpAny_BinOp (wpAny_mono (h1 A env P s R e) (fun va s₁ q₁ => ?_) fun _ _ x => x)
  have e₁ := e.keep q₁.1 (Q := PN s P) fun _ p => .inl p
  refine wpAny_mono (h2 A env _ s₁ R e₁) (fun vb s₂ q₂ => ?_) fun _ _ x => x
  have k₂ := q₁.1.trans q₂.1
  refine wpAny_mono (h A s₂ (PN s P) va vb R (e.gok.keep k₂.keep) (q₁.2.tr (q₂.1.trP _)) (q₂.2.sub (PN.step q₁.1))) (fun v s₃ q => ?_) fun _ _ x => x
  obtain ⟨k, a, ev, ha, o⟩ := q
  exact ⟨k₂.trans k, a, ev, k₂.none ha, o.sub fun b q => ⟨PN.step k₂ b q.1, q.2⟩⟩

theorem addN {a b : List D} (hz : a.length + b.length ≤ 16777216) : ∀ A s P va vb, Room n A → GOk G s.heap → Rv P s.heap (.list a) va → Rv P s.heap (.list b) vb → wpAny G.M A (binaryOp .Add va vb) (AnsN s P (.list (a ++ b))) NoE s := fun A s P va vb R g ha hb => by
  obtain ⟨x, vs, rfl, px, ⟨i, hx⟩, rx⟩ := ha; obtain ⟨y, us, rfl, py, ⟨j, hy⟩, ry⟩ := hb
  have l1 := rx.length; have l2 := ry.length
  rw [Array.length_toList] at l1 l2
  refine PySem.P.add_list hx hy ⟨Kp.push s _, _, rfl, size_none s, vs ++ us, ⟨_, push_new rfl⟩, ?_⟩ (by rw [l1, l2]; exact hz)
  rw [Array.toList_append]
  exact (((rx.append ry).sub fun b p => Or.inl p).ne (size_none s)).tr ((Kp.push s _).trP _)

theorem mulN {a : List D} {k : Int} (h1 : k < 9223372036854775808) (h0 : -9223372036854775808 ≤ k) (hz : a.length * k.toNat ≤ 16777216) : ∀ A s P va vb, Room n A → GOk G s.heap → Rv P s.heap (.list a) va → Rv P s.heap (.int k) vb →
    wpAny G.M A (binaryOp .Mult va vb) (AnsN s P (.list (List.replicate k.toNat a).flatten)) NoE s := fun A s P va vb R g ha hb => by
  obtain ⟨x, vs, rfl, px, ⟨i, hx⟩, rx⟩ := ha; obtain ⟨u, rfl⟩ := hb
  have l1 := rx.length
  rw [Array.length_toList] at l1
  refine wpAny_binaryOp_repeat_ref (T := "list") (U := "int") (by decide) ⟨_, hx, rfl⟩ (fun s' => typeIs_int s' k u) noFill_list_mul F.fills_int_mul F.slot_int_rmul repeat_list F.slot_int_index.lookup
    (call_meets F.slot_int_rmul (typeIs_int s k u) F.entry_int_rmul (F.args_int_rmul_2 _ _) (int___rmul___int_list k u x vs i)
      ⟨hx, rfl, ⟨_, hx, rfl⟩, call_meets F.slot_list_mul ⟨_, hx, rfl⟩ F.entry_list_mul (F.args_list_mul_2 _ _)
        (AutoListH.list___mul___list_int_3 x vs i k u (by simp [Builtin.List.listFitsIndex]; omega) (by rw [l1]; omega) (by simp [Builtin.List.listTooLong, sizeLine]; rw [l1]; omega))
        ⟨hx, Kp.push s _, _, rfl, size_none s, _, ⟨_, push_new rfl⟩, ?_⟩⟩)
  rw [foldl_app]
  refine Rvs.tr ((Kp.push s _).trP _) (Rvs.ne (Rvs.sub (fun b p => Or.inl p) ?_) (size_none s))
  by_cases he : vs.isEmpty = true
  · rw [if_pos he]
    have : vs = #[] := by simpa using he
    subst this
    cases a with
    | nil => simp; exact rfl
    | cons => simp at l1
  · rw [if_neg he]; simpa using rx.replicate k.toNat

/-- a new list of the block's own -/
theorem do_new {x px e pos d} (h : EvN G n sc σ e d) (hσ : σ.lookup x = none) (hx : isLC sc x = true) (hs : ∀ env, swapsWith e (some (.Name x px)) pos.line env = pure false := by intro _; rfl) :
    Do1 G n sc σ ω (.Assign [.Name x px] e pos) (· = .next σ (some (x, d))) := fun A env P oa s R y =>
  wpAny_Assign_Name (wpAny_mono (h A env P s R y.b.e) (fun v s₁ q => by
    obtain ⟨k, a, rfl, ha, hat⟩ := q
    have hlive : ∀ {b : Addr}, (s.heap.get? b).isSome = true → (s₁.heap.get? b).isSome = true := fun h => live_keep k h
    have down : ∀ b, PG s s₁ P b ∧ b ≠ a → P b ∨ s.heap.get? b = none := fun b p => p.1.elim .inl fun q => .inr q.1
    have lv : ∀ b, PG s s₁ P b ∧ b ≠ a → (s₁.heap.get? b).isSome = true := fun b p => p.1.elim (fun p => hlive (y.live b p)) fun q => q.2
    have up : ∀ b, P b → PG s s₁ P b ∧ b ≠ a := fun b p => ⟨.inl p, fun q => not_live (q ▸ ha) (y.live b p)⟩
    have y₂ : SOk G sc (fun b => PG s s₁ P b ∧ b ≠ a) env σ ω oa s₁ := y.other (wr := []) (k.toB []) (by simp) (by simp) (by simp) (by simp) up down lv
    have hnm : a ∉ muts sc env := fun hm => not_live ha (y.b.has a hm)
    have hat₂ : OwnAt (fun b => PG s s₁ P b ∧ b ≠ a) s₁.heap a d := hat.live.sub fun b ⟨⟨p, q⟩, l⟩ => ⟨p.elim .inl fun p => .inr ⟨p, l⟩, q⟩
    refine store_any (σ' := σ) (fun z d _ h => h) y₂.b.e y₂.b.fr (by simpa [isLC] using hx) (fun d' h' => by rw [hσ] at h'; cases h') fun s₃ e₃ f₃ k₃ ot hr => ?_
    have T : Tr (fun b => PG s s₁ P b ∧ b ≠ a) (fun b => PG s s₁ P b ∧ b ≠ a) s₁.heap s₃.heap := trB k₃ y₂.b.fr.off
    have nb : G.h₀.get? a = none := by
      cases e0 : G.h₀.get? a with
      | none => rfl
      | some o => have := y.b.e.gok.ext _ _ e0; rw [ha] at this; cases this
    have lv₃ : ∀ b, PG s s₁ P b ∧ b ≠ a → (s₃.heap.get? b).isSome = true := fun b p => by
      obtain ⟨o, ho⟩ := Option.isSome_iff_exists.mp (lv b p)
      rw [T.keep b o p ho]; rfl
    have y₃ : SOk G sc (fun b => PG s s₁ P b ∧ b ≠ a) env σ (some (x, d)) a s₃ :=
      ⟨⟨e₃, f₃⟩, (show OwnIs G sc _ env σ s₃ x d a from ⟨hσ, hr, hat₂.tr T fun o ho => k₃.keep a o hnm ho, fun p => p.2 rfl, nb, hnm, fun z c hc q => not_live ha (q ▸ y.b.e.cin z c hc)⟩), lv₃⟩
    refine ⟨_, ⟨((k.toB _).trans (k₃.sub fun b hb => List.mem_cons_of_mem _ hb)), up, fun b p => (down b p).imp id .inr, lv₃, fun b hb => ?_⟩, _, _, a, rfl, y₃, fun _ => .inr ha⟩
    by_cases hm : b ∈ muts sc env
    · exact y₃.b.has b hm
    · obtain ⟨o, ho⟩ := Option.isSome_iff_exists.mp (y.has b hb)
      rw [k₃.keep b o hm (k.keep b o ho)]; rfl) fun _ _ e => e) (hs env)

/-- the own list written -/
theorem SOk.mut {x : Str} {d d' : D} (y : SOk G sc P env σ (some (x, d)) oa s) (k : KpB [oa] s s') (h : OwnAt P s'.heap oa d') : SOk G sc P env σ (some (x, d')) oa s' := by
  have o : OwnIs G sc P env σ s x d oa := y.own
  have np : ∀ b ∈ [oa], ¬ P b := by simpa using o.np
  have hl : env.locals ∉ [oa] := fun hm => o.nm (by rw [← List.mem_singleton.mp hm]; simp [muts])
  have b' : Blk G sc P env σ s' := y.b.other k hl (fun z c hc hm => o.nc z c hc (List.mem_singleton.mp hm)) np (by simpa using o.nb) (fun a p => p) fun a p => .inl p
  refine ⟨b', (show OwnIs G sc P env σ s' x d' oa from ⟨o.nx, ?_, h, o.np, o.nb, o.nm, o.nc⟩), fun a p => ?_⟩
  · rcases o.rd with ⟨hk, m, ⟨q, es, ep, hq, r⟩, hv⟩ | ⟨hk, c, hc, q, hq, hd⟩
    · exact .inl ⟨hk, m, ⟨q, es, ep, k.keep _ q hl hq, r⟩, hv⟩
    · exact .inr ⟨hk, c, hc, q, k.keep _ q (fun hm => o.nc _ c hc (List.mem_singleton.mp hm)) hq, hd⟩
  · obtain ⟨ob, ho⟩ := Option.isSome_iff_exists.mp (y.live a p)
    rw [k.keep a ob (fun hm => np a hm p) ho]; rfl

theorem Moves.of_mut {x : Str} {d d' : D} (y : SOk G sc P env σ (some (x, d)) oa s) (k : KpB [oa] s s') (h : OwnAt P s'.heap oa d') : Moves sc P env (some (x, d)) oa s s' P :=
  ⟨k.sub (by simp), fun a p => p, fun a p => .inl p, (y.mut k h).live, fun b hb => (y.mut k h).has b hb⟩

theorem own_some {x : Str} {d d' : D} : some (x, d') ≠ none → (oa = oa ∧ some (x, d) ≠ none) ∨ s.heap.get? oa = none := fun _ => .inl ⟨rfl, by simp⟩

theorem setItem_plain {A : Around} {E} {l : Addr} {items : Array Value} {k : Int} {t : Tok} {v : Value} {Q : Unit → Shared → Prop} (hl : s.heap.PlainList l items) (h0 : 0 ≤ k) (hfit : k < 9223372036854775808) (hn : k < items.size)
    (hQ : ∀ h', h'.PlainList l (items.setIfInBounds k.toNat v) → Heap.SameBut l s.heap h' → Q () { s with heap := h' }) : wpAny G.M A (setItem (.ref l) (.int k t) v) Q E s := by
  obtain ⟨n', ho⟩ := id hl
  unfold setItem
  try with_reducible refine wpAny_holding ?_
  first | refine wpAny_bind (wpAny_pure ?_) | skip
  refine wpAny_bind (wpAny_sequenceKey hl.isList.typeIs (by decide) ?_)
  refine wpAny_bind (wpAny_callSpecial?_slot (name := Str.ofString "__setitem__") hl.isList.typeIs slot_list_setitem
    (wpAny_call_entry slot_list_setitem hl.isList.typeIs entry_list_setitem ?_ (args_list_setitem _ _ _)))
  show wpAny _ _ (Builtin.List.listSubscript? (.int k t) >>= _) _ _ s
  have hfit' : Builtin.List.listFitsIndex k = true := by simp [Builtin.List.listFitsIndex]; omega
  refine wpAny_bind (wpAny_listSubscript_int hfit' ?_)
  clear hfit hfit'
  obtain ⟨j, rfl⟩ := Int.eq_ofNat_of_zero_le h0
  have hj : j < items.size := by omega
  have hx' : items[j]? = some items[j] := Array.getElem?_eq_getElem hj
  show wpAny _ _ ((seqItemAt l j >>= fun r => pure (r.map (j, ·))) >>= _) _ _ s
  refine wpAny_bind (wpAny_bind (wpAny_seqItemAt ho rfl (wpAny_pure ?_)))
  rw [hx']
  show wpAny _ _ (setSeqItemAt l j v >>= _) _ _ s
  obtain ⟨m, he⟩ : ∃ m, Obj.mapSeq (·.setIfInBounds j v) { cls := .type "list", data := .seq items n' } = { cls := .type "list", data := .seq (items.setIfInBounds j v) m } := ⟨_, rfl⟩
  have hfin : (s.heap.update l (Obj.mapSeq (·.setIfInBounds j v))).PlainList l (items.setIfInBounds j v) :=
    ⟨m, by rw [Heap.get?_update_self _ ho (by rw [he]; rfl), he]⟩
  refine wpAny_bind (wpAny_setSeqItemAt ho rfl ?_)
  first
    | exact wpAny_bind (wpAny_pure (wpAny_pure ⟨.none, rfl, wpAny_pure (hQ _ hfin (Heap.SameBut.update ..))⟩))
    | exact wpAny_pure ⟨.none, rfl, wpAny_pure (hQ _ hfin (Heap.SameBut.update ..))⟩

theorem KpB.same {l : Addr} {h' : Heap} (hs : Heap.SameBut l s.heap h') : KpB [l] s { s with heap := h' } := .of (n := s.toks) fun b o nb e => hs.extBut b o (fun q => nb (by simp [q])) e

/-- the end of a store into the own list -/
theorem set_done {x : Str} {ds : List D} {A : Around} {k : Int} {t : Tok} {d : D} {v : Value} (y : SOk G sc P env σ (some (x, .list ds)) oa s) (r : Rv P s.heap d v) (h0 : 0 ≤ k) (hk : k < ds.length) (hz : ds.length ≤ 16777216) {Q : Unit → Shared → Prop}
    (hQ : ∀ s', SOk G sc P env σ (some (x, .list (ds.set k.toNat d))) oa s' → Moves sc P env (some (x, .list ds)) oa s s' P → Q () s') : wpAny G.M A (setItem (.ref oa) (.int k t) v) Q NoE s := by
  have o : OwnIs G sc P env σ s x (.list ds) oa := y.own
  obtain ⟨vs, hp, rs⟩ := o.at_
  have hl := rs.length
  rw [Array.length_toList] at hl
  refine setItem_plain hp h0 (by omega) (by omega) fun h' hp' hs => ?_
  have k2 := KpB.same hs
  have T : Tr P P s.heap h' := trB k2 (by simpa using o.np)
  have hat : OwnAt P h' oa (.list (ds.set k.toNat d)) := ⟨_, hp', by rw [Array.toList_setIfInBounds]; exact (rs.tr T).set _ (r.tr T)⟩
  exact hQ _ (y.mut k2 hat) (Moves.of_mut y k2 hat)

theorem own_name {x : Str} {d : D} {A : Around} {px} {Q : Post} (y : SOk G sc P env σ (some (x, d)) oa s) (h : Q (.ref oa) s) (hd : (x == ("__debug__" : Str)) = false := by decide +kernel) (hc : (x == ("__classdict__" : Str)) = false := by decide +kernel) : wpAny G.M A (eval (.Name x px) env) Q NoE s :=
  wpAny_Name (read_name y.b.e.sc.kind (show OwnIs G sc P env σ s x d oa from y.own).rd hc h) hd

/-- `x[i] = value` -/
theorem do_set {x px i pos' value pos ds k d} (hv : EvE G n sc ((x, .list ds) :: σ) value d) (hf : d.flat = true) (hi : EvE G n sc ((x, .list ds) :: σ) i (.int k)) (h0 : 0 ≤ k) (hk : k < ds.length) (hz : ds.length ≤ 16777216)
    (hs : ∀ env, swapsWith value (some (.Subscript (.Name x px) i pos')) pos.line env = pure false := by intro _; rfl) (hd : (x == ("__debug__" : Str)) = false := by decide +kernel) (hc : (x == ("__classdict__" : Str)) = false := by decide +kernel) :
    Do1 G n sc σ (some (x, .list ds)) (.Assign [.Subscript (.Name x px) i pos'] value pos) (· = .next σ (some (x, .list (ds.set k.toNat d)))) := fun A env P oa s R y => by
  refine wpAny_Assign_Subscript (wpAny_mono (hv A env _ s R (own_env y)) (fun v s₁ q => ?_) fun _ _ e => e) (hs env)
  have q := flat_off y q hf
  have y₁ := y.grow q.1
  refine own_name y₁ ?_ hd hc
  refine wpAny_mono (hi A env _ s₁ R (own_env y₁)) (fun iv s₂ q₂ => ?_) fun _ _ e => e
  obtain ⟨k₂, t, rfl⟩ := q₂
  have y₂ := y₁.keep k₂
  refine set_done y₂ ((q.2.grown y.live).tr (k₂.trP _)) h0 hk hz fun s₃ y₃ m₃ => ?_
  have mk : Moves sc (PG s s₁ P) env (some (x, .list ds)) oa s₁ s₂ (PG s s₁ P) := ⟨k₂.toB _, fun a p => p, fun a p => .inl p, y₂.live, y₂.has⟩
  exact ⟨_, (((Moves.of_kp y q.1).then y y₁ own_some mk).then y y₂ own_some m₃), _, _, oa, rfl, y₃, own_some⟩

/-- `x[l op r] += value`, ints -/
theorem do_augset {x px l op r bp pos' value pos ds k a b} (hi : EvE G n sc ((x, .list ds) :: σ) (.BinOp l op r bp) (.int k)) (hv : EvE G n sc ((x, .list ds) :: σ) value (.int b)) (h0 : 0 ≤ k) (ha : ds[k.toNat]? = some (.int a)) (hz : ds.length ≤ 16777216)
    (hd : (x == ("__debug__" : Str)) = false := by decide +kernel) (hc : (x == ("__classdict__" : Str)) = false := by decide +kernel) :
    Do1 G n sc σ (some (x, .list ds)) (.AugAssign (.Subscript (.Name x px) (.BinOp l op r bp) pos') .Add value pos) (· = .next σ (some (x, .list (ds.set k.toNat (.int (a + b)))))) := fun A env P oa s R y => by
  have hk : k < ds.length := by have := (List.getElem?_eq_some_iff.mp ha).1; omega
  show wpAny _ A (standAt pos >>= fun _ => eval (.Name x px) env >>= fun ov => holding [ov] (eval (.BinOp l op r bp) env) >>= fun iv => holding [ov, iv] (do
      standAt pos'
      let old ← getItem ov iv
      let v ← holding [old] (eval value env)
      standAt pos
      operate [old, v] (inplaceOp .Add old v)) >>= fun new => standAt pos' >>= fun _ => holding [new, ov, iv] (setItem ov iv new) >>= fun _ => release [new, ov, iv] [] >>= fun _ => pure Flow.next) _ _ s
  refine wpAny_bind (wpAny_standAt (wpAny_bind (own_name y ?_ hd hc)))
  refine wpAny_bind (wpAny_holding (wpAny_mono (hi A env _ s R (own_env y)) (fun iv s₁ q₁ => ?_) fun _ _ e => e))
  obtain ⟨k₁, t, rfl⟩ := q₁
  have y₁ := y.keep k₁
  refine wpAny_bind (wpAny_holding (wpAny_bind (wpAny_standAt (wpAny_bind ?_))))
  have o : OwnIs G sc P env σ s₁ x (.list ds) oa := y₁.own
  obtain ⟨vs, hp, rs⟩ := id o.at_
  obtain ⟨v, hv', rv⟩ := rs.get ha
  obtain ⟨u, rfl⟩ := rv
  refine wpAny_getItem_list hp.isList h0 (by omega) (by simpa using hv') ?_
  refine wpAny_bind (wpAny_holding (wpAny_mono (hv A env _ s₁ R (own_env y₁)) (fun v s₂ q₂ => ?_) fun _ _ e => e))
  obtain ⟨k₂, w, rfl⟩ := q₂
  have y₂ := y₁.keep k₂
  refine wpAny_bind (wpAny_standAt (wpAny_operating (wpAny_iadd_int ?_)))
  have k₃ := Kp.tok s₂ (s₂.toks + 1)
  have y₃ := y₂.keep k₃
  refine wpAny_bind (wpAny_standAt (wpAny_bind (wpAny_holding ?_)))
  refine set_done (d := .int (a + b)) y₃ ⟨_, rfl⟩ h0 hk hz fun s₄ y₄ m₄ => ?_
  have kk := (k₁.trans k₂).trans k₃
  have mk : Moves sc P env (some (x, .list ds)) oa s { s₂ with toks := s₂.toks + 1 } P := ⟨kk.toB _, fun a p => p, fun a p => .inl p, y₃.live, y₃.has⟩
  refine wpAny_bind (wpAny_release ?_)
  exact wpAny_pure ⟨_, mk.then y y₃ own_some m₄, _, _, oa, rfl, y₄, own_some⟩

/-- `x.append(e)` -/
theorem do_append {x px apos e pos ppos ds d} (he : EvE G n sc σ e d) (hz : ds.length ≤ 16777215)
    (hb : ∀ env, attributeBase (.Name x px) "append" env (eval (.Name x px) env) = eval (.Name x px) env := by intro _; rfl)
    (hfew : ∀ env, ((backTo pos (starEach [e] env)).all (fun x => !x.1) && (backToKw pos (keywordEach [] env)).all (fun x => x.1.isSome)
      && decide (([e] : List Expr).length + ([] : List Keyword).length + (if ([] : List Keyword).isEmpty then 0 else 1) < 30)) = true := by intro _; rfl)
    (hline : (apos.endLine == pos.line) = true := by rfl)
    (htr : ∀ env, backTo pos (starEach [e] env) = [(false, eval e env)] := by intro _; rfl)
    (hi : ∀ env, env.scope.kind = .function → interactive env = false := by intro e h; simp [interactive, Env.blockKind, h, ScopeKind.isAnnotationScope])
    (hs : ∀ env, swapsWith (.Call (.Attribute (.Name x px) "append" apos) [e] [] pos) none ppos.line env = pure false := by intro _; rfl)
    (hd : (x == ("__debug__" : Str)) = false := by decide +kernel) (hc : (x == ("__classdict__" : Str)) = false := by decide +kernel) :
    Do1 G n sc σ (some (x, .list ds)) (.Expr (.Call (.Attribute (.Name x px) "append" apos) [e] [] pos) ppos) (· = .next σ (some (x, .list (ds ++ [d])))) := fun A env P oa s R y => by
  refine wpAny_Expr (wpAny_Call_append (hb env) (hfew env) hline (htr env) (own_name y ?_ hd hc)) (hi env y.b.e.sc.kind) (hs env)
  have o : OwnIs G sc P env σ s x (.list ds) oa := y.own
  obtain ⟨vs, ⟨n', hp⟩, rs⟩ := id o.at_
  refine ⟨oa, vs, rfl, ⟨_, n', hp, rfl, rfl, rfl⟩, wpAny_mono (he A env P s R y.b.e) (fun v s₁ q => ?_) fun _ _ e => e⟩
  have y₁ := y.grow q.1
  have o₁ : OwnIs G sc _ env σ s₁ x (.list ds) oa := y₁.own
  obtain ⟨vs₁, hp₁, rs₁⟩ := id o₁.at_
  have hl := rs₁.length
  rw [Array.length_toList] at hl
  refine wpAny_list_append_plain hp₁ (fun h' hp' hsb => ?_) (by show vs₁.size ≤ 16777216; omega)
  have k2 := KpB.same hsb
  have T : Tr (PG s s₁ P) (PG s s₁ P) s₁.heap h' := trB k2 (by simpa using o₁.np)
  have hat : OwnAt (PG s s₁ P) h' oa (.list (ds ++ [d])) := ⟨_, hp', by rw [Array.toList_push]; exact (rs₁.tr T).append (.cons ((q.2.grown y.live).tr T) .nil)⟩
  exact ⟨_, (Moves.of_kp y q.1).then y y₁ own_some (Moves.of_mut y₁ k2 hat), _, _, oa, rfl, y₁.mut k2 hat, own_some⟩

/-- the own list is own no longer -/
theorem do_freeze {x d ss} (h : DoS G n sc ((x, d) :: σ) none ss Φ) : DoS G n sc σ (some (x, d)) ss Φ := fun A env P oa s R y => by
  have o : OwnIs G sc P env σ s x d oa := y.own
  have fr := y.b.fr
  have y' : SOk G sc (fun a => P a ∨ a = oa) env ((x, d) :: σ) none env.locals s :=
    ⟨⟨own_env y, ⟨fr.ns, fun p => p.elim fr.np fun q => o.nm (by rw [← q]; simp [muts]), fr.nb, fr.has, fun z c hz hc => ⟨(fr.cell z c hz hc).1, fun p => p.elim (fr.cell z c hz hc).2.1 (o.nc z c hc), (fr.cell z c hz hc).2.2⟩, fr.apart⟩⟩, rfl,
      fun a p => p.elim (y.live a) fun q => by rw [q]; exact o.at_.has⟩
  refine wpAny_mono (h A env _ _ s R y') (fun f s' hp => ?_) fun _ _ e => e
  obtain ⟨P', m, out⟩ := hp
  refine ⟨P', ⟨m.kb.sub fun b hb => List.mem_cons_of_mem _ ((List.mem_cons.mp hb).elim (fun q => by rw [q]; simp [muts]) fun q => q), fun a p => m.up a (.inl p), fun a p => ?_, m.live, fun b hb => ?_⟩, ?_⟩
  · rcases m.down a p with (q | q) | ⟨_, q⟩ | q
    · exact .inl q
    · exact .inr (.inl ⟨q, by simp⟩)
    · exact absurd rfl q
    · exact .inr (.inr q)
  · rcases List.mem_cons.mp hb with q | q
    · rw [q]; exact m.live oa (m.up oa (.inr rfl))
    · exact m.has b (List.mem_cons_of_mem _ q)
  · have ch : ∀ {ω'' : Ow} {oa'' : Addr}, (ω'' ≠ none → (oa'' = env.locals ∧ (none : Ow) ≠ none) ∨ s.heap.get? oa'' = none) → (ω'' ≠ none → (oa'' = oa ∧ some (x, d) ≠ none) ∨ s.heap.get? oa'' = none) := fun h hn => (h hn).elim (fun q => absurd rfl q.2) .inr
    cases f with
    | next => obtain ⟨a, b, c, e, e', g⟩ := out; exact ⟨a, b, c, e, e', ch g⟩
    | cont => obtain ⟨a, b, c, e, e', g⟩ := out; exact ⟨a, b, c, e, e', ch g⟩
    | brk => exact out
    | ret v => exact out

theorem DoS.less {ss} (h : DoS G n sc σ' ω ss Φ) (hσ : ∀ y d, σ'.lookup y = some d → σ.lookup y = some d) : DoS G n sc σ ω ss Φ := fun A env P oa s R y => h A env P oa s R (y.weaken hσ)
theorem Do1.less {ss} (h : Do1 G n sc σ' ω ss Φ) (hσ : ∀ y d, σ'.lookup y = some d → σ.lookup y = some d) : Do1 G n sc σ ω ss Φ := fun A env P oa s R y => h A env P oa s R (y.weaken hσ)
end
end Mine

namespace Mine

theorem bindL_no (kindOf : Str → Option NameKind) : ∀ (binds : List (Str × Value)) (m : Str → Option Value) (x : Str), x ∉ binds.map (·.1) → bindL kindOf binds m x = m x
  | [], m, x, _ => rfl
  | (y, w) :: r, m, x, hx => by
    have h1 : x ≠ y := fun e => hx (by rw [e]; exact List.mem_cons_self)
    have h2 : x ∉ r.map (·.1) := fun e => hx (List.mem_cons_of_mem _ e)
    unfold bindL
    rw [bindL_no kindOf r _ x h2]
    split
    · exact if_neg h1
    · rfl
theorem bindC_no (kindOf : Str → Option NameKind) : ∀ (binds : List (Str × Value)) (m : Str → Option Value) (x : Str), x ∉ binds.map (·.1) → bindC kindOf binds m x = m x
  | [], m, x, _ => rfl
  | (y, w) :: r, m, x, hx => by
    have h1 : x ≠ y := fun e => hx (by rw [e]; exact List.mem_cons_self)
    have h2 : x ∉ r.map (·.1) := fun e => hx (List.mem_cons_of_mem _ e)
    unfold bindC
    rw [bindC_no kindOf r _ x h2]
    split
    · rfl
    · exact if_neg h1

theorem bindL_is (kindOf : Str → Option NameKind) : ∀ (binds : List (Str × Value)) (m : Str → Option Value) (x : Str) (v : Value), (binds.map (·.1)).Nodup → (x, v) ∈ binds → kindOf x = some .local → bindL kindOf binds m x = some v
  | (y, w) :: r, m, x, v, hn, hx, hk => by
    rw [List.map_cons, List.nodup_cons] at hn
    unfold bindL
    rcases List.mem_cons.mp hx with e | hx
    · obtain ⟨rfl, rfl⟩ := Prod.mk.inj e
      rw [bindL_no kindOf r _ x hn.1, if_pos hk, if_pos rfl]
    · exact bindL_is kindOf r _ x v hn.2 hx hk
theorem bindC_is (kindOf : Str → Option NameKind) : ∀ (binds : List (Str × Value)) (m : Str → Option Value) (x : Str) (v : Value), (binds.map (·.1)).Nodup → (x, v) ∈ binds → kindOf x = some .cell → bindC kindOf binds m x = some v
  | (y, w) :: r, m, x, v, hn, hx, hk => by
    rw [List.map_cons, List.nodup_cons] at hn
    unfold bindC
    rcases List.mem_cons.mp hx with e | hx
    · obtain ⟨rfl, rfl⟩ := Prod.mk.inj e
      rw [bindC_no kindOf r _ x hn.1, if_neg (by rw [hk]; decide), if_pos rfl]
    · exact bindC_is kindOf r _ x v hn.2 hx hk

theorem zip_rvs {P h} : ∀ {ps : List Str} {ds : List D} {vs : List Value} {x : Str} {d : D}, Rvs P h ds vs → List.lookup x (ps.zip ds) = some d → ∃ v, (x, v) ∈ ps.zip vs ∧ Rv P h d v
  | [], _, _, _, _, _, hx => by simp at hx
  | _ :: _, [], _, _, _, _, hx => by simp at hx
  | p :: ps, e :: ds, vs, x, d, ⟨v, r, ev, a, b⟩, hx => by
    subst ev
    rw [List.zip_cons_cons, lookup_cons] at hx
    by_cases h : x = p
    · subst h
      rw [if_pos rfl] at hx
      cases hx
      exact ⟨v, by rw [List.zip_cons_cons]; exact List.mem_cons_self, a⟩
    · rw [if_neg h] at hx
      obtain ⟨u, hu, ru⟩ := zip_rvs b hx
      exact ⟨u, by rw [List.zip_cons_cons]; exact List.mem_cons_of_mem _ hu, ru⟩

/-- the table of a def's names, tested -/
noncomputable def parOk (sc : Scope) (ps : List Str) : Bool :=
  decide ps.Nodup && ps.all (fun x => sc.names.lookup x == some .local || sc.names.lookup x == some .cell) && sc.names.all (fun p => p.2 != .free) && sc.kind == .function && !sc.isCoroutine && !sc.isGenerator

noncomputable def CodeIs (K : Frag) (cd : Value) (q : Str) : Prop := ∃ c o vs t, cd = .ref c ∧ K.lookup c = some o ∧ o.data = .fields vs ∧ vs[1]? = some (.str q t)

theorem call_fn {G : Wd} {n : Nat} {a : Addr} {o : Obj} {fd : FuncData} {body : List Stmt} {ds : List D} {d : D} (ps : List Str) (hK : G.K.lookup a = some o) (hd : o.data = .func fd) (hb : fd.body = .stmts body) (hcl : fd.closure = []) (hg : fd.globals = mainGlobals) (hbi : fd.builtins = builtinsNs)
    (hcode : CodeIs G.K fd.code fd.qualname) (hbind : ∀ vs : List Value, vs.length = ps.length → bindArgs fd ⟨vs, []⟩ = pure (ps.zip vs)) (hpar : parOk fd.scope ps = true) (hlen : ds.length = ps.length)
    (h : DoS G n fd.scope (ps.zip ds) none body (· = .ret d)) : CallOk G (n + 1) (.ref a) ds d := fun A s P vs R g hP hr => by
  simp only [parOk, Bool.and_eq_true, decide_eq_true_eq, List.all_eq_true, Bool.or_eq_true, beq_iff_eq, Bool.not_eq_true', bne_iff_ne, ne_eq] at hpar
  obtain ⟨⟨⟨⟨⟨hnd, hpk⟩, hnf⟩, hk⟩, hco⟩, hge⟩ := hpar
  have hvl : vs.length = ps.length := hr.length.trans hlen
  have nof : ∀ x, fd.scope.names.lookup x ≠ some .free := fun x hx => hnf _ (mem_of_lookup hx) rfl
  have hmap : ((ps.zip vs).map (·.1)) = ps := by
    rw [List.map_fst_zip]; omega
  have hcd : s.heap.CodeRec fd.code fd.qualname := by
    obtain ⟨c, o, vs, t, e, hc, r⟩ := hcode
    exact ⟨c, o, vs, t, e, g.k c o hc, r⟩
  have lt_of : ∀ {b}, (s.heap.get? b).isSome = true → b < s.heap.objs.size := fun h => by
    obtain ⟨o, ho⟩ := Option.isSome_iff_exists.mp h
    exact Heap.lt_size ho
  refine wpAny_call (codeAny_call_cells R.d (g.k a o hK) hd g.lim hcd hb (hbind vs hvl) hcl (fun x hx => ?_) (fun s₁ ic => ?_) hco hge hk)
  · have hx1 : x.1 ∈ ps := (List.of_mem_zip (show (x.1, x.2) ∈ _ from hx)).1
    rcases hpk _ hx1 with q | q
    · exact .inl q
    · obtain ⟨c, hc⟩ := cellsFrom_lookup_own fd.scope.names (s.heap.objs.size + 1) [] x.1 (mem_of_lookup q)
      exact .inr ⟨q, by rw [hc]; rfl⟩
  · generalize hEnv : callEnvC fd s.heap.objs.size a = env at ic ⊢
    have eL : env.locals = s.heap.objs.size := by rw [← hEnv]; rfl
    have eS : env.scope = fd.scope := by rw [← hEnv]; rfl
    have eC : env.cells = cellsFrom (s.heap.objs.size + 1) fd.scope.names [] := by rw [← hEnv]; rfl
    have eG : env.globals = mainGlobals := by rw [← hEnv]; exact hg
    have eB : env.builtins = builtinsNs := by rw [← hEnv]; exact hbi
    have kO : ∀ x, env.kindOf x = fd.scope.names.lookup x := fun x => by rw [← eS]; rfl
    have kp : Kp s s₁ := by
      obtain ⟨h', tk, e⟩ := ic.toInCall.same
      exact ⟨h', tk, e, fun b o q => by have := ic.toInCall.keep b o q; rw [e] at this; exact this⟩
    have hasC : ∀ x, fd.scope.names.lookup x = some .cell → ∃ c, env.cells.lookup x = some c := fun x hx => by
      rw [eC]; exact cellsFrom_lookup_own _ _ _ _ (mem_of_lookup hx)
    have above : ∀ x c, env.cells.lookup x = some c → s.heap.objs.size < c := fun x c hc => eL ▸ ic.above x c (mem_of_lookup hc)
    have freshC : ∀ x c, env.cells.lookup x = some c → s.heap.get? c = none := fun x c hc => get_none_of_ge (Nat.le_of_lt (above x c hc))
    have freshL : s.heap.get? env.locals = none := by rw [eL]; exact size_none s
    have h0 : ∀ {b}, s.heap.get? b = none → G.h₀.get? b = none := fun {b} hb => by
      cases e0 : G.h₀.get? b with
      | none => rfl
      | some o => have := g.ext _ _ e0; rw [hb] at this; cases this
    have y : SOk G fd.scope (fun b => P b ∧ (s.heap.get? b).isSome = true) env (ps.zip ds) none env.locals s₁ := by
      refine ⟨⟨⟨⟨by rw [eS]; exact hk, fun x hx => (kO x).trans hx, fun x hx => (kO x).trans hx, fun x hx => (kO x).trans hx, fun x hx => absurd hx (nof x), fun x hx => hx.elim (hasC x) fun q => absurd q (nof x), eG, eB⟩, g.keep kp.keep, fun b o' q => ⟨hP b o' q, by rw [g.ext b o' q]; rfl⟩, fun x c hc => ?_, fun x d' hx => ?_⟩,
        ⟨⟨_, ic.toInCall.ns⟩, fun p => not_live freshL p.2, h0 freshL, hasC, fun x c hx hc => ⟨⟨_, ic.cell x c hc⟩, fun p => not_live (freshC x c hc) p.2, h0 (freshC x c hc)⟩, fun x y c _ hx hy => name_of_addr ic.apart (mem_of_lookup hx) (mem_of_lookup hy)⟩⟩, rfl, fun b p => live_keep kp p.2⟩
      · obtain ⟨o', ho', _⟩ := ic.cell x c hc
        rw [ho']; rfl
      · obtain ⟨v, hv, rv⟩ := zip_rvs hr.live hx
        refine ⟨v, ?_, rv.tr (kp.trP _)⟩
        rcases hpk x (List.of_mem_zip hv).1 with q | q
        · exact .inl ⟨(kO x).trans q, _, ic.toInCall.ns, bindL_is _ _ _ _ _ (by rw [hmap]; exact hnd) hv ((kO x).trans q)⟩
        · obtain ⟨c, hc⟩ := hasC x q
          refine .inr ⟨.inl ((kO x).trans q), c, hc, ?_⟩
          have := ic.cell x c hc
          rwa [bindC_is _ _ _ _ _ (by rw [hmap]; exact hnd) hv ((kO x).trans q)] at this
    refine wpNo (wpAny_mono (h (A.deeper env) env _ _ s₁ R.deeper y) (fun f s' hp => ?_) fun _ _ e => e)
    obtain ⟨P', m, out⟩ := hp
    cases f with
    | ret v =>
      obtain ⟨d', e, rv⟩ := out
      cases e
      have ks : Kp s s' := (((kp.toB []).then m.kb fun b hb => .inr ?_)).toKp (by simp)
      · refine ⟨ks, rv.sub fun b p => ?_⟩
        rcases m.down b p with q | ⟨_, q⟩ | q
        · exact .inl q.1
        · exact absurd rfl q
        · exact .inr (kp.none q)
      · rcases List.mem_cons.mp hb with q | q
        · rw [q]; exact freshL
        · rcases muts_is q with q | ⟨x, _, hc⟩
          · rw [q]; exact freshL
          · exact freshC x b hc
    | next => obtain ⟨_, _, _, e, _⟩ := out; cases e
    | cont => obtain ⟨_, _, _, e, _⟩ := out; cases e
    | brk => exact out.elim

theorem bind1 {fd : FuncData} {x : Str} (h : ∀ a, bindArgs fd ⟨[a], []⟩ = pure [(x, a)]) : ∀ vs : List Value, vs.length = [x].length → bindArgs fd ⟨vs, []⟩ = pure ([x].zip vs) := fun vs hl => by
  match vs, hl with
  | [a], _ => exact h a
theorem bind2 {fd : FuncData} {x y : Str} (h : ∀ a b, bindArgs fd ⟨[a, b], []⟩ = pure [(x, a), (y, b)]) : ∀ vs : List Value, vs.length = [x, y].length → bindArgs fd ⟨vs, []⟩ = pure ([x, y].zip vs) := fun vs hl => by
  match vs, hl with
  | [a, b], _ => exact h a b
theorem bind3 {fd : FuncData} {x y z : Str} (h : ∀ a b c, bindArgs fd ⟨[a, b, c], []⟩ = pure [(x, a), (y, b), (z, c)]) : ∀ vs : List Value, vs.length = [x, y, z].length → bindArgs fd ⟨vs, []⟩ = pure ([x, y, z].zip vs) := fun vs hl => by
  match vs, hl with
  | [a, b, c], _ => exact h a b c
theorem bind4 {fd : FuncData} {x y z w : Str} (h : ∀ a b c d, bindArgs fd ⟨[a, b, c, d], []⟩ = pure [(x, a), (y, b), (z, c), (w, d)]) : ∀ vs : List Value, vs.length = [x, y, z, w].length → bindArgs fd ⟨vs, []⟩ = pure ([x, y, z, w].zip vs) := fun vs hl => by
  match vs, hl with
  | [a, b, c, d], _ => exact h a b c d
end Mine

namespace Mine

theorem Rvs.one {P h d vs} (r : Rvs P h [d] vs) : ∃ v, vs = [v] ∧ Rv P h d v := let ⟨v, r', e, a, b⟩ := r; ⟨v, by rw [e, show r' = [] from b], a⟩
theorem Rvs.two {P h d e vs} (r : Rvs P h [d, e] vs) : ∃ v w, vs = [v, w] ∧ Rv P h d v ∧ Rv P h e w := let ⟨v, r', q, a, b⟩ := r; let ⟨w, q', c⟩ := Rvs.one b; ⟨v, w, by rw [q, q'], a, c⟩

section
variable {G : Wd} {n : Nat}

theorem co_len_list {ds : List D} (hz : ds.length ≤ 16777216) : CallOk G n (.builtin "len") [.list ds] (.int ds.length) := fun A s P vs R g hP hr => by
  obtain ⟨v, rfl, a, us, rfl, pa, hp, r⟩ := hr.one
  have hl := r.length
  rw [Array.length_toList] at hl
  exact len_list (PL.is hp) (by omega) ⟨Kp.tok s _, _, by rw [hl]⟩
theorem co_len_tup {ds : List D} (hz : ds.length ≤ 16777216) : CallOk G n (.builtin "len") [.tup ds] (.int ds.length) := fun A s P vs R g hP hr => by
  obtain ⟨v, rfl, a, us, rfl, pa, hp, r⟩ := hr.one
  have hl := r.length
  rw [Array.length_toList] at hl
  exact PyProof.Rows.len_tuple hp (by omega) ⟨Kp.tok s _, _, by rw [hl]⟩
theorem co_abs {a : Int} : CallOk G n (.builtin "abs") [.int a] (.int (if a < 0 then -a else a)) := fun A s P vs R g hP hr => by
  obtain ⟨v, rfl, t, rfl⟩ := hr.one
  exact call_abs_int fun u tk => ⟨Kp.tok s _, _, rfl⟩
theorem co_max {a b : Int} : CallOk G n (.builtin "max") [.int a, .int b] (.int (if a < b then b else a)) := fun A s P vs R g hP hr => by
  obtain ⟨v, w, rfl, ⟨t, rfl⟩, u, rfl⟩ := hr.two
  refine PySem.Flt.max_two_num R.handled (.int a t) (.int b u) fun h' tk hk => ⟨Kp.of hk, ?_⟩
  show ∃ t', (if PySem.Flt.ltV (.int a t) (.int b u) = true then Value.int b u else Value.int a t) = .int (if a < b then b else a) t'
  by_cases h : a < b
  · exact ⟨u, by simp [h, PySem.Flt.ltV]⟩
  · exact ⟨t, by simp [h, PySem.Flt.ltV]⟩
theorem co_min {a b : Int} : CallOk G n (.builtin "min") [.int a, .int b] (.int (if b < a then b else a)) := fun A s P vs R g hP hr => by
  obtain ⟨v, w, rfl, ⟨t, rfl⟩, u, rfl⟩ := hr.two
  refine PySem.Flt.min_two_num R.handled (.int a t) (.int b u) fun h' tk hk => ⟨Kp.of hk, ?_⟩
  show ∃ t', (if PySem.Flt.ltV (.int b u) (.int a t) = true then Value.int b u else Value.int a t) = .int (if b < a then b else a) t'
  by_cases h : b < a
  · exact ⟨u, by simp [h, PySem.Flt.ltV]⟩
  · exact ⟨t, by simp [h, PySem.Flt.ltV]⟩
theorem co_int {a : Int} : CallOk G n (.type "int") [.int a] (.int a) := fun A s P vs R g hP hr => by
  obtain ⟨v, rfl, t, rfl⟩ := hr.one
  exact call_int_int ⟨Kp.refl s, _, rfl⟩
theorem co_sum {ns : List Int} : CallOk G n (.builtin "sum") [.list (ns.map D.int)] (.int ns.sum) := fun A s P vs R g hP hr => by
  obtain ⟨v, rfl, a, us, rfl, pa, hp, r⟩ := hr.one
  have hi := r.ints
  obtain ⟨xs, hx⟩ := hi.allInts.items
  rw [Array.toArray_toList] at hx
  have hl' : s.heap.IsList a (intItems xs) := hx ▸ PL.is hp
  refine sum_intListG R.handled hl' fun h' tk t' hk => ⟨Kp.of hk, t', ?_⟩
  have e1 : ns = xs.toList.map (·.1) := by
    rw [← nums_intItems, ← hx]; exact hi.numsOf.symm
  rw [preSum_eq, List.take_of_length_le (by simp), e1]
theorem co_list {ds : List D} (hz : ds.length ≤ 16777216) : CallOk G n (.type "list") [.list ds] (.list ds) := fun A s P vs R g hP hr => by
  obtain ⟨v, rfl, a, us, rfl, pa, ⟨c, hp⟩, r⟩ := hr.one
  have hl := r.length
  rw [Array.length_toList] at hl
  refine call_list_seq a (.inl rfl) hp rfl rfl (fun h' c' hk hD => ?_) (by show us.size ≤ 16777216; omega)
  have k : Kp s { s with heap := h' } := Kp.of (n := s.toks) hk
  exact ⟨k, _, us, rfl, .inr (size_none s), ⟨c', hD⟩, r.tr (k.tr P)⟩
theorem co_tuple {ds : List D} (hz : ds.length ≤ 16777216) : CallOk G n (.type "tuple") [.list ds] (.tup ds) := fun A s P vs R g hP hr => by
  obtain ⟨v, rfl, a, us, rfl, pa, hp, r⟩ := hr.one
  have hl := r.length
  rw [Array.length_toList] at hl
  refine call_tuple_list (PL.is hp) (fun h' hk => ?_) (by show us.size ≤ 16777216; omega)
  have k1 : Kp s { s with heap := h' } := Kp.of (n := s.toks) hk
  have k := k1.trans (Kp.push { s with heap := h' } { cls := .type "tuple", data := .seq us })
  exact ⟨k, _, us, rfl, .inr (k1.none (size_none { s with heap := h' })), ⟨_, Heap.get?_push_size _ rfl, rfl, _, rfl⟩, r.tr (k.tr P)⟩
end
end Mine

namespace Mine

/-! the text's defs -/
noncomputable def stmtAt (i : Nat) : Option Stmt := PySem.Challenge.pw_xm0133_01.main.body[i]?
noncomputable def fnBody (i : Nat) : List Stmt := match stmtAt i with
  | some (.FunctionDef _ _ b _ _ _ _ _ _ _) => b
  | _ => []
noncomputable def fnScope (i : Nat) : Scope := match stmtAt i with
  | some (.FunctionDef _ _ _ _ _ _ sc _ _ _) => sc
  | _ => default

/-- a def of the text, where it stands -/
structure FunAt (G : Wd) (x : Str) (i : Nat) (ps : List Str) : Prop where
  fn : ∃ a o fd, G.mg x = some (.ref a) ∧ G.K.lookup a = some o ∧ o.data = .func fd ∧ fd.body = .stmts (fnBody i) ∧ fd.scope = fnScope i ∧ fd.closure = [] ∧ fd.globals = mainGlobals ∧ fd.builtins = builtinsNs ∧ CodeIs G.K fd.code fd.qualname ∧
    (∀ vs : List Value, vs.length = ps.length → bindArgs fd ⟨vs, []⟩ = pure (ps.zip vs)) ∧ parOk (fnScope i) ps = true

/-- a name of the top called -/
noncomputable def CallsTo (G : Wd) (n : Nat) (x : Str) (ds : List D) (d : D) : Prop := ∃ f, GlobIs G x f ∧ Callee G f ∧ CallOk G n f ds d

section
variable {G : Wd} {n : Nat} {sc : Scope} {σ σ' : Sg} {ω ω' : Ow} {Φ Ψ : Out → Prop}

theorem FunAt.calls {x : Str} {i : Nat} {ps : List Str} {ds : List D} {d : D} (F : FunAt G x i ps) (hlen : ds.length = ps.length) (h : DoS G n (fnScope i) (ps.zip ds) none (fnBody i) (· = .ret d)) : CallsTo G (n + 1) x ds d := by
  obtain ⟨a, o, fd, hm, hK, hd, hb, hs, hcl, hg, hbi, hc, hbind, hpar⟩ := F.fn
  exact ⟨.ref a, .inl hm, ⟨o, fd, hK, hd⟩, call_fn ps hK hd hb hcl hg hbi hc hbind (hs ▸ hpar) hlen (hs ▸ h)⟩

theorem ev_callx {x px e es pos ds d} (hk : sc.names.lookup x = some .globalImplicit) (hf : CallsTo G n x ds d) (h : EvS G n sc σ (e :: es) ds)
    (hs : ∀ env, starEach (e :: es) env = (false, eval e env) :: starEach es env := by intro _; rfl)
    (hall : ∀ env, (backTo pos (starEach (e :: es) env)).any (·.1) = false := by intro _; rfl)
    (hd : (x == ("__debug__" : Str)) = false := by decide +kernel) : EvE G n sc σ (.Call (.Name x px) (e :: es) [] pos) d :=
  let ⟨_, hv, hc, ho⟩ := hf; ev_call hk hv hc h ho hs hall hd

theorem do_retS {e pos rest d} (h : EvE G n sc σ e d) (hΦ : Φ (.ret d)) : DoS G n sc σ ω (.Return (some e) pos :: rest) Φ :=
  do_cons (Ψ := (· = .ret d)) (do_ret h rfl) (fun _ _ h => nomatch h) (fun _ _ h => nomatch h) fun _ h => by cases h; exact hΦ
theorem do_retOS {x d' e pos rest d} (h : EvE G n sc ((x, d') :: σ) e d) (hΦ : Φ (.ret d)) : DoS G n sc σ (some (x, d')) (.Return (some e) pos :: rest) Φ :=
  do_cons (Ψ := (· = .ret d)) (do_retO h rfl) (fun _ _ h => nomatch h) (fun _ _ h => nomatch h) fun _ h => by cases h; exact hΦ
/-- a test that fails, with nothing else -/
theorem do_ifF {t body pos rest} (h : EvT G n sc σ t false) (hr : DoS G n sc σ ω rest Φ) : DoS G n sc σ ω (.If t body [] pos :: rest) Φ :=
  do_seq (do_if h (fun e => nomatch e) fun _ => do_nil rfl) hr

/-- one table within another -/
noncomputable def Sub (τ σ : Sg) : Prop := ∀ y d, τ.lookup y = some d → σ.lookup y = some d
theorem Sub.nil : Sub [] σ := fun _ _ h => nomatch h
theorem Sub.cons {τ : Sg} {x d} (h : σ.lookup x = some d) (r : Sub τ σ) : Sub ((x, d) :: τ) σ := fun y d' hy => by
  rw [lookup_cons] at hy
  by_cases e : y = x
  · subst e; rw [if_pos rfl] at hy; cases hy; exact h
  · rw [if_neg e] at hy; exact r y d' hy
theorem Sub.refl : Sub σ σ := fun _ _ h => h

theorem do_nilS {τ : Sg} (hs : Sub τ σ) (h : Φ (.next τ ω)) : DoS G n sc σ ω [] Φ := fun A env P oa s R y =>
  wpAny_execs_nil ⟨P, ⟨KpB.refl _ _, fun _ p => p, fun _ p => .inl p, y.live, y.has⟩, τ, ω, oa, h, y.weaken hs, own_stays y⟩
theorem do_contS {τ : Sg} {pos rest} (hs : Sub τ σ) (h : Φ (.cont τ ω)) : DoS G n sc σ ω (.Continue pos :: rest) Φ :=
  do_cons (Ψ := (· = .cont τ ω)) ((do_cont (Φ := (· = .cont τ ω)) rfl : Do1 G n sc τ ω (.Continue pos) _).less hs) (fun _ _ h => nomatch h) (fun _ _ e => by cases e; exact h) fun _ h => nomatch h
theorem do_onlyS {st rest} {τ : Sg} {ω'} (hs : Sub τ σ) (h : Do1 G n sc τ ω st (· = .next σ' ω')) (hr : DoS G n sc σ' ω' rest Φ) : DoS G n sc σ ω (st :: rest) Φ := do_seq (h.less hs) hr

theorem Do1.out {st} (h : Do1 G n sc σ ω st Ψ) (hn : ∀ σ' ω', Ψ (.next σ' ω') → ∃ τ, Sub τ σ' ∧ Φ (.next τ ω')) (hc : ∀ σ' ω', Ψ (.cont σ' ω') → ∃ τ, Sub τ σ' ∧ Φ (.cont τ ω')) (hr : ∀ d, Ψ (.ret d) → Φ (.ret d)) : Do1 G n sc σ ω st Φ := fun A env P oa s R y =>
  wpAny_mono (h A env P oa s R y) (fun f s' hp => by
    obtain ⟨P', m, out⟩ := hp
    refine ⟨P', m, ?_⟩
    cases f with
    | next => obtain ⟨σ', ω', a, h1, h2, h3⟩ := out; obtain ⟨τ, hs, hΦ⟩ := hn _ _ h1; exact ⟨τ, ω', a, hΦ, h2.weaken hs, h3⟩
    | cont => obtain ⟨σ', ω', a, h1, h2, h3⟩ := out; obtain ⟨τ, hs, hΦ⟩ := hc _ _ h1; exact ⟨τ, ω', a, hΦ, h2.weaken hs, h3⟩
    | brk => exact out
    | ret v => obtain ⟨d, h1, h2⟩ := out; exact ⟨d, hr _ h1, h2⟩) fun _ _ e => e

theorem Sub.bind {x d} {τ : Sg} (h : Sub τ σ) : Sub ((x, d) :: τ) ((x, d) :: σ) := fun y d' hy => by
  rw [lookup_cons] at hy ⊢
  by_cases e : y = x
  · rw [if_pos e] at hy ⊢; exact hy
  · rw [if_neg e] at hy ⊢; exact h y d' hy
theorem bindS_sub : ∀ {es : List Expr} {ds : List D} {τ σ τ' : Sg}, Sub τ σ → bindS es ds τ = some τ' → ∃ σ', bindS es ds σ = some σ' ∧ Sub τ' σ'
  | [], [], τ, σ, τ', h, e => by simp only [bindS, Option.some.injEq] at e; subst e; exact ⟨σ, rfl, h⟩
  | e :: es, ds, τ, σ, τ', h, hb => by
    obtain ⟨x, p, d, r, rfl, rfl, hb⟩ := bindS_cons hb
    exact bindS_sub (σ := (x, d) :: σ) h.bind hb
  | [], d :: ds, _, _, _, _, e => by simp [bindS] at e
theorem bindTo_sub {tgt : Expr} {d : D} {τ τ' : Sg} (h : Sub τ σ) (hb : bindTo tgt d τ = some τ') : ∃ σ', bindTo tgt d σ = some σ' ∧ Sub τ' σ' := by
  unfold bindTo at hb ⊢
  split at hb
  · simp only [Option.some.injEq] at hb; subst hb; exact ⟨_, rfl, h.bind⟩
  · exact bindS_sub h hb
  · cases hb

/-- loops with a state of one's own -/
theorem do_forN {α : Type} {tgt iter : Expr} {body : List Stmt} {pos : Pos} {items : List D} (τ : α → Sg) (o : α → Ow) (I : List D → α → Prop) (a₀ : α) (hit : EvIt G n sc σ iter tgt items) (hσ : Sub (τ a₀) σ) (hω : ω = o a₀) (h0 : I items a₀)
    (hstep : ∀ d rest a, I (d :: rest) a → ∃ σb, bindTo tgt d (τ a) = some σb ∧ namesT (okS sc (o a)) tgt = true ∧ DoS G n sc σb (o a) body (Turn (fun σ' ω' => ∃ a', σ' = τ a' ∧ ω' = o a' ∧ I rest a') (fun _ => False)))
    (hf : ∀ env x, foldedSetIterable iter env x = pure x := by intro _ _; rfl) : Do1 G n sc σ ω (.For tgt iter body [] pos) (fun r => ∃ a, I [] a ∧ r = .next (τ a) (o a)) := by
  subst hω
  have hT : ∀ {rest : List D} {r}, Turn (fun σ' ω' => ∃ a', σ' = τ a' ∧ ω' = o a' ∧ I rest a') (fun _ => False) r → Turn (fun σ' ω' => ∃ a, Sub (τ a) σ' ∧ ω' = o a ∧ I rest a) (fun r => ∃ σ' a, Sub (τ a) σ' ∧ I [] a ∧ r = .next σ' (o a)) r := fun {rest r} h => match r, h with
    | .next _ _, ⟨a, e1, e2, e3⟩ => ⟨a, e1 ▸ Sub.refl, e2, e3⟩
    | .cont _ _, ⟨a, e1, e2, e3⟩ => ⟨a, e1 ▸ Sub.refl, e2, e3⟩
  have h := do_for (n := n) (sc := sc) (pos := pos) (body := body) (Φ := fun r => ∃ σ' a, Sub (τ a) σ' ∧ I [] a ∧ r = .next σ' (o a)) (fun l σ' ω' => ∃ a, Sub (τ a) σ' ∧ ω' = o a ∧ I l a) hit ⟨a₀, hσ, rfl, h0⟩ (fun d rest σi ωi hI => by
      obtain ⟨a, hs, rfl, hi⟩ := hI
      obtain ⟨σb, hb, hn, hd⟩ := hstep d rest a hi
      obtain ⟨σ', hb', hs'⟩ := bindTo_sub hs hb
      exact ⟨σ', hb', hn, (hd.less hs').mono fun r => hT⟩) (fun σi ωi ⟨a, hs, e, hi⟩ => ⟨σi, a, hs, hi, by rw [e]⟩) hf
  refine h.out (fun σ' ω' ⟨σ'', a, hs, hi, e⟩ => ?_) (fun σ' ω' ⟨_, _, _, _, e⟩ => nomatch e) fun d ⟨_, _, _, _, e⟩ => nomatch e
  cases e
  exact ⟨τ a, hs, a, hi, rfl⟩

theorem do_whileN {α : Type} {t : Expr} {body : List Stmt} {pos : Pos} (τ : α → Sg) (o : α → Ow) (I : Nat → α → Prop) (k₀ : Nat) (a₀ : α) (hσ : Sub (τ a₀) σ) (hω : ω = o a₀) (h0 : I k₀ a₀)
    (hstep : ∀ k a, I k a → ∃ b, EvT G n sc (τ a) t b ∧ (b = true → DoS G n sc (τ a) (o a) body (Turn (fun σ' ω' => ∃ m a', m < k ∧ σ' = τ a' ∧ ω' = o a' ∧ I m a') (fun _ => False))) ∧ (b = false → Φ (.next (τ a) (o a)))) :
    Do1 G n sc σ ω (.While t body [] pos) (fun r => Φ r ∧ ∃ σ' ω', r = .next σ' ω') := by
  subst hω
  refine Do1.less (σ' := τ a₀) ?_ hσ
  refine do_while (fun k σ' ω' => ∃ a, σ' = τ a ∧ ω' = o a ∧ I k a) k₀ ⟨a₀, rfl, rfl, h0⟩ fun k σi ωi hI => ?_
  obtain ⟨a, rfl, rfl, hi⟩ := hI
  obtain ⟨b, h1, h2, h3⟩ := hstep k a hi
  refine ⟨b, h1, fun e => (h2 e).mono fun r h => ?_, fun e => ⟨h3 e, _, _, rfl⟩⟩
  match r, h with
  | .next _ _, ⟨m, a', hm, e1, e2, e3⟩ => exact ⟨m, hm, a', e1, e2, e3⟩
  | .cont _ _, ⟨m, a', hm, e1, e2, e3⟩ => exact ⟨m, hm, a', e1, e2, e3⟩

theorem do_whileE {α : Type} {t : Expr} {body : List Stmt} {pos : Pos} {σ₁ : Sg} {ω₁ : Ow} (τ : α → Sg) (o : α → Ow) (I : Nat → α → Prop) (k₀ : Nat) (a₀ : α) (hσ : Sub (τ a₀) σ) (hω : ω = o a₀) (h0 : I k₀ a₀)
    (hstep : ∀ k a, I k a → ∃ b, EvT G n sc (τ a) t b ∧ (b = true → DoS G n sc (τ a) (o a) body (Turn (fun σ' ω' => ∃ m a', m < k ∧ σ' = τ a' ∧ ω' = o a' ∧ I m a') (fun _ => False))) ∧ (b = false → τ a = σ₁ ∧ o a = ω₁)) :
    Do1 G n sc σ ω (.While t body [] pos) (· = .next σ₁ ω₁) :=
  (do_whileN (Φ := (· = .next σ₁ ω₁)) τ o I k₀ a₀ hσ hω h0 fun k a h => let ⟨b, h1, h2, h3⟩ := hstep k a h; ⟨b, h1, h2, fun e => by rw [(h3 e).1, (h3 e).2]⟩).mono fun _ h => h.1

theorem do_forE {α : Type} {tgt iter : Expr} {body : List Stmt} {pos : Pos} {items : List D} {σ₁ : Sg} {ω₁ : Ow} (τ : α → Sg) (o : α → Ow) (I : List D → α → Prop) (a₀ : α) (hit : EvIt G n sc σ iter tgt items) (hσ : Sub (τ a₀) σ) (hω : ω = o a₀) (h0 : I items a₀)
    (hstep : ∀ d rest a, I (d :: rest) a → ∃ σb, bindTo tgt d (τ a) = some σb ∧ namesT (okS sc (o a)) tgt = true ∧ DoS G n sc σb (o a) body (Turn (fun σ' ω' => ∃ a', σ' = τ a' ∧ ω' = o a' ∧ I rest a') (fun _ => False)))
    (hend : ∀ a, I [] a → τ a = σ₁ ∧ o a = ω₁) (hf : ∀ env x, foldedSetIterable iter env x = pure x := by intro _ _; rfl) : Do1 G n sc σ ω (.For tgt iter body [] pos) (· = .next σ₁ ω₁) :=
  (do_forN τ o I a₀ hit hσ hω h0 hstep hf).mono fun r ⟨a, hi, e⟩ => by rw [e, (hend a hi).1, (hend a hi).2]
end

/-! rationals and lists as data -/
noncomputable abbrev nm (s : String) : Str := Str.ofString s
/-- a ratio that is whole -/
noncomputable def dz (z : Int) : D := .tup [.int z, .int 1]
noncomputable def dzs (l : List Int) : D := .list (l.map dz)
noncomputable def dis (l : List Int) : D := .list (l.map D.int)

/-- what the text's defs find: the built-ins' names -/
structure Names (G : Wd) : Prop where
  len : GlobIs G (Str.ofString "len") (.builtin "len")
  abs : GlobIs G (Str.ofString "abs") (.builtin "abs")
  max : GlobIs G (Str.ofString "max") (.builtin "max")
  min : GlobIs G (Str.ofString "min") (.builtin "min")
  sum : GlobIs G (Str.ofString "sum") (.builtin "sum")
  range : GlobIs G (Str.ofString "range") (.type "range")
  enum : GlobIs G (Str.ofString "enumerate") (.type "enumerate")
  zip : GlobIs G (Str.ofString "zip") (.type "zip")
  int : GlobIs G (Str.ofString "int") (.type "int")
  list : GlobIs G (Str.ofString "list") (.type "list")
  tuple : GlobIs G (Str.ofString "tuple") (.type "tuple")

section
variable {G : Wd} {n : Nat}
theorem Names.cLen (N : Names G) {ds : List D} (hz : ds.length ≤ 16777216) : CallsTo G n (Str.ofString "len") [.list ds] (.int ds.length) := ⟨_, N.len, trivial, co_len_list hz⟩
theorem Names.cLenT (N : Names G) {ds : List D} (hz : ds.length ≤ 16777216) : CallsTo G n (Str.ofString "len") [.tup ds] (.int ds.length) := ⟨_, N.len, trivial, co_len_tup hz⟩
theorem Names.cAbs (N : Names G) {a : Int} : CallsTo G n (Str.ofString "abs") [.int a] (.int (if a < 0 then -a else a)) := ⟨_, N.abs, trivial, co_abs⟩
theorem Names.cMax (N : Names G) {a b : Int} : CallsTo G n (Str.ofString "max") [.int a, .int b] (.int (if a < b then b else a)) := ⟨_, N.max, trivial, co_max⟩
theorem Names.cMin (N : Names G) {a b : Int} : CallsTo G n (Str.ofString "min") [.int a, .int b] (.int (if b < a then b else a)) := ⟨_, N.min, trivial, co_min⟩
theorem Names.cSum (N : Names G) {l : List Int} : CallsTo G n (Str.ofString "sum") [dis l] (.int l.sum) := ⟨_, N.sum, trivial, co_sum⟩
theorem Names.cInt (N : Names G) {a : Int} : CallsTo G n (Str.ofString "int") [.int a] (.int a) := ⟨_, N.int, trivial, co_int⟩
theorem Names.cList (N : Names G) {ds : List D} (hz : ds.length ≤ 16777216) : CallsTo G n (Str.ofString "list") [.list ds] (.list ds) := ⟨_, N.list, trivial, co_list hz⟩
theorem Names.cTuple (N : Names G) {ds : List D} (hz : ds.length ≤ 16777216) : CallsTo G n (Str.ofString "tuple") [.list ds] (.tup ds) := ⟨_, N.tuple, trivial, co_tuple hz⟩
end

theorem ev_tupS {G : Wd} {n : Nat} {sc : Scope} {σ : Sg} {es k pos ds} (h : EvS G n sc σ es ds) (hz : ds.length ≤ 16777216 := by simp) : EvE G n sc σ (.Tuple es k pos) (.tup ds) := ev_tup h hz
theorem ev_listS {G : Wd} {n : Nat} {sc : Scope} {σ : Sg} {es pos ds} (h : EvS G n sc σ es ds) (hz : ds.length ≤ 16777216 := by simp) : EvE G n sc σ (.List es pos) (.list ds) := ev_list h hz
theorem ev_cast {G : Wd} {n : Nat} {sc : Scope} {σ : Sg} {e : Expr} {d d' : D} (h : EvE G n sc σ e d) (hd : d = d') : EvE G n sc σ e d' := hd ▸ h
theorem evt_of {G : Wd} {n : Nat} {sc : Scope} {σ : Sg} {e : Expr} {b : Bool} (h : EvE G n sc σ e (.bool b)) (hs : ∀ env whole, isTrue e env whole = whole >>= fun v => standAt e.pos >>= fun _ => holding [v] (truthy v) := by intro _ _; rfl) : EvT G n sc σ e b := fun A env P s R y => by
  rw [hs]
  refine wpAny_bind (wpAny_mono (h A env P s R y) (fun v s₁ q => ?_) fun _ _ x => x)
  obtain ⟨k, rfl⟩ := q
  exact wpAny_bind (wpAny_standAt (wpAny_holding (wpAny_truthy_bool ⟨rfl, k⟩)))
end Mine

namespace Mine

/-! gcd -/
noncomputable def gcdF : Nat → Int → Int → Option Int
  | 0, _, _ => none
  | k + 1, a, b => if b = 0 then some a else gcdF k b (a.fmod b)
noncomputable def absI (a : Int) : Int := if a < 0 then -a else a

section
variable {G : Wd} {n : Nat}

theorem c_gcd (N : Names G) (F : FunAt G (nm "gcd") 6 [(nm "a"), (nm "b")]) {k : Nat} {a b r : Int} (h : gcdF k (absI a) (absI b) = some r) : CallsTo G (n + 1) (nm "gcd") [.int a, .int b] (.int r) := by
  refine F.calls rfl ?_
  refine do_seq (do_swap (d1 := .int (absI a)) (d2 := .int (absI b)) (ev_tupS (evs_cons (ev_callx (by decide +kernel) N.cAbs (evs_cons (ev_var (by rfl)) evs_nil)) (evs_cons (ev_callx (by decide +kernel) N.cAbs (evs_cons (ev_var (by rfl)) evs_nil)) evs_nil))) (by decide +kernel) (by decide +kernel) rfl rfl (by decide +kernel) rfl rfl rfl rfl rfl) ?_
  refine do_seq (do_whileE (σ₁ := [((nm "a"), .int r), ((nm "b"), .int 0)]) (ω₁ := none) (fun p : Int × Int => [((nm "a"), .int p.1), ((nm "b"), .int p.2)]) (fun _ => none) (fun k p => gcdF k p.1 p.2 = some r) k (absI a, absI b) (by repeat first | exact Sub.nil | refine Sub.cons (by rfl) ?_) rfl h ?_) ?_
  · rintro k ⟨a, b⟩ h
    cases k with
    | zero => cases h
    | succ k =>
      refine ⟨_, evt_cmp (ev_var (by rfl)) ev_int ne_ii, fun hb => ?_, fun hb => ?_⟩
      · have hne : b ≠ 0 := by simpa using hb
        have h' : gcdF k b (a.fmod b) = some r := by simpa [gcdF, hne] using h
        refine do_seq (do_swap (d1 := .int b) (d2 := .int (a.fmod b)) (ev_tupS (evs_cons (ev_var (by rfl)) (evs_cons (ev_bin (ev_var (by rfl)) (ev_var (by rfl)) (mod_ii hne)) evs_nil))) (by decide +kernel) (by decide +kernel) rfl rfl (by decide +kernel) rfl rfl rfl rfl rfl) ?_
        exact do_nilS (τ := [((nm "a"), .int b), ((nm "b"), .int (a.fmod b))]) (by repeat first | exact Sub.nil | refine Sub.cons (by rfl) ?_) ⟨k, (b, a.fmod b), Nat.lt_succ_self k, rfl, rfl, h'⟩
      · have hz : b = 0 := by simpa using hb
        subst hz
        have h' : a = r := by simpa [gcdF] using h
        subst h'
        exact ⟨rfl, rfl⟩
  · exact do_retS (ev_var (by rfl)) rfl

theorem absI_nat (a : Int) : absI a = (a.natAbs : Int) := by unfold absI; split <;> omega
theorem gcd_one {t u : Int} (h : absI u = 1) : gcdF 3 (absI t) (absI u) = some 1 := by
  have e : (absI t).fmod 1 = 0 := by rw [Int.fmod_eq_emod_of_nonneg _ (by decide)]; exact Int.emod_one _
  rw [h]; simp [gcdF, e]

theorem fdiv_one {t : Int} : BinOk G n .FloorDiv (.int t) (.int 1) (.int t) := by
  have h : BinOk G n .FloorDiv (.int t) (.int 1) (.int (t.fdiv 1)) := fdiv_ii (by decide) (by decide)
  rwa [Int.fdiv_one] at h
theorem fdiv_mone {t : Int} : BinOk G n .FloorDiv (.int t) (.int (-1)) (.int (-t)) := by
  have h : BinOk G n .FloorDiv (.int t) (.int (-1)) (.int (t.fdiv (-1))) := fdiv_ii (by decide) (by decide)
  have e : t.fdiv (-1) = -t := by
    rw [Int.fdiv_eq_ediv, if_pos (by simp)]; simp
  rwa [e] at h

/-- the text's ratios -/
structure Rats (G : Wd) : Prop where
  gcd : FunAt G (nm "gcd") 6 [(nm "a"), (nm "b")]
  rat : FunAt G (nm "rat") 12 [(nm "top"), (nm "bottom")]
  radd : FunAt G (nm "radd") 13 [(nm "a"), (nm "b")]
  rsub : FunAt G (nm "rsub") 14 [(nm "a"), (nm "b")]
  rmul : FunAt G (nm "rmul") 15 [(nm "a"), (nm "b")]
  rdiv : FunAt G (nm "rdiv") 16 [(nm "a"), (nm "b")]
  rneg : FunAt G (nm "rneg") 17 [(nm "a")]
  vast : FunAt G (nm "is_vast") 18 [(nm "a")]
  let_ : FunAt G (nm "let") 28 [(nm "number")]

theorem c_rat1 (N : Names G) (F : Rats G) {t : Int} : CallsTo G (n + 2) (nm "rat") [.int t, .int 1] (dz t) := by
  refine F.rat.calls rfl ?_
  refine do_ifF (evt_cmp (ev_var (by rfl)) ev_int eq_ii) ?_
  refine do_seq (do_assign (d := .int 1) (ev_if (evt_cmp (ev_var (by rfl)) ev_int gt_ii) (fun _ => ev_callx (by decide +kernel) (c_gcd N F.gcd (gcd_one (t := t) (u := 1) rfl)) (evs_cons (ev_var (by rfl)) (evs_cons (ev_var (by rfl)) evs_nil))) (fun h => by simp at h)) (by decide +kernel) rfl) ?_
  exact do_retS (ev_tupS (evs_cons (ev_bin (ev_var (by rfl)) (ev_var (by rfl)) fdiv_one) (evs_cons (ev_bin (ev_var (by rfl)) (ev_var (by rfl)) fdiv_one) evs_nil))) rfl
theorem c_ratm (N : Names G) (F : Rats G) {t : Int} : CallsTo G (n + 2) (nm "rat") [.int t, .int (-1)] (dz (-t)) := by
  refine F.rat.calls rfl ?_
  refine do_ifF (evt_cmp (ev_var (by rfl)) ev_int eq_ii) ?_
  refine do_seq (do_assign (d := .int (-1)) (ev_if (evt_cmp (ev_var (by rfl)) ev_int gt_ii) (fun h => by simp at h) (fun _ => ev_bin ev_int (ev_callx (by decide +kernel) (c_gcd N F.gcd (gcd_one (t := t) (u := -1) rfl)) (evs_cons (ev_var (by rfl)) (evs_cons (ev_var (by rfl)) evs_nil))) sub_ii)) (by decide +kernel) rfl) ?_
  exact do_retS (ev_tupS (evs_cons (ev_bin (ev_var (by rfl)) (ev_var (by rfl)) fdiv_mone) (evs_cons (ev_bin (ev_var (by rfl)) (ev_var (by rfl)) fdiv_mone) evs_nil))) rfl

theorem at0 {sc : Scope} {σ : Sg} {x px k p pos z} (h : σ.lookup x = some (dz z)) (hd : (x == ("__debug__" : Str)) = false := by decide +kernel) (hc : (x == ("__classdict__" : Str)) = false := by decide +kernel) : EvE G n sc σ (.Subscript (.Name x px) (.Constant (.int 0) k p) pos) (.int z) :=
  ev_sub (ev_var h hd hc) ev_int (get_tup (by decide) rfl (by decide))
theorem at1 {sc : Scope} {σ : Sg} {x px k p pos z} (h : σ.lookup x = some (dz z)) (hd : (x == ("__debug__" : Str)) = false := by decide +kernel) (hc : (x == ("__classdict__" : Str)) = false := by decide +kernel) : EvE G n sc σ (.Subscript (.Name x px) (.Constant (.int 1) k p) pos) (.int 1) :=
  ev_sub (ev_var h hd hc) ev_int (get_tup (by decide) rfl (by decide))

theorem mul_l1 {a : Int} : BinOk G n .Mult (.int a) (.int 1) (.int a) := by
  have h : BinOk G n .Mult (.int a) (.int 1) (.int (a * 1)) := mul_ii (.inr (by decide))
  rwa [Int.mul_one] at h

theorem c_radd (N : Names G) (F : Rats G) {a b : Int} : CallsTo G (n + 3) (nm "radd") [dz a, dz b] (dz (a + b)) := by
  refine F.radd.calls rfl (do_retS (ev_callx (by decide +kernel) (c_rat1 N F) (evs_cons (ev_bin (ev_bin (at0 (by rfl)) (at1 (by rfl)) mul_l1) (ev_bin (at0 (by rfl)) (at1 (by rfl)) mul_l1) add_ii) (evs_cons (ev_bin (at1 (by rfl)) (at1 (by rfl)) mul_l1) evs_nil))) rfl)
theorem c_rsub (N : Names G) (F : Rats G) {a b : Int} : CallsTo G (n + 3) (nm "rsub") [dz a, dz b] (dz (a - b)) := by
  refine F.rsub.calls rfl (do_retS (ev_callx (by decide +kernel) (c_rat1 N F) (evs_cons (ev_bin (ev_bin (at0 (by rfl)) (at1 (by rfl)) mul_l1) (ev_bin (at0 (by rfl)) (at1 (by rfl)) mul_l1) sub_ii) (evs_cons (ev_bin (at1 (by rfl)) (at1 (by rfl)) mul_l1) evs_nil))) rfl)
theorem c_rmul (N : Names G) (F : Rats G) {a b : Int} (h : Sm a ∨ Sm b) : CallsTo G (n + 3) (nm "rmul") [dz a, dz b] (dz (a * b)) := by
  refine F.rmul.calls rfl (do_retS (ev_callx (by decide +kernel) (c_rat1 N F) (evs_cons (ev_bin (at0 (by rfl)) (at0 (by rfl)) (mul_ii h)) (evs_cons (ev_bin (at1 (by rfl)) (at1 (by rfl)) mul_l1) evs_nil))) rfl)
theorem mul_1l {b : Int} : BinOk G n .Mult (.int 1) (.int b) (.int b) := by
  have h : BinOk G n .Mult (.int 1) (.int b) (.int (1 * b)) := mul_ii (.inl (by decide))
  rwa [Int.one_mul] at h
theorem c_rdiv (N : Names G) (F : Rats G) {a b : Int} (h : b = 1 ∨ b = -1) : CallsTo G (n + 3) (nm "rdiv") [dz a, dz b] (dz (a * b)) := by
  rcases h with rfl | rfl
  · rw [Int.mul_one]
    exact F.rdiv.calls rfl (do_retS (ev_callx (by decide +kernel) (c_rat1 N F) (evs_cons (ev_bin (at0 (by rfl)) (at1 (by rfl)) mul_l1) (evs_cons (ev_bin (at1 (by rfl)) (at0 (by rfl)) mul_l1) evs_nil))) rfl)
  · rw [show a * -1 = -a by omega]
    exact F.rdiv.calls rfl (do_retS (ev_callx (by decide +kernel) (c_ratm N F) (evs_cons (ev_bin (at0 (by rfl)) (at1 (by rfl)) mul_l1) (evs_cons (ev_bin (at1 (by rfl)) (at0 (by rfl)) mul_1l) evs_nil))) rfl)
theorem c_rneg (N : Names G) (F : Rats G) {a : Int} : CallsTo G (n + 1) (nm "rneg") [dz a] (dz (-a)) := by
  rw [show -a = 0 - a by omega]
  exact F.rneg.calls rfl (do_retS (ev_tupS (evs_cons (ev_bin ev_int (at0 (by rfl)) sub_ii) (evs_cons (at1 (by rfl)) evs_nil))) rfl)

theorem c_vast (N : Names G) (F : Rats G) {a : Int} (h : Sm a) : CallsTo G (n + 1) (nm "is_vast") [dz a] (.bool false) := by
  refine F.vast.calls rfl ?_
  refine do_seq (do_assign (ev_callx (by decide +kernel) N.cMax (evs_cons (ev_callx (by decide +kernel) N.cAbs (evs_cons (at0 (by rfl)) evs_nil)) (evs_cons (at1 (by rfl)) evs_nil))) (by decide +kernel) rfl) ?_
  have e : (decide ((2 : Int) ^ (64 : Int).toNat ≤ (if (if a < 0 then -a else a) < 1 then 1 else if a < 0 then -a else a))) = false := by
    obtain ⟨h1, h2⟩ := h
    rw [show ((2 : Int) ^ (64 : Int).toNat) = 18446744073709551616 from rfl]
    simp only [decide_eq_false_iff_not]
    split <;> split <;> omega
  refine do_retS (ev_and (a := false) (b := false) ?_ (fun h => nomatch h)) rfl
  exact ev_cast (ev_cmp (ev_var (by rfl)) (ev_bin ev_int ev_int (pow_ii (by decide) (by decide +kernel))) ge_ii) (by rw [e])

theorem c_let (N : Names G) (F : Rats G) {a : Int} (h : Sm a) : CallsTo G (n + 2) (nm "let") [dz a] (dz a) := by
  refine F.let_.calls rfl ?_
  refine do_ifF (evt_of (ev_callx (by decide +kernel) (c_vast N F h) (evs_cons (ev_var (by rfl)) evs_nil))) ?_
  exact do_retS (ev_var (by rfl)) rfl

/-- the ratios 0 and 1 -/
structure Consts (G : Wd) : Prop where
  r0 : ∃ v, GlobIs G (nm "R0") v ∧ ∀ P h, GOk G h → (∀ a o, G.h₀.get? a = some o → P a) → Rv P h (dz 0) v
  r1 : ∃ v, GlobIs G (nm "R1") v ∧ ∀ P h, GOk G h → (∀ a o, G.h₀.get? a = some o → P a) → Rv P h (dz 1) v
theorem Consts.ev0 (C : Consts G) {sc : Scope} {σ : Sg} {pos} (hk : sc.names.lookup (nm "R0") = some .globalImplicit) : EvE G n sc σ (.Name (nm "R0") pos) (dz 0) := let ⟨_, hv, h⟩ := C.r0; ev_const hk hv h
theorem Consts.ev1 (C : Consts G) {sc : Scope} {σ : Sg} {pos} (hk : sc.names.lookup (nm "R1") = some .globalImplicit) : EvE G n sc σ (.Name (nm "R1") pos) (dz 1) := let ⟨_, hv, h⟩ := C.r1; ev_const hk hv h
end
end Mine

namespace Mine

/-! folds and maps that may fail -/
noncomputable def foldO {α β : Type} (f : α → β → Option α) : α → List β → Option α
  | s, [] => some s
  | s, x :: xs => match f s x with
    | some s' => foldO f s' xs
    | none => none
noncomputable def mapO {α β : Type} (g : α → Option β) : List α → Option (List β)
  | [] => some []
  | x :: xs => match g x with
    | some y => match mapO g xs with
      | some ys => some (y :: ys)
      | none => none
    | none => none
noncomputable def grd {α : Type} (b : Bool) (o : Option α) : Option α := match b with
  | true => o
  | false => none

theorem foldO_cons {α β : Type} {f : α → β → Option α} {s : α} {x : β} {xs : List β} {r : α} (h : foldO f s (x :: xs) = some r) : ∃ s', f s x = some s' ∧ foldO f s' xs = some r := by
  unfold foldO at h
  cases e : f s x with
  | none => rw [e] at h; cases h
  | some s' => rw [e] at h; exact ⟨s', rfl, h⟩
theorem mapO_cons {α β : Type} {g : α → Option β} {x : α} {xs : List α} {r : List β} (h : mapO g (x :: xs) = some r) : ∃ y ys, g x = some y ∧ mapO g xs = some ys ∧ r = y :: ys := by
  unfold mapO at h
  cases e : g x with
  | none => rw [e] at h; cases h
  | some y => rw [e] at h; cases e2 : mapO g xs with
    | none => rw [e2] at h; cases h
    | some ys => rw [e2] at h; cases h; exact ⟨y, ys, rfl, rfl, rfl⟩
theorem mapO_len {α β : Type} {g : α → Option β} : ∀ {l : List α} {r : List β}, mapO g l = some r → r.length = l.length
  | [], r, h => by cases h; rfl
  | x :: xs, r, h => by obtain ⟨y, ys, _, h2, rfl⟩ := mapO_cons h; rw [List.length_cons, List.length_cons, mapO_len h2]
theorem grd_some {α : Type} {b : Bool} {o : Option α} {r : α} (h : grd b o = some r) : b = true ∧ o = some r := by
  cases b with
  | true => exact ⟨rfl, h⟩
  | false => cases h
theorem bind_some {α β : Type} {o : Option α} {f : α → Option β} {r : β} (h : o.bind f = some r) : ∃ x, o = some x ∧ f x = some r := by
  cases o with
  | none => cases h
  | some x => exact ⟨x, rfl, h⟩

section
variable {G : Wd} {n : Nat} {sc : Scope} {σ σ' : Sg} {ω ω' : Ow} {Φ Ψ : Out → Prop}

theorem do_forL {α β : Type} {tgt iter : Expr} {body : List Stmt} {pos : Pos} (l : List β) (enc : β → D) (τ : α → Sg) (o : α → Ow) (f : α → β → Option α) (a₀ r : α) (hit : EvIt G n sc σ iter tgt (l.map enc)) (hσ : Sub (τ a₀) σ) (hω : ω = o a₀) (h0 : foldO f a₀ l = some r)
    (hstep : ∀ b ∈ l, ∀ s s', f s b = some s' → ∃ σb, bindTo tgt (enc b) (τ s) = some σb ∧ namesT (okS sc (o s)) tgt = true ∧ DoS G n sc σb (o s) body (Turn (fun σ' ω' => σ' = τ s' ∧ ω' = o s') (fun _ => False)))
    (hf : ∀ env x, foldedSetIterable iter env x = pure x := by intro _ _; rfl) : Do1 G n sc σ ω (.For tgt iter body [] pos) (· = .next (τ r) (o r)) := by
  refine do_forE τ o (fun items a => ∃ l', items = l'.map enc ∧ (∀ b ∈ l', b ∈ l) ∧ foldO f a l' = some r) a₀ hit hσ hω ⟨l, rfl, fun _ h => h, h0⟩ (fun d rest a hI => ?_) (fun a hI => ?_) hf
  · obtain ⟨l', e, hm, hr⟩ := hI
    cases l' with
    | nil => cases e
    | cons b l' =>
      rw [List.map_cons] at e
      injection e with e1 e2
      subst e1 e2
      obtain ⟨s', h1, h2⟩ := foldO_cons hr
      obtain ⟨σb, hb, hn, hd⟩ := hstep b (hm b List.mem_cons_self) a s' h1
      refine ⟨σb, hb, hn, hd.mono fun r h => ?_⟩
      match r, h with
      | .next _ _, ⟨e1, e2⟩ => exact ⟨s', e1, e2, l', rfl, fun b hb => hm b (List.mem_cons_of_mem _ hb), h2⟩
      | .cont _ _, ⟨e1, e2⟩ => exact ⟨s', e1, e2, l', rfl, fun b hb => hm b (List.mem_cons_of_mem _ hb), h2⟩
  · obtain ⟨l', e, hm, hr⟩ := hI
    cases l' with
    | nil => cases hr; exact ⟨rfl, rfl⟩
    | cons b l' => cases e

/-- over a range -/
theorem do_forR {α : Type} {x : Str} {px : Pos} {iter : Expr} {body : List Stmt} {pos : Pos} (a : Int) (k : Nat) (τ : α → Sg) (o : α → Ow) (f : α → Nat → Option α) (a₀ r : α) (hit : EvIt G n sc σ iter (.Name x px) (rng a k)) (hσ : Sub (τ a₀) σ) (hω : ω = o a₀) (h0 : foldO f a₀ (List.range k) = some r) (hok : ∀ s, okS sc (o s) x = true)
    (hstep : ∀ i, i < k → ∀ s s', f s i = some s' → DoS G n sc ((x, .int (a + (i : Int))) :: τ s) (o s) body (Turn (fun σ' ω' => σ' = τ s' ∧ ω' = o s') (fun _ => False)))
    (hf : ∀ env x, foldedSetIterable iter env x = pure x := by intro _ _; rfl) : Do1 G n sc σ ω (.For (.Name x px) iter body [] pos) (· = .next (τ r) (o r)) :=
  do_forL (List.range k) (fun (i : Nat) => D.int (a + i)) τ o f a₀ r hit hσ hω h0 (fun i hi s s' h => ⟨_, rfl, hok s, hstep i (List.mem_range.mp hi) s s' h⟩) hf

/-- a comprehension over what may fail -/
theorem cr_mapO {α β : Type} {tgt elt : Expr} (g : α → Option β) (ei : α → D) (eo : β → D) : ∀ (l : List α) (ys : List β), mapO g l = some ys → (∀ a ∈ l, ∀ y, g a = some y → ∃ σd, bindTo tgt (ei a) σ = some σd ∧ EvE G n sc σd elt (eo y)) → CR G n sc σ tgt elt [] (l.map ei) (ys.map eo)
  | [], ys, h, _ => by cases h; exact .nil
  | a :: l, ys, h, hs => by
    obtain ⟨y, ys', h1, h2, rfl⟩ := mapO_cons h
    obtain ⟨σd, hb, he⟩ := hs a List.mem_cons_self y h1
    exact .take hb rfl he (cr_mapO g ei eo l ys' h2 fun b hb => hs b (List.mem_cons_of_mem _ hb))
theorem cr_rangeO {β : Type} {x : Str} {px : Pos} {elt : Expr} {a : Int} {k : Nat} (g : Nat → Option β) (eo : β → D) {ys : List β} (h : mapO g (List.range k) = some ys) (hs : ∀ i, i < k → ∀ y, g i = some y → EvE G n sc ((x, .int (a + (i : Int))) :: σ) elt (eo y)) : CR G n sc σ (.Name x px) elt [] (rng a k) (ys.map eo) :=
  cr_mapO g (fun (i : Nat) => D.int (a + i)) eo (List.range k) ys h fun i hi y e => ⟨_, rfl, hs i (List.mem_range.mp hi) y e⟩

theorem do_last {st : Stmt} (h : Do1 G n sc σ ω st Φ) : DoS G n sc σ ω [st] Φ := do_cons h (fun _ _ h => do_nil h) (fun _ _ h => h) fun _ h => h

theorem evt_cast {e : Expr} {b b' : Bool} (h : EvT G n sc σ e b) (hb : b = b') : EvT G n sc σ e b' := hb ▸ h

theorem enum_map {α : Type} (e : α → D) (l : List α) : enum (l.map e) = l.zipIdx.map fun p => .tup [.int p.2, e p.1] := by
  unfold enum
  rw [List.zipIdx_map, List.map_map]
  rfl

theorem slc_to {α : Type} {l : List α} {k : Nat} : slc l none (some (k : Int)) = l.take k := by
  have h1 : kms_lo none l.length = 0 := rfl
  unfold slc
  rw [h1, List.drop_zero, Nat.sub_zero]
  have : kms_hi (some (k : Int)) l.length = min k l.length := by
    simp only [kms_hi]; split <;> omega
  rw [this]
  rcases Nat.le_total k l.length with h | h
  · rw [Nat.min_eq_left h]
  · rw [Nat.min_eq_right h, List.take_of_length_le (Nat.le_refl _), List.take_of_length_le h]

theorem deq_dz {x y : Int} : deqL (deq 7) [.int x, .int 1] [.int y, .int 1] = some (x == y) := by simp [deqL, deq]

theorem get_z {l : List Int} {i : Int} {j : Nat} {z : Int} (h : l[j]? = some z) (e : i = (j : Int)) (hz : l.length ≤ 1000) : GetOk G n (dzs l) (.int i) (dz z) := by
  have hj : j < l.length := (List.getElem?_eq_some_iff.mp h).1
  subst e
  exact get_list (by omega) (by simp [List.getElem?_map, h]) (by omega)
theorem get_i {l : List Int} {i : Int} {j : Nat} {z : Int} (h : l[j]? = some z) (e : i = (j : Int)) (hz : l.length ≤ 1000) : GetOk G n (dis l) (.int i) (.int z) := by
  have hj : j < l.length := (List.getElem?_eq_some_iff.mp h).1
  subst e
  exact get_list (by omega) (by simp [List.getElem?_map, h]) (by omega)

theorem sm_range {b : Int} (h1 : -1000000 < b) (h2 : b < 1000000) : Builtin.Range.small 0 b 1 = true := small_ok (by omega) (by omega) (by omega) (by omega)
theorem sm_range2 {a b : Int} (h1 : -1000000 < b) (h2 : b < 1000000) (h3 : -1000000 < a) (h4 : a < 1000000) : Builtin.Range.small a b 1 = true := small_ok (by omega) (by omega) (by omega) (by omega)
theorem it_cast {it tgt ds ds'} (h : EvIt G n sc σ it tgt ds) (e : ds = ds') : EvIt G n sc σ it tgt ds' := e ▸ h

theorem len_dzs (N : Names G) {l : List Int} (h : l.length ≤ 1000) : CallsTo G n (nm "len") [dzs l] (.int l.length) := by
  have := N.cLen (n := n) (ds := l.map dz) (by rw [List.length_map]; omega)
  rwa [List.length_map] at this
theorem len_dis (N : Names G) {l : List Int} (h : l.length ≤ 1000) : CallsTo G n (nm "len") [dis l] (.int l.length) := by
  have := N.cLen (n := n) (ds := l.map D.int) (by rw [List.length_map]; omega)
  rwa [List.length_map] at this
end
end Mine

namespace Mine

noncomputable def sml (l : List Int) : Bool := decide (l.length ≤ 1000)

/-! series -/
structure Series (G : Wd) : Prop extends Rats G where
  cut : FunAt G (nm "cut") 27 [(nm "a"), (nm "order")]
  mixed : FunAt G (nm "mixed") 29 [(nm "a"), (nm "b"), (nm "at")]
  smul : FunAt G (nm "smul") 30 [(nm "a"), (nm "b")]
  sinverse : FunAt G (nm "sinverse") 31 [(nm "a")]
  fseries : FunAt G (nm "fraction_series") 33 [(nm "top"), (nm "bottom"), (nm "order")]
  from_z : FunAt G (nm "from_z") 35 [(nm "z")]

section
variable {G : Wd} {n : Nat}

noncomputable def cutP (a : List Int) (k : Nat) : List Int := a.take k ++ List.replicate (k - a.length) 0

theorem c_cut (N : Names G) (C : Consts G) (F : Series G) {a : List Int} {k : Nat} (h : a.length ≤ 1000) (hk : k ≤ 1000) : CallsTo G (n + 1) (nm "cut") [dzs a, .int k] (dzs (cutP a k)) := by
  refine F.cut.calls rfl (do_retS ?_ rfl)
  have e : dzs (cutP a k) = .list (slc (a.map dz) none (some (k : Int)) ++ (List.replicate ((k : Int) - a.length).toNat [dz 0]).flatten) := by
    rw [slc_to, dzs, cutP, List.map_append, List.map_take, List.map_replicate, show ((k : Int) - a.length).toNat = k - a.length by omega]
    congr 2
    generalize k - a.length = m
    induction m with
    | zero => rfl
    | succ m ih => rw [List.replicate_succ, List.replicate_succ, List.flatten_cons, ← ih]; rfl
  rw [e]
  refine ev_bin (ev_callx (by decide +kernel) (N.cList ?_) (evs_cons (ev_slice (ev_var (by rfl)) rfl ⟨_, (ev_var (by rfl)), partInt⟩ (.inl ⟨_, rfl, rfl, by rw [List.length_map]; omega⟩)) evs_nil)) (ev_bin (ev_listS (evs_cons (C.ev0 (by decide +kernel)) evs_nil)) (ev_bin (ev_var (by rfl)) (ev_callx (by decide +kernel) (len_dzs N h) (evs_cons (ev_var (by rfl)) evs_nil)) sub_ii) (mul_li ?_ ?_ ?_)) (add_ll ?_)
  all_goals first | (rw [slc_to]; simp; omega) | omega | (simp; omega)

noncomputable def mixedP (a b : List Int) (at_ : Nat) : Option Int := foldO (fun f i => match a[i]?, b[at_ - i]? with
  | some x, some y => grd (decide (Sm x)) (some (if (!(x == 0) && !(y == 0)) = true then f + x * y else f))
  | _, _ => none) 0 (List.range (at_ + 1))

theorem c_mixed (N : Names G) (C : Consts G) (F : Series G) {a b : List Int} {k : Nat} {r : Int} (ha : a.length ≤ 1000) (hb : b.length ≤ 1000) (hk : k ≤ 1000) (h : mixedP a b k = some r) : CallsTo G (n + 4) (nm "mixed") [dzs a, dzs b, .int k] (dz r) := by
  refine F.mixed.calls rfl ?_
  refine do_seq (do_assign (C.ev0 (by decide +kernel)) (by decide +kernel) rfl) ?_
  refine do_seq (do_forR 0 (k + 1) (fun f => [((nm "found"), dz f), ((nm "a"), dzs a), ((nm "b"), dzs b), ((nm "at"), .int k)]) (fun _ => none) _ 0 r (it_cast (it_range1 (by decide +kernel) N.range rfl rfl (ev_bin (ev_var (by rfl)) ev_int add_ii) (sm_range (by omega) (by omega))) (by congr 1 <;> omega)) (by repeat first | exact Sub.nil | refine Sub.cons (by rfl) ?_) rfl h (fun _ => (by decide +kernel)) ?_) (do_retS (ev_var (by rfl)) rfl)
  intro i hi f f' hf
  cases ha' : a[i]? with
  | none => simp [ha'] at hf
  | some x => cases hb' : b[k - i]? with
    | none => simp [ha', hb'] at hf
    | some y =>
      simp only [ha', hb'] at hf
      obtain ⟨h1, h2⟩ := grd_some hf
      have hx : Sm x := by simpa using h1
      have e1 : ∀ {σ : Sg}, σ.lookup (nm "a") = some (dzs a) → σ.lookup (nm "spot") = some (.int (0 + (i : Int))) → EvE G (n + 3) (fnScope 29) σ (.Subscript (.Name (nm "a") ⟨0,0,0,0⟩) (.Name (nm "spot") ⟨0,0,0,0⟩) ⟨0,0,0,0⟩) (dz x) := fun e1 e2 => ev_sub (ev_var e1) (ev_var e2) (get_z ha' (by omega) ha)
      refine do_last (do_if (evt_and (evt_cmp (ev_sub (ev_var (by rfl)) (ev_var (by rfl)) (get_z ha' (by omega) ha)) (C.ev0 (by decide +kernel)) (ne_tt deq_dz)) fun _ => evt_cmp (ev_sub (ev_var (by rfl)) (ev_bin (ev_var (by rfl)) (ev_var (by rfl)) sub_ii) (get_z hb' (by omega) hb)) (C.ev0 (by decide +kernel)) (ne_tt deq_dz)) (fun hc => ?_) fun hc => ?_)
      · rw [if_pos hc] at h2
        cases h2
        refine do_seq (do_assign (ev_callx (by decide +kernel) (c_radd N F.toRats) (evs_cons (ev_var (by rfl)) (evs_cons (ev_callx (by decide +kernel) (c_rmul N F.toRats (.inl hx)) (evs_cons (ev_sub (ev_var (by rfl)) (ev_var (by rfl)) (get_z ha' (by omega) ha)) (evs_cons (ev_sub (ev_var (by rfl)) (ev_bin (ev_var (by rfl)) (ev_var (by rfl)) sub_ii) (get_z hb' (by omega) hb)) evs_nil))) evs_nil))) (by decide +kernel) rfl) ?_
        exact do_nilS (by repeat first | exact Sub.nil | refine Sub.cons (by rfl) ?_) ⟨rfl, rfl⟩
      · rw [if_neg (by rw [hc]; decide)] at h2
        cases h2
        exact do_nilS (by repeat first | exact Sub.nil | refine Sub.cons (by rfl) ?_) ⟨rfl, rfl⟩

noncomputable def smulP (a b : List Int) : Option (List Int) := mapO (fun at_ => (mixedP a b at_).bind fun v => grd (decide (Sm v)) (some v)) (List.range (min a.length b.length))

theorem c_smul (N : Names G) (C : Consts G) (F : Series G) {a b r : List Int} (ha : a.length ≤ 1000) (hb : b.length ≤ 1000) (h : smulP a b = some r) : CallsTo G (n + 5) (nm "smul") [dzs a, dzs b] (dzs r) := by
  refine F.smul.calls rfl (do_retS ?_ rfl)
  refine ev_comp [((nm "a"), dzs a), ((nm "b"), dzs b)] (it_cast (it_range1 (by decide +kernel) N.range rfl rfl (ev_callx (by decide +kernel) N.cMin (evs_cons (ev_callx (by decide +kernel) (len_dzs N ha) (evs_cons (ev_var (by rfl)) evs_nil)) (evs_cons (ev_callx (by decide +kernel) (len_dzs N hb) (evs_cons (ev_var (by rfl)) evs_nil)) evs_nil))) (sm_range (by split <;> omega) (by split <;> omega))) (ds' := rng 0 (min a.length b.length)) (by congr 1; split <;> omega))
    (cr_rangeO _ dz h fun i hi y hy => ?_) (by decide +kernel) (seen_cons (by rfl) (by decide +kernel) (seen_cons (by rfl) (by decide +kernel) seen_nil)) (by decide +kernel) (by simp [rng]; omega)
  obtain ⟨v, h1, h2⟩ := bind_some hy
  obtain ⟨h3, h4⟩ := grd_some h2
  cases h4
  exact ev_callx (by decide +kernel) (c_let (n := n + 2) N F.toRats (by simpa using h3)) (evs_cons (ev_callx (by decide +kernel) (c_mixed (n := n) N C F ha hb (by omega) (k := i) h1) (evs_cons (ev_var (by rfl)) (evs_cons (ev_var (by rfl)) (evs_cons (ev_cast (ev_var (by rfl)) (by rw [Int.zero_add])) evs_nil)))) evs_nil)

noncomputable def invT (a f : List Int) (at_ : Nat) : Option Int := grd (sml f) (foldO (fun t i => match a[1 + i]?, f[at_ - (1 + i)]? with
  | some x, some y => grd (decide (Sm x)) (some (t - x * y))
  | _, _ => none) (if at_ = 0 then 1 else 0) (List.range at_))
noncomputable def invP (a : List Int) (u : Int) : Option (List Int) := foldO (fun f at_ => (invT a f at_).bind fun t => grd (decide (Sm (t * u))) (some (f ++ [t * u]))) [] (List.range a.length)

theorem c_inverse (N : Names G) (C : Consts G) (F : Series G) {a r : List Int} {u : Int} (ha : a.length ≤ 1000) (h0 : a[0]? = some u) (hu : u = 1 ∨ u = -1) (h : invP a u = some r) : CallsTo G (n + 4) (nm "sinverse") [dzs a] (dzs r) := by
  have u0 : (u == 0) = false := by rcases hu with rfl | rfl <;> rfl
  refine F.sinverse.calls rfl ?_
  refine do_ifF (evt_cast (evt_and (evt_cmp (ev_callx (by decide +kernel) (len_dzs N ha) (evs_cons (ev_var (by rfl)) evs_nil)) ev_int gt_ii) fun _ => evt_cmp (ev_sub (ev_var (by rfl)) ev_int (get_z h0 rfl ha)) (C.ev0 (by decide +kernel)) (eq_tt deq_dz)) (by rw [u0, Bool.and_false])) ?_
  refine do_seq (do_new (evn_list evs_nil) (by rfl) (by decide +kernel)) ?_
  refine do_seq (do_forR 0 a.length (fun _ => [((nm "a"), dzs a)]) (fun f => some ((nm "found"), dzs f)) _ [] r (it_range1 (by decide +kernel) N.range rfl rfl (ev_callx (by decide +kernel) (len_dzs N ha) (evs_cons (ev_var (by rfl)) evs_nil)) (sm_range (by omega) (by omega))) (by repeat first | exact Sub.nil | refine Sub.cons (by rfl) ?_) rfl h (fun _ => by rfl) ?_) (do_retOS (ev_var (by rfl)) rfl)
  intro i hi f f' hf
  obtain ⟨t, h1, h2⟩ := bind_some hf
  obtain ⟨h3, h4⟩ := grd_some h1
  have hlf : f.length ≤ 1000 := by simpa [sml] using h3
  obtain ⟨h5, h6⟩ := grd_some h2
  cases h6
  refine do_seq (do_assign (d := dz (if i = 0 then 1 else 0)) (ev_if (b := decide (i = 0)) ?_ (fun hc => ?_) fun hc => ?_) (by decide +kernel) (by rfl)) ?_
  · exact evt_cast (evt_cmp (ev_var (by rfl)) ev_int eq_ii) (by rw [Int.zero_add]; by_cases h : i = 0 <;> simp [h])
  · have : i = 0 := by simpa using hc
    rw [if_pos this]; exact C.ev1 (by decide +kernel)
  · have : i ≠ 0 := by simpa using hc
    rw [if_neg this]; exact C.ev0 (by decide +kernel)
  refine do_seq (do_forR 1 i (fun t => [((nm "total"), dz t), ((nm "at"), .int (0 + (i : Int))), ((nm "a"), dzs a)]) (fun _ => some ((nm "found"), dzs f)) _ _ t (it_cast (it_range2 (by decide +kernel) N.range rfl ev_int (ev_bin (ev_var (by rfl)) ev_int add_ii) (sm_range2 (by omega) (by omega) (by omega) (by omega))) (by congr 1 <;> omega)) (by repeat first | exact Sub.nil | refine Sub.cons (by rfl) ?_) rfl h4 (fun _ => by rfl) ?_) ?_
  · intro j hj t t' ht
    cases ha' : a[1 + j]? with
    | none => simp [ha'] at ht
    | some x => cases hb' : f[i - (1 + j)]? with
      | none => simp [ha', hb'] at ht
      | some y =>
        simp only [ha', hb'] at ht
        obtain ⟨g1, g2⟩ := grd_some ht
        cases g2
        refine do_seq (do_assignF (ev_callx (by decide +kernel) (c_rsub N F.toRats) (evs_cons (ev_var (by rfl)) (evs_cons (ev_callx (by decide +kernel) (c_rmul N F.toRats (.inl (by simpa using g1))) (evs_cons (ev_sub (ev_var (by rfl)) (ev_var (by rfl)) (get_z ha' (by omega) ha)) (evs_cons (ev_sub (ev_var (by rfl)) (ev_bin (ev_var (by rfl)) (ev_var (by rfl)) sub_ii) (get_z hb' (by omega) hlf)) evs_nil))) evs_nil))) rfl (by decide +kernel) (by rfl)) ?_
        exact do_nilS (by repeat first | exact Sub.nil | refine Sub.cons (by rfl) ?_) ⟨rfl, rfl⟩
  · refine do_seq (do_append (d := dz (t * u)) (ev_callx (by decide +kernel) (c_let (n := n + 1) N F.toRats (by simpa using h5)) (evs_cons (ev_callx (by decide +kernel) (c_rdiv N F.toRats hu) (evs_cons (ev_var (by rfl)) (evs_cons (ev_sub (ev_var (by rfl)) ev_int (get_z h0 rfl ha)) evs_nil))) evs_nil)) (by rw [List.length_map]; omega)) ?_
    exact do_nilS (by repeat first | exact Sub.nil | refine Sub.cons (by rfl) ?_) ⟨rfl, by simp [dzs]⟩

noncomputable def fracP (top bottom : List Int) (k : Nat) : Option (List Int) := match (cutP bottom k)[0]? with
  | some u => grd (decide (u = 1 ∨ u = -1) && sml top && sml bottom && decide (k ≤ 1000)) ((invP (cutP bottom k) u).bind fun i => grd (sml i) (smulP (cutP top k) i))
  | none => none

theorem cut_len {a : List Int} {k : Nat} (h : a.length ≤ 1000) (hk : k ≤ 1000) : (cutP a k).length ≤ 1000 := by simp [cutP]; omega

theorem c_frac (N : Names G) (C : Consts G) (F : Series G) {a b r : List Int} {k : Nat} (h : fracP a b k = some r) : CallsTo G (n + 6) (nm "fraction_series") [dzs a, dzs b, .int k] (dzs r) := by
  unfold fracP at h
  split at h
  · rename_i u hu
    obtain ⟨h1, h2⟩ := grd_some h
    obtain ⟨i, h3, h4⟩ := bind_some h2
    obtain ⟨h5, h6⟩ := grd_some h4
    simp only [Bool.and_eq_true, decide_eq_true_eq, sml] at h1 h5
    obtain ⟨⟨⟨q1, q2⟩, q3⟩, q4⟩ := h1
    exact F.fseries.calls rfl (do_retS (ev_callx (by decide +kernel) (c_smul N C F (cut_len q2 q4) h5 h6) (evs_cons (ev_callx (by decide +kernel) (c_cut (n := n + 4) N C F q2 q4) (evs_cons (ev_var (by rfl)) (evs_cons (ev_var (by rfl)) evs_nil))) (evs_cons (ev_callx (by decide +kernel) (c_inverse (n := n + 1) N C F (cut_len q3 q4) hu q1 h3) (evs_cons (ev_callx (by decide +kernel) (c_cut (n := n + 4) N C F q3 q4) (evs_cons (ev_var (by rfl)) (evs_cons (ev_var (by rfl)) evs_nil))) evs_nil)) evs_nil))) rfl)
  · cases h

theorem c_from_z (F : Series G) {z : List Int} (hz : z.length ≤ 1000) : CallsTo G (n + 1) (nm "from_z") [dis z] (dzs z) := by
  refine F.from_z.calls rfl (do_retS ?_ rfl)
  have e : dzs z = .list ((z.map D.int).map fun d => .tup [d, .int 1]) := by rw [List.map_map]; rfl
  rw [e]
  exact ev_comp [] (it_list (ev_var (by rfl)) rfl) (cr_list _ _ fun d hd => ev_tupS (evs_cons (ev_var (by rfl)) (evs_cons ev_int evs_nil))) (by decide +kernel) seen_nil (by decide +kernel) (by rw [List.length_map]; omega)
end
end Mine

namespace Mine

/-! recurrences -/
structure Recs (G : Wd) : Prop extends Rats G where
  disc : FunAt G (nm "discrepancy") 23 [(nm "row"), (nm "n"), (nm "polynomial")]
  mended : FunAt G (nm "mended") 24 [(nm "polynomial"), (nm "number"), (nm "former"), (nm "gap")]
  least : FunAt G (nm "least_recurrence") 25 [(nm "row")]

section
variable {G : Wd} {n : Nat}

noncomputable def discP (row : List Int) (k : Nat) (p : List Int) : Option Int := match row[k]? with
  | some v => foldO (fun f i => match p[1 + i]?, row[k - (1 + i)]? with
      | some x, some y => grd (decide (Sm x)) (some (f + x * y))
      | _, _ => none) v (List.range (min k (p.length - 1)))
  | none => none

theorem c_disc (N : Names G) (F : Recs G) {row p : List Int} {k : Nat} {r : Int} (h1 : row.length ≤ 1000) (h2 : p.length ≤ 1000) (h : discP row k p = some r) : CallsTo G (n + 4) (nm "discrepancy") [dzs row, .int k, dzs p] (dz r) := by
  unfold discP at h
  split at h
  case h_2 => cases h
  case h_1 v hv =>
  have hk : k < row.length := (List.getElem?_eq_some_iff.mp hv).1
  refine F.disc.calls rfl ?_
  refine do_seq (do_assign (ev_sub (ev_var (by rfl)) (ev_var (by rfl)) (get_z hv rfl h1)) (by decide +kernel) rfl) ?_
  refine do_seq (do_forR 1 (min k (p.length - 1)) (fun f => [((nm "found"), dz f), ((nm "row"), dzs row), ((nm "n"), .int k), ((nm "polynomial"), dzs p)]) (fun _ => none) _ v r (it_cast (it_range2 (by decide +kernel) N.range rfl ev_int (ev_bin (ev_callx (by decide +kernel) N.cMin (evs_cons (ev_var (by rfl)) (evs_cons (ev_bin (ev_callx (by decide +kernel) (len_dzs N h2) (evs_cons (ev_var (by rfl)) evs_nil)) ev_int sub_ii) evs_nil))) ev_int add_ii) (sm_range2 (by split <;> omega) (by split <;> omega) (by omega) (by omega))) (by congr 1; split <;> omega)) (by repeat first | exact Sub.nil | refine Sub.cons (by rfl) ?_) rfl h (fun _ => (by decide +kernel)) ?_) (do_retS (ev_var (by rfl)) rfl)
  intro i hi f f' hf
  cases ha' : p[1 + i]? with
  | none => simp [ha'] at hf
  | some x => cases hb' : row[k - (1 + i)]? with
    | none => simp [ha', hb'] at hf
    | some y =>
      simp only [ha', hb'] at hf
      obtain ⟨g1, g2⟩ := grd_some hf
      cases g2
      refine do_seq (do_assign (ev_callx (by decide +kernel) (c_radd N F.toRats) (evs_cons (ev_var (by rfl)) (evs_cons (ev_callx (by decide +kernel) (c_rmul N F.toRats (.inl (by simpa using g1))) (evs_cons (ev_sub (ev_var (by rfl)) (ev_var (by rfl)) (get_z ha' (by omega) h2)) (evs_cons (ev_sub (ev_var (by rfl)) (ev_bin (ev_var (by rfl)) (ev_var (by rfl)) sub_ii) (get_z hb' (by omega) h1)) evs_nil))) evs_nil))) (by decide +kernel) rfl) ?_
      exact do_nilS (by repeat first | exact Sub.nil | refine Sub.cons (by rfl) ?_) ⟨rfl, rfl⟩

noncomputable def mendP (p : List Int) (c : Int) (q : List Int) (gap : Nat) : Option (List Int) := grd (decide (Sm c) && sml p && sml q && decide (gap ≤ 1000) && decide (q.length + gap ≤ 1000)) (foldO (fun f (x : Int × Nat) => match f[x.2 + gap]? with
  | some y => grd (sml f) (some (f.set (x.2 + gap) (y - c * x.1)))
  | none => none) (p ++ List.replicate (max p.length (q.length + gap) - p.length) 0) q.zipIdx)

theorem flat_rep (m : Nat) (d : D) : (List.replicate m [d]).flatten = List.replicate m d := by
  induction m with
  | zero => rfl
  | succ m ih => rw [List.replicate_succ, List.replicate_succ, List.flatten_cons, ih]; rfl

theorem c_mended (N : Names G) (C : Consts G) (F : Recs G) {p q r : List Int} {c : Int} {gap : Nat} (h : mendP p c q gap = some r) : CallsTo G (n + 4) (nm "mended") [dzs p, dz c, dzs q, .int gap] (dzs r) := by
  obtain ⟨h1, h⟩ := grd_some h
  simp only [Bool.and_eq_true, decide_eq_true_eq, sml] at h1
  obtain ⟨⟨⟨⟨hc, hp⟩, hq⟩, hg⟩, hqg⟩ := h1
  refine F.mended.calls rfl ?_
  refine do_seq (do_assign (d := .int (max p.length (q.length + gap) : Nat)) (ev_cast (ev_callx (by decide +kernel) N.cMax (evs_cons (ev_callx (by decide +kernel) (len_dzs N hp) (evs_cons (ev_var (by rfl)) evs_nil)) (evs_cons (ev_bin (ev_callx (by decide +kernel) (len_dzs N hq) (evs_cons (ev_var (by rfl)) evs_nil)) (ev_var (by rfl)) add_ii) evs_nil))) (by congr 1; split <;> omega)) (by decide +kernel) rfl) ?_
  have e : dzs (p ++ List.replicate (max p.length (q.length + gap) - p.length) 0) = .list (p.map dz ++ (List.replicate (((max p.length (q.length + gap) : Nat) : Int) - p.length).toNat [dz 0]).flatten) := by
    rw [flat_rep, dzs, List.map_append, List.map_replicate, show (((max p.length (q.length + gap) : Nat) : Int) - p.length).toNat = max p.length (q.length + gap) - p.length by omega]
  refine do_seq (do_new (d := dzs (p ++ List.replicate (max p.length (q.length + gap) - p.length) 0)) (e ▸ evn_bin (ev_callx (by decide +kernel) (N.cList (by rw [List.length_map]; omega)) (evs_cons (ev_var (by rfl)) evs_nil)) (ev_bin (ev_listS (evs_cons (C.ev0 (by decide +kernel)) evs_nil)) (ev_bin (ev_var (by rfl)) (ev_callx (by decide +kernel) (len_dzs N hp) (evs_cons (ev_var (by rfl)) evs_nil)) sub_ii) (mul_li (by omega) (by omega) (by simp; omega))) (addN (by simp; omega))) (by rfl) (by decide +kernel)) ?_
  refine do_seq (do_forL q.zipIdx (fun x => .tup [.int x.2, dz x.1]) (fun _ => [((nm "polynomial"), dzs p), ((nm "number"), dz c), ((nm "former"), dzs q), ((nm "gap"), .int gap)]) (fun f => some ((nm "found"), dzs f)) _ _ r (it_cast (it_enum (by decide +kernel) N.enum rfl (ev_var (by rfl))) (enum_map dz q)) (by repeat first | exact Sub.nil | refine Sub.cons (by rfl) ?_) rfl h ?_) (do_retOS (ev_var (by rfl)) rfl)
  rintro ⟨y, i⟩ hi f f' hf
  cases hb : f[i + gap]? with
  | none => simp [hb] at hf
  | some z =>
    simp only [hb] at hf
    obtain ⟨g1, g2⟩ := grd_some hf
    have hlf : f.length ≤ 1000 := by simpa [sml] using g1
    cases g2
    have hlt : i + gap < f.length := (List.getElem?_eq_some_iff.mp hb).1
    refine ⟨_, rfl, by rfl, ?_⟩
    refine do_seq (do_set (d := dz (z - c * y)) (k := ((i + gap : Nat) : Int)) (ev_callx (by decide +kernel) (c_rsub N F.toRats) (evs_cons (ev_sub (ev_var (by rfl)) (ev_bin (ev_var (by rfl)) (ev_var (by rfl)) add_ii) (get_z hb (by simp) hlf)) (evs_cons (ev_callx (by decide +kernel) (c_rmul N F.toRats (.inl hc)) (evs_cons (ev_var (by rfl)) (evs_cons (ev_var (by rfl)) evs_nil))) evs_nil))) rfl (ev_cast (ev_bin (ev_var (by rfl)) (ev_var (by rfl)) add_ii) (by simp)) (by omega) (by rw [List.length_map]; omega) (by rw [List.length_map]; omega)) ?_
    exact do_nilS (by repeat first | exact Sub.nil | refine Sub.cons (by rfl) ?_) ⟨rfl, by rw [show ((i + gap : Nat) : Int).toNat = i + gap by omega]; simp [dzs, List.map_set]⟩

/-- least_recurrence's turn -/
structure LR where
  now : List Int
  former : List Int
  size : Nat
  gap : Nat
  last : Int

noncomputable def lrStep (row : List Int) (s : LR) (k : Nat) : Option LR := grd (sml s.now) ((discP row k s.now).bind fun off =>
  if (off == 0) = true then some { s with gap := s.gap + 1 } else
  grd (decide (s.last = 1 ∨ s.last = -1)) ((mendP s.now (off * s.last) s.former s.gap).bind fun later =>
    if 2 * s.size ≤ k then some ⟨later, s.now, k + 1 - s.size, 1, off⟩ else some ⟨later, s.former, s.size, s.gap + 1, s.last⟩))
noncomputable def lrEnd (s : LR) : List Int := (List.range s.size).map fun i => match s.now[1 + i]? with
  | some z => -z
  | none => 0
noncomputable def lrP (row : List Int) : Option (List Int) := (foldO (lrStep row) ⟨[1], [1], 0, 1, 1⟩ (List.range row.length)).bind fun s => grd (sml s.now && decide (s.size ≤ 1000)) (some (lrEnd s))

noncomputable def lrσ (row : List Int) (s : LR) : Sg := [((nm "now"), dzs s.now), ((nm "former"), dzs s.former), ((nm "size"), .int s.size), ((nm "gap"), .int s.gap), ((nm "last"), dz s.last), ((nm "row"), dzs row)]

theorem c_least (N : Names G) (C : Consts G) (F : Recs G) {row r : List Int} (hr : row.length ≤ 1000) (h : lrP row = some r) : CallsTo G (n + 5) (nm "least_recurrence") [dzs row] (dzs r) := by
  obtain ⟨s, h0, h'⟩ := bind_some h
  obtain ⟨g1, g2⟩ := grd_some h'
  cases g2
  simp only [Bool.and_eq_true, decide_eq_true_eq, sml] at g1
  obtain ⟨g1, g2⟩ := g1
  refine F.least.calls rfl ?_
  refine do_seq (do_assignT (d := .tup [dzs [1], dzs [1], .int 0, .int 1, dz 1]) (ev_tupS (evs_cons (ev_listS (evs_cons (C.ev1 (by decide +kernel)) evs_nil)) (evs_cons (ev_listS (evs_cons (C.ev1 (by decide +kernel)) evs_nil)) (evs_cons ev_int (evs_cons ev_int (evs_cons (C.ev1 (by decide +kernel)) evs_nil)))))) rfl (by decide +kernel) (fun env he => rfl)) ?_
  refine do_seq (do_forR 0 row.length (lrσ row) (fun _ => none) (lrStep row) ⟨[1], [1], 0, 1, 1⟩ s (it_range1 (by decide +kernel) N.range rfl rfl (ev_callx (by decide +kernel) (len_dzs N hr) (evs_cons (ev_var (by rfl)) evs_nil)) (sm_range (by omega) (by omega))) (by repeat first | exact Sub.nil | refine Sub.cons (by rfl) ?_) rfl h0 (fun _ => (by decide +kernel)) ?_) ?_
  · intro k hk s s' hs
    obtain ⟨q0, hs⟩ := grd_some hs
    have hnow : s.now.length ≤ 1000 := by simpa [sml] using q0
    obtain ⟨off, h1, h2⟩ := bind_some hs
    refine do_seq (do_assign (ev_callx (by decide +kernel) (c_disc (n := n) N F hr hnow h1) (evs_cons (ev_var (by rfl)) (evs_cons (ev_cast (ev_var (by rfl)) (by rw [Int.zero_add])) (evs_cons (ev_var (by rfl)) evs_nil)))) (by decide +kernel) rfl) ?_
    by_cases hz : (off == 0) = true
    · rw [if_pos hz] at h2
      cases h2
      refine do_cons (Ψ := (· = .cont (lrσ row { s with gap := s.gap + 1 }) none)) (do_if (evt_cast (evt_cmp (ev_var (by rfl)) (C.ev0 (by decide +kernel)) (eq_tt deq_dz)) hz) (fun _ => do_seq (do_augI (by rfl) ev_int (by decide +kernel) rfl (by decide +kernel)) (do_contS (by repeat first | exact Sub.nil | refine Sub.cons (by rfl) ?_) rfl)) (fun h => nomatch h)) (fun _ _ h => nomatch h) (fun _ _ h => by cases h; exact ⟨rfl, rfl⟩) (fun _ h => nomatch h)
    · rw [if_neg hz] at h2
      obtain ⟨q1, h3⟩ := grd_some h2
      obtain ⟨later, h4, h5⟩ := bind_some h3
      have hlast : s.last = 1 ∨ s.last = -1 := by simpa using q1
      refine do_ifF (evt_cast (evt_cmp (ev_var (by rfl)) (C.ev0 (by decide +kernel)) (eq_tt deq_dz)) (by simpa using hz)) ?_
      refine do_seq (do_assign (ev_callx (by decide +kernel) (c_mended (n := n) N C F h4) (evs_cons (ev_var (by rfl)) (evs_cons (ev_callx (by decide +kernel) (c_rdiv N F.toRats hlast) (evs_cons (ev_var (by rfl)) (evs_cons (ev_var (by rfl)) evs_nil))) (evs_cons (ev_var (by rfl)) (evs_cons (ev_var (by rfl)) evs_nil))))) (by decide +kernel) rfl) ?_
      by_cases h6 : 2 * s.size ≤ k
      · rw [if_pos h6] at h5
        cases h5
        refine do_seq (do_if (b := true) (evt_cast (evt_cmp (ev_bin ev_int (ev_var (by rfl)) (mul_ii (.inl (by decide)))) (ev_var (by rfl)) le_ii) (by simp; omega)) (fun _ => do_last (do_assignT (d := .tup [dzs s.now, dz off, .int (k + 1 - s.size : Nat), .int 0]) (ev_tupS (evs_cons (ev_var (by rfl)) (evs_cons (ev_var (by rfl)) (evs_cons (ev_cast (ev_bin (ev_bin (ev_var (by rfl)) ev_int add_ii) (ev_var (by rfl)) sub_ii) (by congr 1; omega)) (evs_cons ev_int evs_nil))))) rfl (by decide +kernel) (fun env he => rfl))) (fun h => nomatch h)) ?_
        refine do_seq (do_assign (ev_var (by rfl)) (by decide +kernel) rfl) ?_
        refine do_seq (do_augI (by rfl) ev_int (by decide +kernel) rfl (by decide +kernel)) ?_
        exact do_nilS (by repeat first | exact Sub.nil | refine Sub.cons (by rfl) ?_) ⟨rfl, rfl⟩
      · rw [if_neg h6] at h5
        cases h5
        refine do_ifF (evt_cast (evt_cmp (ev_bin ev_int (ev_var (by rfl)) (mul_ii (.inl (by decide)))) (ev_var (by rfl)) le_ii) (by simp; omega)) ?_
        refine do_seq (do_assign (ev_var (by rfl)) (by decide +kernel) rfl) ?_
        refine do_seq (do_augI (by rfl) ev_int (by decide +kernel) rfl (by decide +kernel)) ?_
        exact do_nilS (by repeat first | exact Sub.nil | refine Sub.cons (by rfl) ?_) ⟨rfl, rfl⟩
  · refine do_retS ?_ rfl
    have e : dzs (lrEnd s) = .list ((List.range s.size).map fun i => dz (match s.now[1 + i]? with
      | some z => -z
      | none => 0)) := by rw [dzs, lrEnd, List.map_map]; rfl
    rw [e]
    refine ev_comp [((nm "now"), dzs s.now)] (it_cast (it_range2 (by decide +kernel) N.range rfl ev_int (ev_bin (ev_var (by rfl)) ev_int add_ii) (sm_range2 (by omega) (by omega) (by omega) (by omega))) (by congr 1 <;> omega)) (cr_range 1 s.size _ fun i hi => ?_) (by decide +kernel) (seen_cons (by rfl) (by decide +kernel) seen_nil) (by decide +kernel) (by simp [rng]; omega)
    refine ev_if (b := decide (1 + i < s.now.length)) (evt_cast (evt_cmp (ev_var (by rfl)) (ev_callx (by decide +kernel) (len_dzs N g1) (evs_cons (ev_var (by rfl)) evs_nil)) lt_ii) (by simp; omega)) (fun hc => ?_) (fun hc => ?_)
    · have hlt : 1 + i < s.now.length := by simpa using hc
      rw [List.getElem?_eq_getElem hlt]
      exact ev_callx (by decide +kernel) (c_rneg N F.toRats) (evs_cons (ev_sub (ev_var (by rfl)) (ev_var (by rfl)) (get_z (List.getElem?_eq_getElem hlt) (by omega) g1)) evs_nil)
    · have hge : s.now.length ≤ 1 + i := by simpa using hc
      rw [List.getElem?_eq_none hge]
      exact C.ev0 (by decide +kernel)
end
end Mine

namespace Mine

/-! matrices -/
structure Mats (G : Wd) : Prop where
  unit : FunAt G (nm "unit_rows") 1 [(nm "n")]
  mul : FunAt G (nm "whole_mul") 2 [(nm "a"), (nm "b")]
  step : FunAt G (nm "step_matrix") 20 [(nm "steps")]
  raised : FunAt G (nm "matrix_raised") 21 [(nm "a"), (nm "n")]
  number : FunAt G (nm "number_at") 22 [(nm "steps"), (nm "first"), (nm "n")]

noncomputable def dm (m : List (List Int)) : D := .list (m.map dis)

section
variable {G : Wd} {n : Nat}

theorem cr_mapT {α : Type} {sc : Scope} {σ : Sg} {tgt elt : Expr} (ei eo : α → D) : ∀ (l : List α), (∀ a ∈ l, ∃ σd, bindTo tgt (ei a) σ = some σd ∧ EvE G n sc σd elt (eo a)) → CR G n sc σ tgt elt [] (l.map ei) (l.map eo)
  | [], _ => .nil
  | a :: l, hs => by
    obtain ⟨σd, hb, he⟩ := hs a List.mem_cons_self
    exact .take hb rfl he (cr_mapT ei eo l fun b hb => hs b (List.mem_cons_of_mem _ hb))

noncomputable def unitP (k : Nat) : List (List Int) := (List.range k).map fun r => (List.range k).map fun c => if (r == c) = true then 1 else 0

theorem c_unit (N : Names G) (F : Mats G) {k : Nat} (hk : k ≤ 1000) : CallsTo G (n + 1) (nm "unit_rows") [.int k] (dm (unitP k)) := by
  refine F.unit.calls rfl (do_retS ?_ rfl)
  have e : dm (unitP k) = .list ((List.range k).map fun r => .list ((List.range k).map fun c => .int (if (r == c) = true then 1 else 0))) := by
    simp only [dm, unitP, dis, List.map_map, Function.comp_def]
  rw [e]
  refine ev_comp [((nm "n"), .int k)] (it_cast (it_range1 (by decide +kernel) N.range rfl rfl (ev_var (by rfl)) (sm_range (by omega) (by omega))) (by congr 1 <;> omega)) (cr_range 0 k _ fun r hr => ?_) (by decide +kernel) (seen_cons (by rfl) (by decide +kernel) seen_nil) (by decide +kernel) (by rw [rng_len]; omega)
  refine ev_comp [((nm "row"), .int (0 + (r : Int)))] (it_cast (it_range1 (by decide +kernel) N.range rfl rfl (ev_var (by rfl)) (sm_range (by omega) (by omega))) (by congr 1 <;> omega)) (cr_range 0 k _ fun c hc => ?_) (by decide +kernel) (seen_cons (by rfl) (by decide +kernel) seen_nil) (by decide +kernel) (by rw [rng_len]; omega)
  refine ev_if (b := r == c) (evt_cast (evt_cmp (ev_var (by rfl)) (ev_var (by rfl)) eq_ii) (by rw [Bool.eq_iff_iff, beq_iff_eq, beq_iff_eq]; omega)) (fun h => ?_) (fun h => ?_)
  · rw [if_pos h]; exact ev_int
  · rw [if_neg (by rw [h]; decide)]; exact ev_int

noncomputable def mulP (a b : List (List Int)) : Option (List (List Int)) :=
  grd (decide (a.length ≤ 1000) && decide (b.length ≤ 1000) && decide ((b.headD []).length ≤ 1000) && a.all (fun r => r.length == b.length && r.all fun x => decide (Sm x)) && b.all (fun r => r.length == (b.headD []).length))
    (some (a.map fun row => (List.range (b.headD []).length).map fun c => ((List.range b.length).map fun k => row.getD k 0 * (b.getD k []).getD c 0).sum))

theorem c_mul (N : Names G) (F : Mats G) {a b r : List (List Int)} (h : mulP a b = some r) : CallsTo G (n + 1) (nm "whole_mul") [dm a, dm b] (dm r) := by
  obtain ⟨h1, h2⟩ := grd_some h
  cases h2
  simp only [Bool.and_eq_true, decide_eq_true_eq, List.all_eq_true, beq_iff_eq] at h1
  obtain ⟨⟨⟨⟨ha, hb⟩, hw⟩, hra⟩, hrb⟩ := h1
  have lb : ∀ {σ : Sg} {sc : Scope} {p1 p2 p3 : Pos}, σ.lookup (nm "b") = some (dm b) → sc.names.lookup (nm "len") = some .globalImplicit → EvE G n sc σ (.Call (.Name (nm "len") p1) [.Name (nm "b") p2] [] p3) (.int b.length) := fun e1 e2 => by
    have := N.cLen (n := n) (ds := b.map dis) (by rw [List.length_map]; omega)
    rw [List.length_map] at this
    exact ev_callx e2 this (evs_cons (ev_var e1) evs_nil)
  refine F.mul.calls rfl ?_
  refine do_seq (do_assign (d := .int ((b.headD []).length : Nat)) (ev_if (b := decide (0 < (b.length : Int))) (evt_cmp (lb (by rfl) (by decide +kernel)) ev_int gt_ii) (fun hc => ?_) (fun hc => ?_)) (by decide +kernel) rfl) (do_retS ?_ rfl)
  · cases b with
    | nil => simp at hc
    | cons b0 bs => exact ev_callx (by decide +kernel) (len_dis N (by simpa using hw)) (evs_cons (ev_sub (ev_var (by rfl)) ev_int (get_list (by decide) rfl (by decide))) evs_nil)
  · cases b with
    | nil => exact ev_int
    | cons b0 bs => exfalso; simp at hc <;> omega
  · have e : dm (a.map fun row => (List.range (b.headD []).length).map fun c => ((List.range b.length).map fun k => row.getD k 0 * (b.getD k []).getD c 0).sum) =
        .list (a.map fun row => .list ((List.range (b.headD []).length).map fun c => .int ((List.range b.length).map fun k => row.getD k 0 * (b.getD k []).getD c 0).sum)) := by
      simp only [dm, dis, List.map_map, Function.comp_def]
    rw [e]
    refine ev_comp [((nm "b"), dm b), ((nm "width"), .int ((b.headD []).length : Nat))] (it_list (ds := a.map dis) (ev_var (by rfl)) rfl) (cr_mapT dis _ a fun row hrow => ⟨_, rfl, ?_⟩) (by decide +kernel) (seen_cons (by rfl) (by decide +kernel) (seen_cons (by rfl) (by decide +kernel) seen_nil)) (by decide +kernel) (by rw [List.length_map]; omega)
    obtain ⟨hl, hs⟩ := hra row hrow
    refine ev_comp [((nm "b"), dm b), ((nm "row"), dis row)] (it_cast (it_range1 (by decide +kernel) N.range rfl rfl (ev_var (by rfl)) (sm_range (by omega) (by omega))) (by congr 1 <;> omega)) (cr_range 0 (b.headD []).length _ fun c hc => ?_) (by decide +kernel) (seen_cons (by rfl) (by decide +kernel) (seen_cons (by rfl) (by decide +kernel) seen_nil)) (by decide +kernel) (by rw [rng_len]; omega)
    refine ev_callx (by decide +kernel) N.cSum (evs_cons ?_ evs_nil)
    refine ev_cast (d := .list ((List.range b.length).map fun k => .int (row.getD k 0 * (b.getD k []).getD c 0))) ?_ (by rw [dis, List.map_map]; rfl)
    refine ev_comp [((nm "b"), dm b), ((nm "row"), dis row), ((nm "column"), .int (0 + (c : Int)))] (it_cast (it_range1 (by decide +kernel) N.range rfl rfl (lb (by rfl) (by decide +kernel)) (sm_range (by omega) (by omega))) (by congr 1 <;> omega)) (cr_range 0 b.length _ fun k hk => ?_) (by decide +kernel) (seen_cons (by rfl) (by decide +kernel) (seen_cons (by rfl) (by decide +kernel) (seen_cons (by rfl) (by decide +kernel) seen_nil))) (by decide +kernel) (by rw [rng_len]; omega)
    have h1 : row[k]? = some (row.getD k 0) := by rw [List.getD_eq_getElem?_getD, List.getElem?_eq_getElem (by omega)]; rfl
    have h2 : b[k]? = some (b.getD k []) := by rw [List.getD_eq_getElem?_getD, List.getElem?_eq_getElem (by omega)]; rfl
    have hm : b.getD k [] ∈ b := List.mem_of_getElem? h2
    have hlb := hrb _ hm
    have h3 : (b.getD k [])[c]? = some ((b.getD k []).getD c 0) := by rw [List.getD_eq_getElem?_getD (l := b.getD k []), List.getElem?_eq_getElem (by omega)]; rfl
    refine ev_bin (ev_sub (ev_var (by rfl)) (ev_var (by rfl)) (get_i h1 (by omega) (by omega))) (ev_sub (ev_sub (ev_var (by rfl)) (ev_var (by rfl)) (get_list (d := dis (b.getD k [])) (by omega) (by rw [List.getElem?_map, show ((0 : Int) + (k : Int)).toNat = k by omega, h2]; rfl) (by omega))) (ev_var (by rfl)) (get_i h3 (by omega) (by omega))) (mul_ii (.inl (hs _ (List.mem_of_getElem? h1))))

noncomputable def stepP (steps : List Int) : List (List Int) := match steps with
  | [] => []
  | _ => steps :: (List.range (steps.length - 1)).map fun a => (List.range steps.length).map fun s => if (s == a) = true then 1 else 0

theorem foldO_app {α : Type} (g : Nat → α) : ∀ (l : List Nat) (acc : List α), acc.length + l.length ≤ 1001 → foldO (fun f i => grd (decide (f.length ≤ 1000)) (some (f ++ [g i]))) acc l = some (acc ++ l.map g)
  | [], acc, _ => by simp [foldO]
  | i :: l, acc, h => by
    rw [List.length_cons] at h
    have e : decide (acc.length ≤ 1000) = true := by simp; omega
    have ih := foldO_app g l (acc ++ [g i]) (by simp; omega)
    have e2 : grd (decide (acc.length ≤ 1000)) (some (acc ++ [g i])) = some (acc ++ [g i]) := by rw [e]; rfl
    unfold foldO
    rw [e2]
    exact ih.trans (by simp)

theorem c_step (N : Names G) (F : Mats G) {steps : List Int} (h : steps.length ≤ 1000) : CallsTo G (n + 1) (nm "step_matrix") [dis steps] (dm (stepP steps)) := by
  refine F.step.calls rfl ?_
  refine do_seq (do_assign (ev_callx (by decide +kernel) (len_dis N h) (evs_cons (ev_var (by rfl)) evs_nil)) (by decide +kernel) rfl) ?_
  refine do_seq (do_new (d := dm (match steps with | [] => [] | _ => [steps])) (evn_if (b := decide (0 < (steps.length : Int))) (evt_cmp (ev_var (by rfl)) ev_int gt_ii) (fun hc => ?_) (fun hc => ?_)) (by rfl) (by decide +kernel)) ?_
  · cases steps with
    | nil => simp at hc
    | cons x xs => exact evn_list (evs_cons (ev_callx (by decide +kernel) (N.cList (by rw [List.length_map]; omega)) (evs_cons (ev_var (by rfl)) evs_nil)) evs_nil) (by simp)
  · cases steps with
    | nil => exact evn_list evs_nil (Nat.zero_le _)
    | cons x xs => exfalso; simp at hc <;> omega
  · refine do_seq (do_forR 0 (steps.length - 1) (fun _ => [((nm "size"), .int (steps.length : Nat)), ((nm "steps"), dis steps)]) (fun f => some ((nm "found"), dm f)) _ _ (stepP steps) (it_cast (it_range1 (by decide +kernel) N.range rfl rfl (ev_bin (ev_var (by rfl)) ev_int sub_ii) (sm_range (by omega) (by omega))) (by congr 1 <;> omega)) (by repeat first | exact Sub.nil | refine Sub.cons (by rfl) ?_) rfl
      ((foldO_app (fun a => (List.range steps.length).map fun s => if (s == a) = true then 1 else 0) _ _ (by cases steps <;> simp at h ⊢ <;> omega)).trans ?_) (fun _ => by rfl) ?_) (do_retOS (ev_var (by rfl)) rfl)
    · cases steps <;> rfl
    · intro i hi f f' hf
      obtain ⟨hb, hf⟩ := grd_some hf
      have hb : f.length ≤ 1000 := by simpa using hb
      cases hf
      refine do_seq (do_append (d := dis ((List.range steps.length).map fun s => if (s == i) = true then 1 else 0)) ?_ ?_) ?_
      · refine ev_cast (d := .list ((List.range steps.length).map fun s => .int (if (s == i) = true then 1 else 0))) ?_ (by rw [dis, List.map_map]; rfl)
        refine ev_comp [((nm "at"), .int (0 + (i : Int)))] (it_cast (it_range1 (by decide +kernel) N.range rfl rfl (ev_var (by rfl)) (sm_range (by omega) (by omega))) (by congr 1 <;> omega)) (cr_range 0 steps.length _ fun c hc => ?_) (by decide +kernel) (seen_cons (by rfl) (by decide +kernel) seen_nil) (by decide +kernel) (by rw [rng_len]; omega)
        refine ev_if (b := c == i) (evt_cast (evt_cmp (ev_var (by rfl)) (ev_var (by rfl)) eq_ii) (by rw [Bool.eq_iff_iff, beq_iff_eq, beq_iff_eq]; omega)) (fun h => ?_) (fun h => ?_)
        · rw [if_pos h]; exact ev_int
        · rw [if_neg (by rw [h]; decide)]; exact ev_int
      · rw [List.length_map]; omega
      · exact do_nilS (by repeat first | exact Sub.nil | refine Sub.cons (by rfl) ?_) ⟨rfl, by simp [dm]⟩

noncomputable def raisedF : Nat → List (List Int) → List (List Int) → Nat → Option (List (List Int))
  | 0, _, _, _ => none
  | k + 1, f, sq, m => if m = 0 then some f else
    (if m % 2 = 1 then mulP f sq else some f).bind fun f' => (if 0 < m / 2 then mulP sq sq else some sq).bind fun sq' => raisedF k f' sq' (m / 2)

theorem len_dm (N : Names G) {m : List (List Int)} (h : m.length ≤ 1000) : CallsTo G n (nm "len") [dm m] (.int m.length) := by
  have := N.cLen (n := n) (ds := m.map dis) (by rw [List.length_map]; omega)
  rwa [List.length_map] at this

theorem c_raised (N : Names G) (F : Mats G) {a r : List (List Int)} {m k : Nat} (ha : a.length ≤ 1000) (h : raisedF k (unitP a.length) a m = some r) : CallsTo G (n + 2) (nm "matrix_raised") [dm a, .int m] (dm r) := by
  refine F.raised.calls rfl ?_
  refine do_seq (do_swap (d1 := dm (unitP a.length)) (d2 := dm a) (ev_tupS (evs_cons (ev_callx (by decide +kernel) (c_unit N F ha) (evs_cons (ev_callx (by decide +kernel) (len_dm N ha) (evs_cons (ev_var (by rfl)) evs_nil)) evs_nil)) (evs_cons (ev_var (by rfl)) evs_nil))) (by decide +kernel) (by decide +kernel) rfl rfl (by decide +kernel) rfl rfl rfl rfl rfl) ?_
  let τ : List (List Int) × List (List Int) × Nat → Sg := fun p => [((nm "found"), dm p.1), ((nm "square"), dm p.2.1), ((nm "n"), .int p.2.2)]
  refine do_cons (Ψ := fun o => ∃ sq, o = .next [((nm "found"), dm r), ((nm "square"), sq), ((nm "n"), .int 0)] none) ((do_whileN (Φ := fun o => ∃ sq, o = .next [((nm "found"), dm r), ((nm "square"), sq), ((nm "n"), .int 0)] none) τ (fun _ => none) (fun k p => raisedF k p.1 p.2.1 p.2.2 = some r) k (unitP a.length, a, m) (by repeat first | exact Sub.nil | refine Sub.cons (by rfl) ?_) rfl h ?_).mono fun _ h => h.1) (fun σ' ω' h => by obtain ⟨sq, e⟩ := h; cases e; exact do_retS (ev_var (by rfl)) rfl) (fun σ' ω' h => by obtain ⟨sq, e⟩ := h; cases e) (fun _ h => by obtain ⟨sq, e⟩ := h; cases e)
  rintro k ⟨f, sq, m⟩ h
  cases k with
  | zero => cases h
  | succ k =>
    replace h : raisedF (k + 1) f sq m = some r := h
    unfold raisedF at h
    refine ⟨decide (0 < m), evt_cast (evt_cmp (ev_var (by rfl)) ev_int gt_ii) (by simp), fun hc => ?_, fun hc => ?_⟩
    · have hm : 0 < m := by simpa using hc
      rw [if_neg (by omega)] at h
      obtain ⟨f', h1, h⟩ := bind_some h
      obtain ⟨sq', h2, h3⟩ := bind_some h
      refine do_seq (σ₁ := [((nm "found"), dm f'), ((nm "square"), dm sq), ((nm "n"), .int m)]) (ω₁ := none) ((do_if (Φ := fun o => ∃ σ', o = .next σ' none ∧ Sub [((nm "found"), dm f'), ((nm "square"), dm sq), ((nm "n"), .int m)] σ') (b := decide (m % 2 = 1)) (evt_cast (evt_cmp (ev_bin (ev_var (by rfl)) ev_int (mod_ii (by decide))) ev_int eq_ii) ?_) (fun hc => ?_) (fun hc => ?_)).out (fun σ' ω' ⟨_, e, hs⟩ => by cases e; exact ⟨_, hs, rfl⟩) (fun _ _ ⟨_, e, _⟩ => nomatch e) (fun _ ⟨_, e, _⟩ => nomatch e)) ?_
      · rw [Int.fmod_eq_emod_of_nonneg _ (by decide), Bool.eq_iff_iff, beq_iff_eq, decide_eq_true_eq]
        show (m : Int) % 2 = 1 ↔ _
        omega
      · rw [if_pos (by simpa using hc)] at h1
        exact do_last (Do1.mono (do_assign (ev_callx (by decide +kernel) (c_mul N F h1) (evs_cons (ev_var (by rfl)) (evs_cons (ev_var (by rfl)) evs_nil))) (by decide +kernel) rfl) fun o e => ⟨_, e, (by repeat first | exact Sub.nil | refine Sub.cons (by rfl) ?_)⟩)
      · rw [if_neg (by simpa using hc)] at h1
        cases h1
        exact do_nil ⟨_, rfl, (by repeat first | exact Sub.nil | refine Sub.cons (by rfl) ?_)⟩
      · refine do_seq (do_assign (d := .int (m / 2 : Nat)) (ev_cast (ev_bin (ev_var (by rfl)) ev_int (fdiv_ii (by decide) (by decide))) ?_) (by decide +kernel) rfl) ?_
        · rw [Int.fdiv_eq_ediv_of_nonneg _ (by decide)]; simp
        · refine do_seq (do_assign (d := dm sq') (ev_if (b := decide (0 < m / 2)) (evt_cast (evt_cmp (ev_var (by rfl)) ev_int gt_ii) (decide_eq_decide.mpr (by omega))) (fun hc => ?_) (fun hc => ?_)) (by decide +kernel) rfl) ?_
          · rw [if_pos (by simpa using hc)] at h2
            exact ev_callx (by decide +kernel) (c_mul N F h2) (evs_cons (ev_var (by rfl)) (evs_cons (ev_var (by rfl)) evs_nil))
          · rw [if_neg (by simpa using hc)] at h2
            cases h2
            exact (ev_var (by rfl))
          · exact do_nilS (by repeat first | exact Sub.nil | refine Sub.cons (by rfl) ?_) ⟨k, (f', sq', m / 2), Nat.lt_succ_self k, rfl, rfl, h3⟩
    · have hm : m = 0 := by simpa using hc
      subst hm
      rw [if_pos rfl] at h
      cases h
      exact ⟨dm sq, rfl⟩

noncomputable def numberP (steps first : List Int) (k : Nat) : Option Int :=
  grd (sml steps && sml first && decide (k ≤ 1000)) (
  if k < steps.length then first[k]? else
  if steps.length = 0 then some 0 else
  (raisedF 12 (unitP (stepP steps).length) (stepP steps) (k - steps.length + 1)).bind fun m => match m with
    | row :: _ => grd (decide (row.length ≤ 1000) && row.all fun x => decide (Sm x)) (some ((row.zip first.reverse).map fun p => p.1 * p.2).sum)
    | [] => none)

theorem c_number (N : Names G) (F : Mats G) {steps first : List Int} {k : Nat} {r : Int} (h : numberP steps first k = some r) : CallsTo G (n + 3) (nm "number_at") [dis steps, dis first, .int k] (.int r) := by
  obtain ⟨h1, h⟩ := grd_some h
  simp only [Bool.and_eq_true, decide_eq_true_eq, sml] at h1
  obtain ⟨⟨hs, hf⟩, hk⟩ := h1
  refine F.number.calls rfl ?_
  by_cases h1 : k < steps.length
  · rw [if_pos h1] at h
    refine do_cons (Ψ := (· = .ret (.int r))) (do_if (b := true) (evt_cast (evt_cmp (ev_var (by rfl)) (ev_callx (by decide +kernel) (len_dis N hs) (evs_cons (ev_var (by rfl)) evs_nil)) lt_ii) (by simp; omega)) (fun _ => do_retS (ev_sub (ev_var (by rfl)) (ev_var (by rfl)) (get_i h rfl hf)) rfl) (fun h => nomatch h)) (fun _ _ h => nomatch h) (fun _ _ h => nomatch h) fun _ h => h
  · rw [if_neg h1] at h
    refine do_ifF (evt_cast (evt_cmp (ev_var (by rfl)) (ev_callx (by decide +kernel) (len_dis N hs) (evs_cons (ev_var (by rfl)) evs_nil)) lt_ii) (by simp; omega)) ?_
    by_cases h2 : steps.length = 0
    · rw [if_pos h2] at h
      cases h
      refine do_cons (Ψ := (· = .ret (.int 0))) (do_if (b := true) (evt_cast (evt_cmp (ev_callx (by decide +kernel) (len_dis N hs) (evs_cons (ev_var (by rfl)) evs_nil)) ev_int eq_ii) (by simp [h2])) (fun _ => do_retS ev_int rfl) (fun h => nomatch h)) (fun _ _ h => nomatch h) (fun _ _ h => nomatch h) fun _ h => h
    · rw [if_neg h2] at h
      refine do_ifF (evt_cast (evt_cmp (ev_callx (by decide +kernel) (len_dis N hs) (evs_cons (ev_var (by rfl)) evs_nil)) ev_int eq_ii) (by simp; intro e; exact h2 (by rw [e]; rfl))) ?_
      obtain ⟨m, h3, h4⟩ := bind_some h
      cases m with
      | nil => cases h4
      | cons row rest =>
        obtain ⟨h5, h6⟩ := grd_some h4
        cases h6
        simp only [Bool.and_eq_true, decide_eq_true_eq, List.all_eq_true] at h5
        have hsl : (stepP steps).length ≤ 1000 := by
          cases steps with
          | nil => simp [stepP]
          | cons x xs => simp [stepP] at hs ⊢; omega
        refine do_seq (do_assign (d := dm (row :: rest)) (ev_callx (by decide +kernel) (c_raised N F hsl h3) (evs_cons (ev_callx (by decide +kernel) (c_step N F hs) (evs_cons (ev_var (by rfl)) evs_nil)) (evs_cons (ev_cast (ev_bin (ev_bin (ev_var (by rfl)) (ev_callx (by decide +kernel) (len_dis N hs) (evs_cons (ev_var (by rfl)) evs_nil)) sub_ii) ev_int add_ii) (by congr 1; omega)) evs_nil))) (by decide +kernel) rfl) ?_
        refine do_retS (ev_callx (by decide +kernel) N.cSum (evs_cons ?_ evs_nil)) rfl
        refine ev_cast (d := .list ((row.zip first.reverse).map fun p => .int (p.1 * p.2))) ?_ (by rw [dis, List.map_map]; rfl)
        refine ev_comp [] (it_cast (it_zip (as := row.map D.int) (bs := first.reverse.map D.int) (by decide +kernel) N.zip rfl (ev_sub (ev_var (by rfl)) ev_int (get_list (by decide) rfl (by decide))) (ev_cast (ev_rev (ev_var (by rfl)) (ev_neg ev_int) (by rw [List.length_map]; omega)) (by rw [List.map_reverse]))) (ds' := (row.zip first.reverse).map fun p => .tup [.int p.1, .int p.2]) ?_) (cr_mapT _ _ _ fun p hp => ⟨_, rfl, ?_⟩) (by decide +kernel) seen_nil (by decide +kernel) ?_
        · simp only [zip2, List.zip_map, List.map_map]; rfl
        · exact ev_bin (ev_var (by rfl)) (ev_var (by rfl)) (mul_ii (.inl (h5.2 _ (List.of_mem_zip hp).1)))
        · rw [List.length_map, List.length_zip]; omega
end
end Mine

namespace Mine

/-! polynomials over the whole numbers, and the law's own helper -/
structure Polys (G : Wd) : Prop where
  zmul : FunAt G (nm "zmul") 37 [(nm "a"), (nm "b")]
  zpower : FunAt G (nm "zpower") 38 [(nm "p"), (nm "many")]
  shared : FunAt G (nm "_law_shared") 42 [(nm "word")]

section
variable {G : Wd} {n : Nat}

theorem evt_orF {sc : Scope} {σ : Sg} {x y pos} (h1 : EvT G n sc σ x false) (h2 : EvT G n sc σ y false) : EvT G n sc σ (.BoolOp .Or [x, y] pos) false := fun A env P s R e => by
  refine wpAny_isTrue_BoolOp (wpAny_allTrue_Or_cons (wpAny_mono (h1 A env P s R e) (fun c s₁ q₁ => ?_) fun _ _ x => x))
  obtain ⟨rfl, k₁⟩ := q₁
  refine wpAny_allTrue_Or_cons (wpAny_mono (h2 A env P s₁ R (e.keep k₁ fun _ p => p)) (fun c s₂ q₂ => ?_) fun _ _ x => x)
  obtain ⟨rfl, k₂⟩ := q₂
  exact wpAny_allTrue_Or_nil ⟨rfl, k₁.trans k₂⟩

noncomputable def zmulP (a b : List Int) : Option (List Int) :=
  grd (sml a && sml b && decide (0 < a.length) && decide (0 < b.length)) (foldO (fun f (x : Int × Nat) => if (x.1 == 0) = true then some f else
    foldO (fun f (y : Int × Nat) => match f[x.2 + y.2]? with
      | some z => grd (decide (Sm x.1) && decide (f.length ≤ 2000)) (some (f.set (x.2 + y.2) (z + x.1 * y.1)))
      | none => none) f b.zipIdx) (List.replicate (a.length + b.length - 1) 0) a.zipIdx)

theorem c_zmul (N : Names G) (F : Polys G) {a b r : List Int} (h : zmulP a b = some r) : CallsTo G (n + 1) (nm "zmul") [dis a, dis b] (dis r) := by
  obtain ⟨h1, h⟩ := grd_some h
  simp only [Bool.and_eq_true, decide_eq_true_eq, sml] at h1
  obtain ⟨⟨⟨ha, hb⟩, ha0⟩, hb0⟩ := h1
  refine F.zmul.calls rfl ?_
  refine do_ifF (evt_orF (evt_cast (evt_cmp (ev_callx (by decide +kernel) (len_dis N ha) (evs_cons (ev_var (by rfl)) evs_nil)) ev_int eq_ii) (by rw [beq_eq_false_iff_ne]; omega)) (evt_cast (evt_cmp (ev_callx (by decide +kernel) (len_dis N hb) (evs_cons (ev_var (by rfl)) evs_nil)) ev_int eq_ii) (by rw [beq_eq_false_iff_ne]; omega))) ?_
  have e : dis (List.replicate (a.length + b.length - 1) 0) = .list ((List.replicate ((a.length : Int) + b.length - 1).toNat [D.int 0]).flatten) := by
    rw [flat_rep, dis, List.map_replicate, show ((a.length : Int) + b.length - 1).toNat = a.length + b.length - 1 by omega]
  refine do_seq (do_new (d := dis (List.replicate (a.length + b.length - 1) 0)) (e ▸ evn_bin (ev_listS (evs_cons ev_int evs_nil)) (ev_bin (ev_bin (ev_callx (by decide +kernel) (len_dis N ha) (evs_cons (ev_var (by rfl)) evs_nil)) (ev_callx (by decide +kernel) (len_dis N hb) (evs_cons (ev_var (by rfl)) evs_nil)) add_ii) ev_int sub_ii) (mulN (by omega) (by omega) (by simp; omega))) (by rfl) (by decide +kernel)) ?_
  refine do_seq (do_forL a.zipIdx (fun x => .tup [.int x.2, .int x.1]) (fun _ => [((nm "a"), dis a), ((nm "b"), dis b)]) (fun f => some ((nm "found"), dis f)) _ _ r (it_cast (it_enum (by decide +kernel) N.enum rfl (ev_var (by rfl))) (enum_map D.int a)) (by repeat first | exact Sub.nil | refine Sub.cons (by rfl) ?_) rfl h ?_) (do_retOS (ev_var (by rfl)) rfl)
  rintro ⟨x, i⟩ hi f f' hf
  refine ⟨_, rfl, by rfl, ?_⟩
  by_cases hx : (x == 0) = true
  · simp only [hx, if_true, Option.some.injEq] at hf
    subst hf
    exact do_last (do_if (b := false) (evt_cast (evt_cmp (ev_var (by rfl)) ev_int ne_ii) (by simpa using hx)) (fun h => nomatch h) (fun _ => do_nilS (by repeat first | exact Sub.nil | refine Sub.cons (by rfl) ?_) ⟨rfl, rfl⟩))
  · simp only [hx] at hf
    refine do_last (do_if (b := true) (evt_cast (evt_cmp (ev_var (by rfl)) ev_int ne_ii) (by simpa using hx)) (fun _ => ?_) (fun h => nomatch h))
    refine do_seq (do_forL b.zipIdx (fun x => .tup [.int x.2, .int x.1]) (fun _ => [((nm "left"), .int x), ((nm "one"), .int i), ((nm "a"), dis a), ((nm "b"), dis b)]) (fun f => some ((nm "found"), dis f)) _ f f' (it_cast (it_enum (by decide +kernel) N.enum rfl (ev_var (by rfl))) (enum_map D.int b)) (by repeat first | exact Sub.nil | refine Sub.cons (by rfl) ?_) rfl hf ?_) (do_nilS (by repeat first | exact Sub.nil | refine Sub.cons (by rfl) ?_) ⟨rfl, rfl⟩)
    rintro ⟨y, j⟩ hj g g' hg
    cases hz : g[i + j]? with
    | none => simp [hz] at hg
    | some z =>
      simp only [hz] at hg
      obtain ⟨q1, q2⟩ := grd_some hg
      simp only [Bool.and_eq_true, decide_eq_true_eq] at q1
      cases q2
      refine ⟨_, rfl, by rfl, ?_⟩
      refine do_seq (do_augset (k := ((i + j : Nat) : Int)) (a := z) (b := x * y) (ev_cast (ev_bin (ev_var (by rfl)) (ev_var (by rfl)) add_ii) (by simp)) (ev_bin (ev_var (by rfl)) (ev_var (by rfl)) (mul_ii (.inl q1.1))) (by omega) (by rw [show ((i + j : Nat) : Int).toNat = i + j by omega, List.getElem?_map, hz]; rfl) (by rw [List.length_map]; omega)) ?_
      exact do_nilS (by repeat first | exact Sub.nil | refine Sub.cons (by rfl) ?_) ⟨rfl, by rw [show ((i + j : Nat) : Int).toNat = i + j by omega]; simp [dis, List.map_set]⟩

noncomputable def zpowF : Nat → List Int → List Int → Nat → Option (List Int)
  | 0, _, _, _ => none
  | k + 1, f, c, m => if m = 0 then some f else
    (if m % 2 = 1 then zmulP f c else some f).bind fun f' => (if 1 < m then zmulP c c else some c).bind fun c' => zpowF k f' c' (m / 2)

theorem c_zpower (N : Names G) (F : Polys G) {p r : List Int} {m k : Nat} (hp : p.length ≤ 1000) (h : zpowF k [1] p m = some r) : CallsTo G (n + 2) (nm "zpower") [dis p, .int m] (dis r) := by
  refine F.zpower.calls rfl ?_
  refine do_seq (do_swap (d1 := dis [1]) (d2 := dis p) (ev_tupS (evs_cons (ev_listS (evs_cons ev_int evs_nil)) (evs_cons (ev_callx (by decide +kernel) (N.cList (by rw [List.length_map]; omega)) (evs_cons (ev_var (by rfl)) evs_nil)) evs_nil))) (by decide +kernel) (by decide +kernel) rfl rfl (by decide +kernel) rfl rfl rfl rfl rfl) ?_
  let τ : List Int × List Int × Nat → Sg := fun p => [((nm "found"), dis p.1), ((nm "factor"), dis p.2.1), ((nm "many"), .int p.2.2)]
  refine do_cons (Ψ := fun o => ∃ sq, o = .next [((nm "found"), dis r), ((nm "factor"), sq), ((nm "many"), .int 0)] none) ((do_whileN (Φ := fun o => ∃ sq, o = .next [((nm "found"), dis r), ((nm "factor"), sq), ((nm "many"), .int 0)] none) τ (fun _ => none) (fun k p => zpowF k p.1 p.2.1 p.2.2 = some r) k ([1], p, m) (by repeat first | exact Sub.nil | refine Sub.cons (by rfl) ?_) rfl h ?_).mono fun _ h => h.1) (fun σ' ω' h => by obtain ⟨sq, e⟩ := h; cases e; exact do_retS (ev_var (by rfl)) rfl) (fun σ' ω' h => by obtain ⟨sq, e⟩ := h; cases e) (fun _ h => by obtain ⟨sq, e⟩ := h; cases e)
  rintro k ⟨f, c, m⟩ h
  cases k with
  | zero => cases h
  | succ k =>
    replace h : zpowF (k + 1) f c m = some r := h
    unfold zpowF at h
    refine ⟨decide (0 < m), evt_cast (evt_cmp (ev_var (by rfl)) ev_int gt_ii) (by simp), fun hc => ?_, fun hc => ?_⟩
    · have hm : 0 < m := by simpa using hc
      rw [if_neg (by omega)] at h
      obtain ⟨f', h1, h⟩ := bind_some h
      obtain ⟨c', h2, h3⟩ := bind_some h
      refine do_seq (σ₁ := [((nm "found"), dis f'), ((nm "factor"), dis c), ((nm "many"), .int m)]) (ω₁ := none) ((do_if (Φ := fun o => ∃ σ', o = .next σ' none ∧ Sub [((nm "found"), dis f'), ((nm "factor"), dis c), ((nm "many"), .int m)] σ') (b := decide (m % 2 = 1)) (evt_cast (evt_cmp (ev_bin (ev_var (by rfl)) ev_int (mod_ii (by decide))) ev_int eq_ii) ?_) (fun hc => ?_) (fun hc => ?_)).out (fun σ' ω' ⟨_, e, hs⟩ => by cases e; exact ⟨_, hs, rfl⟩) (fun _ _ ⟨_, e, _⟩ => nomatch e) (fun _ ⟨_, e, _⟩ => nomatch e)) ?_
      · rw [Int.fmod_eq_emod_of_nonneg _ (by decide), Bool.eq_iff_iff, beq_iff_eq, decide_eq_true_eq]
        show (m : Int) % 2 = 1 ↔ _
        omega
      · rw [if_pos (by simpa using hc)] at h1
        exact do_last (Do1.mono (do_assign (ev_callx (by decide +kernel) (c_zmul N F h1) (evs_cons (ev_var (by rfl)) (evs_cons (ev_var (by rfl)) evs_nil))) (by decide +kernel) rfl) fun o e => ⟨_, e, (by repeat first | exact Sub.nil | refine Sub.cons (by rfl) ?_)⟩)
      · rw [if_neg (by simpa using hc)] at h1
        cases h1
        exact do_nil ⟨_, rfl, (by repeat first | exact Sub.nil | refine Sub.cons (by rfl) ?_)⟩
      · refine do_seq (do_assign (d := dis c') (ev_if (b := decide (1 < m)) (evt_cast (evt_cmp (ev_var (by rfl)) ev_int gt_ii) (decide_eq_decide.mpr (by omega))) (fun hc => ?_) (fun hc => ?_)) (by decide +kernel) rfl) ?_
        · rw [if_pos (by simpa using hc)] at h2
          exact ev_callx (by decide +kernel) (c_zmul N F h2) (evs_cons (ev_var (by rfl)) (evs_cons (ev_var (by rfl)) evs_nil))
        · rw [if_neg (by simpa using hc)] at h2
          cases h2
          exact (ev_var (by rfl))
        · refine do_seq (do_assign (d := .int (m / 2 : Nat)) (ev_cast (ev_bin (ev_var (by rfl)) ev_int (fdiv_ii (by decide) (by decide))) ?_) (by decide +kernel) rfl) ?_
          · rw [Int.fdiv_eq_ediv_of_nonneg _ (by decide)]; simp
          · exact do_nilS (by repeat first | exact Sub.nil | refine Sub.cons (by rfl) ?_) ⟨k, (f', c', m / 2), Nat.lt_succ_self k, rfl, rfl, h3⟩
    · have hm : m = 0 := by simpa using hc
      subst hm
      rw [if_pos rfl] at h
      cases h
      exact ⟨dis c, rfl⟩

/-! words -/
noncomputable def dt (w : List Int) : D := .tup (w.map D.int)

theorem deq_ints : ∀ {a b : List Int}, deqL (deq 7) (a.map D.int) (b.map D.int) = some (a == b)
  | [], [] => rfl
  | [], _ :: _ => rfl
  | _ :: _, [] => rfl
  | x :: a, y :: b => by
    have ih := deq_ints (a := a) (b := b)
    have e : deq 7 (.int x) (.int y) = some (x == y) := rfl
    simp only [List.map_cons, deqL, e, ih]
    rfl

theorem slc_from {α : Type} {l : List α} {k : Nat} : slc l (some (k : Int)) none = l.drop k := by
  have h2 : kms_hi none l.length = l.length := rfl
  have h1 : kms_lo (some (k : Int)) l.length = min k l.length := by
    simp only [kms_lo]; split <;> omega
  unfold slc
  rw [h1, h2]
  rcases Nat.le_total k l.length with h | h
  · rw [Nat.min_eq_left h, List.take_of_length_le (by rw [List.length_drop]; omega)]
  · rw [Nat.min_eq_right h, Nat.sub_self, List.take_zero, List.drop_of_length_le h]

noncomputable def sharedP (w : List Int) : List Int := (List.range w.length).map fun s => if (w.drop s == w.take (w.length - s)) = true then 1 else 0

theorem len_dt (N : Names G) {l : List Int} (h : l.length ≤ 1000) : CallsTo G n (nm "len") [dt l] (.int l.length) := by
  have := N.cLenT (n := n) (ds := l.map D.int) (by rw [List.length_map]; omega)
  rwa [List.length_map] at this

theorem c_shared (N : Names G) (F : Polys G) {w : List Int} (hw : w.length ≤ 1000) : CallsTo G (n + 1) (nm "_law_shared") [dt w] (dis (sharedP w)) := by
  refine F.shared.calls rfl (do_retS ?_ rfl)
  refine ev_cast (d := .list ((List.range w.length).map fun s => .int (if (w.drop s == w.take (w.length - s)) = true then 1 else 0))) ?_ (by rw [dis, sharedP, List.map_map]; rfl)
  refine ev_comp [((nm "word"), dt w)] (it_cast (it_range1 (by decide +kernel) N.range rfl rfl (ev_callx (by decide +kernel) (len_dt N hw) (evs_cons (ev_var (by rfl)) evs_nil)) (sm_range (by omega) (by omega))) (by congr 1 <;> omega)) (cr_range 0 w.length _ fun s hs => ?_) (by decide +kernel) (seen_cons (by rfl) (by decide +kernel) seen_nil) (by decide +kernel) (by rw [rng_len]; omega)
  have hlo : slc (w.map D.int) (some (0 + (s : Int))) none = (w.drop s).map D.int := by rw [Int.zero_add, slc_from, List.map_drop]
  have hhi : slc (w.map D.int) none (some ((w.length : Int) - (0 + (s : Int)))) = (w.take (w.length - s)).map D.int := by
    rw [show (w.length : Int) - (0 + (s : Int)) = ((w.length - s : Nat) : Int) by omega, slc_to, List.map_take]
  refine ev_if (b := w.drop s == w.take (w.length - s)) (evt_cmp (ev_cast (ev_slice (ev_var (by rfl)) ⟨_, (ev_var (by rfl)), partInt⟩ rfl (.inr ⟨_, rfl, rfl, by rw [List.length_map]; omega⟩)) (by rw [hlo])) (ev_cast (ev_slice (ev_var (by rfl)) rfl ⟨_, ev_bin (ev_callx (by decide +kernel) (len_dt N hw) (evs_cons (ev_var (by rfl)) evs_nil)) (ev_var (by rfl)) sub_ii, partInt⟩ (.inr ⟨_, rfl, rfl, by rw [List.length_map]; omega⟩)) (by rw [hhi])) (eq_tt deq_ints)) (fun h => ?_) (fun h => ?_)
  · rw [if_pos h]; exact ev_int
  · rw [if_neg (by rw [h]; decide)]; exact ev_int
end
end Mine

namespace Mine

/-! keys of the law's dict: (word's end, count) -/
noncomputable def dk (k : K2) : D := .tup [.tup (k.1.map D.int), .int k.2]
noncomputable def KeyAt (h : Heap) (k : K2) (a : Addr) : Prop := Rv (fun _ => True) h (dk k) (.ref a)

theorem KeyAt.is {h : Heap} {k : K2} {a : Addr} (x : KeyAt h k a) : ∃ b t vs, h.IsTuple a #[.ref b, .int k.2 t] ∧ h.IsTuple b vs ∧ IntsAre vs.toList k.1 := by
  obtain ⟨a', us, e, _, ht, r⟩ := x
  cases e
  obtain ⟨v, w, e, ⟨b, vs, rfl, _, hb, rb⟩, t, rfl⟩ := Rvs.two r
  refine ⟨b, t, vs, ?_, hb, rb.ints⟩
  have : us = #[.ref b, .int k.2 t] := by rw [← Array.toList_inj]; exact e
  rwa [← this]

theorem KeyAt.of_is {P : PA} {h : Heap} {k : K2} {a : Addr} (x : IsKey2 P h k a) : KeyAt h k a := by
  obtain ⟨_, b, t, _, ht, vs, hb, hi⟩ := x
  exact ⟨a, _, rfl, trivial, ht, _, _, rfl, ⟨b, vs, rfl, trivial, hb, Rvs.of_ints hi⟩, _, _, rfl, ⟨t, rfl⟩, rfl⟩

theorem deq_dk {x y : K2} : deq 8 (dk x) (dk y) = some (decide (x = y)) := by
  have e1 : deq 8 (dk x) (dk y) = deqL (deq 7) [.tup (x.1.map D.int), .int x.2] [.tup (y.1.map D.int), .int y.2] := rfl
  have e2 : deq 7 (.tup (x.1.map D.int)) (.tup (y.1.map D.int)) = some (x.1 == y.1) := by
    have go : ∀ {a b : List Int}, deqL (deq 6) (a.map D.int) (b.map D.int) = some (a == b) := by
      intro a
      induction a with
      | nil => intro b; cases b <;> rfl
      | cons u a ih => intro b; cases b with
        | nil => rfl
        | cons v b =>
          have e : deq 6 (.int u) (.int v) = some (u == v) := rfl
          simp only [List.map_cons, deqL, e, ih]; rfl
    exact go
  have e3 : deq 7 (.int x.2) (.int y.2) = some (x.2 == y.2) := rfl
  rw [e1]
  simp only [deqL, e2, e3]
  obtain ⟨x1, x2⟩ := x
  obtain ⟨y1, y2⟩ := y
  by_cases h1 : x1 = y1 <;> by_cases h2 : x2 = y2 <;> simp [h1, h2]

theorem tupKey_of {prog : Program} {w : World} {h : Heap} {b : Addr} {vs : Array Value} {ns : List Int} (hb : h.IsTuple b vs) (hi : IntsAre vs.toList ns) : IsTupleKey (intKind prog w) h ns b := by
  obtain ⟨o, ho, hc, n, hd⟩ := hb
  refine ⟨o, vs, n, ho, hc, hd, ?_⟩
  generalize vs.toList = l at hi
  clear hd
  induction hi with
  | nil => exact .nil
  | cons n t r ih => exact .cons (by simp [intKind, Value.isInt]) ih

theorem isT_type {s : Shared} {a : Addr} {vs : Array Value} (ht : s.heap.IsTuple a vs) : s.TypeIs (.ref a) "tuple" := let ⟨o, ho, hc, _⟩ := ht; ⟨o, ho, hc⟩

section
variable {prog : Program} {w : World} {A : Around} {E : Value → Shared → Prop} {s : Shared}

theorem hash2 {a b : Addr} {ns : List Int} {m : Int} {t : Tok} {vs : Array Value} {Q : Int → Shared → Prop} (hu : A.units + 8 < cLine) (ht : s.heap.IsTuple a #[.ref b, .int m t]) (hb : s.heap.IsTuple b vs) (hi : IntsAre vs.toList ns)
    (h : Q (keyHash2 (ns, m)) { s with toks := s.toks + (ns.length + 3) }) : wpAny (model prog w) A (pyHash (.ref a)) Q E s := by
  have hT := isT_type ht
  obtain ⟨o, ho, _, n, hd⟩ := ht
  unfold pyHash
  first | unfold pyHashByItsType | skip
  first | refine wpAny_bind (wpAny_cRoomFor_or (.inr (by omega)) ?_) | skip
  refine wpAny_bind (wpAny_specialOf hT F.slot_tuple_hash.lookup ?_)
  show wpAny _ _ (if (some (Value.builtin "tuple.__hash__") == some Value.none) = true then _ else _) Q E s
  rw [if_neg (by rw [beq_builtin_none]; exact Bool.false_ne_true)]
  refine wpAny_bind (wpAny_specialOf hT F.slot_tuple_hash.lookup ?_)
  show wpAny _ _ (callSpecialIfBoundUnlessNone? (.ref a) "__hash__" _ >>= _) Q E s
  refine wpAny_bind (wpAny_callSpecialIfBoundUnlessNone?_slot hT F.slot_tuple_hash (wpAny_call_entry F.slot_tuple_hash hT F.entry_tuple_hash ?_ (F.args_tuple_hash_1 _)))
  show wpAny _ _ (Builtin.Tuple.tupleItemsOf (.ref a) >>= _) _ _ s
  refine wpAny_bind (wpAny_tupleItemsOf ho hd ?_)
  refine wpAny_bind ?_
  rw [← Array.forIn_toList]
  show wpAny _ _ (forIn [Value.ref b, Value.int m t] _ _) _ _ s
  rw [List.forIn_cons]
  refine wpAny_bind (wpAny_bind (wpAny_pyHash_tuple (ks := ns) (by first | (show A.units + 1 < cLine; omega) | (show A.units < cLine; omega) | (show A.units + 1 + 1 < cLine; omega)) (tupKey_of hb hi) ?_))
  refine wpAny_pure ?_
  show wpAny _ _ (forIn [Value.int m t] _ _) _ _ _
  rw [List.forIn_cons]
  refine wpAny_bind (wpAny_bind (wpAny_pyHash_int ?_))
  refine wpAny_pure ?_
  show wpAny _ _ (forIn ([] : List Value) _ _) _ _ _
  rw [List.forIn_nil]
  refine wpAny_pure ?_
  show wpAny _ _ (retInt (Builtin.Tuple.tupleHashOf [tupleKeyHash (intKind prog w) ns, hashInt m])) _ _ _
  refine wpAny_ret_mkInt ?_
  have e0 : tupleKeyHash (intKind prog w) ns = reduceHash (Builtin.Tuple.tupleHashOf (ns.map hashInt)) := rfl
  rw [e0]
  have h' : Q (reduceHash (Builtin.Tuple.tupleHashOf [reduceHash (Builtin.Tuple.tupleHashOf (ns.map hashInt)), hashInt m])) { s with toks := s.toks + (ns.length + 1) + 1 + 1 } := by
    rw [show s.toks + (ns.length + 1) + 1 + 1 = s.toks + (ns.length + 3) by omega]; exact h
  generalize Builtin.Tuple.tupleHashOf [reduceHash (Builtin.Tuple.tupleHashOf (ns.map hashInt)), hashInt m] = T at h' ⊢
  show wpAny _ _ (if (decide (-(2 : Int) ^ 63 ≤ T) && decide (T < 2 ^ 63)) = true then _ else _) Q E _
  unfold reduceHash at h'
  by_cases hr : (decide (-(2 : Int) ^ 63 ≤ T) && decide (T < 2 ^ 63)) = true
  · rw [if_pos hr]
    rw [if_pos hr] at h'
    exact wpAny_pure h'
  · rw [if_neg hr]
    rw [if_neg hr] at h'
    exact wpAny_bind (wpAny_rule (wpAny_pure h'))

theorem quiet_tuple7 {ns : List Int} {b : Addr} {vs : Array Value} {Q : Bool → Shared → Prop} {n : Nat} (hb : s.heap.IsTuple b vs) (hi : IntsAre vs.toList ns) (h : Q true s) : wpAny (model prog w) A (eqIsQuiet (n + 1) (.ref b)) Q E s := by
  have hT := isT_type hb
  obtain ⟨o, ho, hc, n', hd⟩ := hb
  have hv : ∀ v ∈ vs.toList, carriedByValue v = true := by
    generalize vs.toList = l at hi
    clear hd
    induction hi with
    | nil => intro v hv; cases hv
    | cons n t r ih =>
      intro v hv
      rcases List.mem_cons.mp hv with rfl | hv
      · rfl
      · exact ih v hv
  unfold eqIsQuiet
  refine wpAny_bind (wpAny_specialOf hT F.slot_tuple_eq.lookup ?_)
  show wpAny _ _ (isInstance (.ref b) (.type "tuple") >>= _) _ _ s
  refine wpAny_bind (wpAny_isInstance hT isSubtype_tuple_tuple ?_)
  simp only [Bool.not_true, Bool.false_eq_true, if_false]
  refine wpAny_bind (wpAny_seqItems ho hd ?_)
  refine wpAny_bind ?_
  show wpAny _ _ (forIn vs _ _) _ _ s
  rw [← Array.forIn_toList]
  refine wpAny_forIn_list _ (fun rest r s' => r.1 = none ∧ s' = s ∧ ∀ v ∈ rest, carriedByValue v = true) _ ?_ ?_ _ _ ⟨rfl, rfl, hv⟩
  · rintro v rest r s' ⟨hr, rfl, hall⟩
    rw [eqIsQuiet_byValue _ (hall v List.mem_cons_self)]
    refine wpAny_bind (wpAny_pure ?_)
    simp only [Bool.not_true, Bool.false_eq_true, if_false]
    exact wpAny_pure ⟨rfl, rfl, fun u hu' => hall u (List.mem_cons_of_mem _ hu')⟩
  · rintro ⟨r1, r2⟩ s' ⟨hr, rfl, _⟩
    simp only at hr
    subst hr
    exact wpAny_pure h

theorem quiet2 {a b : Addr} {ns : List Int} {m : Int} {t : Tok} {vs : Array Value} {Q : Bool → Shared → Prop} (ht : s.heap.IsTuple a #[.ref b, .int m t]) (hb : s.heap.IsTuple b vs) (hi : IntsAre vs.toList ns) (h : Q true s) : wpAny (model prog w) A (eqIsQuiet 8 (.ref a)) Q E s := by
  have hT := isT_type ht
  obtain ⟨o, ho, hc, n', hd⟩ := ht
  unfold eqIsQuiet
  refine wpAny_bind (wpAny_specialOf hT F.slot_tuple_eq.lookup ?_)
  show wpAny _ _ (isInstance (.ref a) (.type "tuple") >>= _) _ _ s
  refine wpAny_bind (wpAny_isInstance hT isSubtype_tuple_tuple ?_)
  simp only [Bool.not_true, Bool.false_eq_true, if_false]
  refine wpAny_bind (wpAny_seqItems ho hd ?_)
  refine wpAny_bind ?_
  show wpAny _ _ (forIn #[Value.ref b, Value.int m t] _ _) _ _ s
  rw [← Array.forIn_toList]
  show wpAny _ _ (forIn [Value.ref b, Value.int m t] _ _) _ _ s
  rw [List.forIn_cons]
  refine wpAny_bind (wpAny_bind (quiet_tuple7 hb hi ?_))
  simp only [Bool.not_true, Bool.false_eq_true, if_false]
  refine wpAny_pure ?_
  show wpAny _ _ (forIn [Value.int m t] _ _) _ _ _
  rw [List.forIn_cons]
  rw [eqIsQuiet_byValue _ rfl]
  refine wpAny_bind (wpAny_bind (wpAny_pure ?_))
  simp only [Bool.not_true, Bool.false_eq_true, if_false]
  refine wpAny_pure ?_
  show wpAny _ _ (forIn ([] : List Value) _ _) _ _ _
  rw [List.forIn_nil]
  exact wpAny_pure (wpAny_pure h)
end

noncomputable def k2Kind (prog : Program) (w : World) : HeapKind prog w K2 where
  is := KeyAt
  hash := keyHash2
  draws := fun k => k.1.length + 3
  room := fun A => A.units + 16 < cLine
  inj := fun {h a x y} hx hy => by
    have := deq_same 8 hx hy deq_dk
    exact of_decide_eq_true this
  keeps := fun {h h' k a d o es ep} x ho hd hs => by
    obtain ⟨b, t, vs, ht, hb, hi⟩ := x.is
    have key : ∀ {c vs}, h.IsTuple c vs → h'.IsTuple c vs := fun {c vs} ⟨oc, hoc, hcc, n, hdc⟩ => by
      have hne : c ≠ d := by
        rintro rfl
        rw [ho] at hoc
        cases hoc
        rw [hd] at hdc; cases hdc
      exact ⟨oc, (hs.2 c hne).trans hoc, hcc, n, hdc⟩
    exact ⟨a, _, rfl, trivial, key ht, _, _, rfl, ⟨b, vs, rfl, trivial, key hb, Rvs.of_ints hi⟩, _, _, rfl, ⟨t, rfl⟩, rfl⟩
  pyHash := fun hu hk h => by
    obtain ⟨b, t, vs, ht, hb, hi⟩ := hk.is
    exact hash2 (by omega) ht hb hi h
  eqBool := fun hu hx hy h => eqAt 8 (by omega) hx hy deq_dk _ _ _ _ h
  quiet := fun hk h => by
    obtain ⟨b, t, vs, ht, hb, hi⟩ := hk.is
    exact quiet2 ht hb hi h
end Mine

namespace Mine

/-! a dict's keys, one after the other, whatever they are -/
section
variable {prog : Program} {w : World} {A : Around} {E : Value → Shared → Prop} {s : Shared}

theorem iter_keys {d : Addr} {o : Obj} {es : Array DictEntry} {ep : Nat} {Q : Value → Shared → Prop} (hd : d ≠ 1) (ho : s.heap.get? d = some o) (hc : o.ExactDict) (hdat : o.data = .dict es ep)
    (hQ : Q (.ref s.heap.objs.size) { s with heap := s.heap.push { cls := .type "dict_keyiterator", data := .fields #[.ref d, .int 0 0, .int es.size 0, .int ep 0] } }) : wpAny (model prog w) A (pyIter (.ref d)) Q E s := by
  have hd' : (d == sysModules) = false := by rw [beq_eq_false_iff_ne]; exact hd
  have hT : s.TypeIs (.ref d) "dict" := ⟨o, ho, hc.1⟩
  refine wpAny_pyIter_slot hT F.slot_dict_iter (wpAny_call_entry F.slot_dict_iter hT F.entry_dict_iter ?_ (F.args_dict_iter_1 _))
  unfold Builtin.«dict.__iter__»
  refine wpAny_bind ?_
  unfold Builtin.Dict.dictSlotNone
  refine wpAny_bind (wpAny_notOrdered_dict hT ?_)
  show wpAny _ _ (pure (Value.ref d)) _ _ s
  refine wpAny_pure ?_
  show wpAny _ _ (Builtin.Dict.showsAll d >>= _) _ _ s
  unfold Builtin.Dict.showsAll
  rw [if_neg (by rw [hd']; exact Bool.false_ne_true)]
  refine wpAny_bind (wpAny_pure ?_)
  refine wpAny_bind (wpAny_dictEntries ho hdat ?_)
  refine wpAny_bind (wpAny_dictEpoch ho hdat ?_)
  refine wpAny_bind (wpAny_newObj_type (wpAny_pure ⟨_, rfl, "dict_keyiterator", _, ⟨_, Heap.get?_push_size _ rfl, rfl⟩, F.slot_dict_keyiterator_next.lookup, ?_⟩))
  simpa [rawInt] using hQ

theorem next_key {it d : Addr} {i ep : Nat} {od : Obj} {es : Array DictEntry} {e : DictEntry} {Q : Option Value → Shared → Prop} (hit : s.heap.IsKeyIter it d i es.size ep) (hod : s.heap.get? d = some od) (hdd : od.data = .dict es ep) (hx : es[i]? = some e)
    (hQ : ∀ h', h'.IsKeyIter it d (i + 1) es.size ep → Heap.SameBut it s.heap h' → Q (some e.key) { s with heap := h' }) : wpAny (model prog w) A (pyNext (.ref it)) Q E s := by
  obtain ⟨o, ho, hc, hd⟩ := id hit
  unfold pyNext
  refine wpAny_bind (wpAny_attempt (wpAny_callSpecial?_slot (name := Str.ofString "__next__") hit.typeIs F.slot_dict_keyiterator_next
    (wpAny_call_entry F.slot_dict_keyiterator_next hit.typeIs F.entry_dict_keyiterator_next ?_ (F.args_dict_keyiterator_next_1 _))))
  refine wpAny_bind (wpAny_pure ?_)
  refine wpAny_bind ?_
  refine wpAny_bind ?_
  first | refine wpAny_bind (wpAny_typeNameOfWhole_keyiter hit.typeIs (wpAny_pure ?_)) | refine wpAny_bind (wpAny_typeNameOf_keyiter hit.typeIs (wpAny_pure ?_))
  refine wpAny_bind (wpAny_fieldsOf ho hd ?_)
  have hown : Builtin.Dict_items.ownsTuple "dict_keyiterator" = false := by decide
  simp only [hown, Bool.false_eq_true, if_false]
  show wpAny _ _ (if (Value.ref d == Value.none) = true then _ else _) _ _ s
  rw [if_neg (show ¬ ((Value.ref d == Value.none) = true) from Bool.false_ne_true)]
  refine wpAny_bind (wpAny_pure ?_)
  refine wpAny_bind (wpAny_dictEntries hod hdd ?_)
  rw [if_neg (by simp)]
  refine wpAny_bind (wpAny_pure ?_)
  refine wpAny_bind (wpAny_dictEpoch hod hdd ?_)
  rw [if_neg (by simp)]
  refine wpAny_pure ?_
  simp only [show ¬ ((i : Int) < 0) from by omega, if_false, Int.toNat_natCast, hx]
  refine wpAny_bind ?_
  first | refine wpAny_bind (wpAny_typeNameOfWhole_keyiter hit.typeIs (wpAny_pure ?_)) | refine wpAny_bind (wpAny_typeNameOf_keyiter hit.typeIs (wpAny_pure ?_))
  refine wpAny_bind (wpAny_isOneOf_keyiter hit.typeIs ?_)
  show wpAny _ _ (setField (.ref it) 1 (rawInt ((i : Int) + 1)) >>= _) _ _ s
  refine wpAny_bind (wpAny_setField ho hd (by simp) ?_)
  have hit' : (s.heap.update it (Obj.mapFields (·.setIfInBounds 1 (rawInt ((i : Int) + 1))))).IsKeyIter it d (i + 1) es.size ep :=
    ⟨_, Heap.get?_update_self _ ho (Obj.isFreed_of_fields (Obj.data_mapFields hd _)), (Obj.cls_mapFields ..).trans hc, by rw [Obj.data_mapFields hd]; simp [rawInt]⟩
  refine wpAny_bind (wpAny_holding ?_)
  refine wpAny_bind (wpAny_isOneOf_keyiter (s := { s with heap := s.heap.update it (Obj.mapFields (·.setIfInBounds 1 (rawInt ((i : Int) + 1)))) }) hit'.typeIs ?_)
  show wpAny _ _ (pure e.key) _ _ _
  exact wpAny_pure (wpAny_pure ⟨_, rfl, wpAny_pure (hQ _ hit' (Heap.SameBut.update ..))⟩)

theorem next_keys_end {it d : Addr} {i ep : Nat} {od : Obj} {es : Array DictEntry} {Q : Option Value → Shared → Prop} (hh : A.handled = none) (hit : s.heap.IsKeyIter it d i es.size ep) (hod : s.heap.get? d = some od) (hdd : od.data = .dict es ep) (hx : es[i]? = none)
    (hQ : ∀ h', Heap.ExtBut it s.heap h' → Q none { s with heap := h' }) : wpAny (model prog w) A (pyNext (.ref it)) Q E s := by
  obtain ⟨o, ho, hc, hd⟩ := id hit
  unfold pyNext
  refine wpAny_bind (wpAny_attempt (wpAny_callSpecial?_slot (name := Str.ofString "__next__") hit.typeIs F.slot_dict_keyiterator_next
    (wpAny_call_entry F.slot_dict_keyiterator_next hit.typeIs F.entry_dict_keyiterator_next ?_ (F.args_dict_keyiterator_next_1 _))))
  refine wpAny_bind (wpAny_pure ?_)
  refine wpAny_bind ?_
  refine wpAny_bind ?_
  first | refine wpAny_bind (wpAny_typeNameOfWhole_keyiter hit.typeIs (wpAny_pure ?_)) | refine wpAny_bind (wpAny_typeNameOf_keyiter hit.typeIs (wpAny_pure ?_))
  refine wpAny_bind (wpAny_fieldsOf ho hd ?_)
  have hown : Builtin.Dict_items.ownsTuple "dict_keyiterator" = false := by decide
  simp only [hown, Bool.false_eq_true, if_false]
  show wpAny _ _ (if (Value.ref d == Value.none) = true then _ else _) _ _ s
  rw [if_neg (show ¬ ((Value.ref d == Value.none) = true) from Bool.false_ne_true)]
  refine wpAny_bind (wpAny_pure ?_)
  refine wpAny_bind (wpAny_dictEntries hod hdd ?_)
  rw [if_neg (by simp)]
  refine wpAny_bind (wpAny_pure ?_)
  refine wpAny_bind (wpAny_dictEpoch hod hdd ?_)
  rw [if_neg (by simp)]
  refine wpAny_pure ?_
  simp only [show ¬ ((i : Int) < 0) from by omega, if_false, Int.toNat_natCast, hx]
  refine wpAny_bind ?_
  first | refine wpAny_bind (wpAny_typeNameOfWhole_keyiter hit.typeIs (wpAny_pure ?_)) | refine wpAny_bind (wpAny_typeNameOf_keyiter hit.typeIs (wpAny_pure ?_))
  show wpAny _ _ (setField (.ref it) 0 .none >>= _) _ _ s
  refine wpAny_bind (wpAny_setField ho hd (by simp) ?_)
  show wpAny _ _ (newExc (.type "StopIteration") [] >>= _) _ _ _
  refine wpAny_bind ?_
  simp only [newExc, newTuple]
  refine wpAny_bind (wpAny_newObj_type ?_ (by size_fits))
  refine wpAny_bind (m := firstArgMember _ _) (wpAny_of_eq (a := Value.none) (by first | rfl | (simp only [firstArgMember]; rfl)) ?_)
  refine wpAny_newObj_type ?_ (by size_fits)
  simp only [raiseNew]
  refine wpAny_bind (wpAny_handled ?_)
  rw [show A.in1.handled = none from hh]
  refine wpAny_bind (wpAny_pure (wpAny_throw ?_))
  refine wpAny_bind (wpAny_isInstance (T := "StopIteration") (b := true) ⟨_, Heap.get?_push_size _ rfl, rfl⟩ isSubtype_stop ?_)
  exact wpAny_pure (hQ _ (((Heap.SameBut.update ..).extBut.push _).push _))

theorem letGo_keys {tgt : Expr} {it d : Addr} {i n ep : Nat} {v : Value} {Q : Unit → Shared → Prop} (ht : isNm tgt = true ∨ isTu tgt = true) (hit : s.heap.IsKeyIter it d i n ep) (hQ : Q () s) : wpAny (model prog w) A (letOwnedTupleGo tgt (.ref it) v) Q E s := by
  rcases ht with ht | ht
  · rw [letGo_nm ht]; exact wpAny_pure hQ
  · obtain ⟨o, ho, hc, hd⟩ := hit
    cases tgt with
    | Tuple elts kk pos =>
      unfold letOwnedTupleGo
      cases v with
      | ref a =>
        refine wpAny_bind (wpAny_load ho ?_)
        rw [hc, hd]
        exact wpAny_pure hQ
      | _ => exact wpAny_pure hQ
    | _ => simp [isTu] at ht
end

/-! the dict's data -/
inductive XsAre (P : PA) (h : Heap) : List (K2 × Addr × Value) → List (K2 × Int) → Prop
  | nil : XsAre P h [] []
  | cons {k : K2} {m : Int} {a : Addr} {t : Tok} {xs l} : IsKey2 P h k a → XsAre P h xs l → XsAre P h ((k, a, .int m t) :: xs) ((k, m) :: l)

noncomputable def dget : List (K2 × Int) → K2 → Option Int
  | [], _ => none
  | (k', m) :: r, k => if k' = k then some m else dget r k
noncomputable def dput : List (K2 × Int) → K2 → Int → List (K2 × Int)
  | [], k, m => [(k, m)]
  | (k', m') :: r, k, m => if k' = k then (k, m) :: r else (k', m') :: dput r k m

section
variable {prog : Program} {w : World} {P Q : PA} {h h' : Heap}
theorem XsAre.keys : ∀ {xs l}, XsAre P h xs l → xs.map (·.1) = l.map (·.1)
  | _, _, .nil => rfl
  | _, _, .cons _ r => by rw [List.map_cons, List.map_cons, XsAre.keys r]
theorem XsAre.tr (T : Tr P Q h h') : ∀ {xs l}, XsAre P h xs l → XsAre Q h' xs l
  | _, _, .nil => .nil
  | _, _, .cons k r => .cons (k.tr T) (XsAre.tr T r)
theorem XsAre.is : ∀ {xs l}, XsAre P h xs l → ∀ x ∈ xs, KeyAt h x.1 x.2.1
  | _, _, .nil, x, hx => nomatch hx
  | _, _, .cons k r, x, hx => by
    rcases List.mem_cons.mp hx with rfl | hx
    · exact .of_is k
    · exact XsAre.is r x hx
theorem XsAre.ents : ∀ {xs l}, XsAre P h xs l → EntsAre P h (xs.map (entryOfKey (k2Kind prog w))) l
  | _, _, .nil => .nil
  | _, _, .cons k r => .cons k (XsAre.ents r)
theorem EntsAre.xs : ∀ {es l}, EntsAre P h es l → ∃ xs, es = xs.map (entryOfKey (k2Kind prog w)) ∧ XsAre P h xs l
  | _, _, .nil => ⟨[], rfl, .nil⟩
  | _, _, .cons (k := k') (n := m) (a := a) (t := t) k r => let ⟨xs, e, x⟩ := EntsAre.xs r; ⟨(k', a, .int m t) :: xs, congrArg (DictEntry.mk (keyHash2 k') (.ref a) (.int m t) :: ·) e, .cons k x⟩

theorem IsDict2.of {a : Addr} {l} (x : IsDict2 P h a l) : ∃ xs, h.DictOfH (k2Kind prog w) a xs ∧ XsAre P h xs l ∧ a ≠ 1 := by
  obtain ⟨o, es, ep, ho, hx, hd, he, hn, h1⟩ := x
  obtain ⟨xs, e, hxs⟩ := EntsAre.xs (prog := prog) (w := w) he
  exact ⟨xs, ⟨o, es, ep, ho, hx, hd, e, hxs.is, by rw [hxs.keys]; exact hn⟩, hxs, h1⟩
theorem IsDict2.mk' {a : Addr} {xs l} (x : h.DictOfH (k2Kind prog w) a xs) (hxs : XsAre P h xs l) (h1 : a ≠ 1) : IsDict2 P h a l := by
  obtain ⟨o, es, ep, ho, hx, hd, e, _, hn⟩ := x
  exact ⟨o, es, ep, ho, hx, hd, e ▸ hxs.ents, by rw [← hxs.keys]; exact hn, h1⟩

theorem XsAre.get : ∀ {xs l k m}, XsAre P h xs l → dget l k = some m → ∃ a t, atKey xs k = some (a, .int m t)
  | _, _, k, m, .nil, e => nomatch e
  | _, _, k, m, .cons (k := k') (m := m') (a := a) (t := t) (xs := xs) (l := l) _ r, e => by
    unfold dget at e
    by_cases hk : k' = k
    · rw [if_pos hk] at e
      cases e
      exact ⟨a, t, by simp [atKey, hk]⟩
    · rw [if_neg hk] at e
      obtain ⟨b, u, hb⟩ := XsAre.get r e
      refine ⟨b, u, ?_⟩
      simpa [atKey, List.find?_cons, hk] using hb
theorem XsAre.no : ∀ {xs l k}, XsAre P h xs l → dget l k = none → atKey xs k = none
  | _, _, k, .nil, e => rfl
  | _, _, k, .cons (k := k') (m := m') (a := a) (t := t) (xs := xs) (l := l) _ r, e => by
    unfold dget at e
    by_cases hk : k' = k
    · rw [if_pos hk] at e; cases e
    · rw [if_neg hk] at e
      have := XsAre.no r e
      simpa [atKey, List.find?_cons, hk] using this

theorem dput_no : ∀ {l : List (K2 × Int)} {k : K2} {m : Int}, dget l k = none → dput l k m = l ++ [(k, m)]
  | [], _, _, _ => rfl
  | (k', m') :: r, k, m, e => by
    unfold dget at e
    by_cases hk : k' = k
    · rw [if_pos hk] at e; cases e
    · rw [if_neg hk] at e
      unfold dput
      rw [if_neg hk, dput_no e]; rfl

theorem XsAre.append : ∀ {xs l ys l'}, XsAre P h xs l → XsAre P h ys l' → XsAre P h (xs ++ ys) (l ++ l')
  | _, _, _, _, .nil, y => y
  | _, _, _, _, .cons k r, y => .cons k (XsAre.append r y)

theorem XsAre.same : ∀ {xs l k} {v : Value}, XsAre P h xs l → k ∉ l.map (·.1) → xs.map (putAt k v) = xs
  | _, _, k, v, .nil, _ => rfl
  | _, _, k, v, .cons (k := k') _ r, hn => by
    rw [List.map_cons, List.mem_cons, not_or] at hn
    rw [List.map_cons, XsAre.same r hn.2]
    unfold putAt
    rw [if_neg fun e => hn.1 e.symm]

theorem XsAre.put : ∀ {xs l k m t}, XsAre P h xs l → (l.map (·.1)).Nodup → (dget l k).isSome = true → XsAre P h (xs.map (putAt k (.int m t))) (dput l k m)
  | _, _, k, m, t, .nil, _, e => nomatch e
  | _, _, k, m, t, .cons (k := k') (m := m') (a := a) (t := t') (xs := xs) (l := l) hk' r, hn, e => by
    rw [List.map_cons, List.nodup_cons] at hn
    rw [List.map_cons]
    unfold dget at e
    unfold dput
    by_cases hk : k' = k
    · rw [if_pos hk]
      subst hk
      rw [r.same hn.1]
      show XsAre P h ((if k' = k' then (k', a, Value.int m t) else _) :: xs) _
      rw [if_pos rfl]
      exact .cons hk' r
    · rw [if_neg hk] at e ⊢
      show XsAre P h ((if k' = k then _ else (k', a, Value.int m' t')) :: _) _
      rw [if_neg hk]
      exact .cons hk' (XsAre.put r hn.2 e)

theorem XsAre.stored {xs l k m t a} (x : XsAre P h xs l) (hn : (l.map (·.1)).Nodup) (hk : IsKey2 P h k a) : XsAre P h (storedH xs k a (.int m t)) (dput l k m) := by
  cases e : dget l k with
  | none =>
    rw [storedH_new (x.no e), dput_no e]
    exact x.append (.cons hk .nil)
  | some m' =>
    obtain ⟨b, u, hb⟩ := x.get e
    rw [storedH_old hb]
    exact x.put hn (by rw [e]; rfl)
end
end Mine

namespace Mine

theorem key2_of {P : PA} {h : Heap} {k : K2} {a : Addr} (x : Rv P h (dk k) (.ref a)) : IsKey2 P h k a := by
  obtain ⟨a', us, e, pa, ht, r⟩ := x
  cases e
  obtain ⟨v, w, e, ⟨b, vs, rfl, pb, hb, rb⟩, t, rfl⟩ := Rvs.two r
  have : us = #[.ref b, .int k.2 t] := by rw [← Array.toList_inj]; exact e
  exact ⟨pa, b, t, pb, this ▸ ht, vs, hb, rb.ints⟩
theorem key2_rv {P : PA} {h : Heap} {k : K2} {a : Addr} (x : IsKey2 P h k a) : Rv P h (dk k) (.ref a) := by
  obtain ⟨pa, b, t, pb, ht, vs, hb, hi⟩ := x
  exact ⟨a, _, rfl, pa, ht, _, _, rfl, ⟨b, vs, rfl, pb, hb, Rvs.of_ints hi⟩, _, _, rfl, ⟨t, rfl⟩, rfl⟩
theorem dk_ref {P : PA} {h : Heap} {k : K2} {v : Value} (x : Rv P h (dk k) v) : ∃ a, v = .ref a := let ⟨a, _, e, _⟩ := x; ⟨a, e⟩
theorem Room.k2 {n : Nat} {A : Around} {prog : Program} {w : World} (R : Room n A) : (k2Kind prog w).room A.in1 := by have := R.units; show A.units + 1 + 16 < cLine; omega
theorem Room.k20 {n : Nat} {A : Around} {prog : Program} {w : World} (R : Room n A) : (k2Kind prog w).room A := by have := R.units; show A.units + 16 < cLine; omega

theorem nodup_dput : ∀ {l : List (K2 × Int)} {k : K2} {m : Int}, (l.map (·.1)).Nodup → ((dput l k m).map (·.1)).Nodup := by
  have keys : ∀ (l : List (K2 × Int)) (k : K2) (m : Int), ∀ x, x ∈ (dput l k m).map (·.1) → x = k ∨ x ∈ l.map (·.1) := by
    intro l k m
    induction l with
    | nil => intro x hx; simp [dput] at hx; exact .inl hx
    | cons p r ih =>
      intro x hx
      obtain ⟨k', m'⟩ := p
      unfold dput at hx
      by_cases h : k' = k
      · rw [if_pos h] at hx
        rw [List.map_cons, List.mem_cons] at hx
        rcases hx with e | hx
        · exact .inl e
        · exact .inr (List.mem_cons_of_mem _ hx)
      · rw [if_neg h] at hx
        rw [List.map_cons, List.mem_cons] at hx
        rcases hx with e | hx
        · exact .inr (by rw [e]; exact List.mem_cons_self)
        · exact (ih x hx).imp id fun q => List.mem_cons_of_mem _ q
  intro l k m
  induction l with
  | nil => intro _; simp [dput]
  | cons p r ih =>
    intro hn
    obtain ⟨k', m'⟩ := p
    rw [List.map_cons, List.nodup_cons] at hn
    unfold dput
    by_cases h : k' = k
    · rw [if_pos h, List.map_cons, List.nodup_cons]
      exact ⟨h ▸ hn.1, hn.2⟩
    · rw [if_neg h, List.map_cons, List.nodup_cons]
      exact ⟨fun hm => (keys r k m k' hm).elim h hn.1, ih hn.2⟩

theorem dget_mem : ∀ {l : List (K2 × Int)} {k : K2} {m : Int}, (l.map (·.1)).Nodup → (k, m) ∈ l → dget l k = some m
  | (k', m') :: r, k, m, hn, h => by
    rw [List.map_cons, List.nodup_cons] at hn
    unfold dget
    rcases List.mem_cons.mp h with e | h
    · obtain ⟨rfl, rfl⟩ := Prod.mk.inj e; rw [if_pos rfl]
    · rw [if_neg (fun (e : k' = k) => hn.1 (by rw [e]; exact List.mem_map.mpr ⟨_, h, rfl⟩))]
      exact dget_mem hn.2 h

section
variable {G : Wd} {n : Nat} {sc : Scope} {σ σ' : Sg} {ω ω' : Ow} {P P' P2 : PA} {env : Env} {s s' s₁ s₂ : Shared} {oa oa' : Addr} {Φ Ψ : Out → Prop}

theorem get_dict {l : List (K2 × Int)} {k : K2} {m : Int} (h : dget l k = some m) : GetOk G n (.dict l) (dk k) (.int m) := fun A s P vo vi R ho hi => by
  obtain ⟨d, rfl, pd, hd⟩ := ho
  obtain ⟨a, rfl⟩ := dk_ref hi
  obtain ⟨xs, hD, hx, h1⟩ := hd.of (prog := G.prog) (w := G.w)
  obtain ⟨b, t, hb⟩ := hx.get h
  exact ⟨⟨"dict", _, slot_dict_getitem.lookup, hD.typeIs⟩, wpAny_getItem_heap R.k2 (.of_is (key2_of hi)) hD hb ⟨Kp.tok s _, t, rfl⟩⟩

/-- a dict's keys walked -/
theorem it_keys {it tgt l} (h : EvE G n sc σ it (.dict l)) (ht : isNm tgt = true ∨ isTu tgt = true) : EvIt G n sc σ it tgt (l.map fun p => dk p.1) := fun A env P s R e lv => by
  refine wpAny_mono (h A env P s R e) (fun x s₁ q => ?_) fun _ _ x => x
  obtain ⟨k, r⟩ := q
  obtain ⟨d, rfl, ⟨pd, ld⟩, o, es, ep, ho, hx, hd, he, hn, h1⟩ := Rv.live r
  have hlen : es.size = l.length := by
    rw [← Array.length_toList]
    generalize es.toList = q at he ⊢
    clear hd hn r h
    induction he with
    | nil => rfl
    | cons _ _ ih => rw [List.length_cons, List.length_cons, ih]
  refine iter_keys h1 ho hx hd ?_
  have k2 := Kp.push s₁ { cls := .type "dict_keyiterator", data := .fields #[.ref d, .int 0 0, .int es.size 0, .int ep 0] }
  have nI : ¬ (fun a => PN s P a ∧ (s₁.heap.get? a).isSome = true) s₁.heap.objs.size := fun q => not_live (size_none s₁) q.2
  have at_ : ∀ {h : Heap} {es : List DictEntry} {l : List (K2 × Int)} {Q : PA}, EntsAre Q h es l → ∀ {i : Nat} {dd : D}, (l.map fun p => dk p.1)[i]? = some dd → ∃ en, es[i]? = some en ∧ Rv Q h dd en.key := by
    intro h es l Q he
    induction he with
    | nil => intro i dd hi; simp at hi
    | cons hk _ ih =>
      intro i dd hi
      cases i with
      | zero => simp at hi; subst hi; exact ⟨_, rfl, key2_rv hk⟩
      | succ i => simp only [List.map_cons, List.getElem?_cons_succ] at hi ⊢; exact ih hi
  refine ⟨_, [s₁.heap.objs.size], fun i h => h.IsKeyIter s₁.heap.objs.size d i es.size ep ∧ h.get? d = some o ∧ EntsAre (fun a => PN s P a ∧ (s₁.heap.get? a).isSome = true) h es.toList l, fun a => PN s P a ∧ (s₁.heap.get? a).isSome = true, rfl, k.trans k2, fun a p => ⟨.inl p, live_keep k (lv a p)⟩, fun a p => p.1, fun a p => live_keep k2 p.2, ?_,
    ⟨⟨_, push_new rfl, rfl, rfl⟩, k2.keep _ _ ho, he.tr (k2.trP _)⟩, ?_, ?_, ?_⟩
  · refine ⟨fun i h h' ⟨a, b, c⟩ kk => ⟨a.at fun o => kk _ o (.inl (by simp)), kk d _ (.inr ⟨pd, ld⟩) b, c.tr ⟨fun b o p => kk b o (.inr p), fun _ p => p⟩⟩, fun i s' dd hi ⟨a, b, c⟩ => ?_, fun s' ⟨a, b, c⟩ => ?_, fun i s' Q ⟨a, b, c⟩ q => wpAny_pyIter_keyiter a q, fun i h ⟨⟨o, ho, _⟩, _⟩ b hb => by rw [List.mem_singleton.mp hb, ho]; rfl⟩
    · obtain ⟨en, hen, rv⟩ := at_ c hi
      refine next_key a b hd (by simpa using hen) fun h' hit' hs' => ?_
      have kb : KpB [s₁.heap.objs.size] s' { s' with heap := h' } := .of (n := s'.toks) fun b o nb e => hs'.extBut b o (by simpa using nb) e
      have tr : Tr (fun a => PN s P a ∧ (s₁.heap.get? a).isSome = true) _ s'.heap h' := trB kb (by simpa using nI)
      refine ⟨_, rfl, kb, letGo_keys (s := { s' with heap := h' }) ht hit' ⟨KpB.refl _ _, ⟨hit', tr.keep d _ ⟨pd, ld⟩ b, c.tr tr⟩, (rv.tr tr).sub fun _ p => .inl p⟩⟩
    · refine next_keys_end R.handled a b hd (by rw [List.length_map, ← hlen]; simp) fun h' he' => ⟨rfl, .of (n := s'.toks) fun b o nb e => he' b o (by simpa using nb) e⟩
  · intro b hb; rw [List.mem_singleton.mp hb]; exact k.none (size_none s₁)
  · intro b hb; rw [List.mem_singleton.mp hb]; exact nI
  · intro b hb; rw [List.mem_singleton.mp hb, push_new rfl]; rfl

theorem size_ne1 {s : Shared} (g : GOk G s.heap) : s.heap.objs.size ≠ 1 := by
  have : 3 < s.heap.objs.size := g.g.lt
  omega

/-- `{}` -/
theorem evn_dict {pos} : EvN G n sc σ (.Dict [] [] pos) (.dict []) := fun A env P s R e => by
  refine wpAny_Dict_empty ⟨Kp.push _ _, _, rfl, size_none s, ?_⟩
  exact ⟨_, #[], 0, push_new rfl, ⟨rfl, rfl, rfl⟩, rfl, .nil, List.nodup_nil, size_ne1 e.gok⟩

/-- a display with one key -/
theorem ev_dict1 {ke ve pos k m} (h1 : EvE G n sc σ ke (dk k)) (h2 : EvE G n sc σ ve (.int m)) : EvE G n sc σ (.Dict [some ke] [ve] pos) (.dict [(k, m)]) := fun A env P s R e => by
  refine wpAny_Dict_any rfl rfl (by simp) (by simp) ?_
  have k0 := Kp.push s { cls := .type "dict", data := .dict #[] }
  have hD0 := push_new (s := s) (o := { cls := .type "dict", data := .dict #[] }) rfl
  have hn0 := size_none s
  have hne := size_ne1 e.gok
  generalize hD : s.heap.objs.size = D0 at hD0 hn0 hne ⊢
  generalize hs0 : ({ s with heap := s.heap.push { cls := .type "dict", data := .dict #[] } } : Shared) = s0 at k0 hD0 ⊢
  have hD0' : s0.heap.get? D0 = some { cls := .type "dict", data := .dict #[] } := by rw [← hs0]; exact hD0
  have e0 := e.keep k0 (Q := P) fun _ p => p
  refine evalPairs_cons (wpAny_mono (h1 A env P s0 R e0) (fun kv s₁ q₁ => ?_) fun _ _ x => x)
  have e₁ := e0.keep q₁.1 (Q := PN s0 P) fun _ p => .inl p
  refine wpAny_bind (wpAny_mono (h2 A env _ s₁ R e₁) (fun vv s₂ q₂ => ?_) fun _ _ x => x)
  refine wpAny_bind (wpAny_standAt (wpAny_pure ?_))
  obtain ⟨k₂, t, rfl⟩ := q₂
  obtain ⟨a, rfl⟩ := dk_ref q₁.2
  refine evalPairs_nil ?_
  unfold storeAll
  rw [List.forIn_cons]
  have k02 := q₁.1.trans k₂
  have hkey : IsKey2 (PN s0 P) s₂.heap k a := (key2_of q₁.2).tr (k₂.trP _)
  have hnew : s₂.heap.DictOfH (k2Kind G.prog G.w) D0 [] := ⟨_, #[], 0, k02.keep _ _ hD0', ⟨rfl, rfl, rfl⟩, rfl, rfl, fun _ hx => by simp at hx, List.nodup_nil⟩
  refine wpAny_bind (wpAny_bind (wpAny_dictSet_heap (hsz := by simp [sizeLine]) R.k20 (.of_is hkey) hnew fun h' hm' hs' => wpAny_pure ?_))
  show wpAny _ _ (forIn ([] : List (Value × Value)) _ _) _ _ _
  rw [List.forIn_nil]
  refine wpAny_pure ?_
  have kb : KpB [D0] s₂ { s₂ with heap := h', toks := s₂.toks + (k2Kind G.prog G.w).draws k } := .of fun b o nb e => hs'.extBut b o (by simpa using nb) e
  have kk : Kp s { s₂ with heap := h', toks := s₂.toks + (k2Kind G.prog G.w).draws k } := (((k0.trans k02).toB [D0]).trans kb).toKp (by simpa using hn0)
  -- the key does not lie at the dict
  have hka : IsKey2 (fun b => PN s0 P b ∧ ¬ b = D0) s₂.heap k a := by
    obtain ⟨pa, b, t, pb, ht, vs, hb, hi⟩ := hkey
    have nt : ∀ {c vs}, s₂.heap.IsTuple c vs → ¬ c = D0 := fun {c vs} ⟨o, ho, hc, _⟩ q => by
      rw [q, k02.keep _ _ hD0'] at ho
      cases ho
      injection hc with hc2
      exact absurd hc2 (by decide)
    exact ⟨⟨pa, nt ht⟩, b, t, ⟨pb, nt hb⟩, ht, vs, hb, hi⟩
  have hka' : IsKey2 (PN s P) h' k a := hka.tr ⟨fun b o p eo => kb.keep b o (by simpa using p.2) eo, fun b p => p.1.imp id k0.none⟩
  refine ⟨kk, _, rfl, .inr hn0, ?_⟩
  have hx : XsAre (PN s P) h' (storedH [] k a (.int m t)) [(k, m)] := by
    rw [storedH_new rfl]; exact .cons hka' .nil
  exact IsDict2.mk' hm' hx hne

/-- `d.get(key, else)` -/
theorem ev_get2 {o k df apos pos l key m} (ho : EvE G n sc σ o (.dict l)) (hk : EvE G n sc σ k (dk key)) (hd : EvE G n sc σ df (.int m))
    (hb : ∀ env, attributeBase o "get" env (eval o env) = eval o env := by intro _; rfl)
    (hfew : ∀ env, methodCallForm (([k, df] : List Expr).length + ([] : List Keyword).length) (backTo pos (starEach [k, df] env)) (backToKw pos (keywordEach [] env)) = true := by intro _; rfl)
    (hline : (apos.endLine == pos.line) = true := by rfl)
    (htr : ∀ env, backTo pos (starEach [k, df] env) = [(false, eval k env), (false, eval df env)] := by intro _; rfl) :
    EvE G n sc σ (.Call (.Attribute o "get" apos) [k, df] [] pos) (.int ((dget l key).getD m)) := fun A env P s R e => by
  rw [arm_eval_Call, hb]
  refine wpAny_bind (wpAny_mono (ho A env P s R e) (fun ov s₁ q₁ => ?_) fun _ _ x => x)
  have q1k := q₁.1
  have e₁ := e.keep q1k (Q := PN s P) fun _ p => .inl p
  obtain ⟨d, rfl, pd, hd2⟩ := q₁.2
  obtain ⟨xs, hD, hx, h1⟩ := hd2.of (prog := G.prog) (w := G.w)
  refine wpAny_bind (wpAny_standAt ?_)
  have fin : wpAny G.M A (callWith pos (.builtin "dict.get") [.ref d] (backTo pos (starEach [k, df] env)) []) (Ans s P (.int ((dget l key).getD m))) NoE s₁ := by
    rw [htr]
    refine wpAny_dict_get2_heap (knd := k2Kind G.prog G.w) R.k2 (by rw [beq_eq_false_iff_ne]; exact h1) (wpAny_mono (hk A env _ s₁ R e₁) (fun kv s₂ q₂ => ?_) fun _ _ x => x)
    have e₂ := e₁.keep q₂.1 (Q := PN s₁ (PN s P)) fun _ p => .inl p
    refine wpAny_mono (hd A env _ s₂ R e₂) (fun dv s₃ q₃ => ?_) fun _ _ x => x
    obtain ⟨k₃, t, rfl⟩ := q₃
    obtain ⟨a, rfl⟩ := dk_ref q₂.2
    have k13 := q₂.1.trans k₃
    obtain ⟨xs', hD', hx', _⟩ := (hd2.tr (k13.trP _) fun o => k13.keep d o).of (prog := G.prog) (w := G.w)
    refine ⟨a, key, xs', rfl, .of_is ((key2_of q₂.2).tr (k₃.trP _)), hD', (q1k.trans k13).trans (Kp.tok s₃ _), ?_⟩
    cases hg : dget l key with
    | none => rw [hx'.no hg]; exact ⟨t, rfl⟩
    | some m' => obtain ⟨b, u, hb⟩ := hx'.get hg; rw [hb]; exact ⟨u, rfl⟩
  have hpos : methodCallPos true o env apos pos = pure pos := by unfold methodCallPos; simp [hline]
  unfold methodCall
  rw [hfew env]
  refine wpAny_bind (wpAny_holding (getMethod_builtin hD.typeIs PySem.F.plainAttrs_dict PySem.F.slot_dict_get PySem.F.type_dict_get (dictOfH_noDict hD) ?_))
  exact wpAny_bind (wpAny_of_eq hpos fin)

/-- `x[key] = value` of the block's own dict -/
theorem do_setD {x px i pos' value pos l k m} (hv : EvE G n sc ((x, .dict l) :: σ) value (.int m)) (hi : EvE G n sc ((x, .dict l) :: σ) i (dk k)) (hz : l.length ≤ 16777216)
    (hs : ∀ env, swapsWith value (some (.Subscript (.Name x px) i pos')) pos.line env = pure false := by intro _; rfl) (hd : (x == ("__debug__" : Str)) = false := by decide +kernel) (hc : (x == ("__classdict__" : Str)) = false := by decide +kernel) :
    Do1 G n sc σ (some (x, .dict l)) (.Assign [.Subscript (.Name x px) i pos'] value pos) (· = .next σ (some (x, .dict (dput l k m)))) := fun A env P oa s R y => by
  refine wpAny_Assign_Subscript (wpAny_mono (hv A env _ s R (own_env y)) (fun v s₁ q => ?_) fun _ _ e => e) (hs env)
  obtain ⟨k₁, t, rfl⟩ := q
  have y₁ := y.keep k₁
  refine own_name y₁ ?_ hd hc
  refine wpAny_mono (hi A env _ s₁ R (own_env y₁)) (fun iv s₂ q₂ => ?_) fun _ _ e => e
  have q₂ := flat_off y₁ q₂ (by
    have : ∀ l : List Int, D.flat.flats (l.map D.int) = true := by intro l; induction l with | nil => rfl | cons a l ih => simp [D.flat.flats, D.flat, ih]
    simp [dk, D.flat, D.flat.flats, this])
  obtain ⟨a, rfl⟩ := dk_ref q₂.2
  have y₂ := y₁.grow q₂.1
  have hkey : IsKey2 (PG s₁ s₂ P) s₂.heap k a := key2_of (q₂.2.grown y₁.live)
  have o : OwnIs G sc _ env σ s₂ x (.dict l) oa := y₂.own
  have hat : IsDict2 (PG s₁ s₂ P) s₂.heap oa l := o.at_
  have hnd : (l.map (·.1)).Nodup := let ⟨_, _, _, _, _, _, _, h, _⟩ := hat; h
  obtain ⟨xs, hD, hx, h1⟩ := hat.of (prog := G.prog) (w := G.w)
  have hxl : xs.length = l.length := by have := congrArg List.length hx.keys; simpa using this
  refine wpAny_setItem_heap (hsz := by rw [hxl]; exact hz) R.k2 (.of_is hkey) hD fun h' hm' hs' => ?_
  have kb : KpB [oa] s₂ { s₂ with heap := h', toks := s₂.toks + (k2Kind G.prog G.w).draws k } := .of fun b o nb e => hs'.extBut b o (by simpa using nb) e
  have T : Tr (PG s₁ s₂ P) (PG s₁ s₂ P) s₂.heap h' := trB kb (by simpa using o.np)
  have hat' : OwnAt (PG s₁ s₂ P) h' oa (.dict (dput l k m)) := IsDict2.mk' hm' ((hx.tr T).stored hnd (hkey.tr T)) h1
  have mk : Moves sc P env (some (x, .dict l)) oa s s₁ P := ⟨k₁.toB _, fun a p => p, fun a p => .inl p, y₁.live, y₁.has⟩
  exact ⟨_, ((mk.then y y₁ own_some (Moves.of_kp y₁ q₂.1)).then y y₂ own_some (Moves.of_mut y₂ kb hat')), _, _, oa, rfl, y₂.mut kb hat', own_some⟩
end
end Mine

namespace Mine

/-! a comprehension of new empty lists: each another one -/
inductive CRN (G : Wd) (n : Nat) (sc : Scope) (σ : Sg) (tgt elt : Expr) (ifs : List Expr) : List D → List D → Prop
  | nil : CRN G n sc σ tgt elt ifs [] []
  | take {d ds ys σd} : bindTo tgt d σ = some σd → EvIfs G n sc σd ifs true → EvN G n sc σd elt (.list []) → CRN G n sc σ tgt elt ifs ds ys → CRN G n sc σ tgt elt ifs (d :: ds) (.list [] :: ys)

theorem CRN.all {G n sc σ tgt elt ifs} : ∀ {ds ys : List D}, CRN G n sc σ tgt elt ifs ds ys → ∀ d ∈ ys, d = .list []
  | _, _, .nil, d, h => nomatch h
  | _, _, .take _ _ _ r, d, h => (List.mem_cons.mp h).elim id (r.all d)

noncomputable def NewRefs (s : Shared) (vs : Array Value) : Prop := vs.toList.Nodup ∧ ∀ v ∈ vs.toList, ∃ a, v = .ref a ∧ s.heap.get? a = none
theorem NewRefs.push {s : Shared} {vs : Array Value} {a : Addr} (h : NewRefs s vs) (ha : s.heap.get? a = none) (hn : ∀ v ∈ vs.toList, v ≠ .ref a) : NewRefs s (vs.push (.ref a)) := by
  refine ⟨?_, fun v hv => ?_⟩
  · rw [Array.toList_push, List.nodup_append]
    refine ⟨h.1, by simp, fun v hv w hw => ?_⟩
    rw [List.mem_singleton.mp hw]; exact hn v hv
  · rw [Array.toList_push] at hv
    rcases List.mem_append.mp hv with hv | hv
    · exact h.2 v hv
    · exact ⟨a, List.mem_singleton.mp hv, ha⟩

theorem AnsN.ans {s P d v s'} (h : AnsN s P d v s') : Ans s P d v s' := by
  obtain ⟨k, a, rfl, ha, hat⟩ := h
  refine ⟨k, ?_⟩
  cases d with
  | list ds => obtain ⟨vs, hp, r⟩ := hat; exact ⟨a, vs, rfl, .inr ha, hp, r.sub fun b q => q.1⟩
  | dict l => exact ⟨a, rfl, .inr ha, IsDict2.tr ⟨fun b o _ q => q, fun b q => q.1⟩ (fun o q => q) hat⟩
  | _ => exact hat.elim
theorem AnsN.new {s P d v s'} (h : AnsN s P d v s') : ∃ a, v = .ref a ∧ s.heap.get? a = none := let ⟨_, a, e, ha, _⟩ := h; ⟨a, e, ha⟩

theorem Rvs.lists {P h} : ∀ {ds : List D} {vs : List Value}, (∀ d ∈ ds, d = .list []) → Rvs P h ds vs → ∀ v ∈ vs, ∃ b, v = .ref b ∧ (h.get? b).isSome = true
  | [], _, _, x, v, hv => by rw [show _ = [] from x] at hv; cases hv
  | d :: ds, _, hd, ⟨u, r, e, a, b⟩, v, hv => by
    rw [e] at hv
    rcases List.mem_cons.mp hv with rfl | hv
    · rw [hd d List.mem_cons_self] at a
      obtain ⟨c, ws, e, _, ⟨n, ho⟩, _⟩ := a
      exact ⟨c, e, by rw [ho]; rfl⟩
    · exact Rvs.lists (fun d h => hd d (List.mem_cons_of_mem _ h)) b v hv

structure CEndN (P : PA) (ys : List D) (D' C : Addr) (s s' : Shared) : Prop where
  kp : Kp s s'
  ns : ∃ m, s'.heap.Ns C m
  nc : s.heap.get? C = none
  nd : s.heap.get? D' = none
  dc : D' ≠ C
  body : ∃ P' : PA, (∀ a, P a → P' a) ∧ (∀ a, P' a → PN s P a) ∧ ¬ P' C ∧ ¬ P' D' ∧ ∃ vs, s'.heap.PlainList D' vs ∧ Rvs P' s'.heap ys vs.toList ∧ NewRefs s vs

section
variable {G : Wd} {n : Nat} {sc sc' : Scope} {σ σc : Sg} {P : PA} {env : Env} {s : Shared} {A : Around}

theorem comp_coreN {iter tgt elt : Expr} {ifs : List Expr} {pos posc : Pos} {use : Option (Value → Sem Unit)} {items ys : List D} {Q : Post}
    (S : ScIn sc sc') (hs : Seen sc' σ σc) (htn : namesT (isLC sc') tgt = true) (hit : EvIt G n sc σ iter tgt items) (hcr : CRN G n sc' σc tgt elt ifs items ys) (hz : items.length ≤ 16777216)
    (R : Room n A) (e : EnvOk G sc σ P env s) (lv : ∀ a, P a → (s.heap.get? a).isSome = true) (hf : ∀ x, foldedSetIterable iter env x = pure x)
    (hQ : ∀ D' C s', CEndN P ys D' C s s' → compPost G.M A NoE use Q (.ref D') C (.ok .next) s') :
    wpAny G.M A (comprehension (.ListComp elt [⟨tgt, iter, ifs, 0⟩] sc' posc) sc' env pos (newList []) false (eval iter env) use) Q NoE s := by
  refine wpAny_comprehension_free rfl hf (closure_is fun x hx => seen_cells e S hx) S.kind (fun x hx hl => lookup_of_mem_nd S.nd (by obtain ⟨a, b⟩ := x; simp only at hl; rw [← hl]; exact hx)) ?_
  refine wpAny_mono (hit A env P s R e lv) (fun x s₁ h₁ => ?_) fun _ _ x => x
  refine wpAny_mono h₁ (fun it s₂ h₂ => ?_) fun _ _ x => x
  obtain ⟨I, wr, St, P₁, rfl, ip⟩ := h₂
  refine wpAny_newObj_type (hd := by size_fits) ?_
  have k₃ := Kp.push s₂ { cls := .type "list", dict := none, data := .seq ([] : List Value).toArray }
  have hD := push_new (s := s₂) (o := { cls := .type "list", dict := none, data := .seq ([] : List Value).toArray }) rfl
  have hDn := size_none s₂
  generalize hs3 : ({ s₂ with heap := s₂.heap.push { cls := .type "list", dict := none, data := .seq ([] : List Value).toArray } } : Shared) = s₃ at k₃ ⊢
  have hD3 : s₃.heap.get? s₂.heap.objs.size = some { cls := .type "list", dict := none, data := .seq #[] } := by rw [← hs3]; exact hD
  generalize hDd : s₂.heap.objs.size = D' at hDn hD3 ⊢
  refine newEnv_comp ?_
  have e₁ : EnvOk G sc σ P₁ env s₂ := e.keep ip.kp ip.up
  have lv1 : ∀ a, P₁ a → (s₂.heap.get? a).isSome = true := ip.live
  have blk := comp_blk e₁ lv1 S hs k₃ _ rfl
  have k₄ : Kp s₃ { s₃ with heap := pushCells (s₃.heap.push { cls := .type "dict", data := .dict #[] }) sc'.names } := .of (n := s₃.toks) fun b o e => pushCells_keeps _ _ b o (Heap.get?_push_of_some _ e)
  have hCn : s₃.heap.get? s₃.heap.objs.size = none := size_none s₃
  show codeAny G.M A (.compStart (.ListComp elt [⟨tgt, iter, ifs, 0⟩] sc' posc) 0 (.ref I) (.ref D') (cenvOf sc' env s₃.heap.objs.size)) (compPost G.M A NoE use Q (.ref D') s₃.heap.objs.size) _
  generalize hC : s₃.heap.objs.size = C at blk hCn ⊢
  generalize hs4 : ({ s₃ with heap := pushCells (s₃.heap.push { cls := .type "dict", data := .dict #[] }) sc'.names } : Shared) = s₄ at blk k₄ ⊢
  have k24 := k₃.trans k₄
  have hCs : (cenvOf sc' env C).locals = C := rfl
  have hP1D : ¬ P₁ D' := fun p => not_live hDn (lv1 _ p)
  have hDC : D' ≠ C := fun q => by rw [q, hCn] at hD3; cases hD3
  have wr4 : ∀ b ∈ wr, b ≠ D' ∧ b ∉ muts sc' (cenvOf sc' env C) := fun b hb => by
    obtain ⟨o, ho⟩ := Option.isSome_iff_exists.mp (ip.has b hb)
    refine ⟨fun q => (by rw [q, hDn] at ho; cases ho), fun hm => ?_⟩
    rcases muts_is hm with q | ⟨x, hx, hc⟩
    · have := k₃.keep b o ho
      rw [q, hCs, hCn] at this; cases this
    · have hge := cellsFrom_ge _ _ _ _ _ (mem_of_lookup hx) hc
      have hlt := Heap.lt_size (k₃.keep b o ho)
      rw [← hC] at hge
      exact absurd (Nat.lt_of_lt_of_le hlt (Nat.le_trans (Nat.le_succ _) hge)) (Nat.lt_irrefl _)
  have Dm : D' ∉ muts sc' (cenvOf sc' env C) := fun hm => by
    have hlt := Heap.lt_size hD3
    rcases muts_is hm with q | ⟨x, hx, hc⟩
    · exact hDC (q.trans hCs)
    · have hge := cellsFrom_ge _ _ _ _ _ (mem_of_lookup hx) hc
      rw [← hC] at hge
      exact absurd (Nat.lt_of_lt_of_le hlt (Nat.le_trans (Nat.le_succ _) hge)) (Nat.lt_irrefl _)
  have Cm : C ∈ muts sc' (cenvOf sc' env C) := List.mem_cons_self
  -- what is written was new
  have newW : ∀ b ∈ wr ++ D' :: muts sc' (cenvOf sc' env C), s.heap.get? b = none := fun b hb => by
    rcases List.mem_append.mp hb with hb | hb
    · exact ip.new b hb
    · rcases List.mem_cons.mp hb with rfl | hb
      · exact ip.kp.none hDn
      · have h23 := ip.kp.trans k₃
        rcases muts_is hb with q | ⟨x, hx, hc⟩
        · rw [q, hCs]; exact h23.none hCn
        · have hge := cellsFrom_ge _ _ _ _ _ (mem_of_lookup hx) hc
          refine h23.none (get_none_of_ge ?_)
          rw [← hC] at hge
          exact Nat.le_trans (Nat.le_succ _) hge
  have loop : codeAny G.M A (.compLoop (.ListComp elt [⟨tgt, iter, ifs, 0⟩] sc' posc) 0 (.ref I) (.ref D') (cenvOf sc' env C)) (compPost G.M A NoE use Q (.ref D') C) s₄ := by
    refine compLoop_any (fun k s' => ∃ (i : Nat) (P' : PA) (vs : Array Value) (done rest : List D), k = items.length + 1 - i ∧ i ≤ items.length ∧ KpB (wr ++ D' :: muts sc' (cenvOf sc' env C)) s₄ s' ∧ Blk G sc' P' (cenvOf sc' env C) σc s' ∧ St i s'.heap ∧
      (∀ a, P₁ a → P' a) ∧ (∀ a, P' a → P₁ a ∨ s₄.heap.get? a = none) ∧ s'.heap.PlainList D' vs ∧ Rvs P' s'.heap done vs.toList ∧ NewRefs s vs ∧ ys = done ++ rest ∧ done.length ≤ i ∧ CRN G n sc' σc tgt elt ifs (items.drop i) rest) ?_ (items.length + 1)
      ⟨0, P₁, #[], [], ys, rfl, Nat.zero_le _, KpB.refl _ _, blk, ip.wk.frame _ _ _ ip.st (fun b o _ e => k24.keep b o e), fun a p => p, fun a p => .inl p, ⟨0, k₄.keep _ _ hD3⟩, rfl, ⟨List.nodup_nil, fun _ h => nomatch h⟩, rfl, Nat.zero_le _, hcr⟩
    rintro k s' ⟨i, P', vs, done, rest, rfl, hi, kb, bl, st, up, down, hDl, hR, hN, hys, hdl, cr⟩
    have offW : ∀ b ∈ wr, ¬ P' b := fun b hb p => by
      rcases down b p with q | q
      · exact ip.off b hb q
      · obtain ⟨o, ho⟩ := Option.isSome_iff_exists.mp (ip.has b hb)
        rw [k24.keep b o ho] at q; cases q
    have offD : ¬ P' D' := fun p => by
      rcases down _ p with q | q
      · exact hP1D q
      · rw [k₄.keep _ _ hD3] at q; cases q
    have hbW : ∀ b ∈ wr, G.h₀.get? b = none := fun b hb => by
      cases e0 : G.h₀.get? b with
      | none => rfl
      | some o => have := ip.new b hb; rw [e.gok.ext b o e0] at this; cases this
    have frameSt : ∀ {j : Nat} {h1 h2 : Heap}, St j h1 → (∀ b o, b ∈ wr ∨ P₁ b → h1.get? b = some o → h2.get? b = some o) → St j h2 := fun a b => ip.wk.frame _ _ _ a b
    cases hdi : items.drop i with
    | nil =>
      have hil : i = items.length := by
        have := congrArg List.length hdi
        simp at this; omega
      subst hil
      rw [hdi] at cr
      cases cr
      rw [List.append_nil] at hys
      subst hys
      refine wpAny_mono (ip.wk.done s' st) (fun r s'' h => ?_) fun _ _ x => x
      obtain ⟨rfl, kw⟩ := h
      refine hQ D' C s'' ⟨?_, ?_, newW C ?_, newW D' (by simp), hDC, P', fun a p => up a (ip.up a p), fun a p => ?_, hCs ▸ bl.fr.np, offD, vs, ?_, hR.tr (trB kw offW), hN⟩
      · have kall : KpB (wr ++ D' :: muts sc' (cenvOf sc' env C)) s₄ s'' := kb.trans (kw.sub (fun b hb => List.mem_append_left _ hb))
        exact (((ip.kp.trans k24).toB _).trans kall).toKp newW
      · obtain ⟨m, hm⟩ := bl.fr.ns
        obtain ⟨o, es, ep, ho, rr⟩ := hm
        exact ⟨m, o, es, ep, kw.keep _ o (fun hm => (wr4 _ hm).2 Cm) ho, rr⟩
      · exact List.mem_append_right _ (List.mem_cons_of_mem _ Cm)
      · rcases down a p with q | q
        · exact (ip.down a q).elim .inl .inr
        · exact .inr ((ip.kp.trans k24).none q)
      · obtain ⟨n', hn'⟩ := hDl
        exact ⟨n', kw.keep _ _ (fun hm => (wr4 _ hm).1 rfl) hn'⟩
    | cons d ds =>
      have hdrop : items.drop (i + 1) = ds := by
        rw [← List.drop_drop, hdi]; rfl
      have hget : items[i]? = some d := by
        have := List.getElem?_drop (xs := items) (i := i) (j := 0)
        rw [hdi] at this
        simpa using this.symm
      have hlt : i < items.length := (List.getElem?_eq_some_iff.mp hget).1
      refine wpAny_mono (ip.wk.item i s' d hget st) (fun r s1 h1 => ?_) fun _ _ x => x
      obtain ⟨v, rfl, kw1, h1⟩ := h1
      refine wpAny_mono h1 (fun _ s2 h2 => ?_) fun _ _ x => x
      obtain ⟨kw2, st2, rv⟩ := h2
      have kw := kw1.trans kw2
      -- the state once the item is drawn
      have rvP : Rv (fun a => P' a ∨ (s'.heap.get? a = none ∧ (s2.heap.get? a).isSome = true)) s2.heap d v := rv.live.sub fun a ⟨p, l⟩ => p.elim (fun p => .inl (up a p)) fun q => .inr ⟨q, l⟩
      generalize hP2 : (fun a => P' a ∨ (s'.heap.get? a = none ∧ (s2.heap.get? a).isSome = true)) = P2 at rvP
      have up2 : ∀ a, P' a → P2 a := fun a p => by rw [← hP2]; exact .inl p
      have down2 : ∀ a, P2 a → P' a ∨ s'.heap.get? a = none := fun a p => by rw [← hP2] at p; exact p.elim .inl fun q => .inr q.1
      have there : ∀ b ∈ muts sc' (cenvOf sc' env C), (s'.heap.get? b).isSome = true := fun b hb => by
        rcases muts_is hb with q | ⟨x, hx, hc⟩
        · obtain ⟨m, o, _, _, ho, _⟩ := bl.fr.ns
          rw [q, ho]; rfl
        · obtain ⟨⟨u, o, ho, _⟩, _⟩ := bl.fr.cell x b hx hc
          rw [ho]; rfl
      have offM2 : ∀ b ∈ muts sc' (cenvOf sc' env C), ¬ P2 b := fun b hb p => (down2 b p).elim (bl.fr.off b hb) fun q => not_live q (there b hb)
      have cellW : ∀ x c, (cenvOf sc' env C).cells.lookup x = some c → c ∉ wr := fun x c hc hm => by
        have hx2 : (cellsFrom (C + 1) sc'.names (frees (fun x => env.cells.lookup x) sc'.names [])).lookup x = some c := hc
        by_cases hown : (x, NameKind.cell) ∈ sc'.names
        · exact (wr4 c hm).2 (mem_muts (lookup_of_mem_nd S.nd hown) hc)
        · rw [cellsFrom_lookup_other _ _ _ _ hown] at hx2
          rcases frees_mem _ _ _ x c hx2 with q | ⟨q, q2⟩
          · cases q
          · obtain ⟨c', hc'⟩ := seen_cells e S q
            simp only [hc', Option.getD_some] at q2
            subst q2
            exact not_live (ip.new c hm) (e.cin x c hc')
      have cellD : ∀ x c, (cenvOf sc' env C).cells.lookup x = some c → c ∉ [D'] := fun x c hc hm => by
        rw [List.mem_singleton.mp hm] at hc
        have hx2 : (cellsFrom (C + 1) sc'.names (frees (fun x => env.cells.lookup x) sc'.names [])).lookup x = some D' := hc
        by_cases hown : (x, NameKind.cell) ∈ sc'.names
        · exact Dm (mem_muts (lookup_of_mem_nd S.nd hown) hc)
        · rw [cellsFrom_lookup_other _ _ _ _ hown] at hx2
          rcases frees_mem _ _ _ x _ hx2 with q | ⟨q, q2⟩
          · cases q
          · obtain ⟨c', hc'⟩ := seen_cells e S q
            simp only [hc', Option.getD_some] at q2
            subst q2
            exact not_live (ip.kp.none hDn) (e.cin x _ hc')
      have locW : (cenvOf sc' env C).locals ∉ wr := fun hm => (wr4 _ hm).2 (by simp [muts])
      have bl2 : Blk G sc' P2 (cenvOf sc' env C) σc s2 := bl.other kw locW cellW offW hbW up2 down2
      have offW2 : ∀ b ∈ wr, ¬ P2 b := fun b hb p => (down2 b p).elim (offW b hb) fun q => not_live q (ip.wk.live _ _ st b hb)
      have offD2 : ¬ P2 D' := fun p => (down2 _ p).elim offD fun q => by obtain ⟨n', hn'⟩ := hDl; rw [hn'] at q; cases q
      have hDl2 : s2.heap.PlainList D' vs := let ⟨n', hn'⟩ := hDl; ⟨n', kw.keep _ _ (fun hm => (wr4 _ hm).1 rfl) hn'⟩
      have hR2 : Rvs P2 s2.heap done vs.toList := (hR.tr (trB kw offW)).sub up2
      have bind : ∃ σd, bindTo tgt d σc = some σd := by
        rw [hdi] at cr
        cases cr with
        | take h _ _ _ => exact ⟨_, h⟩
      obtain ⟨σd, hbind⟩ := bind
      refine assignT (storesB bl2.fr.off) R.handled htn hbind bl2 rvP fun s3 bl3 kw3 => ?_
      have kwm : KpB (wr ++ D' :: muts sc' (cenvOf sc' env C)) s' s3 := (kw.sub fun b hb => List.mem_append_left _ hb).trans (kw3.sub fun b hb => List.mem_append_right _ (List.mem_cons_of_mem _ hb))
      have st3 : St (i + 1) s3.heap := frameSt st2 fun b o hb ho => kw3.keep b o (fun hm => hb.elim (fun q => (wr4 b q).2 hm) fun q => bl2.fr.off b hm (up2 b (up b q))) ho
      have hDl3 : s3.heap.PlainList D' vs := let ⟨n', hn'⟩ := hDl2; ⟨n', kw3.keep _ _ Dm hn'⟩
      have hR3 : Rvs P2 s3.heap done vs.toList := hR2.tr (trB kw3 bl2.fr.off)
      have down3 : ∀ a, P2 a → P₁ a ∨ s₄.heap.get? a = none := fun a p => (down2 a p).elim (down a) fun q => by
        by_cases hm : a ∈ wr ++ D' :: muts sc' (cenvOf sc' env C)
        · rcases List.mem_append.mp hm with hm | hm
          · exact absurd p (offW2 a hm)
          · rcases List.mem_cons.mp hm with rfl | hm
            · exact absurd p offD2
            · exact absurd p (bl2.fr.off a hm)
        · exact .inr (kb.no hm q)
      have weak : ∀ x d', σc.lookup x = some d' → σd.lookup x = some d' := fun x d' hx => bindTo_keeps (ok := isLC sc') (by simp [isLC, (hs x d' hx).2]) htn hbind hx
      have step : ∀ (s4 : Shared) (vs' : Array Value) (done' rest' : List D) (P4 : PA), KpB (wr ++ D' :: muts sc' (cenvOf sc' env C)) s₄ s4 → Blk G sc' P4 (cenvOf sc' env C) σd s4 → St (i + 1) s4.heap → (∀ a, P₁ a → P4 a) → (∀ a, P4 a → P₁ a ∨ s₄.heap.get? a = none) →
          s4.heap.PlainList D' vs' → Rvs P4 s4.heap done' vs'.toList → NewRefs s vs' → ys = done' ++ rest' → done'.length ≤ i + 1 → CRN G n sc' σc tgt elt ifs (items.drop (i + 1)) rest' →
          ∃ m, m < items.length + 1 - i ∧ ∃ (i : Nat) (P' : PA) (vs : Array Value) (done rest : List D), m = items.length + 1 - i ∧ i ≤ items.length ∧ KpB (wr ++ D' :: muts sc' (cenvOf sc' env C)) s₄ s4 ∧ Blk G sc' P' (cenvOf sc' env C) σc s4 ∧ St i s4.heap ∧
            (∀ a, P₁ a → P' a) ∧ (∀ a, P' a → P₁ a ∨ s₄.heap.get? a = none) ∧ s4.heap.PlainList D' vs ∧ Rvs P' s4.heap done vs.toList ∧ NewRefs s vs ∧ ys = done ++ rest ∧ done.length ≤ i ∧ CRN G n sc' σc tgt elt ifs (items.drop i) rest :=
        fun s4 vs' done' rest' P4 a1 a2 a3 a4 a5 a6 a7 aN a8 a9 a10 => ⟨items.length + 1 - (i + 1), by omega, i + 1, P4, vs', done', rest', rfl, hlt, a1, a2.weaken weak, a3, a4, a5, a6, a7, aN, a8, a9, a10⟩
      rw [hdi] at cr
      cases cr with
      | @take _ _ ys' _ hb hi' he hr =>
        rw [hbind] at hb; cases hb
        refine wpAny_mono (ifs_run hi' R bl3.e) (fun ok s4 h4 => ?_) fun _ _ x => x
        obtain ⟨rfl, k4⟩ := h4
        rw [if_pos (by rfl)]
        have bl4 := bl3.keep k4
        refine wpAny_mono (he A (cenvOf sc' env C) P2 s4 R bl4.e) (fun x s5 h5 => ?_) fun _ _ x => x
        obtain ⟨aN, rfl, hfresh⟩ := h5.new
        obtain ⟨k5, rx⟩ := h5.ans
        have k35 := k4.trans k5
        have hDl5 : s5.heap.PlainList D' vs := let ⟨n', hn'⟩ := hDl3; ⟨n', k35.keep _ _ hn'⟩
        have hvs : vs.size = done.length := by have := hR.length; rwa [Array.length_toList] at this
        refine wpAny_list_append_plain (hsz := by rw [hvs]; show done.length ≤ 16777216; omega) hDl5 fun h' hl' hsb => ?_
        have k6 : KpB [D'] s5 { s5 with heap := h' } := .of (n := s5.toks) fun b o nb eo => hsb.extBut b o (by simpa using nb) eo
        have hP3 : ∀ a, (PN s4 P2 a ∧ (s5.heap.get? a).isSome = true) → P2 a ∨ s4.heap.get? a = none := fun a p => p.1
        have offD5 : ∀ b ∈ [D'], ¬ (fun a => P2 a ∨ (s4.heap.get? a = none ∧ (s5.heap.get? a).isSome = true)) b := fun b hb p => by
          rw [List.mem_singleton.mp hb] at p
          rcases p with p | ⟨p, _⟩
          · exact offD2 p
          · obtain ⟨n', hn'⟩ := hDl3
            rw [k4.keep _ _ hn'] at p; cases p
        have bl5 : Blk G sc' (fun a => P2 a ∨ (s4.heap.get? a = none ∧ (s5.heap.get? a).isSome = true)) (cenvOf sc' env C) σd s5 :=
          bl4.other (wr := []) (k5.toB []) (by simp) (by simp) (by simp) (by simp) (fun a p => .inl p) fun a p => p.elim .inl fun q => .inr q.1
        have bl6 := bl5.other (P2 := fun a => P2 a ∨ (s4.heap.get? a = none ∧ (s5.heap.get? a).isSome = true)) k6 (by rw [hCs]; simpa using Ne.symm hDC) cellD offD5 (fun b hb => by
            rw [List.mem_singleton.mp hb]
            cases e0 : G.h₀.get? D' with
            | none => rfl
            | some o => have := e.gok.ext _ _ e0; rw [newW D' (by simp)] at this; cases this) (fun a p => p) fun a p => .inl p
        refine step _ (vs.push (.ref aN)) (done ++ [.list []]) ys' _ (kb.trans (kwm.trans ((k35.toB _).trans (k6.sub fun b hb => by rw [List.mem_singleton.mp hb]; simp)))) bl6 ?_ (fun a p => .inl (up2 a (up a p))) (fun a p => ?_) hl' ?_ ?_ (by rw [hys]; simp) (by simp; omega) (hdrop ▸ hr)
        · refine frameSt st3 fun b o hb ho => k6.keep b o (fun hm => ?_) (k35.keep b o ho)
          rw [List.mem_singleton.mp hm] at hb
          exact hb.elim (fun q => (wr4 _ q).1 rfl) hP1D
        · rcases p with p | ⟨p, l⟩
          · exact down3 a p
          · by_cases hm : a ∈ wr ++ D' :: muts sc' (cenvOf sc' env C)
            · exfalso
              have p3 := k4.none p
              rcases List.mem_append.mp hm with hm | hm
              · exact not_live p3 (ip.wk.live _ _ st3 a hm)
              · rcases List.mem_cons.mp hm with rfl | hm
                · obtain ⟨n', hn'⟩ := hDl3; rw [hn'] at p3; cases p3
                · rcases muts_is hm with q | ⟨x, hx, hc⟩
                  · obtain ⟨m, o, _, _, ho, _⟩ := bl3.fr.ns
                    rw [q, ho] at p3; cases p3
                  · obtain ⟨⟨u, o, ho, _⟩, _⟩ := bl3.fr.cell x a hx hc
                    rw [ho] at p3; cases p3
            · exact .inr ((kb.trans kwm).no hm (k4.none p))
        · have r5 : Rvs (fun a => P2 a ∨ (s4.heap.get? a = none ∧ (s5.heap.get? a).isSome = true)) s5.heap done vs.toList := (hR3.tr (k35.trP _)).sub fun a p => .inl p
          have rx5 : Rv (fun a => P2 a ∨ (s4.heap.get? a = none ∧ (s5.heap.get? a).isSome = true)) s5.heap (.list []) (.ref aN) := rx.live.sub fun a ⟨p, l⟩ => p.elim .inl fun q => .inr ⟨q, l⟩
          rw [Array.toList_push]
          exact (r5.tr (trB k6 offD5)).append (.cons (rx5.tr (trB k6 offD5)) .nil)
        · have ks4 : Kp s s4 := ((((ip.kp.trans k24).toB _).trans kb).trans (kwm.trans (k4.toB _))).toKp newW
          refine hN.push (ks4.none hfresh) fun v hv => ?_
          have hd0 : ∀ d ∈ done, d = .list [] := fun d hd => hcr.all d (by rw [hys]; exact List.mem_append_left _ hd)
          obtain ⟨b, hb1, hb2⟩ := Rvs.lists hd0 (hR3.tr (k4.trP _)) v hv
          rw [hb1]
          intro q
          injection q with q
          rw [q, hfresh] at hb2; cases hb2
  exact codeAny_compStart_list loop (wpAny_mono (ip.wk.self 0 s₄ (fun v s' => v = .ref I ∧ s' = s₄) (ip.wk.frame _ _ _ ip.st fun b o _ e => k24.keep b o e) ⟨rfl, rfl⟩) (fun v s' h => by obtain ⟨rfl, rfl⟩ := h; exact loop) fun _ _ x => x.elim)

theorem crn_map {tgt : Expr} {pos : Pos} : ∀ (items : List D), (∀ d ∈ items, ∃ σd, bindTo tgt d σ = some σd) → CRN G n sc σ tgt (.List [] pos) [] items (items.map fun _ => .list [])
  | [], _ => .nil
  | d :: ds, h => by
    obtain ⟨σd, hb⟩ := h d List.mem_cons_self
    exact .take hb rfl (evn_list evs_nil) (crn_map ds fun d hd => h d (List.mem_cons_of_mem _ hd))
end
end Mine

namespace Mine

/-! lists of ints that the block writes, beside what the names hold -/
structure Hid (G : Wd) (sc : Scope) (P : PA) (env : Env) (addrs : List Addr) (rows : List (List Int)) (s : Shared) : Prop where
  len : addrs.length = rows.length
  at_ : ∀ (j : Nat) a r, addrs[j]? = some a → rows[j]? = some r → ∃ vs, s.heap.PlainList a vs ∧ IntsAre vs.toList r
  nd : addrs.Nodup
  np : ∀ a ∈ addrs, ¬ P a
  nb : ∀ a ∈ addrs, G.h₀.get? a = none
  nm : ∀ a ∈ addrs, a ∉ muts sc env
  nc : ∀ a ∈ addrs, ∀ y c, env.cells.lookup y = some c → c ≠ a

structure MovesH (sc : Scope) (P : PA) (env : Env) (addrs : List Addr) (s s' : Shared) (P' : PA) : Prop where
  kb : KpB (addrs ++ muts sc env) s s'
  up : ∀ a, P a → P' a
  down : ∀ a, P' a → P a ∨ s.heap.get? a = none
  live : ∀ a, P' a → (s'.heap.get? a).isSome = true
  has : ∀ b ∈ muts sc env, (s'.heap.get? b).isSome = true

noncomputable def SPostH (G : Wd) (sc : Scope) (P : PA) (env : Env) (addrs : List Addr) (Φ : List (List Int) → Sg → Prop) (s : Shared) : Flow → Shared → Prop := fun f s' =>
  f = .next ∧ ∃ P' σ' rows', MovesH sc P env addrs s s' P' ∧ Φ rows' σ' ∧ SOk G sc P' env σ' none env.locals s' ∧ Hid G sc P' env addrs rows' s'
noncomputable def DoSH (G : Wd) (n : Nat) (sc : Scope) (addrs : List Addr) (σ : Sg) (rows : List (List Int)) (ss : List Stmt) (Φ : List (List Int) → Sg → Prop) : Prop :=
  ∀ A env P s, Room n A → SOk G sc P env σ none env.locals s → Hid G sc P env addrs rows s → wpAny G.M A (execs ss env) (SPostH G sc P env addrs Φ s) NoE s
noncomputable def Do1H (G : Wd) (n : Nat) (sc : Scope) (addrs : List Addr) (σ : Sg) (rows : List (List Int)) (st : Stmt) (Φ : List (List Int) → Sg → Prop) : Prop :=
  ∀ A env P s, Room n A → SOk G sc P env σ none env.locals s → Hid G sc P env addrs rows s → wpAny G.M A (exec st env) (SPostH G sc P env addrs Φ s) NoE s

section
variable {G : Wd} {n : Nat} {sc : Scope} {σ σ' : Sg} {addrs : List Addr} {rows rows' : List (List Int)} {P P' P2 : PA} {env : Env} {s s' s₁ s₂ : Shared} {Φ Ψ : List (List Int) → Sg → Prop}

theorem Hid.live (h : Hid G sc P env addrs rows s) : ∀ a ∈ addrs, (s.heap.get? a).isSome = true := fun a ha => by
  obtain ⟨j, hj⟩ := List.mem_iff_getElem?.mp ha
  have hlt : j < rows.length := by rw [← h.len]; exact (List.getElem?_eq_some_iff.mp hj).1
  obtain ⟨vs, ⟨n', ho⟩, _⟩ := h.at_ j a _ hj (List.getElem?_eq_getElem hlt)
  rw [ho]; rfl

theorem Hid.keep {wr : List Addr} (h : Hid G sc P env addrs rows s) (k : KpB wr s s') (hw : ∀ a ∈ addrs, a ∉ wr) (down : ∀ a, P2 a → P a ∨ s.heap.get? a = none) : Hid G sc P2 env addrs rows s' :=
  ⟨h.len, fun j a r hj hr => by
    obtain ⟨vs, ⟨n', ho⟩, hi⟩ := h.at_ j a r hj hr
    exact ⟨vs, ⟨n', k.keep a _ (hw a (List.mem_of_getElem? hj)) ho⟩, hi⟩, h.nd, fun a ha p => (down a p).elim (h.np a ha) fun q => not_live q (h.live a ha), h.nb, h.nm, h.nc⟩

theorem MovesH.refl (y : SOk G sc P env σ none env.locals s) : MovesH sc P env addrs s s P := ⟨KpB.refl _ _, fun _ p => p, fun _ p => .inl p, y.live, y.b.has⟩
theorem MovesH.then (m : MovesH sc P env addrs s s₁ P') (hl : ∀ a ∈ addrs, (s₁.heap.get? a).isSome = true) (hp : ∀ a ∈ addrs, ¬ P2 a) (hq : ∀ a ∈ muts sc env, ¬ P2 a) (m₂ : MovesH sc P' env addrs s₁ s₂ P2) : MovesH sc P env addrs s s₂ P2 :=
  ⟨m.kb.trans m₂.kb, fun a p => m₂.up a (m.up a p), fun a p => (m₂.down a p).elim (m.down a) fun q => by
    by_cases hm : a ∈ addrs ++ muts sc env
    · rcases List.mem_append.mp hm with hm | hm
      · exact absurd p (hp a hm)
      · exact absurd p (hq a hm)
    · exact .inr (m.kb.no hm q), m₂.live, m₂.has⟩

theorem doH_nil (h : Φ rows σ) : DoSH G n sc addrs σ rows [] Φ := fun A env P s R y hid => wpAny_execs_nil ⟨rfl, P, σ, rows, MovesH.refl y, h, y, hid⟩
theorem doH_nilS {τ : Sg} (hs : Sub τ σ) (h : Φ rows τ) : DoSH G n sc addrs σ rows [] Φ := fun A env P s R y hid => wpAny_execs_nil ⟨rfl, P, τ, rows, MovesH.refl y, h, y.weaken hs, hid⟩

theorem doH_cons {st rest} (h1 : Do1H G n sc addrs σ rows st Ψ) (h2 : ∀ r' σ', Ψ r' σ' → DoSH G n sc addrs σ' r' rest Φ) : DoSH G n sc addrs σ rows (st :: rest) Φ := fun A env P s R y hid => by
  refine wpAny_execs_cons (wpAny_mono (h1 A env P s R y hid) (fun f s₁ h => ?_) fun _ _ e => e)
  obtain ⟨rfl, P', σ', r', m, hΨ, y', hid'⟩ := h
  refine wpAny_mono (h2 r' σ' hΨ A env P' s₁ R y' hid') (fun f s₂ h => ?_) fun _ _ e => e
  obtain ⟨rfl, P2, σ2, r2, m2, hΦ, y2, hid2⟩ := h
  exact ⟨rfl, P2, σ2, r2, m.then hid'.live hid2.np y2.b.fr.off m2, hΦ, y2, hid2⟩

theorem Hid.moved (hid : Hid G sc P env addrs rows s) {oa : Addr} (m : Moves sc P env none oa s s' P') (ho : oa = env.locals) : Hid G sc P' env addrs rows s' ∧ MovesH sc P env addrs s s' P' := by
  subst ho
  have hw : ∀ a ∈ addrs, a ∉ env.locals :: muts sc env := fun a ha hm => by
    rcases List.mem_cons.mp hm with q | q
    · exact hid.nm a ha (by rw [q]; simp [muts])
    · exact hid.nm a ha q
  have down : ∀ a, P' a → P a ∨ s.heap.get? a = none := fun a p => by
    rcases m.down a p with q | ⟨_, q⟩ | q
    · exact .inl q
    · exact absurd rfl q
    · exact .inr q
  exact ⟨hid.keep m.kb hw down, m.kb.sub fun b hb => List.mem_append_right _ (by
    rcases List.mem_cons.mp hb with q | q
    · rw [q]; simp [muts]
    · exact q), m.up, down, m.live, fun b hb => m.has b (List.mem_cons_of_mem _ hb)⟩

/-- what is done beside the hidden lists -/
theorem doH_frame {ss} {Φ' : Sg → Prop} (h : DoS G n sc σ none ss (fun o => ∃ σ', o = .next σ' none ∧ Φ' σ')) : DoSH G n sc addrs σ rows ss (fun r σ' => r = rows ∧ Φ' σ') := fun A env P s R y hid => by
  refine wpAny_mono (h A env P _ s R y) (fun f s' hp => ?_) fun _ _ e => e
  obtain ⟨P', m, out⟩ := hp
  obtain ⟨hid', mh⟩ := hid.moved m rfl
  cases f with
  | next =>
    obtain ⟨σ', ω', oa', ⟨σ2, e, hΦ⟩, y', _⟩ := out
    cases e
    have ho : oa' = env.locals := y'.own
    subst ho
    exact ⟨rfl, P', σ', rows, mh, ⟨rfl, hΦ⟩, y', hid'⟩
  | cont => obtain ⟨_, _, _, ⟨_, e, _⟩, _⟩ := out; cases e
  | brk => exact out.elim
  | ret v => obtain ⟨_, ⟨_, e, _⟩, _⟩ := out; cases e

theorem DoSH.mono {ss} (h : DoSH G n sc addrs σ rows ss Ψ) (hm : ∀ r σ', Ψ r σ' → Φ r σ') : DoSH G n sc addrs σ rows ss Φ := fun A env P s R y hid =>
  wpAny_mono (h A env P s R y hid) (fun f s' ⟨e, P', σ', r', m, hΨ, y', hid'⟩ => ⟨e, P', σ', r', m, hm _ _ hΨ, y', hid'⟩) fun _ _ e => e
theorem DoSH.less {ss} (h : DoSH G n sc addrs σ' rows ss Φ) (hσ : Sub σ' σ) : DoSH G n sc addrs σ rows ss Φ := fun A env P s R y hid => h A env P s R (y.weaken hσ) hid

/-- one of the hidden lists grows -/
theorem doH_append {x px apos e pos ppos} {a : Addr} {j : Nat} {r : List Int} {m : Int} (hx : σ.lookup x = some (.adr a)) (hj : addrs[j]? = some a) (hr : rows[j]? = some r) (he : EvE G n sc σ e (.int m)) (hz : r.length ≤ 16777215)
    (hb : ∀ env, attributeBase (.Name x px) "append" env (eval (.Name x px) env) = eval (.Name x px) env := by intro _; rfl)
    (hfew : ∀ env, ((backTo pos (starEach [e] env)).all (fun x => !x.1) && (backToKw pos (keywordEach [] env)).all (fun x => x.1.isSome)
      && decide (([e] : List Expr).length + ([] : List Keyword).length + (if ([] : List Keyword).isEmpty then 0 else 1) < 30)) = true := by intro _; rfl)
    (hline : (apos.endLine == pos.line) = true := by rfl)
    (htr : ∀ env, backTo pos (starEach [e] env) = [(false, eval e env)] := by intro _; rfl)
    (hi : ∀ env, env.scope.kind = .function → interactive env = false := by intro e h; simp [interactive, Env.blockKind, h, ScopeKind.isAnnotationScope])
    (hs : ∀ env, swapsWith (.Call (.Attribute (.Name x px) "append" apos) [e] [] pos) none ppos.line env = pure false := by intro _; rfl)
    (hd : (x == ("__debug__" : Str)) = false := by decide +kernel) (hc : (x == ("__classdict__" : Str)) = false := by decide +kernel) :
    Do1H G n sc addrs σ rows (.Expr (.Call (.Attribute (.Name x px) "append" apos) [e] [] pos) ppos) (fun r' σ' => r' = rows.set j (r ++ [m]) ∧ σ' = σ) := fun A env P s R y hid => by
  refine wpAny_Expr (wpAny_Call_append (hb env) (hfew env) hline (htr env) (wpAny_mono (ev_var (n := n) hx hd hc A env P s R y.b.e) (fun v s₁ q₁ => ?_) fun _ _ e => e)) (hi env y.b.e.sc.kind) (hs env)
  obtain ⟨k₁, rfl⟩ := q₁
  have y₁ := y.keep k₁
  have hid₁ : Hid G sc P env addrs rows s₁ := hid.keep (wr := []) (k₁.toB []) (by simp) fun a p => .inl p
  obtain ⟨vs, ⟨n', hp⟩, hvs⟩ := hid₁.at_ j a r hj hr
  refine ⟨a, vs, rfl, ⟨_, n', hp, rfl, rfl, rfl⟩, wpAny_mono (he A env P s₁ R y₁.b.e) (fun v s₂ q₂ => ?_) fun _ _ e => e⟩
  obtain ⟨k₂, t, rfl⟩ := q₂
  have y₂ := y₁.keep k₂
  have hid₂ : Hid G sc P env addrs rows s₂ := hid₁.keep (wr := []) (k₂.toB []) (by simp) fun a p => .inl p
  have hal : a ∈ addrs := List.mem_of_getElem? hj
  have hl : vs.size = r.length := by rw [← Array.length_toList]; exact (Rvs.of_ints (P := P) (h := s₂.heap) hvs).length.trans (by rw [List.length_map])
  refine wpAny_list_append_plain ⟨n', k₂.keep _ _ hp⟩ (fun h' hp' hsb => ?_) (by show vs.size ≤ 16777216; omega)
  have kb : KpB [a] s₂ { s₂ with heap := h' } := KpB.same hsb
  have hna : ∀ b ∈ env.locals :: muts sc env, b ∉ [a] := fun b hb hm => by
    rw [List.mem_singleton.mp hm] at hb
    rcases List.mem_cons.mp hb with q | q
    · exact hid.nm a hal (by rw [q]; simp [muts])
    · exact hid.nm a hal q
  have y₃ : SOk G sc P env σ none env.locals { s₂ with heap := h' } := y₂.other kb hna (fun z c hc hm => hid.nc a hal z c hc (List.mem_singleton.mp hm)) (by simpa using hid.np a hal) (by simpa using hid.nb a hal) (fun a p => p) (fun a p => .inl p) fun b p => by
    obtain ⟨o, ho⟩ := Option.isSome_iff_exists.mp (y₂.live b p)
    rw [kb.keep b o (fun hm => hid.np a hal (List.mem_singleton.mp hm ▸ p)) ho]; rfl
  have hjl : j < rows.length := (List.getElem?_eq_some_iff.mp hr).1
  have kk : Kp s s₂ := k₁.trans k₂
  refine ⟨rfl, P, σ, _, ⟨(kk.toB _).trans (kb.sub fun b hb => by rw [List.mem_singleton.mp hb]; exact List.mem_append_left _ hal), fun a p => p, fun a p => .inl p, y₃.live, y₃.b.has⟩, ⟨rfl, rfl⟩, y₃, by rw [List.length_set]; exact hid.len, fun i b q hi hq => ?_, hid.nd, hid.np, hid.nb, hid.nm, hid.nc⟩
  by_cases hij : i = j
  · subst hij
    rw [hj] at hi; cases hi
    rw [List.getElem?_set_self hjl] at hq; cases hq
    refine ⟨_, hp', ?_⟩
    rw [Array.toList_push]
    have := (Rvs.of_ints (P := P) (h := s₂.heap) hvs).append (Rvs.of_ints (IntsAre.cons m t .nil))
    rw [← List.map_append] at this
    exact this.ints
  · rw [List.getElem?_set_ne (Ne.symm hij)] at hq
    obtain ⟨us, ⟨n2, ho⟩, hu⟩ := hid₂.at_ i b q hi hq
    have hba : b ∉ [a] := fun hm => by
      rw [List.mem_singleton.mp hm] at hi
      exact hij ((List.getElem?_inj (List.getElem?_eq_some_iff.mp hi).1 hid.nd).mp (hi.trans hj.symm))
    exact ⟨us, ⟨n2, kb.keep b _ hba ho⟩, hu⟩

/-- a loop beside the hidden lists -/
theorem do_forH {tgt iter : Expr} {body : List Stmt} {pos : Pos} {items : List D} (I : List D → Sg → List (List Int) → Prop) (hit : EvIt G n sc σ iter tgt items) (h0 : I items σ rows)
    (hstep : ∀ d rest σi ri, I (d :: rest) σi ri → ∃ σb, bindTo tgt d σi = some σb ∧ namesT (okS sc none) tgt = true ∧ DoSH G n sc addrs σb ri body (fun r' σ' => I rest σ' r'))
    (hend : ∀ σi ri, I [] σi ri → Φ ri σi) (hf : ∀ env x, foldedSetIterable iter env x = pure x := by intro _ _; rfl) : Do1H G n sc addrs σ rows (.For tgt iter body [] pos) Φ := fun A env P s R y hid => by
  refine wpAny_For (wpAny_mono (hit A env P s R y.b.e y.live) (fun x s₁ h₁ => ?_) fun _ _ e => e) (hf env)
  refine wpAny_mono h₁ (fun it s₂ h₂ => ?_) fun _ _ e => e
  obtain ⟨I', wr, St, P₁, rfl, ip⟩ := h₂
  have offM : ∀ b ∈ wr, b ∉ muts sc env := fun b hb hm => not_live (ip.new b hb) (y.b.has b hm)
  have offA : ∀ b ∈ wr, b ∉ addrs := fun b hb hm => not_live (ip.new b hb) (hid.live b hm)
  have offC : ∀ x c, env.cells.lookup x = some c → c ∉ wr := fun x c hc hm => not_live (ip.new c hm) (y.b.e.cin x c hc)
  have hbW : ∀ b ∈ wr, G.h₀.get? b = none := fun b hb => by
    cases e0 : G.h₀.get? b with
    | none => rfl
    | some o => have := ip.new b hb; rw [y.b.e.gok.ext b o e0] at this; cases this
  have locM : env.locals ∈ muts sc env := List.mem_cons_self
  have y₂ : SOk G sc P₁ env σ none env.locals s₂ := y.other (wr := []) (ip.kp.toB []) (by simp) (by simp) (by simp) (by simp) ip.up ip.down ip.live
  have hid₂ : Hid G sc P₁ env addrs rows s₂ := hid.keep (wr := []) (ip.kp.toB []) (by simp) ip.down
  refine codeAny_forLoop_any (fun k s' => ∃ (i : Nat) (σi : Sg) (ri : List (List Int)) (Pi : PA), k = items.length + 1 - i ∧ i ≤ items.length ∧ I (items.drop i) σi ri ∧ SOk G sc Pi env σi none env.locals s' ∧ St i s'.heap ∧ MovesH sc P env addrs s s' Pi ∧
    Hid G sc Pi env addrs ri s' ∧ (∀ b ∈ wr, ¬ Pi b) ∧ (∀ a, P₁ a → Pi a)) ?_ (items.length + 1)
    ⟨0, σ, rows, P₁, rfl, Nat.zero_le _, h0, y₂, ip.st, ⟨ip.kp.toB _, ip.up, ip.down, ip.live, y₂.b.has⟩, hid₂, ip.off, fun a p => p⟩
  rintro k s' ⟨i, σi, ri, Pi, rfl, hi, hI, yi, st, mv, hidi, hw, hP1⟩
  have hev : ∀ b ∈ env.locals :: muts sc env, b ∉ wr := fun b hb hm => by
    rcases List.mem_cons.mp hb with q | q
    · exact offM b hm (q ▸ locM)
    · exact offM b hm q
  cases hdi : items.drop i with
  | nil =>
    have hil : i = items.length := by
      have := congrArg List.length hdi
      simp at this; omega
    subst hil
    refine wpNo (wpAny_mono (ip.wk.done s' st) (fun r s'' h => ?_) fun _ _ x => x)
    obtain ⟨rfl, kw⟩ := h
    have y'' : SOk G sc Pi env σi none env.locals s'' := yi.other kw hev offC hw hbW (fun a p => p) (fun a p => .inl p) fun a p => by
      obtain ⟨o, ho'⟩ := Option.isSome_iff_exists.mp (yi.live a p)
      rw [kw.keep a o (fun hm => hw a hm p) ho']; rfl
    have hid'' : Hid G sc Pi env addrs ri s'' := hidi.keep kw (fun a ha hm => offA a hm ha) fun a p => .inl p
    show wpAny G.M A (execs [] env) _ _ s''
    refine wpAny_execs_nil ?_
    exact ⟨rfl, Pi, σi, ri, ⟨mv.kb.then kw fun b hb => .inr (ip.new b hb), mv.up, mv.down, y''.live, y''.b.has⟩, hend σi ri (hdi ▸ hI), y'', hid''⟩
  | cons d ds =>
    have hdrop : items.drop (i + 1) = ds := by
      rw [← List.drop_drop, hdi]; rfl
    have hget : items[i]? = some d := by
      have := List.getElem?_drop (xs := items) (i := i) (j := 0)
      rw [hdi] at this
      simpa using this.symm
    have hlt : i < items.length := (List.getElem?_eq_some_iff.mp hget).1
    obtain ⟨σb, hb1, hb2, hbody⟩ := hstep d ds σi ri (hdi ▸ hI)
    refine wpNo (wpAny_mono (ip.wk.item i s' d hget st) (fun r s1 h1 => ?_) fun _ _ x => x)
    obtain ⟨v, rfl, kw1, h1⟩ := h1
    refine wpNo (wpAny_mono h1 (fun _ s2 h2 => ?_) fun _ _ x => x)
    obtain ⟨kw2, st2, rv⟩ := h2
    have kw := kw1.trans kw2
    have rv2 : Rv (PG s' s2 Pi) s2.heap d v := rv.live.sub fun a ⟨p, l⟩ => p.elim (fun p => .inl (hP1 a p)) fun q => .inr ⟨q, l⟩
    have lvP : ∀ a, PG s' s2 Pi a → (s2.heap.get? a).isSome = true := fun a p => p.elim (fun p => by
      obtain ⟨o, ho'⟩ := Option.isSome_iff_exists.mp (yi.live a p)
      rw [kw.keep a o (fun hm => hw a hm p) ho']; rfl) fun q => q.2
    have y2 : SOk G sc (PG s' s2 Pi) env σi none env.locals s2 := yi.other kw hev offC hw hbW (fun a p => .inl p) (fun a p => p.imp id fun q => q.1) lvP
    have hid2 : Hid G sc (PG s' s2 Pi) env addrs ri s2 := hidi.keep kw (fun a ha hm => offA a hm ha) fun a p => p.imp id fun q => q.1
    have offW2 : ∀ b ∈ wr, ¬ PG s' s2 Pi b := fun b hb p => p.elim (hw b hb) fun q => not_live q.1 (ip.wk.live _ _ st b hb)
    refine wpNo (assignT (storesO y2.b.fr.off) R.handled hb2 hb1 y2 rv2 fun s3 y3 k3 => ?_)
    have st3 : St (i + 1) s3.heap := ip.wk.frame _ _ _ st2 fun b o hb ho' => k3.keep b o (fun hm => hb.elim (fun q => offM b q hm) fun q => y2.b.fr.off b hm (.inl (hP1 b q))) ho'
    have hid3 : Hid G sc (PG s' s2 Pi) env addrs ri s3 := hid2.keep k3 hid2.nm fun a p => .inl p
    refine wpNo (wpAny_mono (hbody A env _ s3 R y3 hid3) (fun f s4 h4 => ?_) fun _ _ x => x)
    obtain ⟨rfl, P4, σ4, r4, m4, hI4, y4, hid4⟩ := h4
    have m3 : MovesH sc P env addrs s s3 (PG s' s2 Pi) := by
      refine ⟨(mv.kb.then kw fun b hb => .inr (ip.new b hb)).trans (k3.sub fun b hb => List.mem_append_right _ hb), fun a p => .inl (mv.up a p), fun a p => ?_, y3.live, y3.b.has⟩
      rcases p with p | ⟨p, l⟩
      · exact mv.down a p
      · by_cases hm : a ∈ addrs ++ muts sc env
        · rcases List.mem_append.mp hm with hm | hm
          · exact absurd p fun q => not_live q (hidi.live a hm)
          · exact absurd p fun q => not_live q (yi.b.has a hm)
        · exact .inr (mv.kb.no hm p)
    have m := m3.then hid3.live hid4.np y4.b.fr.off m4
    have live3 : ∀ b ∈ wr, (s3.heap.get? b).isSome = true := fun b hb => ip.wk.live _ _ st3 b hb
    refine ⟨items.length + 1 - (i + 1), by omega, i + 1, σ4, r4, P4, rfl, hlt, hdrop ▸ hI4, y4, ?_, m, hid4, fun b hb p => ?_, fun a p => m4.up a (.inl (hP1 a p))⟩
    · refine ip.wk.frame _ _ _ st3 fun b o hb ho' => m4.kb.keep b o (fun hm => ?_) ho'
      rcases List.mem_append.mp hm with hm | hm
      · rcases hb with q | q
        · exact offA b q hm
        · exact hid3.np b hm (.inl (hP1 b q))
      · rcases hb with q | q
        · exact offM b q hm
        · exact y3.b.fr.off b hm (.inl (hP1 b q))
    · rcases m4.down b p with q | q
      · exact offW2 b hb q
      · exact not_live q (live3 b hb)
end
end Mine

namespace Mine

theorem refs_of : ∀ {vs : List Value}, (∀ v ∈ vs, ∃ b, v = Value.ref b) → ∃ as : List Addr, vs = as.map Value.ref
  | [], _ => ⟨[], rfl⟩
  | v :: vs, h => by
    obtain ⟨a, rfl⟩ := h v List.mem_cons_self
    obtain ⟨as, rfl⟩ := refs_of fun w hw => h w (List.mem_cons_of_mem _ hw)
    exact ⟨a :: as, rfl⟩

theorem rvs_adr {P : PA} {h : Heap} : ∀ {as : List Addr}, Rvs P h (as.map D.adr) (as.map Value.ref)
  | [] => rfl
  | a :: as => ⟨_, _, rfl, rfl, rvs_adr⟩
theorem rvs_adr_eq {P : PA} {h : Heap} : ∀ {as : List Addr} {vs : List Value}, Rvs P h (as.map D.adr) vs → vs = as.map Value.ref
  | [], _, x => x
  | a :: as, _, ⟨v, r, e, x, y⟩ => by rw [e, show v = _ from x, rvs_adr_eq y]; rfl

section
variable {G : Wd} {n : Nat} {sc sc' : Scope} {σ σ' : Sg} {P P' P2 : PA} {env : Env} {s s' s₁ s₂ : Shared} {A : Around}

theorem empties {h : Heap} : ∀ {items : List D} {as : List Addr}, Rvs P h (items.map fun _ => D.list []) (as.map Value.ref) → as.length = items.length ∧ ∀ a ∈ as, P a ∧ h.PlainList a #[]
  | [], as, r => by
    have : as.map Value.ref = [] := r
    cases as with
    | nil => exact ⟨rfl, fun a h => nomatch h⟩
    | cons => cases this
  | d :: ds, as, r => by
    obtain ⟨v, w, e, ⟨b, vs, ev, pb, hp, hv⟩, y⟩ := r
    cases as with
    | nil => cases e
    | cons a as =>
      rw [List.map_cons] at e
      injection e with e1 e2
      rw [ev] at e1
      injection e1 with e1
      subst e1 e2
      have hvs : vs = #[] := by have : vs.toList = [] := hv; simpa using this
      subst hvs
      obtain ⟨h1, h2⟩ := empties y
      refine ⟨by rw [List.length_cons, List.length_cons, h1], fun c hc => ?_⟩
      rcases List.mem_cons.mp hc with rfl | hc
      · exact ⟨pb, hp⟩
      · exact h2 c hc

/-- `[[] for x in items]` -/
theorem ev_rows {iter tgt : Expr} {pe posc : Pos} {items : List D} (hit : EvIt G n sc σ iter tgt items) (S : scIn sc sc' = true) (htn : namesT (isLC sc') tgt = true) (hb : ∀ d ∈ items, ∃ σd, bindTo tgt d [] = some σd) (hz : items.length ≤ 16777216)
    (R : Room n A) (e : EnvOk G sc σ P env s) (hf : ∀ env x, foldedSetIterable iter env x = pure x := by intro _ _; rfl) :
    wpAny G.M A (eval (.ListComp (.List [] pe) [⟨tgt, iter, [], 0⟩] sc' posc) env) (fun v s' => Kp s s' ∧ ∃ (D' : Addr) (addrs : List Addr), v = .ref D' ∧ addrs.length = items.length ∧ addrs.Nodup ∧ (∀ a ∈ addrs, s.heap.get? a = none ∧ s'.heap.PlainList a #[]) ∧
      s.heap.get? D' = none ∧ D' ∉ addrs ∧ s'.heap.PlainList D' (addrs.map Value.ref).toArray) NoE s := by
  rw [eval_ListComp]
  refine comp_coreN (scIn_ok S) seen_nil htn hit (crn_map items hb) hz R e.live (fun a p => p.2) (hf env) fun D' C s' ce => ?_
  refine ⟨_, ce.ns.choose_spec, fun h' hsb => ?_⟩
  obtain ⟨P', up, down, nC, nD, vs, ⟨n', hl⟩, hr, hnew⟩ := ce.body
  have k : KpB [C] s' { s' with heap := h' } := .of (n := s'.toks) fun b o nb eo => hsb.extBut b o (by simpa using nb) eo
  have kk : Kp s { s' with heap := h' } := ((ce.kp.toB [C]).trans k).toKp (by simpa using ce.nc)
  obtain ⟨as, has⟩ := refs_of fun v hv => let ⟨a, e, _⟩ := hnew.2 v hv; ⟨a, e⟩
  rw [has] at hr
  obtain ⟨hlen, hem⟩ := empties hr
  have hvs : vs = (as.map Value.ref).toArray := by rw [← has]
  refine ⟨kk, D', as, rfl, hlen, ?_, fun a ha => ?_, ce.nd, fun hm => nD (hem D' hm).1, ⟨n', hvs ▸ k.keep _ _ (by simpa using ce.dc) hl⟩⟩
  · have := hnew.1
    rw [has] at this
    exact this.of_map _ (fun a b h q => h (by rw [q]))
  · refine ⟨?_, ?_⟩
    · obtain ⟨b, eb, hb⟩ := hnew.2 (.ref a) (by rw [has]; exact List.mem_map.mpr ⟨a, ha, rfl⟩)
      injection eb with eb
      rw [eb]; exact hb
    · obtain ⟨m, hm⟩ := (hem a ha).2
      exact ⟨m, k.keep _ _ (fun hc => nC (List.mem_singleton.mp hc ▸ (hem a ha).1)) hm⟩

/-- `x, y = {key: value}, [[] for ..]` -/
theorem start_rows {x y : Str} {px py p p' pd pe posc pos : Pos} {k k' : Nat} {ke ve iter tgt : Expr} {key : K2} {m : Int} {items : List D} (h1 : EvE G n sc σ ke (dk key)) (h2 : EvE G n sc σ ve (.int m)) (hit : EvIt G n sc σ iter tgt items) (S : scIn sc sc' = true) (htn : namesT (isLC sc') tgt = true)
    (hb : ∀ d ∈ items, ∃ σd, bindTo tgt d [] = some σd) (hz : items.length ≤ 16777216) (hx : isLC sc x = true) (hy : isLC sc y = true)
    (hw : ∀ env, ScOk sc env → swappedStores [.Tuple [.Name x px, .Name y py] k p] (.Tuple [.Dict [some ke] [ve] pd, .ListComp (.List [] pe) [⟨tgt, iter, [], 0⟩] sc' posc] k' p') env = pure none)
    (hf : ∀ env x, foldedSetIterable iter env x = pure x := by intro _ _; rfl)
    (hs : ∀ env, swapsWithSole [.Tuple [.Name x px, .Name y py] k p] (.Tuple [.Dict [some ke] [ve] pd, .ListComp (.List [] pe) [⟨tgt, iter, [], 0⟩] sc' posc] k' p') pos.line env = pure false := by intro _; rfl)
    (R : Room n A) (z : SOk G sc P env σ none env.locals s) :
    wpAny G.M A (exec (.Assign [.Tuple [.Name x px, .Name y py] k p] (.Tuple [.Dict [some ke] [ve] pd, .ListComp (.List [] pe) [⟨tgt, iter, [], 0⟩] sc' posc] k' p') pos) env) (fun f s' => f = .next ∧ ∃ (P' : PA) (addrs : List Addr), Moves sc P env none env.locals s s' P' ∧
      SOk G sc P' env ((y, .list (addrs.map D.adr)) :: (x, .dict [(key, m)]) :: σ) none env.locals s' ∧ Hid G sc P' env addrs (items.map fun _ => []) s' ∧ ∀ a ∈ addrs, s.heap.get? a = none) NoE s := by
  refine wpAny_Assign_stores (Q := fun f s' => f = .next ∧ ∃ (P' : PA) (addrs : List Addr), Moves sc P env none env.locals s s' P' ∧ SOk G sc P' env ((y, .list (addrs.map D.adr)) :: (x, .dict [(key, m)]) :: σ) none env.locals s' ∧ Hid G sc P' env addrs (items.map fun _ => []) s' ∧ ∀ a ∈ addrs, s.heap.get? a = none) ?_ (hs env) (hw env z.b.e.sc)
  refine wpAny_Tuple (wpAny_items_cons (wpAny_mono (ev_dict1 (pos := pd) h1 h2 A env P s R z.b.e) (fun v₁ s₁ q₁ => ?_) fun _ _ x => x) rfl)
  have e₁ := z.b.e.keep q₁.1 (Q := PN s P) fun _ p => .inl p
  refine wpAny_items_cons (wpAny_mono (ev_rows hit S htn hb hz R e₁ hf) (fun v₂ s₂ q₂ => ?_) fun _ _ x => x) rfl
  obtain ⟨k₂, D', addrs, rfl, hlen, hnd, hem, hDn, hDa, hDl⟩ := q₂
  refine wpAny_items_nil ⟨by simp [sizeLine], ?_⟩
  show wpAny G.M A (assign (.Tuple [.Name x px, .Name y py] k p) env (.ref s₂.heap.objs.size)) _ _ _
  have k₃ := Kp.push s₂ { cls := .type "tuple", data := .seq [v₁, Value.ref D'].toArray }
  have hT := push_new (s := s₂) (o := { cls := .type "tuple", data := .seq [v₁, Value.ref D'].toArray }) rfl
  have hTn := size_none s₂
  generalize s₂.heap.objs.size = T at hT hTn ⊢
  generalize hs3 : ({ s₂ with heap := s₂.heap.push { cls := .type "tuple", data := .seq [v₁, Value.ref D'].toArray } } : Shared) = s₃ at k₃ ⊢
  have hT3 : s₃.heap.get? T = some { cls := .type "tuple", data := .seq [v₁, Value.ref D'].toArray } := by rw [← hs3]; exact hT
  have ks : Kp s s₃ := (q₁.1.trans k₂).trans k₃
  -- the new lists are hidden
  have fresh : ∀ a ∈ addrs, s.heap.get? a = none := fun a ha => q₁.1.none (hem a ha).1
  have up : ∀ a, P a → PG s s₃ P a ∧ a ∉ addrs := fun a p => ⟨.inl p, fun hm => not_live (fresh a hm) (z.live a p)⟩
  have down : ∀ a, PG s s₃ P a ∧ a ∉ addrs → P a ∨ s.heap.get? a = none := fun a p => p.1.imp id fun q => q.1
  have lv : ∀ a, PG s s₃ P a ∧ a ∉ addrs → (s₃.heap.get? a).isSome = true := fun a p => p.1.elim (fun p => live_keep ks (z.live a p)) fun q => q.2
  have z₃ : SOk G sc (fun a => PG s s₃ P a ∧ a ∉ addrs) env σ none env.locals s₃ := z.other (wr := []) (ks.toB []) (by simp) (by simp) (by simp) (by simp) up down lv
  have hD3 : s₃.heap.PlainList D' (addrs.map Value.ref).toArray := let ⟨m, h⟩ := hDl; ⟨m, k₃.keep _ _ h⟩
  have hDP : PG s s₃ P D' ∧ D' ∉ addrs := ⟨.inr ⟨q₁.1.none hDn, by obtain ⟨m, h⟩ := hD3; rw [h]; rfl⟩, hDa⟩
  have hTP : PG s s₃ P T ∧ T ∉ addrs := ⟨.inr ⟨(q₁.1.trans k₂).none hTn, by rw [hT3]; rfl⟩, fun hm => by obtain ⟨m, h⟩ := (hem T hm).2; rw [hTn] at h; cases h⟩
  have r1 : Rv (fun a => PG s s₃ P a ∧ a ∉ addrs) s₃.heap (.dict [(key, m)]) v₁ := (q₁.2.live.sub fun a ⟨p, l⟩ => (⟨p.imp id fun q => ⟨q, live_keep (k₂.trans k₃) l⟩, fun hm => not_live (hem a hm).1 l⟩ : PG s s₃ P a ∧ a ∉ addrs)).tr ((k₂.trans k₃).trP _)
  have r2 : Rv (fun a => PG s s₃ P a ∧ a ∉ addrs) s₃.heap (.list (addrs.map D.adr)) (.ref D') := ⟨D', _, rfl, hDP, hD3, rvs_adr⟩
  have rT : Rv (fun a => PG s s₃ P a ∧ a ∉ addrs) s₃.heap (.tup [.dict [(key, m)], .list (addrs.map D.adr)]) (.ref T) := ⟨T, _, rfl, hTP, ⟨_, hT3, rfl, _, rfl⟩, _, _, rfl, r1, _, _, rfl, r2, rfl⟩
  have mk : Moves sc P env none env.locals s s₃ (fun a => PG s s₃ P a ∧ a ∉ addrs) := ⟨ks.toB _, up, fun a p => (down a p).imp id .inr, lv, fun b hb => live_keep ks (z.has b hb)⟩
  refine assignT (ok := okS sc none) (storesO (ω := none) (oa := env.locals) z₃.b.fr.off) R.handled (by simp [namesT, namesS, okS, notOwn, hx, hy]) rfl z₃ rT fun s₄ z₄ k₄ => ?_
  refine ⟨rfl, fun a => PG s s₃ P a ∧ a ∉ addrs, addrs, mk.then z z₃ (own_stays z) (Moves.of_muts z₃ k₄ z₄), z₄, ?_, fresh⟩
  have h0 : ∀ a ∈ addrs, G.h₀.get? a = none := fun a ha => by
    cases e0 : G.h₀.get? a with
    | none => rfl
    | some o => have := z.b.e.gok.ext _ _ e0; rw [fresh a ha] at this; cases this
  have nm : ∀ a ∈ addrs, a ∉ muts sc env := fun a ha hm => not_live (fresh a ha) (z.b.has a hm)
  refine ⟨by rw [hlen, List.length_map], fun j a r hj hr => ?_, hnd, fun a ha p => p.2 ha, h0, nm, fun a ha z' c hc q => not_live (fresh a ha) (q ▸ z.b.e.cin z' c hc)⟩
  have ha := List.mem_of_getElem? hj
  rw [List.getElem?_map] at hr
  have hr' : r = [] := by
    cases hi : items[j]? with
    | none => rw [hi] at hr; cases hr
    | some d => rw [hi] at hr; cases hr; rfl
  subst hr'
  obtain ⟨m', h⟩ := (hem a ha).2
  exact ⟨#[], ⟨m', k₄.keep a _ (nm a ha) (k₃.keep _ _ h)⟩, .nil⟩
end
end Mine

namespace Mine

/-! _law_counted -/
noncomputable def rowSum (now : List (K2 × Int)) (o : Int) : Int := ((now.filter fun p => p.1.2 == o).map (·.2)).sum
noncomputable def addRows (now : List (K2 × Int)) : Nat → List (List Int) → List (List Int)
  | _, [] => []
  | o, r :: rs => (r ++ [rowSum now o]) :: addRows now (o + 1) rs
noncomputable def keyOf (word : List Int) (k : K2) (i : Nat) : K2 :=
  (slc (k.1 ++ [(i : Int)]) (some (1 - (word.length : Int))) none, k.2 + if (slc (k.1 ++ [(i : Int)]) (some (0 - (word.length : Int))) none == word) = true then 1 else 0)
noncomputable def stepIn (word : List Int) (kept : Nat) (k : K2) (m : Int) (later : List (K2 × Int)) (i : Nat) : Option (List (K2 × Int)) :=
  grd (decide (later.length ≤ 100000)) (some (if (keyOf word k i).2 < (kept : Int) then dput later (keyOf word k i) ((dget later (keyOf word k i)).getD 0 + m) else later))
noncomputable def stepNow (word : List Int) (letters kept : Nat) (now : List (K2 × Int)) : Option (List (K2 × Int)) :=
  foldO (fun later p => grd (decide (p.1.1.length ≤ 1000)) (foldO (stepIn word kept p.1 p.2) later (List.range letters))) [] now
noncomputable def cntStep (word : List Int) (letters kept : Nat) (st : List (K2 × Int) × List (List Int)) (_ : Nat) : Option (List (K2 × Int) × List (List Int)) :=
  grd (st.2.all sml && decide (st.1.length ≤ 100000)) ((stepNow word letters kept st.1).bind fun later => some (later, addRows st.1 0 st.2))
noncomputable def countP (word : List Int) (letters many kept : Nat) : Option (List (List Int)) :=
  (foldO (cntStep word letters kept) ([(([], 0), 1)], List.replicate kept []) (List.range many)).bind fun st => some st.2

theorem stepNow_nodup {word : List Int} {letters kept : Nat} {now later : List (K2 × Int)} (h : stepNow word letters kept now = some later) : (later.map (·.1)).Nodup := by
  have inner : ∀ (k : K2) (m : Int) (l : List Nat) (a b : List (K2 × Int)), (a.map (·.1)).Nodup → foldO (stepIn word kept k m) a l = some b → (b.map (·.1)).Nodup := by
    intro k m l
    induction l with
    | nil => intro a b ha hb; cases hb; exact ha
    | cons i l ih =>
      intro a b ha hb
      obtain ⟨c, h1, h2⟩ := foldO_cons hb
      obtain ⟨_, h1⟩ := grd_some h1
      cases h1
      refine ih _ _ ?_ h2
      split
      · exact nodup_dput ha
      · exact ha
  have outer : ∀ (l : List (K2 × Int)) (a b : List (K2 × Int)), (a.map (·.1)).Nodup → foldO (fun later p => grd (decide (p.1.1.length ≤ 1000)) (foldO (stepIn word kept p.1 p.2) later (List.range letters))) a l = some b → (b.map (·.1)).Nodup := by
    intro l
    induction l with
    | nil => intro a b ha hb; cases hb; exact ha
    | cons i l ih =>
      intro a b ha hb
      obtain ⟨c, h1, h2⟩ := foldO_cons hb
      obtain ⟨_, h1⟩ := grd_some h1
      exact ih _ _ (inner _ _ _ _ _ ha h1) h2
  exact outer now [] later List.nodup_nil h

theorem slc_map {α β : Type} (f : α → β) (l : List α) (lo hi : Option Int) : slc (l.map f) lo hi = (slc l lo hi).map f := by
  simp [slc, List.map_take, List.map_drop]

structure Cnts (G : Wd) : Prop where
  counted : FunAt G (nm "_law_counted") 41 [(nm "word"), (nm "letters"), (nm "many"), (nm "kept")]

section
variable {G : Wd} {n : Nat}

noncomputable def cσ (addrs : List Addr) (word : List Int) (letters many kept : Nat) (now : List (K2 × Int)) : Sg :=
  [((nm "rows"), .list (addrs.map D.adr)), ((nm "now"), .dict now), ((nm "word"), dt word), ((nm "letters"), .int letters), ((nm "many"), .int many), ((nm "kept"), .int kept)]

theorem cr_sum {sc : Scope} {σ : Sg} {kp : Pos} {elt test : Expr} {now : List (K2 × Int)} {o : Int} (hnd : (now.map (·.1)).Nodup)
    (ht : ∀ k : K2, EvT G n sc (((nm "key"), dk k) :: σ) test (k.2 == o)) (he : ∀ k m, dget now k = some m → EvE G n sc (((nm "key"), dk k) :: σ) elt (.int m)) :
    ∀ l : List (K2 × Int), (∀ p ∈ l, p ∈ now) → CR G n sc σ (.Name (nm "key") kp) elt [test] (l.map fun p => dk p.1) ((l.filter fun p => p.1.2 == o).map fun p => .int p.2)
  | [], _ => .nil
  | (k, m) :: l, h => by
    have ih := cr_sum (kp := kp) hnd ht he l fun p hp => h p (List.mem_cons_of_mem _ hp)
    have hm : dget now k = some m := dget_mem hnd (h _ List.mem_cons_self)
    by_cases hk : (k.2 == o) = true
    · rw [List.filter_cons, if_pos hk]
      exact .take rfl (by have := ht k; rw [hk] at this; exact this) (he k m hm) ih
    · rw [List.filter_cons, if_neg hk]
      exact .skip rfl (by have := ht k; rw [Bool.eq_false_iff.mpr hk] at this; exact this) ih

theorem drop_cons {α : Type} {l : List α} {j : Nat} {d : α} {rest : List α} (h : d :: rest = l.drop j) : l[j]? = some d ∧ rest = l.drop (j + 1) := by
  constructor
  · have := List.getElem?_drop (xs := l) (i := j) (j := 0)
    rw [← h] at this
    simpa using this.symm
  · rw [← List.drop_drop, ← h]; rfl

/-- the rows' turn -/
theorem rows_turn (N : Names G) {addrs : List Addr} {word : List Int} {letters many kept : Nat} {now : List (K2 × Int)} {rows : List (List Int)} (hlen : addrs.length = rows.length) (hnd : (now.map (·.1)).Nodup) (hz : now.length ≤ 100000) (hr : ∀ r ∈ rows, r.length ≤ 1000)
    {iter : Expr} {p1 p2 p3 pos : Pos} {kk : Nat} {body : List Stmt} {st : Stmt} {sc : Scope} (hst : st = .For (.Tuple [.Name (nm "often") p1, .Name (nm "row") p2] kk p3) iter body [] pos)
    (hit : EvIt G n sc (cσ addrs word letters many kept now) iter (.Tuple [.Name (nm "often") p1, .Name (nm "row") p2] kk p3) (enum (addrs.map D.adr)))
    (hn : namesT (okS sc none) (.Tuple [.Name (nm "often") p1, .Name (nm "row") p2] kk p3) = true)
    (hbody : ∀ (j : Nat) (a : Addr) (r : List Int) (rs : List (List Int)), addrs[j]? = some a → rs[j]? = some r → r.length ≤ 1000 → Do1H G n sc addrs (((nm "row"), .adr a) :: ((nm "often"), .int j) :: cσ addrs word letters many kept now) rs (body.headD (.Pass pos)) (fun r' σ' => r' = rs.set j (r ++ [rowSum now j]) ∧ σ' = ((nm "row"), .adr a) :: ((nm "often"), .int j) :: cσ addrs word letters many kept now))
    (hone : body = [body.headD (.Pass pos)]) (hf : ∀ env x, foldedSetIterable iter env x = pure x := by intro _ _; rfl) :
    Do1H G n sc addrs (cσ addrs word letters many kept now) rows st (fun r' σ' => r' = addRows now 0 rows ∧ σ' = cσ addrs word letters many kept now) := by
  subst hst
  have hen : enum (addrs.map D.adr) = addrs.zipIdx.map fun p => .tup [.int p.2, .adr p.1] := enum_map D.adr addrs
  refine do_forH (fun rest σ' r => ∃ done todo, r = done ++ todo ∧ σ' = cσ addrs word letters many kept now ∧ rest = (enum (addrs.map D.adr)).drop done.length ∧ done ++ addRows now done.length todo = addRows now 0 rows ∧ (∀ q ∈ todo, q.length ≤ 1000) ∧ r.length = addrs.length)
    hit ⟨[], rows, rfl, rfl, rfl, rfl, hr, hlen.symm⟩ (fun d rest σi ri hI => ?_) (fun σi ri hI => ?_) hf
  · obtain ⟨done, todo, rfl, rfl, hd, hfin, hq, hl⟩ := hI
    obtain ⟨h1, h2⟩ := drop_cons hd
    rw [hen, List.getElem?_map] at h1
    cases hz : addrs.zipIdx[done.length]? with
    | none => rw [hz] at h1; cases h1
    | some p =>
      rw [hz] at h1
      obtain ⟨a, j⟩ := p
      rw [List.getElem?_zipIdx] at hz
      cases ha : addrs[done.length]? with
      | none => rw [ha] at hz; cases hz
      | some a' =>
        rw [ha] at hz
        simp only [Option.map_some, Option.some.injEq, Prod.mk.injEq] at hz h1
        obtain ⟨rfl, hj⟩ := hz
        subst h1
        have hj : j = done.length := by omega
        subst hj
        cases todo with
        | nil =>
          exfalso
          have := (List.getElem?_eq_some_iff.mp ha).1
          simp at hl; omega
        | cons r0 todo =>
          refine ⟨_, rfl, hn, ?_⟩
          rw [hone]
          refine doH_cons (hbody done.length a' r0 (done ++ r0 :: todo) ha (by simp) (hq r0 List.mem_cons_self)) fun r' σ' hh => ?_
          obtain ⟨rfl, rfl⟩ := hh
          refine doH_nilS (τ := cσ addrs word letters many kept now) (by repeat first | exact Sub.nil | refine Sub.cons (by rfl) ?_) ⟨done ++ [r0 ++ [rowSum now done.length]], todo, by simp, rfl, by rw [h2]; simp, ?_, fun q hq' => hq q (List.mem_cons_of_mem _ hq'), by rw [List.length_set]; exact hl⟩
          rw [← hfin]
          simp [addRows]
  · obtain ⟨done, todo, rfl, rfl, hd, hfin, hq, hl⟩ := hI
    have h1 : (enum (addrs.map D.adr)).length = addrs.length := by rw [hen]; simp
    have h2 : addrs.length ≤ done.length := by
      have := congrArg List.length hd
      simp [h1] at this; omega
    have h3 : todo = [] := by
      have : todo.length = 0 := by simp at hl; omega
      exact List.length_eq_zero_iff.mp this
    subst h3
    rw [← hfin]
    simp [addRows]

/-- the words' turn, the list of the next step the block's own -/
theorem words_turn (N : Names G) {addrs : List Addr} {word : List Int} {letters many kept : Nat} {now later : List (K2 × Int)} (hnd : (now.map (·.1)).Nodup) (hz : now.length ≤ 100000) (hw : word.length ≤ 1000) (hl : letters ≤ 1000) (hk : kept ≤ 1000)
    (h : stepNow word letters kept now = some later) : DoS G n (fnScope 41) (cσ addrs word letters many kept now) none (match fnBody 41 with
      | [_, .For _ _ (_ :: rest) _ _, _] => rest
      | _ => []) (fun o => ∃ σ', o = .next σ' none ∧ σ' = cσ addrs word letters many kept later) := by
  refine do_seq (do_new evn_dict (by rfl) (by decide +kernel)) ?_
  refine do_seq (do_forL now (fun p => dk p.1) (fun _ => cσ addrs word letters many kept now) (fun l => some ((nm "later"), .dict l)) _ [] later (it_keys (ev_var (by rfl)) (.inr rfl)) (by repeat first | exact Sub.nil | refine Sub.cons (by rfl) ?_) rfl h ?_) ?_
  · rintro ⟨⟨tail, o⟩, m⟩ hmem l l' hf
    obtain ⟨h1, h2⟩ := grd_some hf
    have ht : tail.length ≤ 1000 := by simpa using h1
    have hnow : dget now (tail, o) = some m := dget_mem hnd hmem
    refine ⟨_, rfl, by rfl, ?_⟩
    refine do_seq (do_forR 0 letters (fun _ => ((nm "often"), .int o) :: ((nm "tail"), dt tail) :: cσ addrs word letters many kept now) (fun l => some ((nm "later"), .dict l)) _ l l' (it_cast (it_range1 (by decide +kernel) N.range rfl rfl (ev_var (by rfl)) (sm_range (by omega) (by omega))) (by congr 1 <;> omega)) (by repeat first | exact Sub.nil | refine Sub.cons (by rfl) ?_) rfl h2 (fun _ => by rfl) ?_) (do_nilS (by repeat first | exact Sub.nil | refine Sub.cons (by rfl) ?_) ⟨rfl, rfl⟩)
    intro i hi g g' hg
    obtain ⟨h3, h4⟩ := grd_some hg
    have hgl : g.length ≤ 100000 := by simpa using h3
    cases h4
    have hlong : (tail ++ [(i : Int)]).length ≤ 1001 := by simp; omega
    have hneg : ∀ (q : Int), slc ((tail ++ [(i : Int)]).map D.int) (some q) none = (slc (tail ++ [(i : Int)]) (some q) none).map D.int := fun q => slc_map _ _ _ _
    refine do_seq (do_assign (d := dt (tail ++ [(i : Int)])) (ev_cast (ev_bin (ev_var (by rfl)) (ev_tupS (evs_cons (ev_var (by rfl)) evs_nil)) (add_tt (by simp; omega))) (by simp [dt])) (by decide +kernel) (by rfl)) ?_
    refine do_seq (do_assign (d := dk (keyOf word (tail, o) i)) (ev_tupS (evs_cons (ev_cast (ev_slice (ev_var (by rfl)) ⟨_, ev_bin ev_int (ev_callx (by decide +kernel) (len_dt N hw) (evs_cons (ev_var (by rfl)) evs_nil)) sub_ii, partInt⟩ rfl (.inr ⟨_, rfl, rfl, by rw [List.length_map]; omega⟩)) (by rw [hneg]; rfl)) (evs_cons (ev_bin (ev_var (by rfl)) (ev_if (evt_cmp (ev_cast (ev_slice (ev_var (by rfl)) ⟨_, ev_bin ev_int (ev_callx (by decide +kernel) (len_dt N hw) (evs_cons (ev_var (by rfl)) evs_nil)) sub_ii, partInt⟩ rfl (.inr ⟨_, rfl, rfl, by rw [List.length_map]; omega⟩)) (by rw [hneg])) (ev_var (by rfl)) (eq_tt deq_ints)) (d := .int (if (slc (tail ++ [(i : Int)]) (some (0 - (word.length : Int))) none == word) = true then 1 else 0)) (fun hc => by rw [if_pos hc]; exact ev_int) (fun hc => by rw [if_neg (by rw [hc]; decide)]; exact ev_int)) add_ii) evs_nil))) (by decide +kernel) (by rfl)) ?_
    by_cases hc : (keyOf word (tail, o) i).2 < (kept : Int)
    · rw [if_pos hc]
      refine do_seq (do_if (b := true) (evt_cast (evt_cmp (ev_sub (ev_var (by rfl)) ev_int (get_tup (d := .int (keyOf word (tail, o) i).2) (by decide) rfl (by decide))) (ev_var (by rfl)) lt_ii) (by simpa using hc)) (fun _ => do_last (do_setD (k := keyOf word (tail, o) i) (m := (dget g (keyOf word (tail, o) i)).getD 0 + m) (ev_bin (ev_get2 (ev_var (by rfl)) (ev_var (by rfl)) ev_int) (ev_sub (ev_var (by rfl)) (ev_cast (d' := dk (tail, o)) (ev_tupS (evs_cons (ev_var (by rfl)) (evs_cons (ev_var (by rfl)) evs_nil))) rfl) (get_dict hnow)) add_ii) (ev_var (by rfl)) (by omega))) (fun h => nomatch h)) ?_
      exact do_nilS (by repeat first | exact Sub.nil | refine Sub.cons (by rfl) ?_) ⟨rfl, rfl⟩
    · rw [if_neg hc]
      refine do_ifF (evt_cast (evt_cmp (ev_sub (ev_var (by rfl)) ev_int (get_tup (d := .int (keyOf word (tail, o) i).2) (by decide) rfl (by decide))) (ev_var (by rfl)) lt_ii) (by simpa using hc)) ?_
      exact do_nilS (by repeat first | exact Sub.nil | refine Sub.cons (by rfl) ?_) ⟨rfl, rfl⟩
  · refine do_freeze (do_seq (do_assign (ev_var (by rfl)) (by decide +kernel) rfl) ?_)
    exact do_nilS (τ := cσ addrs word letters many kept later) (by repeat first | exact Sub.nil | refine Sub.cons (by rfl) ?_) ⟨_, rfl, rfl⟩
end
end Mine

namespace Mine

theorem addRows_len (now : List (K2 × Int)) : ∀ (rs : List (List Int)) (o : Nat), (addRows now o rs).length = rs.length
  | [], _ => rfl
  | r :: rs, o => by rw [addRows, List.length_cons, List.length_cons, addRows_len now rs]

theorem Hid.rvs {G : Wd} {sc : Scope} {P : PA} {env : Env} {addrs : List Addr} {rows : List (List Int)} {s : Shared} (h : Hid G sc P env addrs rows s) : Rvs (fun a => P a ∨ a ∈ addrs) s.heap (rows.map dis) (addrs.map Value.ref) := by
  have key : ∀ (as : List Addr) (rs : List (List Int)), (∀ a ∈ as, a ∈ addrs) → as.length = rs.length → (∀ (j : Nat) a r, as[j]? = some a → rs[j]? = some r → ∃ vs, s.heap.PlainList a vs ∧ IntsAre vs.toList r) → Rvs (fun a => P a ∨ a ∈ addrs) s.heap (rs.map dis) (as.map Value.ref) := by
    intro as
    induction as with
    | nil => intro rs _ hl _; cases rs with
      | nil => rfl
      | cons => simp at hl
    | cons a as ih =>
      intro rs hm hl hat
      cases rs with
      | nil => simp at hl
      | cons r rs =>
        obtain ⟨vs, hp, hi⟩ := hat 0 a r rfl rfl
        exact ⟨_, _, rfl, ⟨a, vs, rfl, .inr (hm a List.mem_cons_self), hp, Rvs.of_ints hi⟩, ih rs (fun b hb => hm b (List.mem_cons_of_mem _ hb)) (by simpa using hl) fun j b q h1 h2 => hat (j + 1) b q (by simpa using h1) (by simpa using h2)⟩
  exact key addrs rows (fun _ h => h) h.len h.at_

section
variable {G : Wd} {n : Nat}

theorem do_rows {sc sc' : Scope} {σ : Sg} {x y : Str} {px py p p' pd pe posc pos py' posr : Pos} {k k' : Nat} {ke ve iter tgt : Expr} {key : K2} {m : Int} {items : List D} {st2 : Stmt} {frows : List (List Int)} (h1 : EvE G n sc σ ke (dk key)) (h2 : EvE G n sc σ ve (.int m)) (hit : EvIt G n sc σ iter tgt items) (S : scIn sc sc' = true) (htn : namesT (isLC sc') tgt = true)
    (hb : ∀ d ∈ items, ∃ σd, bindTo tgt d [] = some σd) (hz : items.length ≤ 16777216) (hx : isLC sc x = true) (hy : isLC sc y = true)
    (hw : ∀ env, ScOk sc env → swappedStores [.Tuple [.Name x px, .Name y py] k p] (.Tuple [.Dict [some ke] [ve] pd, .ListComp (.List [] pe) [⟨tgt, iter, [], 0⟩] sc' posc] k' p') env = pure none)
    (hloop : ∀ addrs : List Addr, addrs.length = items.length → Do1H G n sc addrs ((y, .list (addrs.map D.adr)) :: (x, .dict [(key, m)]) :: σ) (items.map fun _ => []) st2 (fun r σ' => r = frows ∧ σ'.lookup y = some (.list (addrs.map D.adr))))
    (hd : (y == ("__debug__" : Str)) = false) (hc : (y == ("__classdict__" : Str)) = false)
    (hf : ∀ env x, foldedSetIterable iter env x = pure x := by intro _ _; rfl)
    (hs : ∀ env, swapsWithSole [.Tuple [.Name x px, .Name y py] k p] (.Tuple [.Dict [some ke] [ve] pd, .ListComp (.List [] pe) [⟨tgt, iter, [], 0⟩] sc' posc] k' p') pos.line env = pure false := by intro _; rfl) :
    DoS G n sc σ none [.Assign [.Tuple [.Name x px, .Name y py] k p] (.Tuple [.Dict [some ke] [ve] pd, .ListComp (.List [] pe) [⟨tgt, iter, [], 0⟩] sc' posc] k' p') pos, st2, .Return (some (.Name y py')) posr] (· = .ret (dm frows)) := by
  intro A env P oa s R z
  have ho : oa = env.locals := z.own
  subst ho
  refine wpAny_execs_cons (wpAny_mono (start_rows h1 h2 hit S htn hb hz hx hy hw hf hs R z) (fun f s₁ h₁ => ?_) fun _ _ x => x)
  obtain ⟨rfl, P₁, addrs, m₁, z₁, hid₁, hfresh⟩ := h₁
  have hal : addrs.length = items.length := by rw [hid₁.len, List.length_map]
  refine wpAny_execs_cons (wpAny_mono (hloop addrs hal A env P₁ s₁ R z₁ hid₁) (fun f s₂ h₂ => ?_) fun _ _ x => x)
  obtain ⟨rfl, P₂, σ₂, r₂, m₂, ⟨rfl, hy2⟩, z₂, hid₂⟩ := h₂
  refine wpAny_execs_cons (wpAny_Return_some (wpAny_mono (ev_var (n := n) hy2 hd hc A env P₂ s₂ R z₂.b.e) (fun v s₃ q => ?_) fun _ _ x => x))
  obtain ⟨k₃, r⟩ := q
  have z₃ := z₂.keep k₃
  have hid₃ : Hid G sc P₂ env addrs r₂ s₃ := hid₂.keep (wr := []) (k₃.toB []) (by simp) fun a p => .inl p
  obtain ⟨ra, vs, rfl, ⟨hra, hl⟩, ⟨n', hp⟩, hrv⟩ := r.live
  have hvs := rvs_adr_eq hrv
  -- all that is reached now
  have hloc : ∀ b ∈ env.locals :: muts sc env, b ∈ muts sc env := fun b hb => by
    rcases List.mem_cons.mp hb with q | q
    · rw [q]; simp [muts]
    · exact q
  have down₂ : ∀ a, P₂ a → P a ∨ s.heap.get? a = none := fun a p => by
    rcases m₂.down a p with q | q
    · rcases m₁.down a q with q | ⟨_, q⟩ | q
      · exact .inl q
      · exact absurd rfl q
      · exact .inr q
    · by_cases hm : a ∈ env.locals :: muts sc env
      · exact absurd (m₁.has a hm) (not_live q)
      · exact .inr (m₁.kb.no hm q)
  have rP : P₂ ra ∨ s.heap.get? ra = none := by
    rcases hra with q | q
    · exact .inl q
    · right
      have q1 : s₁.heap.get? ra = none := by
        by_cases hm : ra ∈ addrs ++ muts sc env
        · exfalso
          rcases List.mem_append.mp hm with hm | hm
          · exact not_live q (hid₂.live ra hm)
          · exact not_live q (z₂.b.has ra hm)
        · exact m₂.kb.no hm q
      by_cases hm : ra ∈ env.locals :: muts sc env
      · exact absurd (m₁.has ra hm) (not_live q1)
      · exact m₁.kb.no hm q1
  refine ⟨fun a => (P₂ a ∨ a ∈ addrs) ∨ a = ra, ⟨?_, fun a p => .inl (.inl (m₂.up a (m₁.up a p))), fun a p => ?_, fun a p => ?_, fun b hb => z₃.has b hb⟩, _, rfl, ra, vs, rfl, .inr rfl, ⟨n', hp⟩, ?_⟩
  · refine (m₁.kb.then m₂.kb fun b hb => ?_).trans (k₃.toB _)
    rcases List.mem_append.mp hb with hb | hb
    · exact .inr (hfresh b hb)
    · exact .inl (List.mem_cons_of_mem _ hb)
  · rcases p with (p | p) | p
    · exact (down₂ a p).imp id .inr
    · exact .inr (.inr (hfresh a p))
    · rw [p]
      exact rP.elim (fun q => (down₂ ra q).imp id .inr) fun q => .inr (.inr q)
  · rcases p with (p | p) | p
    · exact z₃.live a p
    · exact hid₃.live a p
    · rw [p]; exact hl
  · rw [hvs]; exact hid₃.rvs.sub fun a p => .inl p

theorem swapped_cell {x y : Str} {px py p p' : Pos} {k k' : Nat} {v1 v2 : Expr} {env : Env} (hx : env.kindOf x = some .cell) (hk : env.scope.kind = .function) (h1 : stard v1 = false) (h2 : stard v2 = false) : swappedStores [.Tuple [.Name x px, .Name y py] k p] (.Tuple [v1, v2] k' p') env = pure none := by
  have hb : env.blockKind = .function := by simp [Env.blockKind, hk, ScopeKind.isAnnotationScope]
  unfold swappedStores
  simp only [List.length_cons, List.length_nil, hb]
  have e : (some NameKind.cell == some NameKind.local) = false := by decide
  simp [hx, Expr.pos, e]
  intro _ _ hl
  exfalso
  have := hl ▸ List.length_filterMap_le (fun x : Expr => match x with
    | Expr.Name id pos => if env.kindOf id = some NameKind.local ∧ pos.line = px.line then some id else none
    | x => none) [Expr.Name y py]
  simp at this

theorem c_counted (N : Names G) (F : Cnts G) {word : List Int} {letters many kept : Nat} {rows : List (List Int)} (hw : word.length ≤ 1000) (hl : letters ≤ 1000) (hm : many ≤ 1000) (hk : kept ≤ 1000) (h : countP word letters many kept = some rows) :
    CallsTo G (n + 1) (nm "_law_counted") [dt word, .int letters, .int many, .int kept] (dm rows) := by
  unfold countP at h
  obtain ⟨⟨fnow, frows⟩, hfold, e⟩ := bind_some h
  have e : frows = rows := Option.some.inj e
  subst e
  refine F.counted.calls rfl ?_
  refine do_rows (items := rng 0 kept) (key := (([] : List Int), (0 : Int))) (m := 1) ?h1 ?h2 ?hit ?S ?htn ?hb ?hz ?hx ?hy ?hw ?hloop ?hd ?hc ?hf ?hs
  case h1 => exact ev_cast (ev_tupS (evs_cons (ev_tupS evs_nil) (evs_cons ev_int evs_nil))) rfl
  case h2 => exact ev_int
  case hit => exact it_cast (it_range1 (by decide +kernel) N.range rfl rfl (ev_var (by rfl)) (sm_range (by omega) (by omega))) (by congr 1 <;> omega)
  case S => exact (by decide +kernel)
  case htn => exact (by decide +kernel)
  case hb => exact fun d hd => ⟨_, rfl⟩
  case hz => rw [rng_len]; omega
  case hx => exact (by decide +kernel)
  case hy => exact (by decide +kernel)
  case hw => exact fun env he => swapped_cell (he.cel _ (by decide +kernel)) he.kind rfl rfl
  case hd => exact (by decide +kernel)
  case hc => exact (by decide +kernel)
  case hf => intro _ _; rfl
  case hs => intro _; rfl
  case hloop =>
    intro addrs hal
    rw [rng_len] at hal
    have hrep : ((rng 0 kept).map fun _ => ([] : List Int)) = List.replicate kept [] := by rw [List.map_const', rng_len]
    rw [hrep]
    refine do_forH (n := n) (fun rest σ' r => ∃ (l : List Nat) (now : List (K2 × Int)), rest = l.map (fun (i : Nat) => D.int (0 + i)) ∧ Sub (cσ addrs word letters many kept now) σ' ∧ (now.map (·.1)).Nodup ∧ foldO (cntStep word letters kept) (now, r) l = some (fnow, frows) ∧ r.length = addrs.length)
      (it_cast (it_range1 (by decide +kernel) N.range rfl rfl (ev_var (by rfl)) (sm_range (by omega) (by omega))) (ds' := rng 0 many) (by congr 1 <;> omega)) ⟨List.range many, [(([], 0), 1)], rfl, (by repeat first | exact Sub.nil | refine Sub.cons (by rfl) ?_), by simp, hfold, by rw [List.length_replicate, hal]⟩ (fun d rest σi ri hI => ?_) (fun σi ri hI => ?_)
    · obtain ⟨l, now, hd, hsub, hnd, hf, hlen⟩ := hI
      cases l with
      | nil => cases hd
      | cons i l =>
        rw [List.map_cons] at hd
        injection hd with hd1 hd2
        subst hd1 hd2
        obtain ⟨⟨later, r'⟩, h1, h2⟩ := foldO_cons hf
        obtain ⟨g1, h3⟩ := grd_some h1
        obtain ⟨later', h4, h5⟩ := bind_some h3
        cases h5
        simp only [Bool.and_eq_true, decide_eq_true_eq, List.all_eq_true, sml] at g1
        refine ⟨_, rfl, (by decide +kernel), DoSH.less (σ' := ((nm "size"), .int (0 + (i : Int))) :: cσ addrs word letters many kept now) (DoSH.less (σ' := cσ addrs word letters many kept now) ?_ (by repeat first | exact Sub.nil | refine Sub.cons (by rfl) ?_)) hsub.bind⟩
        refine doH_cons (rows_turn N hlen.symm hnd g1.2 g1.1 rfl (it_enum (by decide +kernel) N.enum rfl (ev_var (by rfl))) (by decide +kernel) (fun j a r rs ha hr hrl => ?_) rfl) fun r' σ' hh => ?_
        · refine doH_append (r := r) (m := rowSum now j) (by rfl) ha hr (ev_callx (by decide +kernel) N.cSum (evs_cons ?_ evs_nil)) (by omega)
          refine ev_cast (d := .list ((now.filter fun p => p.1.2 == (j : Int)).map fun p => .int p.2)) ?_ (by rw [dis, List.map_map]; rfl)
          refine ev_comp [((nm "now"), .dict now), ((nm "often"), .int j)] (it_keys (ev_var (by rfl)) (.inl rfl)) (cr_sum (n := n) hnd (fun k => evt_cmp (ev_sub (ev_var (by rfl)) ev_int (get_tup (d := .int k.2) (by decide) rfl (by decide))) (ev_var (by rfl)) eq_ii) (fun k m hkm => ev_sub (ev_var (by rfl)) (ev_var (by rfl)) (get_dict hkm)) now fun _ h => h) (by decide +kernel) (seen_cons (by rfl) (by decide +kernel) (seen_cons (by rfl) (by decide +kernel) seen_nil)) (by decide +kernel) (by rw [List.length_map]; omega)
        · obtain ⟨rfl, rfl⟩ := hh
          refine (doH_frame (words_turn (n := n) N hnd g1.2 hw hl hk h4)).mono fun r σ' hh => ?_
          obtain ⟨rfl, rfl⟩ := hh
          exact ⟨l, later, rfl, Sub.refl, stepNow_nodup h4, h2, by rw [addRows_len]; exact hlen⟩
    · obtain ⟨l, now, hd, hsub, hnd, hf, hlen⟩ := hI
      cases l with
      | cons => cases hd
      | nil => cases hf; exact ⟨rfl, hsub _ _ rfl⟩
end
end Mine

namespace Mine

section
variable {G : Wd} {n : Nat} {sc : Scope} {σ σ' : Sg} {ω ω' : Ow} {P P' P2 : PA} {env : Env} {s s' s₁ s₂ : Shared} {oa oa' : Addr} {Φ Ψ : Out → Prop}
/-- a statement that leaves the own list where it is -/
noncomputable def Do1O (G : Wd) (n : Nat) (sc : Scope) (σ : Sg) (ω : Ow) (st : Stmt) (σ' : Sg) (ω' : Ow) : Prop :=
  ∀ A env P oa s, Room n A → SOk G sc P env σ ω oa s → wpAny G.M A (exec st env) (fun f s' => f = .next ∧ ∃ P', Moves sc P env ω oa s s' P' ∧ SOk G sc P' env σ' ω' oa s') NoE s

theorem doO_assignF {x px e pos d w dw} (h : EvE G n sc ((w, dw) :: σ) e d) (hf : d.flat = true) (hx : isLC sc x = true) (hn : notOwn (some (w, dw)) x = true) (hs : ∀ env, swapsWith e (some (.Name x px)) pos.line env = pure false := by intro _; rfl) :
    Do1O G n sc σ (some (w, dw)) (.Assign [.Name x px] e pos) ((x, d) :: σ) (some (w, dw)) := fun A env P oa s R y =>
  wpAny_Assign_Name (wpAny_mono (h A env _ s R (own_env y)) (fun v s₁ q => by
    have q := flat_off y q hf
    have y₁ := y.grow q.1
    exact y₁.store hx hn (q.2.grown y.live) fun s₂ y₂ k => ⟨rfl, _, (Moves.of_kp y q.1).then y y₁ (own_stays y) (Moves.of_muts y₁ k y₂), y₂⟩) fun _ _ e => e) (hs env)

theorem doO_set {x px i pos' value pos ds k d} (hv : EvE G n sc ((x, .list ds) :: σ) value d) (hf : d.flat = true) (hi : EvE G n sc ((x, .list ds) :: σ) i (.int k)) (h0 : 0 ≤ k) (hk : k < ds.length) (hz : ds.length ≤ 16777216)
    (hs : ∀ env, swapsWith value (some (.Subscript (.Name x px) i pos')) pos.line env = pure false := by intro _; rfl) (hd : (x == ("__debug__" : Str)) = false := by decide +kernel) (hc : (x == ("__classdict__" : Str)) = false := by decide +kernel) :
    Do1O G n sc σ (some (x, .list ds)) (.Assign [.Subscript (.Name x px) i pos'] value pos) σ (some (x, .list (ds.set k.toNat d))) := fun A env P oa s R y => by
  refine wpAny_Assign_Subscript (wpAny_mono (hv A env _ s R (own_env y)) (fun v s₁ q => ?_) fun _ _ e => e) (hs env)
  have q := flat_off y q hf
  have y₁ := y.grow q.1
  refine own_name y₁ ?_ hd hc
  refine wpAny_mono (hi A env _ s₁ R (own_env y₁)) (fun iv s₂ q₂ => ?_) fun _ _ e => e
  obtain ⟨k₂, t, rfl⟩ := q₂
  have y₂ := y₁.keep k₂
  refine set_done y₂ ((q.2.grown y.live).tr (k₂.trP _)) h0 hk hz fun s₃ y₃ m₃ => ?_
  have mk : Moves sc (PG s s₁ P) env (some (x, .list ds)) oa s₁ s₂ (PG s s₁ P) := ⟨k₂.toB _, fun a p => p, fun a p => .inl p, y₂.live, y₂.has⟩
  exact ⟨rfl, _, (((Moves.of_kp y q.1).then y y₁ own_some mk).then y y₂ own_some m₃), y₃⟩

theorem SOk.freeze {x d} (y : SOk G sc P env σ (some (x, d)) oa s) : SOk G sc (fun a => P a ∨ a = oa) env ((x, d) :: σ) none env.locals s := by
  have o : OwnIs G sc P env σ s x d oa := y.own
  have fr := y.b.fr
  exact ⟨⟨own_env y, ⟨fr.ns, fun p => p.elim fr.np fun q => o.nm (by rw [← q]; simp [muts]), fr.nb, fr.has, fun z c hz hc => ⟨(fr.cell z c hz hc).1, fun p => p.elim (fr.cell z c hz hc).2.1 (o.nc z c hc), (fr.cell z c hz hc).2.2⟩, fr.apart⟩⟩, rfl,
      fun a p => p.elim (y.live a) fun q => by rw [q]; exact o.at_.has⟩
end

/-! a call whose first argument is a list of the caller's own, written by the called -/
noncomputable def CallOkX (G : Wd) (n : Nat) (f : Value) (d0 : D) (ds : List D) (d1 d : D) : Prop :=
  ∀ A s P vs oa, Room n A → GOk G s.heap → (∀ a o, G.h₀.get? a = some o → P a) → (∀ a, P a → (s.heap.get? a).isSome = true) → Rvs P s.heap ds vs → ¬ P oa → G.h₀.get? oa = none → OwnAt P s.heap oa d0 →
    wpAny G.M A (call f (.ref oa :: vs)) (fun v s' => KpB [oa] s s' ∧ OwnAt (PN s P) s'.heap oa d1 ∧ Rv (PN s P) s'.heap d v) NoE s

theorem call_fnX {G : Wd} {n : Nat} {a : Addr} {o : Obj} {fd : FuncData} {st1 st2 : Stmt} {b2 : List Stmt} {ds : List D} {z : Int} {d0 d1 : D} {x : Str} {σa σ₁ : Sg} (ps : List Str) (hK : G.K.lookup a = some o) (hd : o.data = .func fd) (hb : fd.body = .stmts (st1 :: st2 :: b2)) (hcl : fd.closure = []) (hg : fd.globals = mainGlobals) (hbi : fd.builtins = builtinsNs)
    (hcode : CodeIs G.K fd.code fd.qualname) (hbind : ∀ vs : List Value, vs.length = (x :: ps).length → bindArgs fd ⟨vs, []⟩ = pure ((x :: ps).zip vs)) (hpar : parOk fd.scope (x :: ps) = true) (hlen : ds.length = ps.length)
    (h1 : Do1O G n fd.scope (ps.zip ds) (some (x, d0)) st1 σa (some (x, d0))) (h1' : Do1O G n fd.scope σa (some (x, d0)) st2 σ₁ (some (x, d1))) (h2 : DoS G n fd.scope ((x, d1) :: σ₁) none b2 (· = .ret (.int z))) : CallOkX G (n + 1) (.ref a) d0 ds d1 (.int z) := fun A s P vs oa R g hP hlv hr npo nbo hown => by
  simp only [parOk, Bool.and_eq_true, decide_eq_true_eq, List.all_eq_true, Bool.or_eq_true, beq_iff_eq, Bool.not_eq_true', bne_iff_ne, ne_eq] at hpar
  obtain ⟨⟨⟨⟨⟨hnd, hpk⟩, hnf⟩, hk⟩, hco⟩, hge⟩ := hpar
  have hvl : (Value.ref oa :: vs).length = (x :: ps).length := by rw [List.length_cons, List.length_cons, hr.length, hlen]
  have nof : ∀ y, fd.scope.names.lookup y ≠ some .free := fun y hy => hnf _ (mem_of_lookup hy) rfl
  have hmap : (((x :: ps).zip (Value.ref oa :: vs)).map (·.1)) = x :: ps := by
    rw [List.map_fst_zip]; omega
  have hcd : s.heap.CodeRec fd.code fd.qualname := by
    obtain ⟨c, o, vs, t, e, hc, r⟩ := hcode
    exact ⟨c, o, vs, t, e, g.k c o hc, r⟩
  refine wpAny_call (codeAny_call_cells R.d (g.k a o hK) hd g.lim hcd hb (hbind _ hvl) hcl (fun y hy => ?_) (fun s₁ ic => ?_) hco hge hk)
  · have hy1 : y.1 ∈ x :: ps := (List.of_mem_zip (show (y.1, y.2) ∈ _ from hy)).1
    rcases hpk _ hy1 with q | q
    · exact .inl q
    · obtain ⟨c, hc⟩ := cellsFrom_lookup_own fd.scope.names (s.heap.objs.size + 1) [] y.1 (mem_of_lookup q)
      exact .inr ⟨q, by rw [hc]; rfl⟩
  · generalize hEnv : callEnvC fd s.heap.objs.size a = env at ic ⊢
    have eL : env.locals = s.heap.objs.size := by rw [← hEnv]; rfl
    have eS : env.scope = fd.scope := by rw [← hEnv]; rfl
    have eC : env.cells = cellsFrom (s.heap.objs.size + 1) fd.scope.names [] := by rw [← hEnv]; rfl
    have eG : env.globals = mainGlobals := by rw [← hEnv]; exact hg
    have eB : env.builtins = builtinsNs := by rw [← hEnv]; exact hbi
    have kO : ∀ x, env.kindOf x = fd.scope.names.lookup x := fun x => by rw [← eS]; rfl
    have kp : Kp s s₁ := by
      obtain ⟨h', tk, e⟩ := ic.toInCall.same
      exact ⟨h', tk, e, fun b o q => by have := ic.toInCall.keep b o q; rw [e] at this; exact this⟩
    have hasC : ∀ x, fd.scope.names.lookup x = some .cell → ∃ c, env.cells.lookup x = some c := fun x hx => by
      rw [eC]; exact cellsFrom_lookup_own _ _ _ _ (mem_of_lookup hx)
    have above : ∀ x c, env.cells.lookup x = some c → s.heap.objs.size < c := fun x c hc => eL ▸ ic.above x c (mem_of_lookup hc)
    have freshC : ∀ x c, env.cells.lookup x = some c → s.heap.get? c = none := fun x c hc => get_none_of_ge (Nat.le_of_lt (above x c hc))
    have freshL : s.heap.get? env.locals = none := by rw [eL]; exact size_none s
    have h0 : ∀ {b}, s.heap.get? b = none → G.h₀.get? b = none := fun {b} hb => by
      cases e0 : G.h₀.get? b with
      | none => rfl
      | some o => have := g.ext _ _ e0; rw [hb] at this; cases this
    have freshM : ∀ b ∈ muts fd.scope env, s.heap.get? b = none := fun b hb => by
      rcases muts_is hb with q | ⟨x, _, hc⟩
      · rw [q]; exact freshL
      · exact freshC x b hc
    have reads : ∀ y v, (y, v) ∈ (x :: ps).zip (Value.ref oa :: vs) → Reads1 env s₁.heap y v := fun y v hv => by
      rcases hpk y (List.of_mem_zip hv).1 with q | q
      · exact .inl ⟨(kO y).trans q, _, ic.toInCall.ns, bindL_is _ _ _ _ _ (by rw [hmap]; exact hnd) hv ((kO y).trans q)⟩
      · obtain ⟨c, hc⟩ := hasC y q
        refine .inr ⟨.inl ((kO y).trans q), c, hc, ?_⟩
        have := ic.cell y c hc
        rwa [bindC_is _ _ _ _ _ (by rw [hmap]; exact hnd) hv ((kO y).trans q)] at this
    have hxps : x ∉ ps := (List.nodup_cons.mp hnd).1
    have y : SOk G fd.scope P env (ps.zip ds) (some (x, d0)) oa s₁ := by
      refine ⟨⟨⟨⟨by rw [eS]; exact hk, fun x hx => (kO x).trans hx, fun x hx => (kO x).trans hx, fun x hx => (kO x).trans hx, fun x hx => absurd hx (nof x), fun x hx => hx.elim (hasC x) fun q => absurd q (nof x), eG, eB⟩, g.keep kp.keep, hP, fun x c hc => ?_, fun x d' hx => ?_⟩,
        ⟨⟨_, ic.toInCall.ns⟩, fun p => not_live freshL (hlv _ p), h0 freshL, hasC, fun x c hx hc => ⟨⟨_, ic.cell x c hc⟩, fun p => not_live (freshC x c hc) (hlv _ p), h0 (freshC x c hc)⟩, fun x y c _ hx hy => name_of_addr ic.apart (mem_of_lookup hx) (mem_of_lookup hy)⟩⟩, (show OwnIs G fd.scope P env (ps.zip ds) s₁ x d0 oa from ⟨?_, ?_, ?_, npo, nbo, fun hm => not_live (freshM oa hm) hown.has, fun z c hc q => not_live (freshC z c hc) (q ▸ hown.has)⟩), fun b p => live_keep kp (hlv b p)⟩
      · obtain ⟨o', ho', _⟩ := ic.cell x c hc
        rw [ho']; rfl
      · obtain ⟨v, hv, rv⟩ := zip_rvs hr hx
        exact ⟨v, reads x v (by rw [List.zip_cons_cons]; exact List.mem_cons_of_mem _ hv), rv.tr (kp.trP _)⟩
      · cases e : (ps.zip ds).lookup x with
        | none => rfl
        | some d' => exact absurd (List.of_mem_zip (mem_of_lookup e)).1 hxps
      · exact reads x _ (by rw [List.zip_cons_cons]; exact List.mem_cons_self)
      · exact hown.tr (kp.trP P) fun o ho => kp.keep oa o ho
    refine wpAny_execs_cons (wpNo (wpAny_mono (h1 (A.deeper env) env _ _ s₁ R.deeper y) (fun f s₂ hp => ?_) fun _ _ e => e))
    obtain ⟨rfl, P₂, m₂, y₂⟩ := hp
    refine wpAny_execs_cons (wpNo (wpAny_mono (h1' (A.deeper env) env _ _ s₂ R.deeper y₂) (fun f s₃ hp => ?_) fun _ _ e => e))
    obtain ⟨rfl, P₃, m₃, y₃⟩ := hp
    have m₁₃ := m₂.then y y₂ own_some m₃
    refine wpNo (wpAny_mono (h2 (A.deeper env) env _ _ s₃ R.deeper y₃.freeze) (fun f s₄ hp => ?_) fun _ _ e => e)
    obtain ⟨P₄, m₄, out⟩ := hp
    cases f with
    | ret v =>
      obtain ⟨d', e, rv⟩ := out
      cases e
      obtain ⟨t, rfl⟩ := rv
      have o₃ : OwnIs G fd.scope P₃ env σ₁ s₃ x d1 oa := y₃.own
      have hloc : ∀ b ∈ env.locals :: muts fd.scope env, s.heap.get? b = none := fun b hb => by
        rcases List.mem_cons.mp hb with q | q
        · rw [q]; exact freshL
        · exact freshM b q
      refine ⟨((kp.toB [oa]).then m₁₃.kb fun b hb => ?_).then m₄.kb fun b hb => .inr (hloc b hb), ?_, t, rfl⟩
      · rcases List.mem_cons.mp hb with q | q
        · exact .inl (by rw [q]; simp)
        · exact .inr (freshM b q)
      · have hk4 : ∀ b o, (P₃ b ∨ b = oa) → s₃.heap.get? b = some o → s₄.heap.get? b = some o := fun b o p => m₄.kb.keep b o fun hm => by
          rcases List.mem_cons.mp hm with q | q
          · rcases p with p | p
            · exact y₃.b.fr.off b (by rw [q]; simp [muts]) p
            · exact not_live (hloc b hm) (p ▸ hown.has)
          · rcases p with p | p
            · exact y₃.b.fr.off b q p
            · exact not_live (hloc b hm) (p ▸ hown.has)
        refine (o₃.at_.tr (P2 := P₃) ⟨fun b o p => hk4 b o (.inl p), fun _ p => p⟩ fun o => hk4 oa o (.inr rfl)).sub fun b p => ?_
        rcases m₁₃.down b p with q | ⟨q, _⟩ | q
        · exact .inl q
        · exact absurd (q ▸ p) o₃.np
        · exact .inr (kp.none q)
    | next => obtain ⟨_, _, _, e, _⟩ := out; cases e
    | cont => obtain ⟨_, _, _, e, _⟩ := out; cases e
    | brk => exact out.elim

/-! _law_draw -/
structure Draws (G : Wd) : Prop where
  draw : FunAt G (nm "_law_draw") 40 [(nm "pool"), (nm "many")]

noncomputable def padI (spot : Nat) : Int := ([1, 1, 1, 0, 1, 0, 1, 1, 13] : List Int).getD (spot % 9) 0
theorem padI_get (spot : Nat) : ([.int 1, .int 1, .int 1, .int 0, .int 1, .int 0, .int 1, .int 1, .int 13] : List D)[spot % 9]? = some (.int (padI spot)) := by
  have h : spot % 9 < 9 := Nat.mod_lt _ (by decide)
  unfold padI
  generalize spot % 9 = i at h
  match i, h with
  | 0, _ | 1, _ | 2, _ | 3, _ | 4, _ | 5, _ | 6, _ | 7, _ | 8, _ => rfl
noncomputable def drawP (cells : List Int) (spot : Nat) (many : Int) : Int := match cells[spot]? with
  | some z => (absI z).fmod many
  | none => (padI spot).fmod many

noncomputable def poolD (cells : List Int) (spot : Nat) : D := .list [dis cells, .int spot]

theorem evs_ints {G : Wd} {n : Nat} {sc : Scope} {σ : Sg} : ∀ l : List (Int × Nat × Pos), EvS G n sc σ (l.map fun c => .Constant (.int c.1) c.2.1 c.2.2) (l.map fun c => .int c.1)
  | [] => evs_nil
  | _ :: l => evs_cons ev_int (evs_ints l)

theorem draw_last {G : Wd} {n : Nat} {sc : Scope} {es : List Expr} {cells : List Int} {spot : Nat} {many : Int} {k k2 : Nat} {p1 p2 p3 p4 p5 p6 p7 : Pos} (hmod : ((spot : Int).fmod 9) = ((spot % 9 : Nat) : Int)) (hm : many ≠ 0) (hn : (sc.names.lookup (nm "spot") == some .local && sc.names.lookup (nm "many") == some .local) = true)
    (he : ∃ l : List (Int × Nat × Pos), es = (l.map fun c => .Constant (.int c.1) c.2.1 c.2.2) ∧ l.map (·.1) = [1, 1, 1, 0, 1, 0, 1, 1, 13]) (p8 : Pos) :
    DoS G n sc [((nm "pool"), poolD cells (spot + 1)), ((nm "spot"), .int spot), ((nm "many"), .int many)] none [.Return (some (.BinOp (.Subscript (.Tuple es k p1) (.BinOp (.Name (nm "spot") p2) .Mod (.Constant (.int 9) k2 p3) p4) p5) .Mod (.Name (nm "many") p6) p7)) p8] (· = .ret (.int ((padI spot).fmod many))) := by
  obtain ⟨l, rfl, hl⟩ := he
  have hlen : l.length = 9 := by have := congrArg List.length hl; simpa using this
  have hds : (l.map fun c => D.int c.1) = [.int 1, .int 1, .int 1, .int 0, .int 1, .int 0, .int 1, .int 1, .int 13] := by
    have := congrArg (List.map D.int) hl
    rw [List.map_map] at this; exact this
  have h9 : spot % 9 < 9 := Nat.mod_lt _ (by decide)
  exact do_retS (ev_bin (ev_sub (ev_tup (evs_ints l) (by rw [List.length_map, hlen]; decide)) (ev_cast (ev_bin (ev_var (by rfl)) ev_int (mod_ii (by decide))) (by rw [hmod])) (get_tup (d := .int (padI spot)) (by omega) (by rw [show ((spot % 9 : Nat) : Int).toNat = spot % 9 by omega, hds]; exact padI_get spot) (by omega))) (ev_var (by rfl)) (mod_ii hm)) rfl

set_option maxHeartbeats 2000000 in
theorem c_draw {G : Wd} {n : Nat} (N : Names G) (F : Draws G) {cells : List Int} {spot : Nat} {many : Int} (hm : many ≠ 0) (hc : cells.length ≤ 1000) (hs : spot ≤ 1000) :
    ∃ f, GlobIs G (nm "_law_draw") f ∧ Callee G f ∧ CallOkX G (n + 1) f (poolD cells spot) [.int many] (poolD cells (spot + 1)) (.int (drawP cells spot many)) := by
  obtain ⟨a, o, fd, hg, hK, hd, hb, hsc, hcl, hgl, hbi, hcode, hbind, hpar⟩ := F.draw.fn
  refine ⟨.ref a, .inl hg, ⟨o, fd, hK, hd⟩, call_fnX [(nm "many")] hK hd hb hcl hgl hbi hcode hbind (hsc ▸ hpar) rfl (d0 := poolD cells spot) (x := (nm "pool")) (σa := [((nm "spot"), .int spot), ((nm "many"), .int many)]) (σ₁ := [((nm "spot"), .int spot), ((nm "many"), .int many)]) ?_ ?_ ?_⟩
  · rw [hsc]; exact doO_assignF (ev_sub (ev_var (by rfl)) ev_int (get_list (by decide) rfl (by decide))) rfl (by decide +kernel) (by rfl)
  · rw [hsc]; exact doO_set (k := 1) (ds := [dis cells, .int spot]) (d := .int ((spot + 1 : Nat) : Int)) (ev_cast (ev_bin (ev_var (by rfl)) ev_int add_ii) (by simp)) rfl ev_int (by decide) (by simp) (by simp)
  · rw [hsc]
    have hlen : EvE G n (fnScope 40) [((nm "pool"), poolD cells (spot + 1)), ((nm "spot"), .int spot), ((nm "many"), .int many)] (.Call (.Name (nm "len") ⟨148, 14, 148, 17⟩) [.Subscript (.Name (nm "pool") ⟨148, 18, 148, 22⟩) (.Constant (.int 0) 0 ⟨148, 23, 148, 24⟩) ⟨148, 18, 148, 25⟩] [] ⟨148, 14, 148, 26⟩) (.int cells.length) :=
      ev_callx (by decide +kernel) (len_dis N hc) (evs_cons (ev_sub (ev_var (by rfl)) ev_int (get_list (by decide) rfl (by decide))) evs_nil)
    unfold drawP
    split
    · rename_i z hz
      have hlt : spot < cells.length := (List.getElem?_eq_some_iff.mp hz).1
      refine do_cons (Ψ := (· = .ret (.int ((absI z).fmod many)))) (do_if (b := true) (evt_cast (evt_cmp (ev_var (by rfl)) hlen lt_ii) (by simp; omega)) (fun _ => do_retS (ev_bin (ev_callx (by decide +kernel) N.cAbs (evs_cons (ev_sub (ev_sub (ev_var (by rfl)) ev_int (get_list (d := dis cells) (by decide) rfl (by decide))) (ev_var (by rfl)) (get_i hz rfl hc)) evs_nil)) (ev_var (by rfl)) (mod_ii hm)) rfl) (fun h => nomatch h)) (fun _ _ h => nomatch h) (fun _ _ h => nomatch h) fun _ h => h
    · rename_i hz
      have hge : cells.length ≤ spot := by simpa using hz
      refine do_ifF (evt_cast (evt_cmp (ev_var (by rfl)) hlen lt_ii) (by simp; omega)) ?_
      have hmod : ((spot : Int).fmod 9) = ((spot % 9 : Nat) : Int) := by
        rw [Int.fmod_eq_emod_of_nonneg _ (by decide)]; rfl
      have hi : (spot % 9 : Nat) < 9 := Nat.mod_lt _ (by decide)
      refine draw_last hmod hm (by decide +kernel) ?he _
      exact ⟨[(1, _, _), (1, _, _), (1, _, _), (0, _, _), (1, _, _), (0, _, _), (1, _, _), (1, _, _), (13, _, _)], rfl, rfl⟩
end Mine

namespace Mine

/-! expressions that write the block's own list -/
noncomputable def AnsW (s : Shared) (P : PA) (oa : Addr) (d1 d : D) : Post := fun v s' => KpB [oa] s s' ∧ OwnAt (PN s P) s'.heap oa d1 ∧ Rv (PN s P) s'.heap d v
noncomputable def EvW (G : Wd) (n : Nat) (sc : Scope) (σ : Sg) (x : Str) (d0 d1 : D) (e : Expr) (d : D) : Prop :=
  ∀ A env P oa s, Room n A → SOk G sc P env σ (some (x, d0)) oa s → wpAny G.M A (eval e env) (AnsW s P oa d1 d) NoE s

section
variable {G : Wd} {n : Nat} {sc : Scope} {σ σ' : Sg} {ω ω' : Ow} {P P' P2 : PA} {env : Env} {s s' s₁ s₂ : Shared} {oa oa' : Addr} {Φ Ψ : Out → Prop} {x : Str} {d0 d1 d2 d : D}

theorem liveB {wr : List Addr} (k : KpB wr s s') (hw : ∀ b ∈ wr, ¬ P b) {a} (p : P a) (h : (s.heap.get? a).isSome = true) : (s'.heap.get? a).isSome = true := by
  obtain ⟨o, ho⟩ := Option.isSome_iff_exists.mp h
  rw [k.keep a o (fun m => hw a m p) ho]; rfl

/-- the own list written, and what is new -/
theorem SOk.mutG (y : SOk G sc P env σ (some (x, d)) oa s) (k : KpB [oa] s s') (h : OwnAt (PG s s' P) s'.heap oa d1) : SOk G sc (PG s s' P) env σ (some (x, d1)) oa s' := by
  have o : OwnIs G sc P env σ s x d oa := y.own
  have np : ∀ b ∈ [oa], ¬ P b := by simpa using o.np
  have hl : env.locals ∉ [oa] := fun hm => o.nm (by rw [← List.mem_singleton.mp hm]; simp [muts])
  have b' : Blk G sc (PG s s' P) env σ s' := y.b.other k hl (fun z c hc hm => o.nc z c hc (List.mem_singleton.mp hm)) np (by simpa using o.nb) (fun a p => .inl p) fun a p => p.imp id fun q => q.1
  refine ⟨b', (show OwnIs G sc (PG s s' P) env σ s' x d1 oa from ⟨o.nx, ?_, h, fun p => ?_, o.nb, o.nm, o.nc⟩), fun a p => ?_⟩
  · rcases o.rd with ⟨hk, m, ⟨q, es, ep, hq, r⟩, hv⟩ | ⟨hk, c, hc, q, hq, hd⟩
    · exact .inl ⟨hk, m, ⟨q, es, ep, k.keep _ q hl hq, r⟩, hv⟩
    · exact .inr ⟨hk, c, hc, q, k.keep _ q (fun hm => o.nc _ c hc (List.mem_singleton.mp hm)) hq, hd⟩
  · rcases p with p | p
    · exact o.np p
    · exact not_live p.1 o.at_.has
  · rcases p with p | p
    · exact liveB k np p (y.live a p)
    · exact p.2

theorem OwnAt.grown {h : Heap} (r : OwnAt (PN s P) s₁.heap oa d) : OwnAt (PG s s₁ P) s₁.heap oa d := r.live.sub fun a ⟨p, l⟩ => p.elim .inl fun q => .inr ⟨q, l⟩
theorem Rv.grownB {v} (r : Rv (PN s P) s₁.heap d v) : Rv (PG s s₁ P) s₁.heap d v := r.live.sub fun a ⟨p, l⟩ => p.elim .inl fun q => .inr ⟨q, l⟩
theorem Moves.of_mutG (y : SOk G sc P env σ (some (x, d)) oa s) (k : KpB [oa] s s') (h : OwnAt (PG s s' P) s'.heap oa d1) : Moves sc P env (some (x, d)) oa s s' (PG s s' P) :=
  ⟨k.sub (by simp), fun a p => .inl p, fun a p => p.imp id fun q => .inr q.1, (y.mutG k h).live, fun b hb => (y.mutG k h).has b hb⟩

theorem do_assignW {z pz e pos} (h : EvW G n sc σ x d0 d1 e d) (hz : isLC sc z = true) (hn : notOwn (some (x, d1)) z = true) (hs : ∀ env, swapsWith e (some (.Name z pz)) pos.line env = pure false := by intro _; rfl) :
    Do1 G n sc σ (some (x, d0)) (.Assign [.Name z pz] e pos) (· = .next ((z, d) :: σ) (some (x, d1))) := fun A env P oa s R y =>
  wpAny_Assign_Name (wpAny_mono (h A env P oa s R y) (fun v s₁ q => by
    obtain ⟨k, ho, rv⟩ := q
    have ho' := OwnAt.grown (h := s.heap) ho
    have y₁ := y.mutG k ho'
    refine y₁.store hz hn rv.grownB fun s₂ y₂ k₂ => ?_
    exact ⟨_, (Moves.of_mutG y k ho').then y y₁ own_some (Moves.of_muts y₁ k₂ y₂), _, _, oa, rfl, y₂, own_some⟩) fun _ _ e => e) (hs env)

theorem evw_binR {l op r pos a b c} (h1 : EvE G n sc σ l a) (h2 : EvW G n sc σ x d0 d1 r b) (h : BinOk G n op a b c) : EvW G n sc σ x d0 d1 (.BinOp l op r pos) c := fun A env P oa s R y => by
  refine wpAny_BinOp (wpAny_mono (h1 A env P s R y.b.e) (fun va s₁ q₁ => ?_) fun _ _ x => x)
  have y₁ := y.grow q₁.1
  refine wpAny_mono (h2 A env _ oa s₁ R y₁) (fun vb s₂ q₂ => ?_) fun _ _ x => x
  obtain ⟨k₂, o₂, r₂⟩ := q₂
  have o₁ : OwnIs G sc _ env σ s₁ x d0 oa := y₁.own
  have np1 : ∀ b ∈ [oa], ¬ PG s s₁ P b := by simpa using o₁.np
  have r₁ : Rv (PN s₁ (PG s s₁ P)) s₂.heap a va := ((q₁.2.grown y.live).tr (trB k₂ np1)).sub fun a p => .inl p
  have nb : ∀ b ∈ [oa], G.h₀.get? b = none := by simpa using o₁.nb
  have up : ∀ a, PN s₁ (PG s s₁ P) a → PN s P a := fun a p => by
    rcases p with (p | p) | p
    · exact .inl p
    · exact .inr p.1
    · exact .inr (q₁.1.none p)
  refine wpAny_mono (h A s₂ _ va vb R (gokB y₁.b.e.gok k₂ nb) r₁ r₂) (fun v s₃ q => ?_) fun _ _ x => x
  obtain ⟨k₃, r₃⟩ := q
  have key : ∀ a, PN s₂ (PN s₁ (PG s s₁ P)) a → (s₃.heap.get? a).isSome = true → PN s P a ∨ a = oa := fun a p _ => by
    rcases p with p | p
    · exact .inl (up a p)
    · by_cases hm : a ∈ [oa]
      · exact .inr (List.mem_singleton.mp hm)
      · exact .inl (.inr (q₁.1.none (k₂.no hm p)))
  refine ⟨((q₁.1.toB _).trans k₂).trans (k₃.toB _), (o₂.tr (k₃.trP _) fun o => k₃.keep oa o).sub up, ?_⟩
  have hoa2 : (s₂.heap.get? oa).isSome = true := o₂.has
  refine r₃.sub fun a p => ?_
  rcases p with p | p
  · exact up a p
  · by_cases hm : a ∈ [oa]
    · rw [List.mem_singleton.mp hm] at p
      exact absurd hoa2 (not_live p)
    · exact .inr (q₁.1.none (k₂.no hm p))

/-- the call that writes -/
theorem evw_call {f : Str} {px pf : Pos} {e2 : Expr} {pos : Pos} (hk : sc.names.lookup f = some .globalImplicit) (hf : ∃ v, GlobIs G f v ∧ Callee G v ∧ CallOkX G n v d0 [d2] d1 d) (h2 : EvE G n sc σ e2 d2)
    (hs : ∀ env, starEach [.Name x px, e2] env = [(false, eval (.Name x px) env), (false, eval e2 env)] := by intro _; rfl)
    (hall : ∀ env, (backTo pos (starEach [.Name x px, e2] env)).any (·.1) = false := by intro _; rfl)
    (hd : (f == ("__debug__" : Str)) = false := by decide +kernel) (hdx : (x == ("__debug__" : Str)) = false := by decide +kernel) (hcx : (x == ("__classdict__" : Str)) = false := by decide +kernel) : EvW G n sc σ x d0 d1 (.Call (.Name f pf) [.Name x px, e2] [] pos) d := fun A env P oa s R y => by
  obtain ⟨fv, hv, hc, ho⟩ := hf
  show wpAny _ _ (eval (.Name f pf) env >>= fun f => callWith pos f [] (backTo pos (starEach [.Name x px, e2] env)) (backToKw pos (keywordEach [] env))) _ _ s
  refine wpAny_bind (eval_glob y.b.e hk hv (callWith_plain hc (hall env) ?_) hd)
  have o : OwnIs G sc P env σ s x d0 oa := y.own
  have hargs : wpAny G.M A (spliced (backTo pos (starEach [.Name x px, e2] env))) (fun vs s₁ => ∃ v2, vs = [.ref oa, v2] ∧ Kp s s₁ ∧ Rv (PN s P) s₁.heap d2 v2) NoE s := by
    refine wpAny_items_cons (own_name y ?_ hdx hcx) rfl
    refine wpAny_items_cons (wpAny_mono (h2 A env P s R y.b.e) (fun v2 s₁ q => ?_) fun _ _ x => x) (by first | rfl | (have := hs env; exact congrArg List.tail this))
    exact wpAny_items_nil ⟨v2, rfl, q.1, q.2⟩
  rw [hs env] at hargs ⊢
  refine Calls.evalArgs_plain (wpAny_mono hargs (fun vs s₁ q => ?_) fun _ _ x => x)
  obtain ⟨v2, rfl, k₁, r₂⟩ := q
  have y₁ := y.grow k₁
  have o₁ : OwnIs G sc _ env σ s₁ x d0 oa := y₁.own
  refine ⟨y₁.b.e.gok, rfl, wpAny_mono (ho A s₁ (PG s s₁ P) [v2] oa R y₁.b.e.gok y₁.b.e.old y₁.live (.cons (r₂.grown y.live) .nil) o₁.np o₁.nb o₁.at_) (fun v s₂ q => ?_) fun _ _ x => x⟩
  obtain ⟨k₂, ow, rv⟩ := q
  have up : ∀ a, PN s₁ (PG s s₁ P) a → PN s P a := fun a p => by
    rcases p with (p | p) | p
    · exact .inl p
    · exact .inr p.1
    · exact .inr (k₁.none p)
  exact ⟨(k₁.toB _).trans k₂, ow.sub up, rv.sub up⟩
end
end Mine

namespace Mine

/-! a comprehension whose elements write the block's own list -/
inductive CRX (G : Wd) (n : Nat) (sc : Scope) (σ : Sg) (x t : Str) (elt : Expr) : List D → List D → D → D → Prop
  | nil {d} : CRX G n sc σ x t elt [] [] d d
  | take {d ds ys e da db dc} : EvW G n sc ((t, d) :: σ) x da db elt e → CRX G n sc σ x t elt ds ys db dc → CRX G n sc σ x t elt (d :: ds) (e :: ys) da dc

theorem filter_lookup {σ : Sg} {x y : Str} {d : D} (h : List.lookup y (σ.filter fun p => p.1 != x) = some d) : List.lookup y σ = some d := by
  induction σ with
  | nil => cases h
  | cons p σ ih =>
    obtain ⟨z, e⟩ := p
    rw [List.filter_cons] at h
    rw [lookup_cons]
    by_cases hz : z = x
    · rw [if_neg (by simp [hz])] at h
      have hyz : ¬ y = z := fun q => by
        have : List.lookup x (σ.filter fun p => p.1 != x) = none := by
          clear h ih
          induction σ with
          | nil => rfl
          | cons q σ ih2 =>
            rw [List.filter_cons]
            by_cases hq : (q.1 != x) = true
            · rw [if_pos hq, lookup_cons, if_neg (fun w => by rw [← w] at hq; simp at hq)]; exact ih2
            · rw [if_neg hq]; exact ih2
        rw [q, hz, this] at h; cases h
      rw [if_neg hyz]; exact ih h
    · rw [if_pos (by simpa using hz), lookup_cons] at h
      by_cases hyz : y = z
      · rw [if_pos hyz] at h ⊢; exact h
      · rw [if_neg hyz] at h ⊢; exact ih h
theorem filter_none {σ : Sg} {x : Str} : List.lookup x (σ.filter fun p => p.1 != x) = none := by
  induction σ with
  | nil => rfl
  | cons q σ ih2 =>
    rw [List.filter_cons]
    by_cases hq : (q.1 != x) = true
    · rw [if_pos hq, lookup_cons, if_neg (fun w => by rw [← w] at hq; simp at hq)]; exact ih2
    · rw [if_neg hq]; exact ih2

structure CEndX (P : PA) (oa : Addr) (dfin : D) (ys : List D) (D' C : Addr) (s s' : Shared) : Prop where
  kp : KpB [oa] s s'
  ns : ∃ m, s'.heap.Ns C m
  nc : s.heap.get? C = none
  nd : s.heap.get? D' = none
  dc : D' ≠ C
  body : ∃ P' : PA, (∀ a, P a → P' a) ∧ (∀ a, P' a → PN s P a) ∧ ¬ P' C ∧ ¬ P' D' ∧ ∃ vs, s'.heap.PlainList D' vs ∧ Rvs P' s'.heap ys vs.toList ∧ OwnAt P' s'.heap oa dfin

section
variable {G : Wd} {n : Nat} {sc sc' : Scope} {σ σc : Sg} {P : PA} {env : Env} {s : Shared} {A : Around}

theorem comp_coreX {xo t : Str} {pt : Pos} {iter elt : Expr} {pos posc : Pos} {d0 dfin : D} {oa : Addr} {use : Option (Value → Sem Unit)} {items ys : List D} {Q : Post}
    (S : ScIn sc sc') (hs : Seen sc' σ σc) (hxc : σc.lookup xo = some (.adr oa)) (hxt : t ≠ xo) (htn : namesT (isLC sc') (.Name t pt) = true) (hit : EvIt G n sc σ iter (.Name t pt) items) (hcr : CRX G n sc' (σc.filter fun p => p.1 != xo) xo t elt items ys d0 dfin) (hz : items.length ≤ 16777216)
    (R : Room n A) (e : EnvOk G sc σ P env s) (lv : ∀ a, P a → (s.heap.get? a).isSome = true) (hf : ∀ x, foldedSetIterable iter env x = pure x) (hown : OwnAt P s.heap oa d0) (hnp : ¬ P oa) (hnb : G.h₀.get? oa = none) (hnc : ∀ y c, env.cells.lookup y = some c → c ≠ oa)
    (hQ : ∀ D' C s', CEndX P oa dfin ys D' C s s' → compPost G.M A NoE use Q (.ref D') C (.ok .next) s') :
    wpAny G.M A (comprehension (.ListComp elt [⟨.Name t pt, iter, [], 0⟩] sc' posc) sc' env pos (newList []) false (eval iter env) use) Q NoE s := by
  refine wpAny_comprehension_free rfl hf (closure_is fun x hx => seen_cells e S hx) S.kind (fun x hx hl => lookup_of_mem_nd S.nd (by obtain ⟨a, b⟩ := x; simp only at hl; rw [← hl]; exact hx)) ?_
  refine wpAny_mono (hit A env P s R e lv) (fun x s₁ h₁ => ?_) fun _ _ x => x
  refine wpAny_mono h₁ (fun it s₂ h₂ => ?_) fun _ _ x => x
  obtain ⟨I, wr, St, P₁, rfl, ip⟩ := h₂
  refine wpAny_newObj_type (hd := by size_fits) ?_
  have k₃ := Kp.push s₂ { cls := .type "list", dict := none, data := .seq ([] : List Value).toArray }
  have hD := push_new (s := s₂) (o := { cls := .type "list", dict := none, data := .seq ([] : List Value).toArray }) rfl
  have hDn := size_none s₂
  generalize hs3 : ({ s₂ with heap := s₂.heap.push { cls := .type "list", dict := none, data := .seq ([] : List Value).toArray } } : Shared) = s₃ at k₃ ⊢
  have hD3 : s₃.heap.get? s₂.heap.objs.size = some { cls := .type "list", dict := none, data := .seq #[] } := by rw [← hs3]; exact hD
  generalize hDd : s₂.heap.objs.size = D' at hDn hD3 ⊢
  refine newEnv_comp ?_
  have e₁ : EnvOk G sc σ P₁ env s₂ := e.keep ip.kp ip.up
  have lv1 : ∀ a, P₁ a → (s₂.heap.get? a).isSome = true := ip.live
  have blk := comp_blk e₁ lv1 S hs k₃ _ rfl
  have k₄ : Kp s₃ { s₃ with heap := pushCells (s₃.heap.push { cls := .type "dict", data := .dict #[] }) sc'.names } := .of (n := s₃.toks) fun b o e => pushCells_keeps _ _ b o (Heap.get?_push_of_some _ e)
  have hCn : s₃.heap.get? s₃.heap.objs.size = none := size_none s₃
  show codeAny G.M A (.compStart (.ListComp elt [⟨.Name t pt, iter, [], 0⟩] sc' posc) 0 (.ref I) (.ref D') (cenvOf sc' env s₃.heap.objs.size)) (compPost G.M A NoE use Q (.ref D') s₃.heap.objs.size) _
  generalize hC : s₃.heap.objs.size = C at blk hCn ⊢
  generalize hs4 : ({ s₃ with heap := pushCells (s₃.heap.push { cls := .type "dict", data := .dict #[] }) sc'.names } : Shared) = s₄ at blk k₄ ⊢
  have k24 := k₃.trans k₄
  have hCs : (cenvOf sc' env C).locals = C := rfl
  have hP1D : ¬ P₁ D' := fun p => not_live hDn (lv1 _ p)
  have hDC : D' ≠ C := fun q => by rw [q, hCn] at hD3; cases hD3
  have wr4 : ∀ b ∈ wr, b ≠ D' ∧ b ∉ muts sc' (cenvOf sc' env C) := fun b hb => by
    obtain ⟨o, ho⟩ := Option.isSome_iff_exists.mp (ip.has b hb)
    refine ⟨fun q => (by rw [q, hDn] at ho; cases ho), fun hm => ?_⟩
    rcases muts_is hm with q | ⟨x, hx, hc⟩
    · have := k₃.keep b o ho
      rw [q, hCs, hCn] at this; cases this
    · have hge := cellsFrom_ge _ _ _ _ _ (mem_of_lookup hx) hc
      have hlt := Heap.lt_size (k₃.keep b o ho)
      rw [← hC] at hge
      exact absurd (Nat.lt_of_lt_of_le hlt (Nat.le_trans (Nat.le_succ _) hge)) (Nat.lt_irrefl _)
  have Dm : D' ∉ muts sc' (cenvOf sc' env C) := fun hm => by
    have hlt := Heap.lt_size hD3
    rcases muts_is hm with q | ⟨x, hx, hc⟩
    · exact hDC (q.trans hCs)
    · have hge := cellsFrom_ge _ _ _ _ _ (mem_of_lookup hx) hc
      rw [← hC] at hge
      exact absurd (Nat.lt_of_lt_of_le hlt (Nat.le_trans (Nat.le_succ _) hge)) (Nat.lt_irrefl _)
  have Cm : C ∈ muts sc' (cenvOf sc' env C) := List.mem_cons_self
  -- what is written was new
  have newW : ∀ b ∈ wr ++ D' :: muts sc' (cenvOf sc' env C), s.heap.get? b = none := fun b hb => by
    rcases List.mem_append.mp hb with hb | hb
    · exact ip.new b hb
    · rcases List.mem_cons.mp hb with rfl | hb
      · exact ip.kp.none hDn
      · have h23 := ip.kp.trans k₃
        rcases muts_is hb with q | ⟨x, hx, hc⟩
        · rw [q, hCs]; exact h23.none hCn
        · have hge := cellsFrom_ge _ _ _ _ _ (mem_of_lookup hx) hc
          refine h23.none (get_none_of_ge ?_)
          rw [← hC] at hge
          exact Nat.le_trans (Nat.le_succ _) hge
  have hoaL : (s.heap.get? oa).isSome = true := hown.has
  have oaW : oa ∉ wr ++ D' :: muts sc' (cenvOf sc' env C) := fun hm => not_live (newW oa hm) hoaL
  have oaWr : oa ∉ wr := fun hm => oaW (List.mem_append_left _ hm)
  have oaD : D' ≠ oa := fun q => oaW (by rw [← q]; simp)
  have oaM : oa ∉ muts sc' (cenvOf sc' env C) := fun hm => oaW (List.mem_append_right _ (List.mem_cons_of_mem _ hm))
  have oaP1 : ¬ P₁ oa := fun p => (ip.down oa p).elim hnp fun q => not_live q hoaL
  have k04 : Kp s s₄ := ip.kp.trans k24
  have oa4 : (s₄.heap.get? oa).isSome = true := live_keep k04 hoaL
  have own4 : OwnAt P₁ s₄.heap oa d0 := (hown.tr (P2 := P₁) ⟨fun b o _ q => k04.keep b o q, ip.up⟩ fun o => k04.keep oa o)
  have cellO : ∀ x c, (cenvOf sc' env C).cells.lookup x = some c → c ∉ [oa] := fun x c hc hm => by
    rw [List.mem_singleton.mp hm] at hc
    have hx2 : (cellsFrom (C + 1) sc'.names (frees (fun x => env.cells.lookup x) sc'.names [])).lookup x = some oa := hc
    by_cases hown' : (x, NameKind.cell) ∈ sc'.names
    · exact oaM (mem_muts (lookup_of_mem_nd S.nd hown') hc)
    · rw [cellsFrom_lookup_other _ _ _ _ hown'] at hx2
      rcases frees_mem _ _ _ x _ hx2 with q | ⟨q, q2⟩
      · cases q
      · obtain ⟨c', hc'⟩ := seen_cells e S q
        simp only [hc', Option.getD_some] at q2
        exact hnc x c' hc' q2.symm
  have loop : codeAny G.M A (.compLoop (.ListComp elt [⟨.Name t pt, iter, [], 0⟩] sc' posc) 0 (.ref I) (.ref D') (cenvOf sc' env C)) (compPost G.M A NoE use Q (.ref D') C) s₄ := by
    refine compLoop_any (fun k s' => ∃ (i : Nat) (P' : PA) (vs : Array Value) (done rest : List D) (dc : D), k = items.length + 1 - i ∧ i ≤ items.length ∧ KpB (oa :: (wr ++ D' :: muts sc' (cenvOf sc' env C))) s₄ s' ∧ OwnAt P' s'.heap oa dc ∧ (∀ a, P' a → (s'.heap.get? a).isSome = true) ∧ Blk G sc' P' (cenvOf sc' env C) σc s' ∧ St i s'.heap ∧
      (∀ a, P₁ a → P' a) ∧ (∀ a, P' a → P₁ a ∨ s₄.heap.get? a = none) ∧ s'.heap.PlainList D' vs ∧ Rvs P' s'.heap done vs.toList ∧ ys = done ++ rest ∧ done.length ≤ i ∧ CRX G n sc' (σc.filter fun p => p.1 != xo) xo t elt (items.drop i) rest dc dfin) ?_ (items.length + 1)
      ⟨0, P₁, #[], [], ys, d0, rfl, Nat.zero_le _, KpB.refl _ _, own4, (fun a p => live_keep k24 (lv1 a p)), blk, ip.wk.frame _ _ _ ip.st (fun b o _ e => k24.keep b o e), fun a p => p, fun a p => .inl p, ⟨0, k₄.keep _ _ hD3⟩, rfl, rfl, Nat.zero_le _, hcr⟩
    rintro k s' ⟨i, P', vs, done, rest, dc, rfl, hi, kb, hO, lvP', bl, st, up, down, hDl, hR, hys, hdl, cr⟩
    have offW : ∀ b ∈ wr, ¬ P' b := fun b hb p => by
      rcases down b p with q | q
      · exact ip.off b hb q
      · obtain ⟨o, ho⟩ := Option.isSome_iff_exists.mp (ip.has b hb)
        rw [k24.keep b o ho] at q; cases q
    have offD : ¬ P' D' := fun p => by
      rcases down _ p with q | q
      · exact hP1D q
      · rw [k₄.keep _ _ hD3] at q; cases q
    have offO : ¬ P' oa := fun p => (down oa p).elim oaP1 fun q => not_live q oa4
    have hbW : ∀ b ∈ wr, G.h₀.get? b = none := fun b hb => by
      cases e0 : G.h₀.get? b with
      | none => rfl
      | some o => have := ip.new b hb; rw [e.gok.ext b o e0] at this; cases this
    have frameSt : ∀ {j : Nat} {h1 h2 : Heap}, St j h1 → (∀ b o, b ∈ wr ∨ P₁ b → h1.get? b = some o → h2.get? b = some o) → St j h2 := fun a b => ip.wk.frame _ _ _ a b
    cases hdi : items.drop i with
    | nil =>
      have hil : i = items.length := by
        have := congrArg List.length hdi
        simp at this; omega
      subst hil
      rw [hdi] at cr
      cases cr
      rw [List.append_nil] at hys
      subst hys
      refine wpAny_mono (ip.wk.done s' st) (fun r s'' h => ?_) fun _ _ x => x
      obtain ⟨rfl, kw⟩ := h
      refine hQ D' C s'' ⟨?_, ?_, newW C ?_, newW D' (by simp), hDC, P', fun a p => up a (ip.up a p), fun a p => ?_, hCs ▸ bl.fr.np, offD, vs, ?_, hR.tr (trB kw offW), hO.tr (trB kw offW) (fun o => kw.keep oa o oaWr)⟩
      · have kall : KpB (oa :: (wr ++ D' :: muts sc' (cenvOf sc' env C))) s₄ s'' := kb.trans (kw.sub (fun b hb => List.mem_cons_of_mem _ (List.mem_append_left _ hb)))
        exact (KpB.refl [oa] s).then ((k04.toB _).trans kall) fun b hb => (List.mem_cons.mp hb).elim (fun q => .inl (by rw [q]; simp)) fun q => .inr (newW b q)
      · obtain ⟨m, hm⟩ := bl.fr.ns
        obtain ⟨o, es, ep, ho, rr⟩ := hm
        exact ⟨m, o, es, ep, kw.keep _ o (fun hm => (wr4 _ hm).2 Cm) ho, rr⟩
      · exact List.mem_append_right _ (List.mem_cons_of_mem _ Cm)
      · rcases down a p with q | q
        · exact (ip.down a q).elim .inl .inr
        · exact .inr ((ip.kp.trans k24).none q)
      · obtain ⟨n', hn'⟩ := hDl
        exact ⟨n', kw.keep _ _ (fun hm => (wr4 _ hm).1 rfl) hn'⟩
    | cons d ds =>
      have hdrop : items.drop (i + 1) = ds := by
        rw [← List.drop_drop, hdi]; rfl
      have hget : items[i]? = some d := by
        have := List.getElem?_drop (xs := items) (i := i) (j := 0)
        rw [hdi] at this
        simpa using this.symm
      have hlt : i < items.length := (List.getElem?_eq_some_iff.mp hget).1
      refine wpAny_mono (ip.wk.item i s' d hget st) (fun r s1 h1 => ?_) fun _ _ x => x
      obtain ⟨v, rfl, kw1, h1⟩ := h1
      refine wpAny_mono h1 (fun _ s2 h2 => ?_) fun _ _ x => x
      obtain ⟨kw2, st2, rv⟩ := h2
      have kw := kw1.trans kw2
      -- the state once the item is drawn
      have rvP : Rv (fun a => P' a ∨ (s'.heap.get? a = none ∧ (s2.heap.get? a).isSome = true)) s2.heap d v := rv.live.sub fun a ⟨p, l⟩ => p.elim (fun p => .inl (up a p)) fun q => .inr ⟨q, l⟩
      generalize hP2 : (fun a => P' a ∨ (s'.heap.get? a = none ∧ (s2.heap.get? a).isSome = true)) = P2 at rvP
      have up2 : ∀ a, P' a → P2 a := fun a p => by rw [← hP2]; exact .inl p
      have down2 : ∀ a, P2 a → P' a ∨ s'.heap.get? a = none := fun a p => by rw [← hP2] at p; exact p.elim .inl fun q => .inr q.1
      have there : ∀ b ∈ muts sc' (cenvOf sc' env C), (s'.heap.get? b).isSome = true := fun b hb => by
        rcases muts_is hb with q | ⟨x, hx, hc⟩
        · obtain ⟨m, o, _, _, ho, _⟩ := bl.fr.ns
          rw [q, ho]; rfl
        · obtain ⟨⟨u, o, ho, _⟩, _⟩ := bl.fr.cell x b hx hc
          rw [ho]; rfl
      have offM2 : ∀ b ∈ muts sc' (cenvOf sc' env C), ¬ P2 b := fun b hb p => (down2 b p).elim (bl.fr.off b hb) fun q => not_live q (there b hb)
      have cellW : ∀ x c, (cenvOf sc' env C).cells.lookup x = some c → c ∉ wr := fun x c hc hm => by
        have hx2 : (cellsFrom (C + 1) sc'.names (frees (fun x => env.cells.lookup x) sc'.names [])).lookup x = some c := hc
        by_cases hown : (x, NameKind.cell) ∈ sc'.names
        · exact (wr4 c hm).2 (mem_muts (lookup_of_mem_nd S.nd hown) hc)
        · rw [cellsFrom_lookup_other _ _ _ _ hown] at hx2
          rcases frees_mem _ _ _ x c hx2 with q | ⟨q, q2⟩
          · cases q
          · obtain ⟨c', hc'⟩ := seen_cells e S q
            simp only [hc', Option.getD_some] at q2
            subst q2
            exact not_live (ip.new c hm) (e.cin x c hc')
      have cellD : ∀ x c, (cenvOf sc' env C).cells.lookup x = some c → c ∉ [D'] := fun x c hc hm => by
        rw [List.mem_singleton.mp hm] at hc
        have hx2 : (cellsFrom (C + 1) sc'.names (frees (fun x => env.cells.lookup x) sc'.names [])).lookup x = some D' := hc
        by_cases hown : (x, NameKind.cell) ∈ sc'.names
        · exact Dm (mem_muts (lookup_of_mem_nd S.nd hown) hc)
        · rw [cellsFrom_lookup_other _ _ _ _ hown] at hx2
          rcases frees_mem _ _ _ x _ hx2 with q | ⟨q, q2⟩
          · cases q
          · obtain ⟨c', hc'⟩ := seen_cells e S q
            simp only [hc', Option.getD_some] at q2
            subst q2
            exact not_live (ip.kp.none hDn) (e.cin x _ hc')
      have locW : (cenvOf sc' env C).locals ∉ wr := fun hm => (wr4 _ hm).2 (by simp [muts])
      have bl2 : Blk G sc' P2 (cenvOf sc' env C) σc s2 := bl.other kw locW cellW offW hbW up2 down2
      have offW2 : ∀ b ∈ wr, ¬ P2 b := fun b hb p => (down2 b p).elim (offW b hb) fun q => not_live q (ip.wk.live _ _ st b hb)
      have offD2 : ¬ P2 D' := fun p => (down2 _ p).elim offD fun q => by obtain ⟨n', hn'⟩ := hDl; rw [hn'] at q; cases q
      have hDl2 : s2.heap.PlainList D' vs := let ⟨n', hn'⟩ := hDl; ⟨n', kw.keep _ _ (fun hm => (wr4 _ hm).1 rfl) hn'⟩
      have hR2 : Rvs P2 s2.heap done vs.toList := (hR.tr (trB kw offW)).sub up2
      have bind : ∃ σd, bindTo (.Name t pt) d σc = some σd := ⟨_, rfl⟩
      obtain ⟨σd, hbind⟩ := bind
      refine assignT (storesB bl2.fr.off) R.handled htn hbind bl2 rvP fun s3 bl3 kw3 => ?_
      have kwm : KpB (wr ++ D' :: muts sc' (cenvOf sc' env C)) s' s3 := (kw.sub fun b hb => List.mem_append_left _ hb).trans (kw3.sub fun b hb => List.mem_append_right _ (List.mem_cons_of_mem _ hb))
      have st3 : St (i + 1) s3.heap := frameSt st2 fun b o hb ho => kw3.keep b o (fun hm => hb.elim (fun q => (wr4 b q).2 hm) fun q => bl2.fr.off b hm (up2 b (up b q))) ho
      have hDl3 : s3.heap.PlainList D' vs := let ⟨n', hn'⟩ := hDl2; ⟨n', kw3.keep _ _ Dm hn'⟩
      have hR3 : Rvs P2 s3.heap done vs.toList := hR2.tr (trB kw3 bl2.fr.off)
      have offO2 : ¬ P2 oa := fun p => (down2 _ p).elim offO fun q => not_live q hO.has
      have down3 : ∀ a, P2 a → P₁ a ∨ s₄.heap.get? a = none := fun a p => (down2 a p).elim (down a) fun q => by
        have hao : a ≠ oa := fun h => offO2 (h ▸ p)
        by_cases hm : a ∈ wr ++ D' :: muts sc' (cenvOf sc' env C)
        · rcases List.mem_append.mp hm with hm | hm
          · exact absurd p (offW2 a hm)
          · rcases List.mem_cons.mp hm with rfl | hm
            · exact absurd p offD2
            · exact absurd p (bl2.fr.off a hm)
        · exact .inr (kb.no (fun h => (List.mem_cons.mp h).elim hao hm) q)
      have hp2 : ∀ a, P2 a → (s2.heap.get? a).isSome = true := fun a p => by
        rw [← hP2] at p
        rcases p with p | p
        · obtain ⟨o, ho⟩ := Option.isSome_iff_exists.mp (lvP' a p)
          rw [kw.keep a o (fun hm => offW a hm p) ho]; rfl
        · exact p.2
      have live3 : ∀ s4 : Shared, Kp s3 s4 → ∀ a, P2 a → (s4.heap.get? a).isSome = true := fun s4 k4 a p => live_keep k4 (liveB kw3 bl2.fr.off p (hp2 a p))
      have lvs : ∀ s4 : Shared, (∀ a, P2 a → (s4.heap.get? a).isSome = true) → ∀ a, P2 a → (s4.heap.get? a).isSome = true := fun _ h => h
      have weak : ∀ x d', σc.lookup x = some d' → σd.lookup x = some d' := fun x d' hx => bindTo_keeps (ok := isLC sc') (by simp [isLC, (hs x d' hx).2]) htn hbind hx
      have step : ∀ (s4 : Shared) (vs' : Array Value) (done' rest' : List D) (P4 : PA) (dn : D), KpB (oa :: (wr ++ D' :: muts sc' (cenvOf sc' env C))) s₄ s4 → OwnAt P4 s4.heap oa dn → (∀ a, P4 a → (s4.heap.get? a).isSome = true) → Blk G sc' P4 (cenvOf sc' env C) σd s4 → St (i + 1) s4.heap → (∀ a, P₁ a → P4 a) → (∀ a, P4 a → P₁ a ∨ s₄.heap.get? a = none) →
          s4.heap.PlainList D' vs' → Rvs P4 s4.heap done' vs'.toList → ys = done' ++ rest' → done'.length ≤ i + 1 → CRX G n sc' (σc.filter fun p => p.1 != xo) xo t elt (items.drop (i + 1)) rest' dn dfin →
          ∃ m, m < items.length + 1 - i ∧ ∃ (i : Nat) (P' : PA) (vs : Array Value) (done rest : List D) (dc : D), m = items.length + 1 - i ∧ i ≤ items.length ∧ KpB (oa :: (wr ++ D' :: muts sc' (cenvOf sc' env C))) s₄ s4 ∧ OwnAt P' s4.heap oa dc ∧ (∀ a, P' a → (s4.heap.get? a).isSome = true) ∧ Blk G sc' P' (cenvOf sc' env C) σc s4 ∧ St i s4.heap ∧
            (∀ a, P₁ a → P' a) ∧ (∀ a, P' a → P₁ a ∨ s₄.heap.get? a = none) ∧ s4.heap.PlainList D' vs ∧ Rvs P' s4.heap done vs.toList ∧ ys = done ++ rest ∧ done.length ≤ i ∧ CRX G n sc' (σc.filter fun p => p.1 != xo) xo t elt (items.drop i) rest dc dfin :=
        fun s4 vs' done' rest' P4 dn a1 aO aL a2 a3 a4 a5 a6 a7 a8 a9 a10 => ⟨items.length + 1 - (i + 1), by omega, i + 1, P4, vs', done', rest', dn, rfl, hlt, a1, aO, aL, a2.weaken weak, a3, a4, a5, a6, a7, a8, a9, a10⟩
      rw [hdi] at cr
      cases cr with
      | @take _ _ ys' ev _ db _ he hr =>
        refine wpAny_mono (ifs_run (n := n) (ifs := []) (b := true) rfl R bl3.e) (fun ok s4 h4 => ?_) fun _ _ x => x
        obtain ⟨rfl, k4⟩ := h4
        rw [if_pos (by rfl)]
        have bl4 := bl3.keep k4
        have hO4 : OwnAt P2 s4.heap oa dc := (((hO.tr (P2 := P') (trB kw offW) fun o => kw.keep oa o oaWr).sub up2).tr (P2 := P2) (trB kw3 bl2.fr.off) fun o => kw3.keep oa o oaM).tr (P2 := P2) (k4.trP _) fun o => k4.keep oa o
        have hσd : σd = (t, d) :: σc := (Option.some.inj hbind).symm
        have hrd : Reads1 (cenvOf sc' env C) s4.heap xo (.ref oa) := by
          obtain ⟨v, r, rv⟩ := bl4.e.var xo (.adr oa) (by rw [hσd, lookup_cons, if_neg (Ne.symm hxt)]; exact hxc)
          rw [show v = .ref oa from rv] at r; exact r
        have hlk : ∀ y d', List.lookup y ((t, d) :: σc.filter fun p => p.1 != xo) = some d' → List.lookup y σd = some d' := fun y d' hy => by
          rw [hσd]
          rw [lookup_cons] at hy ⊢
          by_cases h : y = t
          · rw [if_pos h] at hy ⊢; exact hy
          · rw [if_neg h] at hy ⊢; exact filter_lookup hy
        have lv4 : ∀ a, P2 a → (s4.heap.get? a).isSome = true := lvs s4 (live3 s4 k4)
        have y4 : SOk G sc' P2 (cenvOf sc' env C) ((t, d) :: σc.filter fun p => p.1 != xo) (some (xo, dc)) oa s4 :=
          ⟨bl4.weaken hlk, (show OwnIs G sc' P2 (cenvOf sc' env C) _ s4 xo dc oa from ⟨by rw [lookup_cons, if_neg (Ne.symm hxt)]; exact filter_none, hrd, hO4, offO2, hnb, oaM, fun z c hc q => cellO z c hc (by rw [q]; simp)⟩), lv4⟩
        refine wpAny_mono (he A (cenvOf sc' env C) P2 oa s4 R y4) (fun x s5 h5 => ?_) fun _ _ x => x
        obtain ⟨k5, hO5, rx⟩ := h5
        have k35 : KpB [oa] s3 s5 := (k4.toB _).trans k5
        have hDl5 : s5.heap.PlainList D' vs := let ⟨n', hn'⟩ := hDl3; ⟨n', k35.keep _ _ (by simpa using oaD) hn'⟩
        have hvs : vs.size = done.length := by have := hR.length; rwa [Array.length_toList] at this
        refine wpAny_list_append_plain (hsz := by rw [hvs]; show done.length ≤ 16777216; omega) hDl5 fun h' hl' hsb => ?_
        have k6 : KpB [D'] s5 { s5 with heap := h' } := .of (n := s5.toks) fun b o nb eo => hsb.extBut b o (by simpa using nb) eo
        have hP3 : ∀ a, (PN s4 P2 a ∧ (s5.heap.get? a).isSome = true) → P2 a ∨ s4.heap.get? a = none := fun a p => p.1
        have offD5 : ∀ b ∈ [D'], ¬ (fun a => P2 a ∨ (s4.heap.get? a = none ∧ (s5.heap.get? a).isSome = true)) b := fun b hb p => by
          rw [List.mem_singleton.mp hb] at p
          rcases p with p | ⟨p, _⟩
          · exact offD2 p
          · obtain ⟨n', hn'⟩ := hDl3
            rw [k4.keep _ _ hn'] at p; cases p
        have bl5 : Blk G sc' (fun a => P2 a ∨ (s4.heap.get? a = none ∧ (s5.heap.get? a).isSome = true)) (cenvOf sc' env C) σd s5 :=
          bl4.other k5 (fun hm => oaM (by rw [← List.mem_singleton.mp hm]; exact List.mem_cons_self)) cellO (by simpa using offO2) (by simpa using hnb) (fun a p => .inl p) fun a p => p.elim .inl fun q => .inr q.1
        have bl6 := bl5.other (P2 := fun a => P2 a ∨ (s4.heap.get? a = none ∧ (s5.heap.get? a).isSome = true)) k6 (by rw [hCs]; simpa using Ne.symm hDC) cellD offD5 (fun b hb => by
            rw [List.mem_singleton.mp hb]
            cases e0 : G.h₀.get? D' with
            | none => rfl
            | some o => have := e.gok.ext _ _ e0; rw [newW D' (by simp)] at this; cases this) (fun a p => p) fun a p => .inl p
        refine step _ (vs.push x) (done ++ [ev]) ys' _ db (kb.trans ((kwm.sub fun b hb => List.mem_cons_of_mem _ hb).trans ((k35.sub (by simp)).trans (k6.sub fun b hb => by rw [List.mem_singleton.mp hb]; simp)))) ((hO5.grown (h := s4.heap)).tr (trB k6 offD5) fun o => k6.keep oa o (by simpa using Ne.symm oaD)) (fun a p => liveB k6 offD5 p (p.elim (fun p => liveB k5 (by simpa using offO2) p (lv4 a p)) fun q => q.2)) bl6 ?_ (fun a p => .inl (up2 a (up a p))) (fun a p => ?_) hl' ?_ (by rw [hys]; simp) (by simp; omega) (hdrop ▸ hr)
        · refine frameSt st3 fun b o hb ho => k6.keep b o (fun hm => ?_) (k35.keep b o (fun hq => by
            rw [List.mem_singleton.mp hq] at hb
            exact hb.elim oaWr oaP1) ho)
          rw [List.mem_singleton.mp hm] at hb
          exact hb.elim (fun q => (wr4 _ q).1 rfl) hP1D
        · rcases p with p | ⟨p, l⟩
          · exact down3 a p
          · by_cases hm : a ∈ wr ++ D' :: muts sc' (cenvOf sc' env C)
            · exfalso
              have p3 := k4.none p
              rcases List.mem_append.mp hm with hm | hm
              · exact not_live p3 (ip.wk.live _ _ st3 a hm)
              · rcases List.mem_cons.mp hm with rfl | hm
                · obtain ⟨n', hn'⟩ := hDl3; rw [hn'] at p3; cases p3
                · rcases muts_is hm with q | ⟨x, hx, hc⟩
                  · obtain ⟨m, o, _, _, ho, _⟩ := bl3.fr.ns
                    rw [q, ho] at p3; cases p3
                  · obtain ⟨⟨u, o, ho, _⟩, _⟩ := bl3.fr.cell x a hx hc
                    rw [ho] at p3; cases p3
            · exact .inr ((kb.trans (kwm.sub fun b hb => List.mem_cons_of_mem _ hb)).no (fun h => (List.mem_cons.mp h).elim (fun q => by rw [q] at p; exact not_live p hO4.has) hm) (k4.none p))
        · have r5 : Rvs (fun a => P2 a ∨ (s4.heap.get? a = none ∧ (s5.heap.get? a).isSome = true)) s5.heap done vs.toList := (hR3.tr (trB k35 (by simpa using offO2))).sub fun a p => .inl p
          have rx5 : Rv (fun a => P2 a ∨ (s4.heap.get? a = none ∧ (s5.heap.get? a).isSome = true)) s5.heap ev x := rx.live.sub fun a ⟨p, l⟩ => p.elim .inl fun q => .inr ⟨q, l⟩
          rw [Array.toList_push]
          exact (r5.tr (trB k6 offD5)).append (.cons (rx5.tr (trB k6 offD5)) .nil)
  exact codeAny_compStart_list loop (wpAny_mono (ip.wk.self 0 s₄ (fun v s' => v = .ref I ∧ s' = s₄) (ip.wk.frame _ _ _ ip.st fun b o _ e => k24.keep b o e) ⟨rfl, rfl⟩) (fun v s' h => by obtain ⟨rfl, rfl⟩ := h; exact loop) fun _ _ x => x.elim)
end
end Mine

namespace Mine

section
variable {G : Wd} {n : Nat} {sc sc' : Scope} {σ σ' σc : Sg} {P P' P2 : PA} {env : Env} {s s' s₁ s₂ : Shared} {oa oa' : Addr} {x t : Str} {d0 d1 d2 d : D}

theorem evw_comp {iter elt : Expr} {pt posc : Pos} {items ys : List D} {dfin : D} (σc : Sg) (hit : EvIt G n sc σ iter (.Name t pt) items) (hcr : CRX G n sc' σc x t elt items ys d0 dfin) (S : scIn sc sc' = true) (hs : Seen sc' σ σc) (hxf : sc'.names.lookup x = some .free) (hxt : (t == x) = false) (hfil : (σc.all fun p => p.1 != x) = true)
    (htn : namesT (isLC sc') (.Name t pt) = true) (hz : items.length ≤ 16777216) (hf : ∀ env x, foldedSetIterable iter env x = pure x := by intro _ _; rfl) : EvW G n sc σ x d0 dfin (.ListComp elt [⟨.Name t pt, iter, [], 0⟩] sc' posc) (.list ys) := fun A env P oa s R y => by
  have o : OwnIs G sc P env σ s x d0 oa := y.own
  have e := y.b.e
  have e' : EnvOk G sc ((x, .adr oa) :: σ) P env s := ⟨e.sc, e.gok, e.old, e.cin, fun z d hz => by
    rw [lookup_cons] at hz
    by_cases h : z = x
    · rw [if_pos h] at hz; cases hz; rw [h]; exact ⟨.ref oa, o.rd, rfl⟩
    · rw [if_neg h] at hz; exact e.var z d hz⟩
  have hs' : Seen sc' ((x, .adr oa) :: σ) ((x, .adr oa) :: σc) := fun z d hz => by
    rw [lookup_cons] at hz ⊢
    by_cases h : z = x
    · rw [if_pos h] at hz ⊢; cases hz; exact ⟨rfl, h ▸ hxf⟩
    · rw [if_neg h] at hz ⊢; exact hs z d hz
  have hfs : (((x, D.adr oa) :: σc).filter fun p => p.1 != x) = σc := by
    rw [List.filter_cons, if_neg (by simp)]
    rw [List.filter_eq_self]
    intro p hp
    exact List.all_eq_true.mp hfil p hp
  have hit' : EvIt G n sc ((x, .adr oa) :: σ) iter (.Name t pt) items := fun A env P s R e lv => hit A env P s R ⟨e.sc, e.gok, e.old, e.cin, fun z d hz => by
    by_cases h : z = x
    · rw [h, o.nx] at hz; cases hz
    · exact e.var z d (by rw [lookup_cons, if_neg h]; exact hz)⟩ lv
  rw [eval_ListComp]
  refine comp_coreX (scIn_ok S) hs' (by rw [lookup_cons, if_pos rfl]) (by simpa using hxt) htn hit' (hfs.symm ▸ hcr) hz R e' y.live (hf env) o.at_ o.np o.nb o.nc fun D' C s' ce => ?_
  refine ⟨_, ce.ns.choose_spec, fun h' hsb => ?_⟩
  obtain ⟨P', up, down, nC, nD, vs, ⟨n', hl⟩, hr, ho⟩ := ce.body
  have k : KpB [C] s' { s' with heap := h' } := .of (n := s'.toks) fun b o nb eo => hsb.extBut b o (by simpa using nb) eo
  have hCo : oa ∉ [C] := fun hm => not_live ce.nc ((List.mem_singleton.mp hm) ▸ o.at_.has)
  have kk : KpB [oa] s { s' with heap := h' } := ce.kp.then k fun b hb => .inr (by rw [List.mem_singleton.mp hb]; exact ce.nc)
  have T : Tr P' P' s'.heap h' := trB k (by simpa using nC)
  exact ⟨kk, (ho.tr T fun o => k.keep oa o hCo).sub down, D', vs, rfl, .inr ce.nd, ⟨n', k.keep _ _ (by simpa using ce.dc) hl⟩, (hr.tr T).sub down⟩

/-- a call of one value that writes the own list -/
theorem evw_call1 {f : Str} {pf : Pos} {e1 : Expr} {pos : Pos} (hk : sc.names.lookup f = some .globalImplicit) (hf : CallsTo G n f [d] d2) (h1 : EvW G n sc σ x d0 d1 e1 d)
    (hs : ∀ env, starEach [e1] env = [(false, eval e1 env)] := by intro _; rfl)
    (hall : ∀ env, (backTo pos (starEach [e1] env)).any (·.1) = false := by intro _; rfl)
    (hd : (f == ("__debug__" : Str)) = false := by decide +kernel) : EvW G n sc σ x d0 d1 (.Call (.Name f pf) [e1] [] pos) d2 := fun A env P oa s R y => by
  obtain ⟨fv, hv, hc, ho⟩ := hf
  show wpAny _ _ (eval (.Name f pf) env >>= fun f => callWith pos f [] (backTo pos (starEach [e1] env)) (backToKw pos (keywordEach [] env))) _ _ s
  refine wpAny_bind (eval_glob y.b.e hk hv (callWith_plain hc (hall env) ?_) hd)
  have o : OwnIs G sc P env σ s x d0 oa := y.own
  have hargs : wpAny G.M A (spliced (backTo pos (starEach [e1] env))) (fun vs s₁ => ∃ v, vs = [v] ∧ AnsW s P oa d1 d v s₁) NoE s := by
    refine wpAny_items_cons (wpAny_mono (h1 A env P oa s R y) (fun v s₁ q => ?_) fun _ _ x => x) (hs env)
    exact wpAny_items_nil ⟨v, rfl, q⟩
  rw [hs env] at hargs ⊢
  refine Calls.evalArgs_plain (wpAny_mono hargs (fun vs s₁ q => ?_) fun _ _ x => x)
  obtain ⟨v, rfl, k₁, o₁, r₁⟩ := q
  have nb : ∀ b ∈ [oa], G.h₀.get? b = none := by simpa using o.nb
  have g₁ := gokB y.b.e.gok k₁ nb
  refine ⟨g₁, rfl, wpAny_mono (ho A s₁ (PN s P) [v] R g₁ (fun a o h => .inl (y.b.e.old a o h)) (.cons r₁ .nil)) (fun v₂ s₂ q => ?_) fun _ _ x => x⟩
  obtain ⟨k₂, r₂⟩ := q
  have hoa : (s₁.heap.get? oa).isSome = true := o₁.has
  refine ⟨k₁.trans (k₂.toB _), o₁.tr (k₂.trP _) fun o => k₂.keep oa o, r₂.sub fun a p => ?_⟩
  rcases p with p | p
  · exact p
  · by_cases hm : a ∈ [oa]
    · rw [List.mem_singleton.mp hm] at p; exact absurd hoa (not_live p)
    · exact .inr (k₁.no hm p)
end
end Mine

namespace Mine

section
variable {G : Wd} {n : Nat} {sc sc' : Scope} {σ σ' σc : Sg}

/-- the script's first cells -/
theorem ev_script {x : Str} {px p pos : Pos} {hi : Expr} {a : Addr} {vs : List Value} {ns : List Int} {k : Nat} (hx : σ.lookup x = some (.adr a)) (hL : G.h₀.IsList a vs.toArray) (hI : IntsAre vs ns) (hk : EvE G n sc σ hi (.int k)) (hz : vs.length ≤ 16777216)
    (hd : (x == ("__debug__" : Str)) = false := by decide +kernel) (hc : (x == ("__classdict__" : Str)) = false := by decide +kernel) :
    EvE G n sc σ (.Subscript (.Name x px) (.Slice none (some hi) none p) pos) (dis (ns.take k)) := fun A env P s R e => by
  rw [arm_eval_Subscript]
  refine wpAny_bind (wpAny_mono (ev_var (n := n) hx hd hc A env P s R e) (fun vo s₁ q₁ => ?_) fun _ _ x => x)
  obtain ⟨k₁, rfl⟩ := q₁
  have e₁ := e.keep k₁ (Q := P) fun _ p => p
  refine wpAny_bind (wpAny_holding (wpAny_Slice ?_))
  rw [evalPart_none]
  refine wpAny_pure ?_
  refine wpAny_mono (evalPart_of (o := some (k : Int)) (e := some hi) ⟨_, hk, partInt⟩ R e₁) (fun vu s₃ q₃ => ?_) fun _ _ x => x
  refine wpAny_pure ?_
  have k₄ := q₃.2.trans (Kp.push s₃ { cls := .type "slice", data := .fields #[.none, vu, .none] })
  have g₄ : GOk G (s₃.heap.push { cls := .type "slice", data := .fields #[.none, vu, .none] }) := e₁.gok.keep k₄.keep
  generalize hs4 : ({ s₃ with heap := s₃.heap.push { cls := .type "slice", data := .fields #[.none, vu, .none] } } : Shared) = s₄ at k₄ ⊢
  have hsl : s₄.heap.IsSliceOf s₃.heap.objs.size .none vu .none := by rw [← hs4]; exact Heap.IsSliceOf.new ..
  have g4 : GOk G s₄.heap := e₁.gok.keep k₄.keep
  have hL4 : s₄.heap.IsList a vs.toArray := let ⟨o, ho, r⟩ := hL; ⟨o, g4.ext _ _ ho, r⟩
  have hg : wpAny G.M A (getItem (.ref a) (.ref s₃.heap.objs.size)) (Ans s P (dis (ns.take k))) NoE s₄ := by
    refine wpAny_getItem_list_slice hL4 hsl .none q₃.1 .none (fun x => nomatch x) ⟨(k₁.trans k₄).trans (Kp.push _ _), _, _, rfl, .inr ((k₁.trans k₄).none (size_none s₄)), ⟨_, push_new rfl⟩, ?_⟩ (by rw [List.size_toArray]; exact hz)
    rw [kms_pick_eq]
    have r0 : Rvs (PN s P) s₄.heap (ns.map D.int) vs := Rvs.of_ints hI
    have r1 := (r0.slc none (some (k : Int))).tr ((Kp.push s₄ { cls := .type "list", data := .seq (Mine.slc vs none (some (k : Int))).toArray }).trP _)
    rw [slc_to (l := ns.map D.int), ← List.map_take] at r1
    exact r1
  refine wpAny_bind (wpAny_standAt ?_)
  have fin : wpAny G.M A (operate [.ref s₃.heap.objs.size, .ref a] (getItem (.ref a) (.ref s₃.heap.objs.size))) (fun r s₅ => wpAny G.M A (letTemporaryGo (.Name x px) (.ref a) r >>= fun _ => pure r) (Ans s P (dis (ns.take k))) NoE s₅) NoE s₄ :=
    wpAny_operating (wpAny_mono hg (fun r s₅ h₅ => wpAny_bind (wpAny_letTemporaryGo (wpAny_pure h₅))) fun _ _ x => x)
  refine wpAny_bind (m := getitemInPython (.ref a)) ?_
  unfold getitemInPython
  refine wpAny_bind (wpAny_specialOf hL4.typeIs slot_list_getitem.lookup ?_)
  refine wpAny_pure ?_
  exact wpAny_bind fin

theorem drop_own {x d ss} {Φ : Out → Prop} (h : DoS G n sc σ none ss Φ) : DoS G n sc σ (some (x, d)) ss Φ := fun A env P oa s R y => by
  have o : OwnIs G sc P env σ s x d oa := y.own
  exact do_freeze (h.less fun z d' hz => by rw [lookup_cons, if_neg (fun q => by rw [q, o.nx] at hz; cases hz)]; exact hz) A env P oa s R y

/-- the draws of a comprehension -/
theorem crx_draws {x t : Str} {elt : Expr} {cells : List Int} {m : Int} (hd : ∀ i spot, spot ≤ 1000 → EvW G n sc ((t, .int i) :: σ) x (poolD cells spot) (poolD cells (spot + 1)) elt (.int (drawP cells spot m))) :
    ∀ (l : List Nat) (spot : Nat), spot + l.length ≤ 1000 → CRX G n sc σ x t elt (l.map fun (i : Nat) => D.int (0 + i)) (((List.range l.length).map fun i => drawP cells (spot + i) m).map D.int) (poolD cells spot) (poolD cells (spot + l.length))
  | [], spot, _ => .nil
  | i :: l, spot, h => by
    rw [List.length_cons] at h
    have ih := crx_draws hd l (spot + 1) (by omega)
    have e1 : ((List.range (i :: l).length).map fun i => drawP cells (spot + i) m) = drawP cells spot m :: ((List.range l.length).map fun i => drawP cells (spot + 1 + i) m) := by
      rw [List.length_cons, List.range_succ_eq_map, List.map_cons, List.map_map]
      congr 1
      refine List.map_congr_left fun j _ => ?_
      show drawP cells (spot + (j + 1)) m = _
      rw [show spot + (j + 1) = spot + 1 + j by omega]
    rw [e1, List.map_cons, List.map_cons, List.length_cons, show spot + (l.length + 1) = spot + 1 + l.length by omega]
    exact .take (hd _ _ (by omega)) ih
end
end Mine

namespace Mine

theorem draw_range {cells : List Int} {spot : Nat} {m : Int} (h : 0 < m) : 0 ≤ drawP cells spot m ∧ drawP cells spot m < m := by
  have key : ∀ z : Int, 0 ≤ z.fmod m ∧ z.fmod m < m := fun z => by
    rw [Int.fmod_eq_emod_of_nonneg _ (by omega)]
    exact ⟨Int.emod_nonneg _ (by omega), Int.emod_lt_of_pos _ h⟩
  unfold drawP
  split <;> exact key _

section
variable {G : Wd} {n : Nat} {sc : Scope} {σ : Sg} {x : Str} {d0 d1 d d' : D} {e : Expr}
theorem evw_cast (h : EvW G n sc σ x d0 d1 e d) (hd : d = d') : EvW G n sc σ x d0 d1 e d' := hd ▸ h

theorem crx_rng {x t : Str} {elt : Expr} {cells : List Int} {m : Int} (hd : ∀ i spot, spot ≤ 1000 → EvW G n sc ((t, .int i) :: σ) x (poolD cells spot) (poolD cells (spot + 1)) elt (.int (drawP cells spot m))) (k spot : Nat) (h : spot + k ≤ 1000) :
    CRX G n sc σ x t elt (rng 0 k) (((List.range k).map fun i => drawP cells (spot + i) m).map D.int) (poolD cells spot) (poolD cells (spot + k)) := by
  have := crx_draws hd (List.range k) spot (by rw [List.length_range]; exact h)
  rw [List.length_range] at this
  exact this

noncomputable def lawσ (L S far : Nat) (word other : List Int) : Sg := [((nm "far"), .int far), ((nm "other"), dt other), ((nm "word"), dt word), ((nm "size"), .int S), ((nm "letters"), .int L)]
noncomputable def wordOk (L S : Nat) (w : List Int) : Prop := w.length = S ∧ ∀ z ∈ w, 0 ≤ z ∧ z < (L : Int)

theorem law_head (N : Names G) (F : Draws G) {a : Addr} {vs : List Value} {ns : List Int} (hL : G.h₀.IsList a vs.toArray) (hI : IntsAre vs ns) (hz : vs.length ≤ 16777216) {Φ : Out → Prop}
    (hrest : ∀ (L S far : Nat) (word other : List Int), 2 ≤ L → L ≤ 3 → 2 ≤ S → S ≤ 4 → far < 17 → wordOk L S word → wordOk L S other → DoS G (n + 1) (fnScope 43) (lawσ L S far word other) none ((fnBody 43).drop 6) Φ) :
    DoS G (n + 1) (fnScope 43) [((nm "script"), .adr a)] none (fnBody 43) Φ := by
  have hcl : (ns.take 11).length ≤ 1000 := by rw [List.length_take]; omega
  refine do_seq (do_new (d := poolD (ns.take 11) 0) (evn_list (evs_cons (ev_cast (ev_comp [] (it_list (ds := (ns.take 11).map D.int) (ev_script (k := 11) (by rfl) hL hI ev_int hz) rfl) (cr_mapT D.int D.int (ns.take 11) fun z hz => ⟨_, rfl, ev_callx (by decide +kernel) N.cInt (evs_cons (ev_var (by rfl)) evs_nil)⟩) (by decide +kernel) seen_nil (by decide +kernel) (by rw [List.length_map]; omega)) rfl) (evs_cons ev_int evs_nil)) (by simp)) (by rfl) (by decide +kernel)) ?_
  generalize ns.take 11 = cells at hcl
  obtain ⟨L, hLe, hL2, hL3⟩ : ∃ L : Nat, 3 - drawP cells 0 2 = (L : Int) ∧ 2 ≤ L ∧ L ≤ 3 := by
    obtain ⟨h1, h2⟩ := draw_range (cells := cells) (spot := 0) (m := 2) (by decide)
    exact ⟨(3 - drawP cells 0 2).toNat, by omega, by omega, by omega⟩
  refine do_seq (do_assignW (d1 := poolD cells 1) (evw_cast (evw_binR ev_int (evw_call (by decide +kernel) (c_draw N F (spot := 0) (many := 2) (by decide) hcl (by omega)) ev_int) sub_ii) (by rw [hLe])) (by decide +kernel) (by rfl)) ?_
  obtain ⟨S, hSe, hS2, hS4⟩ : ∃ S : Nat, 2 + drawP cells 1 3 = (S : Int) ∧ 2 ≤ S ∧ S ≤ 4 := by
    obtain ⟨h1, h2⟩ := draw_range (cells := cells) (spot := 1) (m := 3) (by decide)
    exact ⟨(2 + drawP cells 1 3).toNat, by omega, by omega, by omega⟩
  refine do_seq (do_assignW (d1 := poolD cells 2) (evw_cast (evw_binR ev_int (evw_call (by decide +kernel) (c_draw N F (spot := 1) (many := 3) (by decide) hcl (by omega)) ev_int) add_ii) (by rw [hSe])) (by decide +kernel) (by rfl)) ?_
  have hwords : ∀ spot, wordOk L S ((List.range S).map fun i => drawP cells (spot + i) L) := fun spot => ⟨by simp, fun z hz => by
    obtain ⟨i, _, rfl⟩ := List.mem_map.mp hz
    exact draw_range (by omega)⟩
  have hdraw : ∀ {σ : Sg} {p1 p2 p3 p4 : Pos} {sc' : Scope}, σ.lookup (nm "letters") = some (.int L) → sc'.names.lookup (nm "_law_draw") = some .globalImplicit → ∀ i spot, spot ≤ 1000 → EvW G (n + 1) sc' (((nm "turn"), .int i) :: σ) (nm "pool") (poolD cells spot) (poolD cells (spot + 1)) (.Call (.Name (nm "_law_draw") p1) [.Name (nm "pool") p2, .Name (nm "letters") p3] [] p4) (.int (drawP cells spot L)) := fun {σ p1 p2 p3 p4 sc'} h hk i spot hs =>
    evw_call hk (c_draw N F (many := L) (by omega) hcl hs) (ev_var (by rw [lookup_cons, if_neg (by decide +kernel)]; exact h))
  have hlist : ∀ w : List Int, w.length = S → ((w.map D.int).length ≤ 16777216) := fun w h => by rw [List.length_map]; omega
  generalize hw : ((List.range S).map fun i => drawP cells (2 + i) L) = word
  have hwo : wordOk L S word := hw ▸ hwords 2
  refine do_seq (do_assignW (d := dt word) (d1 := poolD cells (2 + S)) (evw_call1 (by decide +kernel) (N.cTuple (hlist word hwo.1)) (evw_comp [((nm "letters"), .int L)] (it_cast (it_range1 (by decide +kernel) N.range rfl rfl (ev_var (by rfl)) (sm_range (by omega) (by omega))) (ds' := rng 0 S) (by congr 1 <;> omega)) (hw ▸ crx_rng (fun i spot hs => hdraw (by rfl) (by decide +kernel) i spot hs) S 2 (by omega)) (by decide +kernel) (seen_cons (by rfl) (by decide +kernel) seen_nil) (by decide +kernel) (by decide +kernel) (by rfl) (by decide +kernel) (by rw [rng_len]; omega))) (by decide +kernel) (by rfl)) ?_
  generalize ho : ((List.range S).map fun i => drawP cells (2 + S + i) L) = other
  have hoo : wordOk L S other := ho ▸ hwords (2 + S)
  refine do_seq (do_assignW (d := dt other) (d1 := poolD cells (2 + S + S)) (evw_call1 (by decide +kernel) (N.cTuple (hlist other hoo.1)) (evw_comp [((nm "letters"), .int L)] (it_cast (it_range1 (by decide +kernel) N.range rfl rfl (ev_var (by rfl)) (sm_range (by omega) (by omega))) (ds' := rng 0 S) (by congr 1 <;> omega)) (ho ▸ crx_rng (fun i spot hs => hdraw (by rfl) (by decide +kernel) i spot hs) S (2 + S) (by omega)) (by decide +kernel) (seen_cons (by rfl) (by decide +kernel) seen_nil) (by decide +kernel) (by decide +kernel) (by rfl) (by decide +kernel) (by rw [rng_len]; omega))) (by decide +kernel) (by rfl)) ?_
  obtain ⟨far, hfe, hf⟩ : ∃ far : Nat, drawP cells (2 + S + S) 17 = (far : Int) ∧ far < 17 := by
    obtain ⟨h1, h2⟩ := draw_range (cells := cells) (spot := 2 + S + S) (m := 17) (by decide)
    exact ⟨(drawP cells (2 + S + S) 17).toNat, by omega, by omega⟩
  refine do_seq (do_assignW (d1 := poolD cells (2 + S + S + 1)) (evw_cast (evw_call (by decide +kernel) (c_draw N F (spot := 2 + S + S) (many := 17) (by decide) hcl (by omega)) ev_int) (by rw [hfe])) (by decide +kernel) (by rfl)) ?_
  exact drop_own ((hrest L S far word other hL2 hL3 hS2 hS4 hf hwo hoo).less (by repeat first | exact Sub.nil | refine Sub.cons (by rfl) ?_))
end
end Mine

namespace Mine

theorem swaps_comp {elt : Expr} {gens : List Comprehension} {sc' : Scope} {posc : Pos} {x : Str} {px : Pos} {line : Nat} {env : Env} (hk : env.scope.kind = .function) (hl : env.kindOf x = some .local) (hp : (px.line == posc.line) = true)
    (hn : (sc'.names.any fun p => p.1 == x && (p.2 == .local || p.2 == .cell)) = false) : swapsWith (.ListComp elt gens sc' posc) (some (.Name x px)) line env = pure true := by
  have hb : env.blockKind = .function := by simp [Env.blockKind, hk, ScopeKind.isAnnotationScope]
  have hn' : (sc'.names.any fun (n, k) => n == x && (k == .local || k == .cell)) = false := hn
  unfold swapsWith
  show pure (env.blockKind == .function && env.kindOf x == some .local && px.line == (Expr.ListComp elt gens sc' posc).pos.line && !(sc'.names.any fun (n, k) => n == x && (k == .local || k == .cell))) = _
  rw [hb, hl, hn', show (px.line == (Expr.ListComp elt gens sc' posc).pos.line) = true from hp]
  rfl

theorem deq_dzs : ∀ {a b : List Int}, deqL (deq 7) (a.map dz) (b.map dz) = some (a == b)
  | [], [] => rfl
  | [], _ :: _ => rfl
  | _ :: _, [] => rfl
  | x :: a, y :: b => by
    have ih := deq_dzs (a := a) (b := b)
    have e : deq 7 (dz x) (dz y) = some (x == y) := by
      show deqL (deq 6) [.int x, .int 1] [.int y, .int 1] = _
      simp [deqL, deq]
    simp only [List.map_cons, deqL, e, ih]
    rfl

noncomputable def botP (L S : Nat) (sh : List Int) : List Int := 1 :: (List.range S).map fun i => (if 1 + i < S then sh.getD (1 + i) 0 else 1) - L * sh.getD i 0
noncomputable def moreP (L S : Nat) (bot : List Int) : List Int := (List.range (S + 1)).map fun i => bot.getD i 0 - (if i = 0 then 1 else 0) + (if i = 1 then (L : Int) else 0)
noncomputable def aheadP (S : Nat) : List Int := List.replicate S 0 ++ [1]
noncomputable def stepsP (bot : List Int) : List Int := (bot.drop 1).map fun z => 0 - z

/-- what the law reckons, and that it answers True -/
structure LawOk (L S far : Nat) (word other : List Int) (am : List Int) (rows : List (List Int)) (lo o q : List Int) (v : Int) : Prop where
  h_am : zmulP (aheadP S) (moreP L S (botP L S (sharedP word))) = some am
  h_rows : countP word L (2 * S + 1) 3 = some rows
  h_len : rows.length = 3
  h_small : (rows.all sml && sml o && sml q && sml am) = true
  h_frac : ∀ i, i < 3 → ∃ bp, zpowF 5 [1] (botP L S (sharedP word)) (i + 1) = some bp ∧ sml bp = true ∧ fracP ([sharedP word, aheadP S, am].getD i []) bp (2 * S + 1) = some (rows.getD i [])
  h_least : lrP ((rows.getD 0 []).take (2 * S)) = some (stepsP (botP L S (sharedP word)))
  h_number : numberP (stepsP (botP L S (sharedP word))) ((rows.getD 0 []).take S) far = some v
  h_count : countP word L (far + 1) 1 = some [q]
  h_at : q[far]? = some v
  h_other : countP other L (2 * S) 1 = some [o]
  h_lo : lrP o = some lo
  h_last : ((lo == stepsP (botP L S (sharedP word))) == (sharedP other == sharedP word)) = true

/-- all of the text that the law calls -/
structure Text (G : Wd) : Prop where
  names : Names G
  consts : Consts G
  series : Series G
  recs : Recs G
  mats : Mats G
  polys : Polys G
  cnts : Cnts G
  draws : Draws G

section
variable {G : Wd} {n : Nat}

theorem cr_cast {sc : Scope} {σ : Sg} {tgt elt : Expr} {ifs : List Expr} {items ys ys' : List D} (h : CR G n sc σ tgt elt ifs items ys) (e : ys = ys') : CR G n sc σ tgt elt ifs items ys' := e ▸ h

theorem shared_len {w : List Int} : (sharedP w).length = w.length := by simp [sharedP]

set_option maxHeartbeats 4000000 in
theorem law_tail (T : Text G) {L S far : Nat} {word other am : List Int} {rows : List (List Int)} {lo o q : List Int} {v : Int} (hL : L ≤ 3) (hS2 : 2 ≤ S) (hS : S ≤ 4) (hf : far < 17) (hw : wordOk L S word) (ho : wordOk L S other) (K : LawOk L S far word other am rows lo o q v) :
    DoS G (n + 8) (fnScope 43) (lawσ L S far word other) none ((fnBody 43).drop 6) (· = .ret (.bool true)) := by
  have N := T.names
  have hsl : (sharedP word).length = S := shared_len.trans hw.1
  have hsz : (sharedP word).length ≤ 1000 := by omega
  refine do_seq (do_assign (ev_callx (by decide +kernel) (c_shared (n := n + 7) N T.polys (w := word) (by have := hw.1; omega)) (evs_cons (ev_var (by rfl)) evs_nil)) (by decide +kernel) rfl) ?_
  have hbl : (botP L S (sharedP word)).length = S + 1 := by simp [botP]
  refine do_seq (do_assign (d := dis (botP L S (sharedP word))) (ev_cast (ev_bin (ev_listS (evs_cons ev_int evs_nil)) (ev_comp [((nm "letters"), .int L), ((nm "shared"), dis (sharedP word)), ((nm "size"), .int S)] (it_cast (it_range2 (by decide +kernel) N.range rfl ev_int (ev_bin (ev_var (by rfl)) ev_int add_ii) (sm_range2 (by omega) (by omega) (by omega) (by omega))) (ds' := rng 1 S) (by congr 1 <;> omega))
    (cr_range 1 S (fun i => .int ((if 1 + i < S then (sharedP word).getD (1 + i) 0 else 1) - L * (sharedP word).getD i 0)) fun i hi => ?_) (by decide +kernel) (seen_cons (by rfl) (by decide +kernel) (seen_cons (by rfl) (by decide +kernel) (seen_cons (by rfl) (by decide +kernel) seen_nil))) (by decide +kernel) (by rw [rng_len]; omega)) (add_ll (by simp; omega))) ?_) (by decide +kernel) rfl) ?_
  · have hlt : i < (sharedP word).length := by omega
    have h0 : (sharedP word)[i]? = some ((sharedP word).getD i 0) := by rw [List.getD_eq_getElem?_getD, List.getElem?_eq_getElem hlt]; rfl
    refine ev_bin (ev_if (b := decide (1 + i < S)) (d := .int (if 1 + i < S then (sharedP word).getD (1 + i) 0 else 1)) (evt_cast (evt_cmp (ev_var (by rfl)) (ev_var (by rfl)) lt_ii) (decide_eq_decide.mpr (by omega))) (fun hc => ?_) (fun hc => ?_)) (ev_bin (ev_var (by rfl)) (ev_sub (ev_var (by rfl)) (ev_bin (ev_var (by rfl)) ev_int sub_ii) (get_i h0 (by omega) hsz)) (mul_ii (.inl ⟨by omega, by omega⟩))) sub_ii
    · have hc' : 1 + i < S := by simpa using hc
      rw [if_pos hc']
      have h1 : (sharedP word)[1 + i]? = some ((sharedP word).getD (1 + i) 0) := by rw [List.getD_eq_getElem?_getD, List.getElem?_eq_getElem (by omega)]; rfl
      exact ev_sub (ev_var (by rfl)) (ev_var (by rfl)) (get_i h1 (by omega) hsz)
    · rw [if_neg (by simpa using hc)]
      exact ev_int
  · simp [dis, botP, List.map_map, Function.comp_def]
  generalize hbot : botP L S (sharedP word) = bot at hbl
  have hbz : bot.length ≤ 1000 := by omega
  refine do_seq (do_assignC (d := dis (moreP L S bot)) [((nm "bottom"), dis bot), ((nm "letters"), .int L)] rfl (ys := (moreP L S bot).map D.int) rfl (it_cast (it_range1 (by decide +kernel) N.range rfl rfl (ev_bin (ev_var (by rfl)) ev_int add_ii) (sm_range (by omega) (by omega))) (ds' := rng 0 (S + 1)) (by congr 1 <;> omega)) (cr_cast (cr_range 0 (S + 1) (fun i => .int (bot.getD i 0 - (if i = 0 then 1 else 0) + (if i = 1 then (L : Int) else 0))) fun i hi => ?_) (by simp [moreP, Function.comp_def])) (by decide +kernel) (seen_cons (by rfl) (by decide +kernel) (seen_cons (by rfl) (by decide +kernel) seen_nil)) (by decide +kernel) (by rw [rng_len]; omega) (by decide +kernel) rfl (fun env h1 h2 => swaps_comp h1 h2 rfl (by decide +kernel))) ?_
  · have h0 : bot[i]? = some (bot.getD i 0) := by rw [List.getD_eq_getElem?_getD, List.getElem?_eq_getElem (by omega)]; rfl
    refine ev_bin (ev_bin (ev_sub (ev_var (by rfl)) (ev_var (by rfl)) (get_i h0 (by omega) hbz)) (ev_if (b := decide (i = 0)) (d := .int (if i = 0 then 1 else 0)) (evt_cast (evt_cmp (ev_var (by rfl)) ev_int eq_ii) ?_) (fun hc => ?_) (fun hc => ?_)) sub_ii) (ev_if (b := decide (i = 1)) (d := .int (if i = 1 then (L : Int) else 0)) (evt_cast (evt_cmp (ev_var (by rfl)) ev_int eq_ii) ?_) (fun hc => ?_) (fun hc => ?_)) add_ii
    · rw [Bool.eq_iff_iff, beq_iff_eq, decide_eq_true_eq]; omega
    · rw [if_pos (by simpa using hc)]; exact ev_int
    · rw [if_neg (by simpa using hc)]; exact ev_int
    · rw [Bool.eq_iff_iff, beq_iff_eq, decide_eq_true_eq]; omega
    · rw [if_pos (by simpa using hc)]; exact (ev_var (by rfl))
    · rw [if_neg (by simpa using hc)]; exact ev_int
  have hK := K
  have hsm := K.h_small
  simp only [Bool.and_eq_true, List.all_eq_true] at hsm
  obtain ⟨⟨⟨hrs, hos⟩, hqs⟩, hams⟩ := hsm
  have hS' : S ≤ 1000 := by omega
  have hal : (aheadP S).length = S + 1 := by simp [aheadP]
  refine do_seq (do_swap (d1 := dis (aheadP S)) (d2 := .int ((2 * S + 1 : Nat) : Int)) (ev_tupS (evs_cons (ev_cast (ev_bin (ev_bin (ev_listS (evs_cons ev_int evs_nil)) (ev_var (by rfl)) (mul_li (by omega) (by omega) (by simp; omega))) (ev_listS (evs_cons ev_int evs_nil)) (add_ll (by simp; omega))) ?_) (evs_cons (ev_cast (ev_bin (ev_bin ev_int (ev_var (by rfl)) (mul_ii (.inl (by decide)))) ev_int add_ii) ?_) evs_nil))) (by decide +kernel) (by decide +kernel) rfl rfl (by decide +kernel) rfl rfl rfl rfl rfl) ?_
  · rw [flat_rep, dis, aheadP, List.map_append, List.map_replicate]; rfl
  · congr 1
  refine do_seq (do_assign (d := dm rows) (ev_callx (by decide +kernel) (c_counted (n := n + 7) N T.cnts (by have := hw.1; omega) (by omega) (by omega) (by omega) K.h_rows) (evs_cons (ev_var (by rfl)) (evs_cons (ev_var (by rfl)) (evs_cons (ev_var (by rfl)) (evs_cons (ev_cast ev_int rfl) evs_nil))))) (by decide +kernel) rfl) ?_
  have ham := K.h_am
  rw [hbot] at ham
  refine do_seq (do_assign (d := dm [sharedP word, aheadP S, am]) (ev_listS (evs_cons (ev_var (by rfl)) (evs_cons (ev_var (by rfl)) (evs_cons (ev_callx (by decide +kernel) (c_zmul (n := n + 7) N T.polys ham) (evs_cons (ev_var (by rfl)) (evs_cons (ev_var (by rfl)) evs_nil))) evs_nil)))) (by decide +kernel) rfl) ?_
  have hrl : ∀ i, (rows.getD i []).length ≤ 1000 := fun i => by
    rw [List.getD_eq_getElem?_getD]
    cases h : rows[i]? with
    | none => simp
    | some r => have := hrs r (List.mem_of_getElem? h); simpa [sml] using this
  have hrget : ∀ i, i < 3 → rows[i]? = some (rows.getD i []) := fun i hi => by rw [List.getD_eq_getElem?_getD, List.getElem?_eq_getElem (by rw [K.h_len]; exact hi)]; rfl
  have row_at : ∀ {σ : Sg} {p1 p2 : Pos} {ie : Expr} {sc : Scope} {m : Nat} (i : Nat) {j : Int}, i < 3 → σ.lookup (nm "rows") = some (dm rows) → EvE G m sc σ ie (.int j) → j = (i : Int) → (∀ a b, subscripted ie false a b = operate [a, b] (getItem a b)) → EvE G m sc σ (.Subscript (.Name (nm "rows") p1) ie p2) (dis (rows.getD i [])) := fun {σ p1 p2 ie sc m} i {j} hi h he hj hs =>
    ev_sub (ev_var h) he (get_list (d := dis (rows.getD i [])) (by omega) (by rw [List.getElem?_map, show j.toNat = i by omega, hrget i hi]; rfl) (by omega)) hs
  have pairs : ∀ {σ : Sg} {sc sc' : Scope} {m : Nat} {it : Expr} {r : List Int} {p1 p2 p3 p4 p5 : Pos} {k1 k2 : Nat}, EvE G m sc σ it (dis r) → r.length ≤ 1000 → scIn sc sc' = true → namesT (isLC sc') (.Name (nm "number") p1) = true → (∀ env x, foldedSetIterable it env x = pure x) → EvE G m sc σ (.ListComp (.Tuple [.Name (nm "number") p2, .Constant (.int 1) k1 p3] k2 p4) [⟨.Name (nm "number") p1, it, [], 0⟩] sc' p5) (dzs r) := fun h hr hs hn hf =>
    ev_comp [] (it_list h rfl) (cr_mapT D.int dz _ fun z hz => ⟨_, rfl, ev_tupS (evs_cons (ev_var (by rfl)) (evs_cons ev_int evs_nil))⟩) hs seen_nil hn (by rw [List.length_map]; omega) hf
  refine do_seq (do_forR 0 3 (fun _ : Unit => [((nm "tops"), dm [sharedP word, aheadP S, am]), ((nm "rows"), dm rows), ((nm "many"), .int ((2 * S + 1 : Nat) : Int)), ((nm "bottom"), dis bot), ((nm "shared"), dis (sharedP word)), ((nm "far"), .int far), ((nm "other"), dt other), ((nm "word"), dt word), ((nm "size"), .int S), ((nm "letters"), .int L)]) (fun _ => none) (fun _ _ => some ()) () ()
    (it_cast (it_range1 (by decide +kernel) N.range rfl rfl ev_int (sm_range (by omega) (by omega))) (by rfl)) (by repeat first | exact Sub.nil | refine Sub.cons (by rfl) ?_) rfl rfl (fun _ => (by decide +kernel)) ?_) ?_
  · intro i hi _ _ _
    obtain ⟨bp, hb1, hb2, hb3⟩ := K.h_frac i hi
    rw [hbot] at hb1
    have hbpl : bp.length ≤ 1000 := by simpa [sml] using hb2
    have htl : ([sharedP word, aheadP S, am].getD i []).length ≤ 1000 := by
      have hamz : am.length ≤ 1000 := by simpa [sml] using hams
      match i, hi with
      | 0, _ => exact hsz
      | 1, _ => show (aheadP S).length ≤ 1000; omega
      | 2, _ => exact hamz
    have htop : ([sharedP word, aheadP S, am] : List (List Int))[i]? = some ([sharedP word, aheadP S, am].getD i []) := by
      match i, hi with
      | 0, _ | 1, _ | 2, _ => rfl
    generalize [sharedP word, aheadP S, am].getD i [] = top at htl htop hb3
    refine do_seq (do_assign (d := dzs (rows.getD i [])) (ev_callx (by decide +kernel) (c_frac (n := n + 2) N T.consts T.series hb3) (evs_cons (ev_callx (by decide +kernel) (c_from_z (n := n + 7) T.series htl) (evs_cons (ev_sub (ev_var (by rfl)) (ev_var (by rfl)) (get_list (d := dis top) (by omega) (by rw [List.getElem?_map, show ((0 : Int) + (i : Int)).toNat = i by omega, htop]; rfl) (by omega))) evs_nil)) (evs_cons (ev_callx (by decide +kernel) (c_from_z (n := n + 7) T.series hbpl) (evs_cons (ev_callx (by decide +kernel) (c_zpower (n := n + 6) (m := i + 1) N T.polys hbz hb1) (evs_cons (ev_var (by rfl)) (evs_cons (ev_cast (ev_bin (ev_var (by rfl)) ev_int add_ii) (by congr 1; omega)) evs_nil))) evs_nil)) (evs_cons (ev_var (by rfl)) evs_nil)))) (by decide +kernel) rfl) ?_
    refine do_ifF (evt_cast (evt_cmp (ev_var (by rfl)) (pairs (row_at i hi (by rfl) (ev_var (by rfl)) (by omega) (by intro _ _; rfl)) (hrl i) (by decide +kernel) (by decide +kernel) (by intro _ _; rfl)) (ne_ll deq_dzs)) (by simp)) ?_
    exact do_nilS (by repeat first | exact Sub.nil | refine Sub.cons (by rfl) ?_) ⟨rfl, rfl⟩
  have hbd : slc (bot.map D.int) (some ((1 : Nat) : Int)) none = (bot.drop 1).map D.int := by rw [slc_from, List.map_drop]
  have hstl : (stepsP bot).length = S := by simp [stepsP, hbl]
  have hr0 : ∀ k : Nat, slc ((rows.getD 0 []).map D.int) none (some (k : Int)) = ((rows.getD 0 []).take k).map D.int := fun k => by rw [slc_to, List.map_take]
  have hrt : ∀ k : Nat, ((rows.getD 0 []).take k).length ≤ 1000 := fun k => by rw [List.length_take]; have := hrl 0; omega
  refine do_seq (do_assignC (d := dis (stepsP bot)) [] rfl (ys := (stepsP bot).map D.int) rfl (it_list (ds := (bot.drop 1).map D.int) (ev_cast (ev_slice (l := some ((1 : Nat) : Int)) (ev_var (by rfl)) ⟨_, ev_int, partInt⟩ rfl (.inl ⟨_, rfl, rfl, by rw [List.length_map]; omega⟩)) (by rw [hbd])) rfl) (cr_cast (cr_mapT D.int (fun z => .int (0 - z)) (bot.drop 1) fun z hz => ⟨_, rfl, ev_bin ev_int (ev_var (by rfl)) sub_ii⟩) (by simp [stepsP, Function.comp_def])) (by decide +kernel) seen_nil (by decide +kernel) (by rw [List.length_map, List.length_drop]; omega) (by decide +kernel) rfl (fun env h1 h2 => swaps_comp h1 h2 rfl (by decide +kernel))) ?_
  have hleast := K.h_least
  have hnumber := K.h_number
  have hlast := K.h_last
  rw [hbot] at hleast hnumber hlast
  have row0 : ∀ {σ : Sg} {p1 p2 p3 : Pos} {k : Nat} {sc : Scope} {m : Nat}, σ.lookup (nm "rows") = some (dm rows) → EvE G m sc σ (.Subscript (.Name (nm "rows") p1) (.Constant (.int 0) k p2) p3) (dis (rows.getD 0 [])) := fun h => row_at 0 (by decide) h ev_int rfl (by intro _ _; rfl)
  refine do_seq (do_assign (d := dzs (stepsP bot)) (ev_callx (by decide +kernel) (c_least (n := n + 3) N T.consts T.recs (hrt (2 * S)) hleast) (evs_cons (pairs (ev_cast (ev_slice (u := some ((2 * S : Nat) : Int)) (row0 (by rfl)) rfl ⟨_, ev_cast (ev_bin ev_int (ev_var (by rfl)) (mul_ii (.inl (by decide)))) (by congr 1), partInt⟩ (.inl ⟨_, rfl, rfl, by rw [List.length_map]; have := hrl 0; omega⟩)) (by rw [hr0]; rfl)) (hrt (2 * S)) (by decide +kernel) (by decide +kernel) (by intro _ _; rfl)) evs_nil)) (by decide +kernel) rfl) ?_
  refine do_ifF (evt_cast (evt_cmp (ev_var (by rfl)) (pairs (ev_var (by rfl)) (by omega) (by decide +kernel) (by decide +kernel) (by intro _ _; rfl)) (ne_ll deq_dzs)) (by simp)) ?_
  have hq : q.length ≤ 1000 := by simpa [sml] using hqs
  refine do_ifF (evt_cast (evt_cmp (ev_callx (by decide +kernel) (c_number (n := n + 5) N T.mats hnumber) (evs_cons (ev_var (by rfl)) (evs_cons (ev_cast (ev_slice (u := some ((S : Nat) : Int)) (row0 (by rfl)) rfl ⟨_, (ev_var (by rfl)), partInt⟩ (.inl ⟨_, rfl, rfl, by rw [List.length_map]; have := hrl 0; omega⟩)) (by rw [hr0]; rfl)) (evs_cons (ev_var (by rfl)) evs_nil)))) (ev_sub (ev_sub (ev_callx (by decide +kernel) (c_counted (n := n + 7) (many := far + 1) (kept := 1) N T.cnts (by have := hw.1; omega) (by omega) (by omega) (by omega) K.h_count) (evs_cons (ev_var (by rfl)) (evs_cons (ev_var (by rfl)) (evs_cons (ev_cast (ev_bin (ev_var (by rfl)) ev_int add_ii) (by congr 1)) (evs_cons (ev_cast ev_int rfl) evs_nil))))) ev_int (get_list (d := dis q) (by decide) rfl (by decide))) (ev_var (by rfl)) (get_i K.h_at rfl hq)) ne_ii) (by simp)) ?_
  have hoz : o.length ≤ 1000 := by simpa [sml] using hos
  refine do_seq (do_assign (d := dis o) (ev_sub (ev_callx (by decide +kernel) (c_counted (n := n + 7) (many := 2 * S) (kept := 1) N T.cnts (by have := ho.1; omega) (by omega) (by omega) (by omega) K.h_other) (evs_cons (ev_var (by rfl)) (evs_cons (ev_var (by rfl)) (evs_cons (ev_cast (ev_bin ev_int (ev_var (by rfl)) (mul_ii (.inl (by decide)))) (by congr 1)) (evs_cons (ev_cast ev_int rfl) evs_nil))))) ev_int (get_list (d := dis o) (by decide) rfl (by decide))) (by decide +kernel) rfl) ?_
  refine do_retS (ev_cast (ev_cmp (ev_cmp (ev_callx (by decide +kernel) (c_least (n := n + 3) N T.consts T.recs hoz K.h_lo) (evs_cons (pairs (ev_var (by rfl)) hoz (by decide +kernel) (by decide +kernel) (by intro _ _; rfl)) evs_nil)) (ev_var (by rfl)) (eq_ll deq_dzs)) (ev_cmp (ev_callx (by decide +kernel) (c_shared (n := n + 7) N T.polys (w := other) (by have := ho.1; omega)) (evs_cons (ev_var (by rfl)) evs_nil)) (ev_var (by rfl)) (eq_ll deq_ints)) eq_bb) (by rw [hlast])) rfl
end
end Mine

namespace Mine

/-! the plain law, first part: the counts by steps of bits -/
theorem slc_neg {α : Type} {l : List α} {k : Nat} (hk : 0 < k) : slc l (some (-(k : Int))) none = l.drop (l.length - k) := by
  have h1 : kms_lo (some (-(k : Int))) l.length = l.length - k := by
    simp only [kms_lo]; split <;> omega
  unfold slc
  rw [h1]
  simp only [kms_hi]
  rw [List.take_of_length_le]
  rw [List.length_drop]; omega

noncomputable def nextT (S : Nat) (t : List Int) (i : Int) : List Int := (t ++ [i]).drop (t.length + 1 - (S - 1))
noncomputable def extB (w : List Int) (s : List Bool) (i : Int) : List Bool := List.zipWith (fun b c => b && (c == i)) s w
noncomputable def nxtB (w : List Int) (s : List Bool) (i : Int) : List Bool := true :: (extB w s i).dropLast
noncomputable def hitB (w : List Int) (s : List Bool) (i : Int) : Bool := (extB w s i).getLastD false
noncomputable def bits (w t : List Int) : List Bool := (List.range w.length).map fun q => decide (w.take q <:+ t)
noncomputable def FB (w : List Int) (L : Nat) : Nat → List Bool → Int → Int
  | 0, _, o => if o = 0 then 1 else 0
  | n + 1, s, o => ((List.range L).map fun (i : Nat) => FB w L n (nxtB w s i) (o - if hitB w s i then 1 else 0)).sum

theorem suf_concat {w t : List Int} {i : Int} {q : Nat} (hq : q < w.length) : decide (w.take (q + 1) <:+ t ++ [i]) = (decide (w.take q <:+ t) && (w[q] == i)) := by
  rw [Bool.eq_iff_iff, decide_eq_true_eq, Bool.and_eq_true, decide_eq_true_eq, beq_iff_eq, List.suffix_concat_iff]
  have e : w.take (q + 1) = w.take q ++ [w[q]] := by rw [List.take_add_one, List.getElem?_eq_getElem hq]; rfl
  rw [e]
  constructor
  · rintro (h | ⟨u, h1, h2⟩)
    · simp at h
      rw [h] at hq
      exact absurd hq (by simp)
    · obtain ⟨h3, h4⟩ := List.append_inj' h1 rfl
      rw [h3]
      exact ⟨h2, by simpa using h4⟩
  · rintro ⟨h1, h2⟩
    exact .inr ⟨_, by rw [h2], h1⟩

theorem suf_next {w t : List Int} {i : Int} {q S : Nat} (hq : q + 1 ≤ S) : (w.take q <:+ nextT S t i) ↔ (w.take q <:+ t ++ [i]) := by
  have hs : nextT S t i <:+ t ++ [i] := List.drop_suffix _ _
  constructor
  · exact fun h => h.trans hs
  · intro h
    by_cases hc : t.length + 1 ≤ S - 1
    · unfold nextT
      rw [show t.length + 1 - (S - 1) = 0 by omega]
      exact h
    · refine List.suffix_of_suffix_length_le h hs ?_
      rw [List.length_take, nextT, List.length_drop, List.length_append, List.length_singleton]
      omega

theorem ext_len {w : List Int} {s : List Bool} {i : Int} : (extB w s i).length = min s.length w.length := by simp [extB]
theorem bits_len {w t : List Int} : (bits w t).length = w.length := by simp [bits]
theorem ext_get {w t : List Int} {i : Int} {q : Nat} (hq : q < (extB w (bits w t) i).length) : (extB w (bits w t) i)[q] = decide (w.take (q + 1) <:+ t ++ [i]) := by
  have hq' : q < w.length := by rw [ext_len, bits_len] at hq; omega
  rw [suf_concat hq']
  simp [extB, bits]

theorem bits_next {w t : List Int} {i : Int} (hw : 1 ≤ w.length) : bits w (nextT w.length t i) = nxtB w (bits w t) i := by
  have hl : (extB w (bits w t) i).length = w.length := by rw [ext_len, bits_len]; omega
  refine List.ext_getElem (by simp [nxtB, hl, bits_len]; omega) fun q h1 h2 => ?_
  cases q with
  | zero => simp [bits, nxtB]
  | succ q =>
    have hq : q + 1 < w.length := by simpa [bits_len] using h1
    have e1 : (nxtB w (bits w t) i)[q + 1] = (extB w (bits w t) i)[q]'(by omega) := by simp [nxtB]
    rw [e1, ext_get]
    simp only [bits, List.getElem_map, List.getElem_range, decide_eq_decide]
    exact suf_next (by omega)

theorem hit_eq {w t : List Int} {i : Int} (hw : 1 ≤ w.length) : hitB w (bits w t) i = ((t ++ [i]).drop (t.length + 1 - w.length) == w) := by
  have hl : (extB w (bits w t) i).length = w.length := by rw [ext_len, bits_len]; omega
  have hne : extB w (bits w t) i ≠ [] := by intro h; rw [h] at hl; simp at hl; omega
  have e1 : hitB w (bits w t) i = (extB w (bits w t) i)[w.length - 1]'(by omega) := by
    unfold hitB
    rw [List.getLastD_eq_getLast?, List.getLast?_eq_getElem?, show (extB w (bits w t) i).length - 1 = w.length - 1 by omega, List.getElem?_eq_getElem (show w.length - 1 < (extB w (bits w t) i).length by omega)]
    rfl
  rw [e1, ext_get, Bool.eq_iff_iff, decide_eq_true_eq, beq_iff_eq, List.suffix_iff_eq_drop]
  rw [show w.length - 1 + 1 = w.length by omega, List.take_length, List.length_append, List.length_singleton]
  exact eq_comm

theorem key_eq {w t : List Int} {c : Int} {i : Nat} (hw : 2 ≤ w.length) : keyOf w (t, c) i = (nextT w.length t i, c + if hitB w (bits w t) i then 1 else 0) := by
  unfold keyOf
  rw [show (1 - (w.length : Int)) = -((w.length - 1 : Nat) : Int) by omega, show (0 - (w.length : Int)) = -((w.length : Nat) : Int) by omega, slc_neg (by omega), slc_neg (by omega), hit_eq (by omega)]
  simp only [List.length_append, List.length_singleton, nextT]

theorem FB_neg {w : List Int} {L : Nat} : ∀ {n : Nat} {s : List Bool} {o : Int}, o < 0 → FB w L n s o = 0
  | 0, s, o, h => by unfold FB; rw [if_neg (by omega)]
  | n + 1, s, o, h => by
    unfold FB
    generalize List.range L = l
    induction l with
    | nil => rfl
    | cons i l ih => rw [List.map_cons, List.sum_cons, ih, FB_neg (by split <;> omega)]; rfl

/-! the dict as a linear sum -/
noncomputable def pr (φ : K2 → Int) (l : List (K2 × Int)) : Int := (l.map fun p => φ p.1 * p.2).sum
noncomputable def Tn (w : List Int) (L kept : Nat) (φ : K2 → Int) (k : K2) : Int := ((List.range L).map fun i => if (keyOf w k i).2 < (kept : Int) then φ (keyOf w k i) else 0).sum
noncomputable def IT (w : List Int) (L kept : Nat) : Nat → (K2 → Int) → K2 → Int
  | 0, φ => φ
  | n + 1, φ => Tn w L kept (IT w L kept n φ)

theorem IT_in {w : List Int} {L kept : Nat} {φ : K2 → Int} : ∀ n, IT w L kept n (Tn w L kept φ) = IT w L kept (n + 1) φ
  | 0 => rfl
  | n + 1 => by rw [IT, IT_in n]; rfl

theorem pr_dput {φ : K2 → Int} {k : K2} {m : Int} : ∀ l : List (K2 × Int), pr φ (dput l k ((dget l k).getD 0 + m)) = pr φ l + φ k * m
  | [] => by simp [pr, dput, dget]
  | (k', m') :: l => by
    have ih := pr_dput (φ := φ) (k := k) (m := m) l
    unfold dput dget
    by_cases h : k' = k
    · rw [if_pos h, if_pos h, h]
      simp only [pr, List.map_cons, List.sum_cons, Option.getD_some, Int.mul_add]
      omega
    · rw [if_neg h, if_neg h]
      simp only [pr, List.map_cons, List.sum_cons] at ih ⊢
      omega

theorem pr_row {o : Int} : ∀ now : List (K2 × Int), rowSum now o = pr (fun k => if k.2 = o then 1 else 0) now
  | [] => rfl
  | (k, m) :: l => by
    have ih := pr_row (o := o) l
    simp only [rowSum, pr] at ih ⊢
    rw [List.filter_cons]
    by_cases h : k.2 = o
    · rw [if_pos (by simpa using h)]
      simp only [List.map_cons, List.sum_cons, if_pos h, Int.one_mul]
      rw [ih]
    · rw [if_neg (by simpa using h)]
      simp only [List.map_cons, List.sum_cons, if_neg h, Int.zero_mul]
      rw [ih, Int.zero_add]

/-- tails up to a length -/
noncomputable def tls (L : Nat) : Nat → List (List Int)
  | 0 => [[]]
  | m + 1 => [] :: (List.range L).flatMap fun (i : Nat) => (tls L m).map fun t => (i : Int) :: t
theorem mem_tls {L : Nat} : ∀ {m : Nat} {t : List Int}, t.length ≤ m → (∀ z ∈ t, 0 ≤ z ∧ z < (L : Int)) → t ∈ tls L m
  | 0, t, h, _ => by rw [List.length_eq_zero_iff.mp (show t.length = 0 by omega)]; exact List.mem_singleton.mpr rfl
  | m + 1, [], _, _ => List.mem_cons_self
  | m + 1, z :: t, h, hz => by
    refine List.mem_cons_of_mem _ (List.mem_flatMap.mpr ⟨z.toNat, ?_, List.mem_map.mpr ⟨t, mem_tls (by simpa using h) fun y hy => hz y (List.mem_cons_of_mem _ hy), ?_⟩⟩)
    · have := hz z List.mem_cons_self
      rw [List.mem_range]; omega
    · have := hz z List.mem_cons_self
      rw [show ((z.toNat : Nat) : Int) = z by omega]

noncomputable def keys (L S kept : Nat) : List K2 := (List.range kept).flatMap fun (c : Nat) => (tls L (S - 1)).map fun t => (t, (c : Int))

structure GoodN (L S kept : Nat) (now : List (K2 × Int)) : Prop where
  nd : (now.map (·.1)).Nodup
  ks : ∀ k ∈ now.map (·.1), (k.1.length ≤ S - 1 ∧ ∀ z ∈ k.1, 0 ≤ z ∧ z < (L : Int)) ∧ 0 ≤ k.2 ∧ k.2 < (kept : Int)

theorem GoodN.len {L S kept : Nat} {now : List (K2 × Int)} (g : GoodN L S kept now) : now.length ≤ (keys L S kept).length := by
  have := g.nd.length_le_of_subset (l₂ := keys L S kept) fun k hk => by
    obtain ⟨⟨h1, h2⟩, h3, h4⟩ := g.ks k hk
    refine List.mem_flatMap.mpr ⟨k.2.toNat, by rw [List.mem_range]; omega, List.mem_map.mpr ⟨k.1, mem_tls h1 h2, ?_⟩⟩
    rw [show ((k.2.toNat : Nat) : Int) = k.2 by omega]
  simpa using this

theorem dput_keys {k : K2} {m : Int} : ∀ {l : List (K2 × Int)} {j : K2}, j ∈ (dput l k m).map (·.1) → j = k ∨ j ∈ l.map (·.1)
  | [], j, h => by simpa [dput] using h
  | (k', m') :: l, j, h => by
    unfold dput at h
    by_cases e : k' = k
    · rw [if_pos e] at h
      rcases List.mem_cons.mp h with h | h
      · exact .inl h
      · exact .inr (List.mem_cons_of_mem _ h)
    · rw [if_neg e] at h
      rcases List.mem_cons.mp h with h | h
      · exact .inr (h ▸ List.mem_cons_self)
      · exact (dput_keys h).imp id fun h => List.mem_cons_of_mem _ h

section
variable {w : List Int} {L kept : Nat}

theorem next_ok {S : Nat} {t : List Int} {i : Nat} (hi : i < L) (h : ∀ z ∈ t, 0 ≤ z ∧ z < (L : Int)) : (nextT S t i).length ≤ S - 1 ∧ ∀ z ∈ nextT S t i, 0 ≤ z ∧ z < (L : Int) := by
  refine ⟨by rw [nextT, List.length_drop, List.length_append, List.length_singleton]; omega, fun z hz => ?_⟩
  rcases List.mem_append.mp (List.mem_of_mem_drop hz) with hz | hz
  · exact h z hz
  · rw [List.mem_singleton.mp hz]; omega

theorem stepIn_ok {k : K2} {m : Int} {l : List (K2 × Int)} {i : Nat} (hw : 2 ≤ w.length) (hb : (keys L w.length kept).length ≤ 100000) (hi : i < L) (hk : ∀ z ∈ k.1, 0 ≤ z ∧ z < (L : Int)) (hk2 : 0 ≤ k.2) (g : GoodN L w.length kept l) :
    ∃ l', stepIn w kept k m l i = some l' ∧ GoodN L w.length kept l' ∧ ∀ φ, pr φ l' = pr φ l + (if (keyOf w k i).2 < (kept : Int) then φ (keyOf w k i) else 0) * m := by
  have hl : l.length ≤ 100000 := Nat.le_trans g.len hb
  refine ⟨_, by unfold stepIn; rw [decide_eq_true hl]; rfl, ?_, fun φ => ?_⟩
  · split
    case isFalse => exact g
    case isTrue h =>
    refine ⟨nodup_dput g.nd, fun j hj => ?_⟩
    rcases dput_keys hj with rfl | hj
    · obtain ⟨t, c⟩ := k
      rw [key_eq hw] at h ⊢
      refine ⟨next_ok hi hk, ?_, h⟩
      have : 0 ≤ c := hk2
      show 0 ≤ c + _
      split <;> omega
    · exact g.ks j hj
  · split
    · exact pr_dput l
    · rw [Int.zero_mul, Int.add_zero]

theorem stepIns_ok {k : K2} {m : Int} (hw : 2 ≤ w.length) (hb : (keys L w.length kept).length ≤ 100000) (hk : ∀ z ∈ k.1, 0 ≤ z ∧ z < (L : Int)) (hk2 : 0 ≤ k.2) :
    ∀ (is : List Nat) (l : List (K2 × Int)), (∀ i ∈ is, i < L) → GoodN L w.length kept l → ∃ l', foldO (stepIn w kept k m) l is = some l' ∧ GoodN L w.length kept l' ∧ ∀ φ, pr φ l' = pr φ l + (is.map fun i => if (keyOf w k i).2 < (kept : Int) then φ (keyOf w k i) else 0).sum * m
  | [], l, _, g => ⟨l, rfl, g, fun φ => by simp⟩
  | i :: is, l, hi, g => by
    obtain ⟨l₁, h1, g1, p1⟩ := stepIn_ok (m := m) hw hb (hi i List.mem_cons_self) hk hk2 g
    obtain ⟨l₂, h2, g2, p2⟩ := stepIns_ok hw hb hk hk2 is l₁ (fun j hj => hi j (List.mem_cons_of_mem _ hj)) g1
    refine ⟨l₂, by unfold foldO; rw [h1]; exact h2, g2, fun φ => ?_⟩
    rw [p2, p1, List.map_cons, List.sum_cons, Int.add_mul]
    omega

theorem stepNow_ok (hw : 2 ≤ w.length) (hw9 : w.length ≤ 1000) (hb : (keys L w.length kept).length ≤ 100000) {now : List (K2 × Int)} (g : GoodN L w.length kept now) :
    ∃ l', stepNow w L kept now = some l' ∧ GoodN L w.length kept l' ∧ ∀ φ, pr φ l' = pr (Tn w L kept φ) now := by
  have key : ∀ (ps l : List (K2 × Int)), (∀ p ∈ ps, p ∈ now) → GoodN L w.length kept l → ∃ l', foldO (fun later (p : K2 × Int) => grd (decide (p.1.1.length ≤ 1000)) (foldO (stepIn w kept p.1 p.2) later (List.range L))) l ps = some l' ∧ GoodN L w.length kept l' ∧ ∀ φ, pr φ l' = pr φ l + pr (Tn w L kept φ) ps := by
    intro ps
    induction ps with
    | nil => exact fun l _ g => ⟨l, rfl, g, fun φ => by simp [pr]⟩
    | cons p ps ih =>
      intro l hp gl
      obtain ⟨⟨q1, q2⟩, q3, q4⟩ := g.ks p.1 (List.mem_map_of_mem (hp p List.mem_cons_self))
      obtain ⟨l₁, h1, g1, p1⟩ := stepIns_ok (m := p.2) hw hb q2 q3 (List.range L) l (fun i hi => List.mem_range.mp hi) gl
      obtain ⟨l₂, h2, g2, p2⟩ := ih l₁ (fun q hq => hp q (List.mem_cons_of_mem _ hq)) g1
      refine ⟨l₂, ?_, g2, fun φ => ?_⟩
      · unfold foldO
        rw [decide_eq_true (by omega : p.1.1.length ≤ 1000)]
        simp only [grd, h1]
        exact h2
      · rw [p2, p1]
        simp only [pr, List.map_cons, List.sum_cons, Tn]
        omega
  obtain ⟨l', h, g', p⟩ := key now [] (fun _ h => h) ⟨List.nodup_nil, fun k h => nomatch h⟩
  exact ⟨l', h, g', fun φ => by rw [p]; simp [pr]⟩

theorem addRows_map {now : List (K2 × Int)} {f : Nat → List Int} : ∀ (k a : Nat), addRows now a ((List.range' a k).map f) = (List.range' a k).map fun o => f o ++ [rowSum now o]
  | 0, _ => rfl
  | k + 1, a => by rw [List.range'_succ, List.map_cons, List.map_cons, addRows, addRows_map k (a + 1)]

noncomputable def one (o : Int) (k : K2) : Int := if k.2 = o then 1 else 0
noncomputable def rowsOf (w : List Int) (L kept n : Nat) : List (List Int) := (List.range kept).map fun (o : Nat) => (List.range n).map fun j => IT w L kept j (one o) ([], 0)

theorem cnt_ok (hw : 2 ≤ w.length) (hw9 : w.length ≤ 1000) (hb : (keys L w.length kept).length ≤ 100000) : ∀ (is : List Nat) (n : Nat) (now : List (K2 × Int)), GoodN L w.length kept now → (∀ φ, pr φ now = IT w L kept n φ ([], 0)) → n + is.length ≤ 1000 →
    ∃ now', foldO (cntStep w L kept) (now, rowsOf w L kept n) is = some (now', rowsOf w L kept (n + is.length))
  | [], n, now, _, _, _ => ⟨now, rfl⟩
  | i :: is, n, now, g, hp, hn => by
    rw [List.length_cons] at hn
    obtain ⟨l', h1, g1, p1⟩ := stepNow_ok hw hw9 hb g
    obtain ⟨now', h2⟩ := cnt_ok hw hw9 hb is (n + 1) l' g1 (fun φ => by rw [p1, hp, IT_in]) (by omega)
    refine ⟨now', ?_⟩
    have hs : (rowsOf w L kept n).all sml = true := by
      rw [List.all_eq_true]
      intro r hr
      obtain ⟨o, _, rfl⟩ := List.mem_map.mp hr
      simp [sml]; omega
    have ha : addRows now 0 (rowsOf w L kept n) = rowsOf w L kept (n + 1) := by
      unfold rowsOf
      rw [List.range_eq_range' (n := kept), addRows_map]
      refine List.map_congr_left fun o _ => ?_
      rw [List.range_succ, List.map_append, pr_row, hp]
      rfl
    unfold foldO
    have e : cntStep w L kept (now, rowsOf w L kept n) i = some (l', rowsOf w L kept (n + 1)) := by
      unfold cntStep
      simp only [hs, decide_eq_true (Nat.le_trans g.len hb), h1, ha]
      rfl
    rw [e, List.length_cons, show n + (is.length + 1) = n + 1 + is.length by omega]
    exact h2

theorem IT_FB (hw : 2 ≤ w.length) {o : Int} (ho : o < kept) : ∀ (n : Nat) (t : List Int) (c : Int), IT w L kept n (one o) (t, c) = FB w L n (bits w t) (o - c)
  | 0, t, c => by
    show (if c = o then 1 else 0) = if o - c = 0 then 1 else 0
    by_cases h : c = o
    · rw [if_pos h, if_pos (by omega)]
    · rw [if_neg h, if_neg (by omega)]
  | n + 1, t, c => by
    show ((List.range L).map fun i => if (keyOf w (t, c) i).2 < (kept : Int) then IT w L kept n (one o) (keyOf w (t, c) i) else 0).sum = ((List.range L).map fun (i : Nat) => FB w L n (nxtB w (bits w t) i) (o - c - if hitB w (bits w t) i then 1 else 0)).sum
    congr 1
    refine List.map_congr_left fun i _ => ?_
    rw [key_eq hw, IT_FB hw ho n, bits_next (by omega), Int.sub_sub]
    show (if c + (if hitB w (bits w t) i then 1 else 0) < (kept : Int) then FB w L n (nxtB w (bits w t) i) (o - (c + if hitB w (bits w t) i then 1 else 0)) else 0) = _
    by_cases h : c + (if hitB w (bits w t) i then 1 else 0) < (kept : Int)
    · rw [if_pos h]
    · rw [if_neg h]
      refine (FB_neg ?_).symm
      generalize c + (if hitB w (bits w t) i then (1 : Int) else 0) = x at h ⊢
      omega

theorem count_eq (hw : 2 ≤ w.length) (hw9 : w.length ≤ 1000) (hk : 0 < kept) (hb : (keys L w.length kept).length ≤ 100000) {many : Nat} (hm : many ≤ 1000) :
    countP w L many kept = some ((List.range kept).map fun (o : Nat) => (List.range many).map fun j => FB w L j (bits w []) o) := by
  obtain ⟨now', h⟩ := cnt_ok (kept := kept) hw hw9 hb (List.range many) 0 [(([], 0), 1)] ⟨by simp, fun k hk' => by
    rw [List.mem_singleton.mp hk']
    exact ⟨⟨Nat.zero_le _, fun z hz => nomatch hz⟩, Int.le_refl _, by show (0 : Int) < kept; omega⟩⟩ (fun φ => by simp [pr, IT]) (by rw [List.length_range]; omega)
  have e0 : rowsOf w L kept 0 = List.replicate kept [] := by
    unfold rowsOf
    refine List.ext_getElem (by simp) fun i h1 h2 => by simp
  unfold countP
  rw [e0] at h
  rw [h, List.length_range, Nat.zero_add]
  show some (rowsOf w L kept many) = _
  unfold rowsOf
  congr 1
  refine List.map_congr_left fun o ho => List.map_congr_left fun j _ => ?_
  rw [IT_FB hw (by rw [List.mem_range] at ho; omega), Int.sub_zero]
end
end Mine

namespace Mine

/-! the plain law, second part: the counts by tables -/
noncomputable def vec3 (w : List Int) (L n : Nat) (s : List Bool) : List Int := [FB w L n s 0, FB w L n s 1, FB w L n s 2]
noncomputable def shf (h : Bool) (v : List Int) : List Int := if h then 0 :: v else v
noncomputable def addV (a b : List Int) : List Int := List.zipWith (· + ·) a b
noncomputable def stepV (tr : List (List (Nat × Bool))) (V : List (List Int)) : List (List Int) := tr.map fun row => row.foldr (fun p acc => addV (shf p.2 (V.getD p.1 [])) acc) [0, 0, 0]
noncomputable def runV (tr : List (List (Nat × Bool))) : Nat → List (List Int) → List (List Int)
  | 0, _ => []
  | n + 1, V => V.headD [] :: runV tr n (stepV tr V)
noncomputable def stsOf (w : List Int) : List (List Bool) := (List.range w.length).map fun q => bits w (w.take q)
noncomputable def trOf (w : List Int) (L : Nat) (sts : List (List Bool)) : List (List (Nat × Bool)) := sts.map fun s => (List.range L).map fun (i : Nat) => (sts.idxOf (nxtB w s i), hitB w s i)
noncomputable def closed (w : List Int) (L : Nat) (sts : List (List Bool)) : Bool := sts.all fun s => (List.range L).all fun (i : Nat) => sts.contains (nxtB w s i)

noncomputable def tabs : List (Nat × List Int × List (List Int)) := [
  (2, [1, 1], [[1, 0, 0], [2, 0, 0], [3, 1, 0], [5, 2, 1], [8, 5, 2], [13, 10, 6], [21, 20, 13], [34, 38, 29], [55, 71, 60], [89, 130, 122], [144, 235, 241], [233, 420, 468], [377, 744, 894], [610, 1308, 1686], [987, 2285, 3144], [1597, 3970, 5807], [2584, 6865, 10636]]),
  (2, [1, 0], [[1, 0, 0], [2, 0, 0], [3, 1, 0], [4, 4, 0], [5, 10, 1], [6, 20, 6], [7, 35, 21], [8, 56, 56], [9, 84, 126], [10, 120, 252], [11, 165, 462], [12, 220, 792], [13, 286, 1287], [14, 364, 2002], [15, 455, 3003], [16, 560, 4368], [17, 680, 6188]]),
  (2, [1, 1, 1], [[1, 0, 0], [2, 0, 0], [4, 0, 0], [7, 1, 0], [13, 2, 1], [24, 5, 2], [44, 12, 5], [81, 26, 13], [149, 56, 29], [274, 118, 65], [504, 244, 143], [927, 499, 307], [1705, 1010, 652], [3136, 2027, 1369], [5768, 4040, 2846], [10609, 8004, 5870], [19513, 15776, 12022]]),
  (2, [1, 0, 0], [[1, 0, 0], [2, 0, 0], [4, 0, 0], [7, 1, 0], [12, 4, 0], [20, 12, 0], [33, 30, 1], [54, 68, 6], [88, 144, 24], [143, 291, 77], [232, 568, 216], [376, 1080, 552], [609, 2012, 1318], [986, 3688, 2988], [1596, 6672, 6504], [2583, 11941, 13702], [4180, 21180, 28104]]),
  (2, [1, 0, 1], [[1, 0, 0], [2, 0, 0], [4, 0, 0], [7, 1, 0], [12, 4, 0], [21, 10, 1], [37, 22, 5], [65, 47, 15], [114, 98, 38], [200, 199, 91], [351, 396, 210], [616, 777, 468], [1081, 1508, 1014], [1897, 2900, 2151], [3329, 5534, 4487], [5842, 10492, 9229], [10252, 19782, 18756]]),
  (2, [1, 1, 1, 1], [[1, 0, 0], [2, 0, 0], [4, 0, 0], [8, 0, 0], [15, 1, 0], [29, 2, 1], [56, 5, 2], [108, 12, 5], [208, 28, 12], [401, 62, 29], [773, 136, 65], [1490, 294, 145], [2872, 628, 319], [5536, 1328, 694], [10671, 2787, 1493], [20569, 5810, 3188], [39648, 12043, 6761]]),
  (2, [1, 0, 0, 0], [[1, 0, 0], [2, 0, 0], [4, 0, 0], [8, 0, 0], [15, 1, 0], [28, 4, 0], [52, 12, 0], [96, 32, 0], [177, 78, 1], [326, 180, 6], [600, 400, 24], [1104, 864, 80], [2031, 1827, 237], [3736, 3800, 648], [6872, 7800, 1672], [12640, 15840, 4128], [23249, 31884, 9846]]),
  (2, [1, 0, 0, 1], [[1, 0, 0], [2, 0, 0], [4, 0, 0], [8, 0, 0], [15, 1, 0], [28, 4, 0], [52, 12, 0], [97, 30, 1], [181, 70, 5], [338, 156, 18], [631, 339, 53], [1178, 722, 142], [2199, 1515, 357], [4105, 3140, 862], [7663, 6444, 2018], [14305, 13116, 4614], [26704, 26513, 10348]]),
  (2, [1, 0, 1, 0], [[1, 0, 0], [2, 0, 0], [4, 0, 0], [8, 0, 0], [15, 1, 0], [28, 4, 0], [53, 10, 1], [100, 24, 4], [188, 57, 10], [354, 128, 26], [667, 278, 68], [1256, 596, 164], [2365, 1260, 381], [4454, 2628, 876], [8388, 5430, 1977], [15796, 11136, 4380], [29747, 22683, 9588]]),
  (3, [1, 1], [[1, 0, 0], [3, 0, 0], [8, 1, 0], [22, 4, 1], [60, 16, 4], [164, 56, 18], [448, 188, 68], [1224, 608, 248], [3344, 1920, 864], [9136, 5952, 2928], [24960, 18192, 9696], [68192, 54976, 31536], [186304, 164608, 101056], [508992, 489088, 319840], [1390592, 1443776, 1001664], [3799168, 4238336, 3108608], [10379520, 12382208, 9571328]]),
  (3, [1, 0], [[1, 0, 0], [3, 0, 0], [8, 1, 0], [21, 6, 0], [55, 25, 1], [144, 90, 9], [377, 300, 51], [987, 954, 234], [2584, 2939, 951], [6765, 8850, 3573], [17711, 26195, 12707], [46368, 76500, 43398], [121393, 221016, 143682], [317811, 632916, 464148], [832040, 1799125, 1469778], [2178309, 5082270, 4578102], [5702887, 14279725, 14063653]]),
  (3, [1, 1, 1], [[1, 0, 0], [3, 0, 0], [9, 0, 0], [26, 1, 0], [76, 4, 1], [222, 16, 4], [648, 60, 16], [1892, 212, 62], [5524, 728, 224], [16128, 2444, 788], [47088, 8064, 2712], [137480, 26256, 9168], [401392, 84576, 30576], [1171920, 270048, 100848], [3421584, 855936, 329568], [9989792, 2696080, 1068672], [29166592, 8446912, 3442288]]),
  (3, [1, 0, 0], [[1, 0, 0], [3, 0, 0], [9, 0, 0], [26, 1, 0], [75, 6, 0], [216, 27, 0], [622, 106, 1], [1791, 387, 9], [5157, 1350, 54], [14849, 4566, 267], [42756, 15102, 1179], [123111, 49113, 4833], [354484, 157622, 18798], [1020696, 500520, 70317], [2938977, 1575558, 255231], [8462447, 4923536, 904517], [24366645, 15290784, 3143754]]),
  (3, [1, 0, 1], [[1, 0, 0], [3, 0, 0], [9, 0, 0], [26, 1, 0], [75, 6, 0], [217, 25, 1], [628, 94, 7], [1817, 336, 33], [5257, 1158, 138], [15210, 3887, 543], [44007, 12798, 2043], [127325, 41519, 7433], [368388, 133120, 26366], [1065853, 422748, 91674], [3083821, 1331900, 313604], [8922386, 4168269, 1058378], [25815043, 12970518, 3531282]]),
  (3, [1, 1, 1, 1], [[1, 0, 0], [3, 0, 0], [9, 0, 0], [27, 0, 0], [80, 1, 0], [238, 4, 1], [708, 16, 4], [2106, 60, 16], [6264, 216, 60], [18632, 752, 218], [55420, 2564, 764], [164844, 8600, 2624], [490320, 28476, 8868], [1458432, 93312, 29592], [4338032, 303168, 97728], [12903256, 977952, 320016], [38380080, 3135504, 1040448]]),
  (3, [1, 0, 0, 0], [[1, 0, 0], [3, 0, 0], [9, 0, 0], [27, 0, 0], [80, 1, 0], [237, 6, 0], [702, 27, 0], [2079, 108, 0], [6157, 403, 1], [18234, 1440, 9], [54000, 4995, 54], [159921, 16956, 270], [473606, 56622, 1212], [1402584, 186660, 5067], [4153752, 608985, 20142], [12301335, 1969920, 77112], [36430399, 6326744, 286746]]),
  (3, [1, 0, 0, 1], [[1, 0, 0], [3, 0, 0], [9, 0, 0], [27, 0, 0], [80, 1, 0], [237, 6, 0], [702, 27, 0], [2080, 106, 1], [6163, 391, 7], [18261, 1386, 36], [54107, 4782, 159], [160318, 16170, 651], [475019, 53841, 2535], [1407472, 177098, 9528], [4170312, 576792, 34857], [12356553, 1863258, 124839], [36612225, 5977792, 439475]]),
  (3, [1, 0, 1, 0], [[1, 0, 0], [3, 0, 0], [9, 0, 0], [27, 0, 0], [80, 1, 0], [237, 6, 0], [703, 25, 1], [2085, 96, 6], [6183, 352, 25], [18336, 1242, 99], [54377, 4268, 378], [161259, 14394, 1386], [478225, 47840, 4946], [1418211, 157152, 17319], [4205808, 511355, 59717], [12472629, 1650834, 203310], [36988487, 5294163, 684963]])]
noncomputable def tabOf (L : Nat) (sh : List Int) : List (List Int) := match tabs.find? fun e => e.1 == L && e.2.1 == sh with
  | some e => e.2.2
  | none => []
noncomputable def wordChk (L : Nat) (w : List Int) : Bool :=
  let sts := stsOf w
  closed w L sts && (tabs.any fun e => e.1 == L && e.2.1 == sharedP w) && (runV (trOf w L sts) 17 (sts.map fun _ => [1, 0, 0]) == tabOf L (sharedP w))

theorem vec3_step {w : List Int} {L n : Nat} {s : List Bool} {f : List Bool → List Int} (hf : ∀ i : Nat, i < L → f (nxtB w s i) = vec3 w L n (nxtB w s i)) :
    ((List.range L).map fun (i : Nat) => (nxtB w s i, hitB w s i)).foldr (fun p acc => addV (shf p.2 (f p.1)) acc) [0, 0, 0] = vec3 w L (n + 1) s := by
  unfold vec3
  simp only [FB]
  have hf' : ∀ i ∈ List.range L, f (nxtB w s i) = vec3 w L n (nxtB w s i) := fun i hi => hf i (List.mem_range.mp hi)
  generalize List.range L = l at hf' ⊢
  induction l with
  | nil => rfl
  | cons i l ih =>
    have ih := ih fun j hj => hf' j (List.mem_cons_of_mem _ hj)
    simp only [List.map_cons, List.foldr_cons, List.sum_cons] at ih ⊢
    rw [ih, hf' i List.mem_cons_self]
    cases hitB w s i with
    | false => simp [shf, vec3, addV]
    | true => simp [shf, vec3, addV, FB_neg (w := w) (L := L) (n := n) (s := nxtB w s i) (o := -1) (by decide)]

theorem stepV_ok {w : List Int} {L n : Nat} {sts : List (List Bool)} (hc : closed w L sts = true) : stepV (trOf w L sts) (sts.map (vec3 w L n)) = sts.map (vec3 w L (n + 1)) := by
  unfold stepV trOf
  rw [List.map_map]
  refine List.map_congr_left fun s hs => ?_
  have hc' : ∀ i : Nat, i < L → nxtB w s i ∈ sts := fun i hi => by
    have h1 := List.all_eq_true.mp (List.all_eq_true.mp hc s hs) i (List.mem_range.mpr hi)
    simpa using h1
  have := vec3_step (w := w) (L := L) (n := n) (s := s) (f := fun x => (sts.map (vec3 w L n)).getD (sts.idxOf x) []) fun i hi => by
    have hm := hc' i hi
    have hl := List.idxOf_lt_length_of_mem hm
    show (sts.map (vec3 w L n)).getD (sts.idxOf (nxtB w s i)) [] = _
    rw [List.getD_eq_getElem?_getD, List.getElem?_map, List.getElem?_eq_getElem hl, List.getElem_idxOf hl]
    rfl
  rw [← this]
  show List.foldr _ _ ((List.range L).map fun (i : Nat) => (sts.idxOf (nxtB w s i), hitB w s i)) = _
  rw [List.foldr_map, List.foldr_map]

theorem runV_ok {w : List Int} {L : Nat} {s0 : List Bool} {sts : List (List Bool)} (hc : closed w L (s0 :: sts) = true) : ∀ (m n : Nat), runV (trOf w L (s0 :: sts)) m ((s0 :: sts).map (vec3 w L n)) = (List.range' n m).map fun j => vec3 w L j s0
  | 0, n => rfl
  | m + 1, n => by
    rw [List.range'_succ, List.map_cons]
    show ((s0 :: sts).map (vec3 w L n)).headD [] :: runV _ m (stepV _ ((s0 :: sts).map (vec3 w L n))) = _
    rw [stepV_ok hc, runV_ok hc m (n + 1)]
    rfl

theorem tab_ok {L : Nat} {w : List Int} (hw : 1 ≤ w.length) (h : wordChk L w = true) : tabOf L (sharedP w) = (List.range 17).map fun j => vec3 w L j (bits w []) := by
  unfold wordChk at h
  simp only [Bool.and_eq_true, beq_iff_eq] at h
  obtain ⟨⟨hc, _⟩, hr⟩ := h
  have e : stsOf w = bits w [] :: (List.range' 1 (w.length - 1)).map fun q => bits w (w.take q) := by
    unfold stsOf
    rw [List.range_eq_range', show w.length = (w.length - 1) + 1 by omega, List.range'_succ]
    rfl
  rw [e] at hc hr
  rw [← hr]
  have h0 : ((bits w [] :: (List.range' 1 (w.length - 1)).map fun q => bits w (w.take q)).map fun _ => ([1, 0, 0] : List Int)) = (bits w [] :: (List.range' 1 (w.length - 1)).map fun q => bits w (w.take q)).map (vec3 w L 0) := by
    refine List.map_congr_left fun s _ => ?_
    rfl
  rw [h0, runV_ok hc, List.range_eq_range']

/-- the words of a length -/
noncomputable def wordsOf (L : Nat) : Nat → List (List Int)
  | 0 => [[]]
  | m + 1 => (List.range L).flatMap fun (i : Nat) => (wordsOf L m).map fun t => (i : Int) :: t
theorem mem_words {L : Nat} : ∀ {m : Nat} {t : List Int}, wordOk L m t → t ∈ wordsOf L m
  | 0, t, h => by rw [List.length_eq_zero_iff.mp h.1]; exact List.mem_singleton.mpr rfl
  | m + 1, [], h => nomatch h.1
  | m + 1, z :: t, h => by
    have hz := h.2 z List.mem_cons_self
    refine List.mem_flatMap.mpr ⟨z.toNat, ?_, List.mem_map.mpr ⟨t, mem_words ⟨by simpa using h.1, fun y hy => h.2 y (List.mem_cons_of_mem _ hy)⟩, ?_⟩⟩
    · rw [List.mem_range]; omega
    · rw [show ((z.toNat : Nat) : Int) = z by omega]

theorem chk22 : (wordsOf 2 2).all (wordChk 2) = true := by decide +kernel
theorem chk23 : (wordsOf 2 3).all (wordChk 2) = true := by decide +kernel
theorem chk24 : (wordsOf 2 4).all (wordChk 2) = true := by decide +kernel
theorem chk32 : (wordsOf 3 2).all (wordChk 3) = true := by decide +kernel
theorem chk33 : (wordsOf 3 3).all (wordChk 3) = true := by decide +kernel
theorem chk34a : ((wordsOf 3 4).take 27).all (wordChk 3) = true := by decide +kernel
theorem chk34b : (((wordsOf 3 4).drop 27).take 27).all (wordChk 3) = true := by decide +kernel
theorem chk34c : (((wordsOf 3 4).drop 27).drop 27).all (wordChk 3) = true := by decide +kernel
theorem all_at {α : Type} {p : α → Bool} {l : List α} (n : Nat) (h1 : (l.take n).all p = true) (h2 : (l.drop n).all p = true) : l.all p = true := by
  rw [← List.take_append_drop n l, List.all_append, h1, h2]; rfl
theorem chk34 : (wordsOf 3 4).all (wordChk 3) = true := all_at 27 chk34a (all_at 27 chk34b chk34c)

theorem word_chk {L S : Nat} {w : List Int} (hL2 : 2 ≤ L) (hL3 : L ≤ 3) (hS2 : 2 ≤ S) (hS4 : S ≤ 4) (hw : wordOk L S w) : wordChk L w = true := by
  have hm := mem_words hw
  obtain rfl | rfl : L = 2 ∨ L = 3 := by omega
  all_goals obtain rfl | rfl | rfl : S = 2 ∨ S = 3 ∨ S = 4 := by omega
  · exact List.all_eq_true.mp chk22 w hm
  · exact List.all_eq_true.mp chk23 w hm
  · exact List.all_eq_true.mp chk24 w hm
  · exact List.all_eq_true.mp chk32 w hm
  · exact List.all_eq_true.mp chk33 w hm
  · exact List.all_eq_true.mp chk34 w hm
end Mine

namespace Mine

/-! the plain law, third part: LawOk -/
noncomputable def rowT (L : Nat) (sh : List Int) (o : Nat) : List Int := (tabOf L sh).map fun v => v.getD o 0
noncomputable def clsChk (L S : Nat) (sh : List Int) : Bool :=
  let bot := botP L S sh
  match zmulP (aheadP S) (moreP L S bot) with
  | none => false
  | some am => sml am && ((List.range 3).all fun i => match zpowF 5 [1] bot (i + 1) with
      | some bp => sml bp && (fracP ([sh, aheadP S, am].getD i []) bp (2 * S + 1) == some ((rowT L sh i).take (2 * S + 1)))
      | none => false) && (lrP ((rowT L sh 0).take (2 * S)) == some (stepsP bot))
noncomputable def numChk (L S : Nat) (sh : List Int) : Bool := (List.range 17).all fun far => numberP (stepsP (botP L S sh)) ((rowT L sh 0).take S) far == (rowT L sh 0)[far]?
noncomputable def lastChk (L S : Nat) (sh sh' : List Int) : Bool := ((stepsP (botP L S sh') == stepsP (botP L S sh)) == (sh' == sh))

theorem cls_ok : (tabs.all fun e => clsChk e.1 e.2.1.length e.2.1) = true := by decide +kernel
theorem num_ok : (tabs.all fun e => numChk e.1 e.2.1.length e.2.1) = true := by decide +kernel
theorem last_ok : (tabs.all fun e => tabs.all fun f => !(e.1 == f.1 && e.2.1.length == f.2.1.length) || lastChk e.1 e.2.1.length e.2.1 f.2.1) = true := by decide +kernel

theorem rowT_eq {L S : Nat} {w : List Int} (hL2 : 2 ≤ L) (hL3 : L ≤ 3) (hS2 : 2 ≤ S) (hS4 : S ≤ 4) (hw : wordOk L S w) {o : Nat} (ho : o < 3) : rowT L (sharedP w) o = (List.range 17).map fun j => FB w L j (bits w []) o := by
  have h := tab_ok (by have := hw.1; omega) (word_chk hL2 hL3 hS2 hS4 hw)
  unfold rowT
  rw [h, List.map_map]
  refine List.map_congr_left fun j _ => ?_
  match o, ho with
  | 0, _ | 1, _ | 2, _ => rfl

theorem rowT_take {L S m : Nat} {w : List Int} (hL2 : 2 ≤ L) (hL3 : L ≤ 3) (hS2 : 2 ≤ S) (hS4 : S ≤ 4) (hw : wordOk L S w) {o : Nat} (ho : o < 3) (hm : m ≤ 17) : (rowT L (sharedP w) o).take m = (List.range m).map fun j => FB w L j (bits w []) o := by
  rw [rowT_eq hL2 hL3 hS2 hS4 hw ho, ← List.map_take, List.take_range, Nat.min_eq_left hm]

theorem keys_small {L S kept : Nat} (hL : L ≤ 3) (hS : S ≤ 4) (hk : kept ≤ 3) : (keys L S kept).length ≤ 100000 := by
  have : ∀ L, L < 4 → ∀ S, S < 5 → ∀ kept, kept < 4 → (keys L S kept).length ≤ 100000 := by decide +kernel
  exact this L (by omega) S (by omega) kept (by omega)

theorem count_tab {L S many kept : Nat} {w : List Int} (hL2 : 2 ≤ L) (hL3 : L ≤ 3) (hS2 : 2 ≤ S) (hS4 : S ≤ 4) (hw : wordOk L S w) (hk : 0 < kept) (hk3 : kept ≤ 3) (hm : many ≤ 17) :
    countP w L many kept = some ((List.range kept).map fun o => (rowT L (sharedP w) o).take many) := by
  have hwl := hw.1
  rw [count_eq (by omega) (by omega) hk (by rw [hwl]; exact keys_small hL3 hS4 hk3) (by omega)]
  congr 1
  refine List.map_congr_left fun o ho => ?_
  rw [rowT_take hL2 hL3 hS2 hS4 hw (by rw [List.mem_range] at ho; omega) hm]

theorem in_tabs {L S : Nat} {w : List Int} (hL2 : 2 ≤ L) (hL3 : L ≤ 3) (hS2 : 2 ≤ S) (hS4 : S ≤ 4) (hw : wordOk L S w) : ∃ e ∈ tabs, e.1 = L ∧ e.2.1 = sharedP w ∧ e.2.1.length = S := by
  have h := word_chk hL2 hL3 hS2 hS4 hw
  unfold wordChk at h
  simp only [Bool.and_eq_true] at h
  obtain ⟨e, he, h1⟩ := List.any_eq_true.mp h.1.2
  simp only [Bool.and_eq_true, beq_iff_eq] at h1
  exact ⟨e, he, h1.1, h1.2, by rw [h1.2, shared_len, hw.1]⟩

theorem law_ok {L S far : Nat} {word other : List Int} (hL2 : 2 ≤ L) (hL3 : L ≤ 3) (hS2 : 2 ≤ S) (hS4 : S ≤ 4) (hf : far < 17) (hw : wordOk L S word) (ho : wordOk L S other) :
    ∃ am rows lo o q v, LawOk L S far word other am rows lo o q v := by
  obtain ⟨e, he, e1, e2, e3⟩ := in_tabs hL2 hL3 hS2 hS4 hw
  obtain ⟨f, hfm, f1, f2, f3⟩ := in_tabs hL2 hL3 hS2 hS4 ho
  have hc := List.all_eq_true.mp cls_ok e he
  have hn := List.all_eq_true.mp num_ok e he
  have hd := List.all_eq_true.mp cls_ok f hfm
  have hl := List.all_eq_true.mp (List.all_eq_true.mp last_ok e he) f hfm
  simp only [e1, e2, f1, f2, beq_self_eq_true] at hc hn hd hl
  rw [show (sharedP word).length = S by rw [shared_len, hw.1]] at hc hn hl
  rw [show (sharedP other).length = S by rw [shared_len, ho.1]] at hd hl
  have hl : lastChk L S (sharedP word) (sharedP other) = true := by simpa using hl
  have hlen : ∀ {w : List Int} (h : wordOk L S w) {o m : Nat}, o < 3 → m ≤ 17 → ((rowT L (sharedP w) o).take m).length = m := fun h _ _ ho hm => by
    rw [rowT_take hL2 hL3 hS2 hS4 h ho hm, List.length_map, List.length_range]
  have hR : ∀ i, i < 3 → ((List.range 3).map fun o => (rowT L (sharedP word) o).take (2 * S + 1)).getD i [] = (rowT L (sharedP word) i).take (2 * S + 1) := fun i hi => by
    match i, hi with
    | 0, _ | 1, _ | 2, _ => rfl
  unfold clsChk at hc hd
  simp only at hc hd
  split at hc
  case h_1 => cases hc
  case h_2 am ham =>
  split at hd
  case h_1 => cases hd
  case h_2 am' ham' =>
  simp only [Bool.and_eq_true, beq_iff_eq] at hc hd
  obtain ⟨⟨hc1, hc2⟩, hc3⟩ := hc
  have hlo := hd.2
  have hv : ∃ v, (rowT L (sharedP word) 0)[far]? = some v := by
    have : far < (rowT L (sharedP word) 0).length := by rw [rowT_eq hL2 hL3 hS2 hS4 hw (by decide), List.length_map, List.length_range]; exact hf
    exact ⟨_, List.getElem?_eq_getElem this⟩
  obtain ⟨v, hv⟩ := hv
  refine ⟨am, (List.range 3).map fun o => (rowT L (sharedP word) o).take (2 * S + 1), stepsP (botP L S (sharedP other)), (rowT L (sharedP other) 0).take (2 * S), (rowT L (sharedP word) 0).take (far + 1), v, ?_⟩
  refine ⟨ham, count_tab hL2 hL3 hS2 hS4 hw (by decide) (by decide) (by omega), rfl, ?_, ?_, ?_, ?_, ?_, ?_, ?_, hlo, hl⟩
  · simp only [Bool.and_eq_true]
    refine ⟨⟨⟨?_, ?_⟩, ?_⟩, hc1⟩
    · rw [List.all_eq_true]
      intro r hr
      obtain ⟨o, ho', rfl⟩ := List.mem_map.mp hr
      rw [sml, hlen hw (List.mem_range.mp ho') (by omega)]
      exact decide_eq_true (by omega)
    · rw [sml, hlen ho (by decide) (by omega)]
      exact decide_eq_true (by omega)
    · rw [sml, hlen hw (by decide) (by omega)]
      exact decide_eq_true (by omega)
  · intro i hi
    have h := List.all_eq_true.mp hc2 i (List.mem_range.mpr hi)
    split at h
    case h_2 => cases h
    case h_1 bp hb =>
    simp only [Bool.and_eq_true, beq_iff_eq] at h
    rw [hR i hi]
    exact ⟨bp, hb, h.1, h.2⟩
  · rw [hR 0 (by decide), List.take_take, Nat.min_eq_left (by omega)]
    exact hc3
  · rw [hR 0 (by decide), List.take_take, Nat.min_eq_left (by omega)]
    have h := List.all_eq_true.mp hn far (List.mem_range.mpr hf)
    rw [beq_iff_eq, hv] at h
    exact h
  · exact count_tab hL2 hL3 hS2 hS4 hw (by decide) (by decide) (by omega)
  · rw [List.getElem?_take, if_pos (by omega)]
    exact hv
  · exact count_tab hL2 hL3 hS2 hS4 ho (by decide) (by decide) (by omega)
end Mine

namespace Mine

/-! the text's own objects, as the call of law finds them -/
noncomputable abbrev PX : Program := PySem.Challenge.pw_xm0133_01
noncomputable def VW : Program := view PX [43]
noncomputable def LO : List Str := [(nm "CasFail"), (nm "bits_of"), (nm "R0"), (nm "R1"), (nm "MOST_BITS"), (nm "unit_rows"), (nm "whole_mul"), (nm "gcd"), (nm "rat"), (nm "radd"), (nm "rsub"), (nm "rmul"), (nm "rdiv"), (nm "rneg"), (nm "is_vast"), (nm "step_matrix"), (nm "matrix_raised"), (nm "number_at"), (nm "discrepancy"), (nm "mended"), (nm "least_recurrence"), (nm "cut"), (nm "let"), (nm "mixed"), (nm "smul"), (nm "sinverse"), (nm "fraction_series"), (nm "from_z"), (nm "zmul"), (nm "zpower"), (nm "_law_draw"), (nm "_law_counted"), (nm "_law_shared")]
/-- the defs: name, place in the text, address -/
noncomputable def fns : List (Str × Nat × Addr) := [((nm "unit_rows"), 1, 19), ((nm "whole_mul"), 2, 24), ((nm "gcd"), 6, 51), ((nm "rat"), 12, 67), ((nm "radd"), 13, 74), ((nm "rsub"), 14, 81), ((nm "rmul"), 15, 88), ((nm "rdiv"), 16, 95), ((nm "rneg"), 17, 102), ((nm "is_vast"), 18, 109), ((nm "step_matrix"), 20, 114), ((nm "matrix_raised"), 21, 121), ((nm "number_at"), 22, 126), ((nm "discrepancy"), 23, 133), ((nm "mended"), 24, 140), ((nm "least_recurrence"), 25, 145), ((nm "cut"), 27, 152), ((nm "let"), 28, 159), ((nm "mixed"), 29, 166), ((nm "smul"), 30, 171), ((nm "sinverse"), 31, 178), ((nm "fraction_series"), 33, 185), ((nm "from_z"), 35, 190), ((nm "zmul"), 37, 197), ((nm "zpower"), 38, 204), ((nm "_law_draw"), 40, 211), ((nm "_law_counted"), 41, 216), ((nm "_law_shared"), 42, 221), ((nm "law"), 43, 226)]
noncomputable def bls : List Str := [(nm "len"), (nm "abs"), (nm "max"), (nm "min"), (nm "sum"), (nm "range"), (nm "enumerate"), (nm "zip"), (nm "int"), (nm "list"), (nm "tuple")]

noncomputable def fnArgs (i : Nat) : Arguments := match stmtAt i with
  | some (.FunctionDef _ a _ _ _ _ _ _ _ _) => a
  | _ => ⟨[], [], none, [], [], none, []⟩
noncomputable def fdOf (x : Str) (i : Nat) (a : Addr) : FuncData := { name := x, qualname := x, params := fnArgs i, body := .stmts (fnBody i), scope := fnScope i, globals := mainGlobals, closure := [], defaults := .none, kwdefaults := .none, code := .ref (a - 1), builtins := builtinsNs }
noncomputable def seeFn (h : Heap) (a : Addr) : Option FuncData := match h.get? a with
  | some o => match o.data with
    | .func fd => some { fd with pyModule := .none, doc := .none }
    | _ => none
  | none => none
noncomputable def seeCode (h : Heap) (a : Addr) : Option Str := match h.get? a with
  | some o => match o.data with
    | .fields vs => match (vs[1]? : Option Value) with
      | some (.str q _) => some q
      | _ => none
    | _ => none
  | none => none
noncomputable def oR0 : Obj := { cls := .type "tuple", data := .seq #[.int 0 256, .int 1 257] }
noncomputable def oR1 : Obj := { cls := .type "tuple", data := .seq #[.int 1 259, .int 1 260] }

noncomputable def obsT (s : Shared) : List (Option FuncData × Option Str) × Option Obj × Option Obj := (fns.map fun f => (seeFn s.heap f.2.2, seeCode s.heap (f.2.2 - 1)), s.heap.get? 59, s.heap.get? 60)
noncomputable def valT : List (Option FuncData × Option Str) × Option Obj × Option Obj := (fns.map fun f => (some (fdOf f.1 f.2.1 f.2.2), some f.1), some oR0, some oR1)
structure TextIn (h : Heap) : Prop where
  fn : ∀ f ∈ fns, seeFn h f.2.2 = some (fdOf f.1 f.2.1 f.2.2) ∧ seeCode h (f.2.2 - 1) = some f.1
  r0 : h.get? 59 = some oR0
  r1 : h.get? 60 = some oR1
theorem TextIn.of {s : Shared} (e : obsT s = valT) : TextIn s.heap := by
  have e1 := congrArg Prod.fst e
  have e2 := congrArg (fun x => x.2.1) e
  have e3 := congrArg (fun x => x.2.2) e
  refine ⟨fun f hf => ?_, e2, e3⟩
  have := List.map_inj_left.mp (show fns.map (fun f => (seeFn s.heap f.2.2, seeCode s.heap (f.2.2 - 1))) = fns.map fun f => (some (fdOf f.1 f.2.1 f.2.2), some f.1) from e1) f hf
  exact ⟨congrArg Prod.fst this, congrArg Prod.snd this⟩
theorem seeFn_some {h : Heap} {a : Addr} {fd : FuncData} (e : seeFn h a = some fd) : ∃ o fd', h.get? a = some o ∧ o.data = .func fd' ∧ { fd' with pyModule := .none, doc := .none } = fd := by
  unfold seeFn at e
  cases ho : h.get? a with
  | none => rw [ho] at e; cases e
  | some o =>
    rw [ho] at e
    simp only at e
    split at e
    · rename_i fd' hd
      exact ⟨o, fd', rfl, hd, by injection e⟩
    · cases e
theorem seeCode_some {h : Heap} {a : Addr} {q : Str} (e : seeCode h a = some q) : ∃ o vs t, h.get? a = some o ∧ o.data = .fields vs ∧ vs[1]? = some (.str q t) := by
  unfold seeCode at e
  cases ho : h.get? a with
  | none => rw [ho] at e; cases e
  | some o =>
    rw [ho] at e
    simp only at e
    split at e
    · rename_i vs hd
      split at e
      · rename_i q' t hv
        injection e with e
        exact ⟨o, vs, t, rfl, hd, e ▸ hv⟩
      · cases e
    · cases e
theorem TextIn.keeps {h h' : Heap} (x : TextIn h) (k : ∀ b o, h.get? b = some o → h'.get? b = some o) : TextIn h' := by
  refine ⟨fun f hf => ?_, k _ _ x.r0, k _ _ x.r1⟩
  obtain ⟨h1, h2⟩ := x.fn f hf
  constructor
  · rw [← h1]
    obtain ⟨o, _, ho, _⟩ := seeFn_some h1
    unfold seeFn
    rw [k _ _ ho, ho]
  · rw [← h2]
    obtain ⟨o, _, _, ho, _⟩ := seeCode_some h2
    unfold seeCode
    rw [k _ _ ho, ho]

/-- the names of the top, as far as they matter -/
noncomputable def nms : List (Str × Option Value) := fns.map (fun f => (f.1, some (.ref f.2.2))) ++ [((nm "R0"), some (.ref 59)), ((nm "R1"), some (.ref 60))] ++ bls.map fun x => (x, none)
noncomputable def XtT (s : Shared) : Bool := nms.all fun p => decide (s.heap.nsMap mainGlobals p.1 = p.2)
noncomputable def XPT (mg : Str → Option Value) (_ : Heap) : Prop := ∀ p ∈ nms, mg p.1 = p.2
theorem XPT_of (s : Shared) (e : XtT s = true) : XPT (s.heap.nsMap mainGlobals) s.heap := fun p hp => of_decide_eq_true (List.all_eq_true.mp e p hp)

set_option maxHeartbeats 8000000 in
/-- the top run once by the kernel, by the library's quick words for the run and the table -/
theorem left_ok : LeftO PX VW LO XtT obsT (fun _ => valT) 2606 := by
  unfold LeftO openEnds fencedOpening topFrom
  rw [show @topRun = @PySem.W.Fast.tw14082659384304107361 from PySem.W.Fast.te14082659384304107361, show @treeTable = @PySem.W.Fast.tw14364793385576792824 from PySem.W.Fast.te14364793385576792824]
  exact fun w => by kernel_rfl

/-- the whole heap as the text's own part -/
noncomputable def fragH (h : Heap) (n : Nat) : Frag := (List.range n).filterMap fun a => (h.get? a).map fun o => (a, o)
theorem mem_lk {α : Type} : ∀ {l : List (Nat × α)} {a : Nat} {o : α}, l.lookup a = some o → (a, o) ∈ l
  | [], _, _, e => nomatch e
  | (b, x) :: l, a, o, e => by
    rw [List.lookup_cons] at e
    by_cases h : (a == b) = true
    · rw [h] at e
      cases e
      rw [beq_iff_eq.mp h]
      exact List.mem_cons_self
    · rw [Bool.eq_false_iff.mpr h] at e
      exact List.mem_cons_of_mem _ (mem_lk e)
theorem frag_in {h : Heap} {n : Nat} : (fragH h n).In h := by
  intro a o e
  have hm := mem_lk e
  obtain ⟨b, _, hb⟩ := List.mem_filterMap.mp hm
  obtain ⟨o', ho, e'⟩ := Option.map_eq_some_iff.mp hb
  injection e' with e1 e2
  rw [← e1, ← e2, ho]
theorem frag_at {h : Heap} {n a : Nat} {o : Obj} (hn : a < n) (e : h.get? a = some o) : (fragH h n).lookup a = some o := by
  have key : ∀ l : List Nat, a ∈ l → (l.filterMap fun b => (h.get? b).map fun o => (b, o)).lookup a = some o := by
    intro l
    induction l with
    | nil => intro hm; cases hm
    | cons b l ih =>
      intro hm
      by_cases hb : b = a
      · subst hb
        rw [List.filterMap_cons, e]
        simp
      · have hm' : a ∈ l := (List.mem_cons.mp hm).resolve_left fun q => hb q.symm
        rw [List.filterMap_cons]
        cases h.get? b with
        | none => exact ih hm'
        | some o' =>
          simp only [Option.map_some, List.lookup_cons]
          rw [show (a == b) = false by simpa using fun q : a = b => hb q.symm]
          exact ih hm'
  exact key _ (List.mem_range.mpr hn)

section
variable {w : World} {h : Heap} {mg mb : Str → Option Value}
noncomputable def gOf (w : World) (h : Heap) (mg mb : Str → Option Value) : Wd := ⟨PX, w, h, fragH h 227, mg, mb⟩

theorem fun_at (T : TextIn h) (X : XPT mg h) {x : Str} {i : Nat} {a : Addr} {ps : List Str} (hf : (x, i, a) ∈ fns) (ha : a < 227) (hp : parOk (fnScope i) ps = true)
    (hb : ∀ (m d : Value) (vs : List Value), vs.length = ps.length → bindArgs { fdOf x i a with pyModule := m, doc := d } ⟨vs, []⟩ = pure (ps.zip vs)) : FunAt (gOf w h mg mb) x i ps := by
  obtain ⟨h1, h2⟩ := T.fn _ hf
  obtain ⟨o, fd, ho, hd, he⟩ := seeFn_some h1
  obtain ⟨oc, vs, t, hc, hcd, hv⟩ := seeCode_some h2
  have hfd : fd = { fdOf x i a with pyModule := fd.pyModule, doc := fd.doc } := by
    cases fd
    simp only [FuncData.mk.injEq] at he ⊢
    simp only [fdOf] at he ⊢
    simp_all
  have hmg : mg x = some (.ref a) := X (x, some (.ref a)) (List.mem_append_left _ (List.mem_append_left _ (List.mem_map.mpr ⟨_, hf, rfl⟩)))
  refine ⟨a, o, fd, hmg, frag_at ha ho, hd, ?_, ?_, ?_, ?_, ?_, ?_, ?_, hp⟩
  · rw [hfd]; rfl
  · rw [hfd]; rfl
  · rw [hfd]; rfl
  · rw [hfd]; rfl
  · rw [hfd]; rfl
  · rw [hfd]
    exact ⟨a - 1, oc, vs, t, rfl, frag_at (Nat.lt_of_le_of_lt (Nat.sub_le _ _) ha) hc, hcd, hv⟩
  · intro vs hvs
    rw [hfd]
    exact hb _ _ vs hvs
end
end Mine

namespace Mine

section
variable {w : World} {h : Heap} {mg mb : Str → Option Value}
theorem f_1 (T : TextIn h) (X : XPT mg h) : FunAt (gOf w h mg mb) (nm "unit_rows") 1 [(nm "n")] := fun_at (a := 19) T X (by decide +kernel) (by decide) (by decide +kernel) fun m d vs hv => match vs, hv with | [x0], _ => by kernel_rfl
theorem f_2 (T : TextIn h) (X : XPT mg h) : FunAt (gOf w h mg mb) (nm "whole_mul") 2 [(nm "a"), (nm "b")] := fun_at (a := 24) T X (by decide +kernel) (by decide) (by decide +kernel) fun m d vs hv => match vs, hv with | [x0, x1], _ => by kernel_rfl
theorem f_6 (T : TextIn h) (X : XPT mg h) : FunAt (gOf w h mg mb) (nm "gcd") 6 [(nm "a"), (nm "b")] := fun_at (a := 51) T X (by decide +kernel) (by decide) (by decide +kernel) fun m d vs hv => match vs, hv with | [x0, x1], _ => by kernel_rfl
theorem f_12 (T : TextIn h) (X : XPT mg h) : FunAt (gOf w h mg mb) (nm "rat") 12 [(nm "top"), (nm "bottom")] := fun_at (a := 67) T X (by decide +kernel) (by decide) (by decide +kernel) fun m d vs hv => match vs, hv with | [x0, x1], _ => by kernel_rfl
theorem f_13 (T : TextIn h) (X : XPT mg h) : FunAt (gOf w h mg mb) (nm "radd") 13 [(nm "a"), (nm "b")] := fun_at (a := 74) T X (by decide +kernel) (by decide) (by decide +kernel) fun m d vs hv => match vs, hv with | [x0, x1], _ => by kernel_rfl
theorem f_14 (T : TextIn h) (X : XPT mg h) : FunAt (gOf w h mg mb) (nm "rsub") 14 [(nm "a"), (nm "b")] := fun_at (a := 81) T X (by decide +kernel) (by decide) (by decide +kernel) fun m d vs hv => match vs, hv with | [x0, x1], _ => by kernel_rfl
theorem f_15 (T : TextIn h) (X : XPT mg h) : FunAt (gOf w h mg mb) (nm "rmul") 15 [(nm "a"), (nm "b")] := fun_at (a := 88) T X (by decide +kernel) (by decide) (by decide +kernel) fun m d vs hv => match vs, hv with | [x0, x1], _ => by kernel_rfl
theorem f_16 (T : TextIn h) (X : XPT mg h) : FunAt (gOf w h mg mb) (nm "rdiv") 16 [(nm "a"), (nm "b")] := fun_at (a := 95) T X (by decide +kernel) (by decide) (by decide +kernel) fun m d vs hv => match vs, hv with | [x0, x1], _ => by kernel_rfl
theorem f_17 (T : TextIn h) (X : XPT mg h) : FunAt (gOf w h mg mb) (nm "rneg") 17 [(nm "a")] := fun_at (a := 102) T X (by decide +kernel) (by decide) (by decide +kernel) fun m d vs hv => match vs, hv with | [x0], _ => by kernel_rfl
theorem f_18 (T : TextIn h) (X : XPT mg h) : FunAt (gOf w h mg mb) (nm "is_vast") 18 [(nm "a")] := fun_at (a := 109) T X (by decide +kernel) (by decide) (by decide +kernel) fun m d vs hv => match vs, hv with | [x0], _ => by kernel_rfl
theorem f_20 (T : TextIn h) (X : XPT mg h) : FunAt (gOf w h mg mb) (nm "step_matrix") 20 [(nm "steps")] := fun_at (a := 114) T X (by decide +kernel) (by decide) (by decide +kernel) fun m d vs hv => match vs, hv with | [x0], _ => by kernel_rfl
theorem f_21 (T : TextIn h) (X : XPT mg h) : FunAt (gOf w h mg mb) (nm "matrix_raised") 21 [(nm "a"), (nm "n")] := fun_at (a := 121) T X (by decide +kernel) (by decide) (by decide +kernel) fun m d vs hv => match vs, hv with | [x0, x1], _ => by kernel_rfl
theorem f_22 (T : TextIn h) (X : XPT mg h) : FunAt (gOf w h mg mb) (nm "number_at") 22 [(nm "steps"), (nm "first"), (nm "n")] := fun_at (a := 126) T X (by decide +kernel) (by decide) (by decide +kernel) fun m d vs hv => match vs, hv with | [x0, x1, x2], _ => by kernel_rfl
theorem f_23 (T : TextIn h) (X : XPT mg h) : FunAt (gOf w h mg mb) (nm "discrepancy") 23 [(nm "row"), (nm "n"), (nm "polynomial")] := fun_at (a := 133) T X (by decide +kernel) (by decide) (by decide +kernel) fun m d vs hv => match vs, hv with | [x0, x1, x2], _ => by kernel_rfl
theorem f_24 (T : TextIn h) (X : XPT mg h) : FunAt (gOf w h mg mb) (nm "mended") 24 [(nm "polynomial"), (nm "number"), (nm "former"), (nm "gap")] := fun_at (a := 140) T X (by decide +kernel) (by decide) (by decide +kernel) fun m d vs hv => match vs, hv with | [x0, x1, x2, x3], _ => by kernel_rfl
theorem f_25 (T : TextIn h) (X : XPT mg h) : FunAt (gOf w h mg mb) (nm "least_recurrence") 25 [(nm "row")] := fun_at (a := 145) T X (by decide +kernel) (by decide) (by decide +kernel) fun m d vs hv => match vs, hv with | [x0], _ => by kernel_rfl
theorem f_27 (T : TextIn h) (X : XPT mg h) : FunAt (gOf w h mg mb) (nm "cut") 27 [(nm "a"), (nm "order")] := fun_at (a := 152) T X (by decide +kernel) (by decide) (by decide +kernel) fun m d vs hv => match vs, hv with | [x0, x1], _ => by kernel_rfl
theorem f_28 (T : TextIn h) (X : XPT mg h) : FunAt (gOf w h mg mb) (nm "let") 28 [(nm "number")] := fun_at (a := 159) T X (by decide +kernel) (by decide) (by decide +kernel) fun m d vs hv => match vs, hv with | [x0], _ => by kernel_rfl
theorem f_29 (T : TextIn h) (X : XPT mg h) : FunAt (gOf w h mg mb) (nm "mixed") 29 [(nm "a"), (nm "b"), (nm "at")] := fun_at (a := 166) T X (by decide +kernel) (by decide) (by decide +kernel) fun m d vs hv => match vs, hv with | [x0, x1, x2], _ => by kernel_rfl
theorem f_30 (T : TextIn h) (X : XPT mg h) : FunAt (gOf w h mg mb) (nm "smul") 30 [(nm "a"), (nm "b")] := fun_at (a := 171) T X (by decide +kernel) (by decide) (by decide +kernel) fun m d vs hv => match vs, hv with | [x0, x1], _ => by kernel_rfl
theorem f_31 (T : TextIn h) (X : XPT mg h) : FunAt (gOf w h mg mb) (nm "sinverse") 31 [(nm "a")] := fun_at (a := 178) T X (by decide +kernel) (by decide) (by decide +kernel) fun m d vs hv => match vs, hv with | [x0], _ => by kernel_rfl
theorem f_33 (T : TextIn h) (X : XPT mg h) : FunAt (gOf w h mg mb) (nm "fraction_series") 33 [(nm "top"), (nm "bottom"), (nm "order")] := fun_at (a := 185) T X (by decide +kernel) (by decide) (by decide +kernel) fun m d vs hv => match vs, hv with | [x0, x1, x2], _ => by kernel_rfl
theorem f_35 (T : TextIn h) (X : XPT mg h) : FunAt (gOf w h mg mb) (nm "from_z") 35 [(nm "z")] := fun_at (a := 190) T X (by decide +kernel) (by decide) (by decide +kernel) fun m d vs hv => match vs, hv with | [x0], _ => by kernel_rfl
theorem f_37 (T : TextIn h) (X : XPT mg h) : FunAt (gOf w h mg mb) (nm "zmul") 37 [(nm "a"), (nm "b")] := fun_at (a := 197) T X (by decide +kernel) (by decide) (by decide +kernel) fun m d vs hv => match vs, hv with | [x0, x1], _ => by kernel_rfl
theorem f_38 (T : TextIn h) (X : XPT mg h) : FunAt (gOf w h mg mb) (nm "zpower") 38 [(nm "p"), (nm "many")] := fun_at (a := 204) T X (by decide +kernel) (by decide) (by decide +kernel) fun m d vs hv => match vs, hv with | [x0, x1], _ => by kernel_rfl
theorem f_40 (T : TextIn h) (X : XPT mg h) : FunAt (gOf w h mg mb) (nm "_law_draw") 40 [(nm "pool"), (nm "many")] := fun_at (a := 211) T X (by decide +kernel) (by decide) (by decide +kernel) fun m d vs hv => match vs, hv with | [x0, x1], _ => by kernel_rfl
theorem f_41 (T : TextIn h) (X : XPT mg h) : FunAt (gOf w h mg mb) (nm "_law_counted") 41 [(nm "word"), (nm "letters"), (nm "many"), (nm "kept")] := fun_at (a := 216) T X (by decide +kernel) (by decide) (by decide +kernel) fun m d vs hv => match vs, hv with | [x0, x1, x2, x3], _ => by kernel_rfl
theorem f_42 (T : TextIn h) (X : XPT mg h) : FunAt (gOf w h mg mb) (nm "_law_shared") 42 [(nm "word")] := fun_at (a := 221) T X (by decide +kernel) (by decide) (by decide +kernel) fun m d vs hv => match vs, hv with | [x0], _ => by kernel_rfl
theorem f_43 (T : TextIn h) (X : XPT mg h) : FunAt (gOf w h mg mb) (nm "law") 43 [(nm "script")] := fun_at (a := 226) T X (by decide +kernel) (by decide) (by decide +kernel) fun m d vs hv => match vs, hv with | [x0], _ => by kernel_rfl

theorem glob_bl (X : XPT mg h) (B : ∀ x : Str, x ≠ "__name__" → mb x = bootBuiltins x) {x : Str} {v : Value} (hx : x ∈ bls) (hn : (x == ("__name__" : Str)) = false) (hv : bootBuiltins x = some v) : GlobIs (gOf w h mg mb) x v :=
  .inr ⟨X (x, none) (List.mem_append_right _ (List.mem_map.mpr ⟨x, hx, rfl⟩)), (B x fun e => by rw [e] at hn; simp at hn).trans hv⟩

theorem names_ok (X : XPT mg h) (B : ∀ x : Str, x ≠ "__name__" → mb x = bootBuiltins x) : Names (gOf w h mg mb) :=
  ⟨glob_bl X B (by decide +kernel) (by decide +kernel) (by decide +kernel), glob_bl X B (by decide +kernel) (by decide +kernel) (by decide +kernel), glob_bl X B (by decide +kernel) (by decide +kernel) (by decide +kernel), glob_bl X B (by decide +kernel) (by decide +kernel) (by decide +kernel), glob_bl X B (by decide +kernel) (by decide +kernel) (by decide +kernel), glob_bl X B (by decide +kernel) (by decide +kernel) (by decide +kernel), glob_bl X B (by decide +kernel) (by decide +kernel) (by decide +kernel), glob_bl X B (by decide +kernel) (by decide +kernel) (by decide +kernel), glob_bl X B (by decide +kernel) (by decide +kernel) (by decide +kernel), glob_bl X B (by decide +kernel) (by decide +kernel) (by decide +kernel), glob_bl X B (by decide +kernel) (by decide +kernel) (by decide +kernel)⟩

theorem consts_ok (T : TextIn h) (X : XPT mg h) : Consts (gOf w h mg mb) := by
  have h0 : mg (nm "R0") = some (.ref 59) := X ((nm "R0"), some (.ref 59)) (by decide +kernel)
  have h1 : mg (nm "R1") = some (.ref 60) := X ((nm "R1"), some (.ref 60)) (by decide +kernel)
  refine ⟨⟨.ref 59, .inl h0, fun P h' g hP => ?_⟩, ⟨.ref 60, .inl h1, fun P h' g hP => ?_⟩⟩
  · exact ⟨59, _, rfl, hP 59 _ T.r0, ⟨_, g.ext _ _ T.r0, rfl, _, rfl⟩, _, _, rfl, ⟨_, rfl⟩, _, _, rfl, ⟨_, rfl⟩, rfl⟩
  · exact ⟨60, _, rfl, hP 60 _ T.r1, ⟨_, g.ext _ _ T.r1, rfl, _, rfl⟩, _, _, rfl, ⟨_, rfl⟩, _, _, rfl, ⟨_, rfl⟩, rfl⟩

theorem text_ok (T : TextIn h) (X : XPT mg h) (B : ∀ x : Str, x ≠ "__name__" → mb x = bootBuiltins x) : Text (gOf w h mg mb) := by
  have R : Rats (gOf w h mg mb) := ⟨f_6 T X, f_12 T X, f_13 T X, f_14 T X, f_15 T X, f_16 T X, f_17 T X, f_18 T X, f_28 T X⟩
  exact ⟨names_ok X B, consts_ok T X, ⟨R, f_27 T X, f_29 T X, f_30 T X, f_31 T X, f_33 T X, f_35 T X⟩, ⟨R, f_23 T X, f_24 T X, f_25 T X⟩, ⟨f_1 T X, f_2 T X, f_20 T X, f_21 T X, f_22 T X⟩, ⟨f_37 T X, f_38 T X, f_42 T X⟩, ⟨f_41 T X⟩, ⟨f_40 T X⟩⟩

/-- law called with a list of ints answers True -/
theorem law_call (T : TextIn h) (X : XPT mg h) (B : ∀ x : Str, x ≠ "__name__" → mb x = bootBuiltins x) {a : Addr} {vs : List Value} {ns : List Int} (hL : h.IsList a vs.toArray) (hI : IntsAre vs ns) (hz : vs.length ≤ 16777216) : CallsTo (gOf w h mg mb) 9 (nm "law") [.adr a] (.bool true) :=
  (f_43 T X).calls rfl (law_head (n := 7) (names_ok X B) (text_ok T X B).draws hL hI hz fun L S far word other hL2 hL3 hS2 hS4 hf hw ho =>
    let ⟨_, _, _, _, _, _, K⟩ := law_ok hL2 hL3 hS2 hS4 hf hw ho
    law_tail (n := 0) (text_ok T X B) hL3 hS2 hS4 hf hw ho K)
end
end Mine

namespace Mine

theorem said_ok : PySem.Challenge.rw_xm0133_01.wellSaid = true := by
  rw [show @OpenLaw.wellSaid = @PySem.W.Fast.tw9446332074065402090 from PySem.W.Fast.te9446332074065402090]
  kernel_rfl

set_option maxHeartbeats 8000000 in
theorem walk_ok {d : DefRec} {kwd : List (Str × Expr)} (hdn : d.name = (nm "law")) :
    WalkO VW LO XPT (fun _ h => TextIn h) PySem.Challenge.rw_xm0133_01.row.toRowW d kwd fun f vs => PySem.call f vs := by
  intro w s₀ s₁ mg mb G Y fa o pm cd doc dV kV ho hd hcd hD hmg hg args vals as hpre hlay hrd hwl hlo
  wrow_args hpre hlay hrd hwl hlo
  rename_i ns _ _ _ _ _ _ la vs _ hL _ _ _ hI _ hle _
  have hz : vs.length ≤ 16777216 := by have := hI.length; omega
  obtain ⟨f, hgl, _, hc⟩ := law_call (w := w) (mb := mb) Y G.X G.T.builtins hL hI hz
  rw [hdn] at hmg
  have hf : f = .ref fa := by
    rcases hgl with e | ⟨e, _⟩
    · have e : mg (nm "law") = some f := e
      rw [hmg] at e
      injection e with e
      exact e.symm
    · have e : mg (nm "law") = none := e
      rw [hmg] at e
      cases e
  subst hf
  have hb : Bs (gOf w s₁.heap mg mb) := ⟨frag_in, G.T.g, G.T.b, G.T.nolimit⟩
  refine wpAny_mono (hc callerA s₁ (fun b => (s₁.heap.get? b).isSome = true) [.ref la] ⟨rfl, by decide +kernel, by decide +kernel⟩ ⟨hb, fun _ _ e => e⟩ (fun b o' e => by rw [show s₁.heap.get? b = some o' from e]; rfl) ⟨_, _, rfl, rfl, rfl⟩) (fun v s' q => ?_) fun _ _ e => e.elim
  obtain ⟨⟨h', tk, e, keep⟩, hv⟩ := q
  have hv : v = .bool true := hv
  subst hv e
  refine GoodW.toG ⟨.inl ⟨_, .bool true, [], rfl, fun _ => rfl, .bool true, ?_, fun _ => ⟨List.nodup_nil, fun _ hm => nomatch hm⟩⟩, keep, rfl, hg⟩
  refine' postW_of ?k1 ?k2 ?k3
  case k1 => o_shape
  case k2 => wtm_val
  case k3 => w_fin
end Mine

set_option maxHeartbeats 8000000 in
theorem PySem.Challenge.cw_xm0133_01_holds : PySem.Challenge.rw_xm0133_01.Holds := by
  w_on
  refine holds_law Mine.said_ok fun said => ?_
  refine holds_open (q := Mine.VW) (loose := Mine.LO) (Xt := Mine.XtT) (XP := Mine.XPT) (Yf := Mine.obsT) (Ya := fun _ => Mine.valT) (YP := fun _ h => Mine.TextIn h) (N := 2606) Mine.left_ok (fun _ _ e => Mine.TextIn.of e) (fun _ _ _ x k => x.keeps k) Mine.XPT_of (fun _ _ _ x _ => x) (by rfl) (by rfl) (by rfl) (fun _ _ => recFacts_nil rfl) (by rfl) (by first | assumption | decide +kernel) (by decide +kernel) ⟨rfl, rfl, rfl, rfl, rfl, by decide +kernel⟩ ?hw ?hc
  case hw => w_witness2
  case hc => exact Mine.walk_ok rfl

