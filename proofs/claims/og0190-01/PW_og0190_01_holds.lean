import PyProof.Rows.All
import Wide.All
import OpenK.AllK
import Wide.FinOn
import PySem.Challenge.RW_og0190_01
set_option Elab.async false
set_option linter.unusedVariables false
set_option linter.unusedSimpArgs false
set_option maxRecDepth 100000
section
open PySem PySem.W PyProof.Rows PySem.Calls
namespace Mine
inductive V where
  | unb
  | none
  | bool (b : Bool)
  | int (i : Int)
  | str (s : Str)
  | byt (b : List UInt8)
  | tup (l : List V)
  | ref (a : Addr)
  | raw (v : Value)
  | rng (a b c : Int)
  | slc (l u : Option Int)
def Imm (o : Obj) : Prop := (o.cls = .type "tuple" ∧ ∃ xs n, o.data = .seq xs n) ∨ (o.cls = .type "range" ∧ ∃ xs, o.data = .fields xs) ∨ (o.cls = .type "slice" ∧ ∃ xs, o.data = .fields xs)
inductive IsPart' : Option Int → Value → Prop
  | none : IsPart' none .none
  | int (i : Int) (t : Tok) : IsPart' (some i) (.int i t)
mutual
inductive VR (h : Heap) : V → Value → Prop
  | none : VR h .none .none
  | bool (b : Bool) : VR h (.bool b) (.bool b)
  | int (i : Int) (t : Tok) : VR h (.int i) (.int i t)
  | str (s : Str) (t : Tok) : VR h (.str s) (.str s t)
  | byt (b : List UInt8) (t : Tok) : VR h (.byt b) (.bytes b.toArray t)
  | tup {l : List V} {a : Addr} {items : Array Value} : IsTup h a items → VRs h l items.toList → VR h (.tup l) (.ref a)
  | ref (a : Addr) : VR h (.ref a) (.ref a)
  | raw (v : Value) : VR h (.raw v) v
  | rng {a b c : Int} {r : Addr} {t u v : Tok} : IsRange h r a b c t u v → VR h (.rng a b c) (.ref r)
  | slc {l u : Option Int} {a : Addr} {vl vu : Value} : h.IsSliceOf a vl vu .none → IsPart' l vl → IsPart' u vu → VR h (.slc l u) (.ref a)
inductive VRs (h : Heap) : List V → List Value → Prop
  | nil : VRs h [] []
  | cons {x : V} {v : Value} {xs : List V} {vs : List Value} : VR h x v → VRs h xs vs → VRs h (x :: xs) (v :: vs)
end
def TupKeep (h h' : Heap) : Prop := ∀ a o, h.get? a = some o → Imm o → h'.get? a = some o
theorem VR.mono {h h' : Heap} (k : TupKeep h h') {x : V} {v : Value} (r : VR h x v) : VR h' x v :=
  VR.rec (motive_1 := fun x v _ => VR h' x v) (motive_2 := fun xs vs _ => VRs h' xs vs) .none .bool .int .str .byt
    (fun i _ q => .tup (i.imp fun _ e => ⟨k _ _ e.1 (.inl ⟨e.2.1, _, _, e.2.2.choose_spec⟩), e.2⟩) q) .ref .raw (fun a => .rng (k _ _ a (.inr (.inl ⟨rfl, _, rfl⟩)))) (fun i b e => .slc (i.imp fun _ f => ⟨k _ _ f.1 (.inr (.inr ⟨f.2.1, _, f.2.2⟩)), f.2⟩) b e)
    .nil (fun _ _ a b => .cons a b) r
theorem VRs.mono {h h' : Heap} (k : TupKeep h h') {xs : List V} {vs : List Value} (r : VRs h xs vs) : VRs h' xs vs :=
  VRs.rec (motive_1 := fun x v _ => VR h' x v) (motive_2 := fun xs vs _ => VRs h' xs vs) .none .bool .int .str .byt
    (fun i _ q => .tup (i.imp fun _ e => ⟨k _ _ e.1 (.inl ⟨e.2.1, _, _, e.2.2.choose_spec⟩), e.2⟩) q) .ref .raw (fun a => .rng (k _ _ a (.inr (.inl ⟨rfl, _, rfl⟩)))) (fun i b e => .slc (i.imp fun _ f => ⟨k _ _ f.1 (.inr (.inr ⟨f.2.1, _, f.2.2⟩)), f.2⟩) b e)
    .nil (fun _ _ a b => .cons a b) r
/-- what a value is, by its abstract one -/
def VR.Is (h : Heap) (v : Value) : V → Prop
  | .unb => False
  | .none => v = .none
  | .bool b => v = .bool b
  | .int i => ∃ t, v = .int i t
  | .str s => ∃ t, v = .str s t
  | .byt b => ∃ t, v = .bytes b.toArray t
  | .tup l => ∃ a items, v = .ref a ∧ IsTup h a items ∧ VRs h l items.toList
  | .ref a => v = .ref a
  | .raw w => v = w
  | .rng a b c => ∃ r t u w, v = .ref r ∧ IsRange h r a b c t u w
  | .slc l u => ∃ a vl vu, v = .ref a ∧ h.IsSliceOf a vl vu .none ∧ IsPart' l vl ∧ IsPart' u vu
theorem VR.inv {h : Heap} {x : V} {v : Value} (r : VR h x v) : VR.Is h v x :=
  VR.casesOn (motive_1 := fun x v _ => VR.Is h v x) r rfl (fun _ => rfl) (fun _ t => ⟨t, rfl⟩) (fun _ t => ⟨t, rfl⟩) (fun _ t => ⟨t, rfl⟩) (fun a b => ⟨_, _, rfl, a, b⟩) (fun _ => rfl) (fun _ => rfl) (fun a => ⟨_, _, _, _, rfl, a⟩) (fun a b c => ⟨_, _, _, rfl, a, b, c⟩)
def VRs.Is (h : Heap) (vs : List Value) : List V → Prop
  | [] => vs = []
  | x :: xs => ∃ v ws, vs = v :: ws ∧ VR h x v ∧ VRs h xs ws
theorem VRs.inv {h : Heap} {xs : List V} {vs : List Value} (r : VRs h xs vs) : VRs.Is h vs xs :=
  VRs.casesOn (motive_2 := fun xs vs _ => VRs.Is h vs xs) r rfl (fun a b => ⟨_, _, rfl, a, b⟩)
theorem VRs.length {h : Heap} {xs : List V} {vs : List Value} (r : VRs h xs vs) : xs.length = vs.length := by
  induction xs generalizing vs with
  | nil => rw [r.inv]; rfl
  | cons x xs ih => obtain ⟨v, ws, rfl, _, b⟩ := r.inv; exact congrArg (· + 1) (ih b)
theorem VRs.append {h : Heap} {xs : List V} {vs : List Value} {ys : List V} {ws : List Value} (r : VRs h xs vs) (y : VRs h ys ws) : VRs h (xs ++ ys) (vs ++ ws) := by
  induction xs generalizing vs with
  | nil => obtain rfl := r.inv; exact y
  | cons x xs ih => obtain ⟨v, ws, rfl, a, b⟩ := r.inv; exact .cons a (ih b)
theorem VRs.get {h : Heap} {xs : List V} {vs : List Value} (r : VRs h xs vs) {i : Nat} {x : V} (e : xs[i]? = some x) : ∃ v, vs[i]? = some v ∧ VR h x v := by
  induction xs generalizing vs i with
  | nil => cases e
  | cons y ys ih =>
    obtain ⟨v, ws, rfl, a, b⟩ := r.inv
    cases i with
    | zero => exact ⟨_, rfl, Option.some.inj e ▸ a⟩
    | succ i => exact ih b e
theorem VRs.getR {h : Heap} {xs : List V} {vs : List Value} (r : VRs h xs vs) {i : Nat} {v : Value} (e : vs[i]? = some v) : ∃ x, xs[i]? = some x ∧ VR h x v := by
  induction xs generalizing vs i with
  | nil => rw [r.inv] at e; cases e
  | cons y ys ih =>
    obtain ⟨v, ws, rfl, a, b⟩ := r.inv
    cases i with
    | zero => exact ⟨_, rfl, Option.some.inj e ▸ a⟩
    | succ i => exact ih b e
theorem VRs.take {h : Heap} {xs : List V} {vs : List Value} (r : VRs h xs vs) (n : Nat) : VRs h (xs.take n) (vs.take n) := by
  induction xs generalizing vs n with
  | nil => rw [r.inv, List.take_nil, List.take_nil]; exact .nil
  | cons y ys ih =>
    obtain ⟨v, ws, rfl, a, b⟩ := r.inv
    cases n with
    | zero => exact .nil
    | succ n => exact .cons a (ih b n)
theorem VRs.drop {h : Heap} {xs : List V} {vs : List Value} (r : VRs h xs vs) (n : Nat) : VRs h (xs.drop n) (vs.drop n) := by
  induction xs generalizing vs n with
  | nil => rw [r.inv, List.drop_nil, List.drop_nil]; exact .nil
  | cons y ys ih =>
    obtain ⟨v, ws, rfl, a, b⟩ := r.inv
    cases n with
    | zero => exact .cons a b
    | succ n => exact ih b n
theorem VRs.set {h : Heap} {xs : List V} {vs : List Value} (r : VRs h xs vs) {x : V} {v : Value} (i : Nat) (q : VR h x v) : VRs h (xs.set i x) (vs.set i v) := by
  induction xs generalizing vs i with
  | nil => rw [r.inv]; exact .nil
  | cons y ys ih =>
    obtain ⟨w, ws, rfl, a, b⟩ := r.inv
    cases i with
    | zero => exact .cons q b
    | succ i => exact .cons a (ih b i)
inductive O where
  | list (l : List V)
  | dict (es : List (List Int × V))
  | inst (C dx : Addr) (fs : List (Str × V))
abbrev Led := List (Addr × O)
structure Base where
  prog : Program
  w : World
  K : Frag
  h₀ : Heap
  os₀ : OsState
  mg : Str → Option Value
  mb : Str → Option Value
  C : List (Addr × Str)
structure Base.Ok (B : Base) : Prop where
  k : B.K.In B.h₀
  g : B.h₀.Ns mainGlobals B.mg
  b : B.h₀.Ns builtinsNs B.mb
  lim : B.h₀.NoLimit
  sys : ∃ o, B.h₀.get? sysModules = some o
  codes : ∀ p ∈ B.C, B.h₀.CodeRec (.ref p.1) p.2
inductive FsR (P : Params) (h : Heap) : List (Str × V) → List DictEntry → Prop
  | nil : FsR P h [] []
  | cons {x : Str} {v : V} {t : Tok} {r : Value} {fs : List (Str × V)} {es : List DictEntry} : VR h v r → FsR P h fs es → FsR P h ((x, v) :: fs) (⟨PyData.keyHash P x, .str x t, r⟩ :: es)
abbrev tk (B : Base) : HeapKind B.prog B.w (List Int) := tupleKind (intKind B.prog B.w)
inductive DsR (h : Heap) : List (List Int × V) → List (List Int × Addr × Value) → Prop
  | nil : DsR h [] []
  | cons {k : List Int} {v : V} {a : Addr} {r : Value} {fs : List (List Int × V)} {es : List (List Int × Addr × Value)} : VR h v r → DsR h fs es → DsR h ((k, v) :: fs) ((k, a, r) :: es)
def OR (B : Base) (h : Heap) (a : Addr) : O → Prop
  | .list l => ∃ vs n, h.get? a = some (listOf vs n) ∧ VRs h l vs.toList
  | .dict es => ∃ xs, h.DictOfH (tk B) a xs ∧ DsR h es xs
  | .inst C dx fs => h.get? a = some (instObj C dx) ∧ ∃ es n, h.get? dx = some (dictOf es n) ∧ FsR B.w.params h fs es
def footO (a : Addr) : O → List Addr
  | .inst _ dx _ => [a, dx]
  | _ => [a]
def foot : Led → List Addr
  | [] => []
  | (a, o) :: r => footO a o ++ foot r
theorem mem_foot {D : Led} {b : Addr} : b ∈ foot D ↔ ∃ p ∈ D, b ∈ footO p.1 p.2 := by
  induction D with
  | nil => simp [foot]
  | cons p r ih => obtain ⟨a, o⟩ := p; simp [foot, ih]
theorem foot_append (D E : Led) : foot (D ++ E) = foot D ++ foot E := by
  induction D with
  | nil => rfl
  | cons p r ih => obtain ⟨a, o⟩ := p; simp [foot, ih]
theorem mem_footO (a : Addr) (o : O) : a ∈ footO a o := by cases o <;> simp [footO]
structure LH (B : Base) (D : Led) (s : Shared) : Prop where
  ok : B.Ok
  base : ∀ b o, B.h₀.get? b = some o → s.heap.get? b = some o
  led : ∀ p ∈ D, OR B s.heap p.1 p.2
  nodup : (foot D).Nodup
  new : ∀ a ∈ foot D, B.h₀.get? a = none
  gens : s.gens = #[]
  os : s.os = B.os₀
structure Tr (D : Led) (s : Shared) (D' : Led) (s' : Shared) : Prop where
  keep : ∀ b o, b ∉ foot D → s.heap.get? b = some o → s'.heap.get? b = some o
  grow : ∀ a ∈ foot D', a ∈ foot D ∨ s.heap.get? a = none
theorem notImm_of {o : Obj} {c : Value} (h : o.cls = c) (h1 : c ≠ .type "tuple") (h2 : c ≠ .type "range") (h3 : c ≠ .type "slice") : ¬ Imm o := fun i =>
  i.elim (fun e => h1 (h.symm.trans e.1)) fun i => i.elim (fun e => h2 (h.symm.trans e.1)) fun e => h3 (h.symm.trans e.1)
theorem ty_ne {a b : String} (h : a ≠ b) : Value.type a ≠ Value.type b := fun e => h (Value.type.inj e)
theorem foot_notImm {B : Base} {h : Heap} {a b : Addr} {o : O} (x : OR B h a o) (hb : b ∈ footO a o) : ∃ ob, h.get? b = some ob ∧ ¬ Imm ob := by
  have one : ∀ {c : Addr}, b ∈ [c] → b = c := fun h => List.mem_singleton.mp h
  cases o with
  | list l => obtain ⟨vs, n, e, _⟩ := x; exact one hb ▸ ⟨_, e, notImm_of rfl (ty_ne (by decide)) (ty_ne (by decide)) (ty_ne (by decide))⟩
  | dict es =>
    obtain ⟨xs, hd, _⟩ := x
    obtain ⟨o, ho, hc⟩ := hd.typeIs (s := { heap := h })
    exact one hb ▸ ⟨o, ho, notImm_of hc (ty_ne (by decide)) (ty_ne (by decide)) (ty_ne (by decide))⟩
  | inst C dx fs =>
    obtain ⟨e, es, n, e2, _⟩ := x
    rcases List.mem_cons.mp hb with rfl | hb
    · exact ⟨_, e, notImm_of rfl (by nofun) (by nofun) (by nofun)⟩
    · exact one hb ▸ ⟨_, e2, notImm_of rfl (ty_ne (by decide)) (ty_ne (by decide)) (ty_ne (by decide))⟩
theorem LH.notImm {B : Base} {D : Led} {s : Shared} (x : LH B D s) {a : Addr} {o : Obj} (t : s.heap.get? a = some o) (i : Imm o) : a ∉ foot D := by
  intro hm
  obtain ⟨p, hp, hb⟩ := mem_foot.mp hm
  obtain ⟨ob, e, hc⟩ := foot_notImm (x.led p hp) hb
  rw [e] at t; cases t; exact hc i
theorem Tr.tup {B : Base} {D D' : Led} {s s' : Shared} (t : Tr D s D' s') (x : LH B D s) : TupKeep s.heap s'.heap := fun a o ho hi => t.keep a o (x.notImm ho hi) ho
theorem Tr.refl (D : Led) (s : Shared) : Tr D s D s := ⟨fun _ _ _ e => e, fun _ h => .inl h⟩
theorem Tr.trans {D D' D'' : Led} {s s' s'' : Shared} (x : Tr D s D' s') (y : Tr D' s' D'' s'') : Tr D s D'' s'' where
  keep := fun b o hb e => y.keep b o (fun hm => (x.grow b hm).elim hb fun en => by rw [e] at en; cases en) (x.keep b o hb e)
  grow := fun a ha => (y.grow a ha).elim (fun h => x.grow a h) fun en => by
    by_cases hm : a ∈ foot D
    · exact .inl hm
    · refine .inr ?_
      cases q : s.heap.get? a with
      | none => rfl
      | some o => rw [x.keep a o hm q] at en; cases en
theorem FsR.mono {P : Params} {h h' : Heap} (k : TupKeep h h') {fs : List (Str × V)} {es : List DictEntry} (r : FsR P h fs es) : FsR P h' fs es := by
  induction r with
  | nil => exact .nil
  | cons a _ ih => exact .cons (a.mono k) ih
theorem DsR.mono {h h' : Heap} (k : TupKeep h h') {fs : List (List Int × V)} {es : List (List Int × Addr × Value)} (r : DsR h fs es) : DsR h' fs es := by
  induction r with
  | nil => exact .nil
  | cons a _ ih => exact .cons (a.mono k) ih
theorem OR.keep {B : Base} {h h' : Heap} {a : Addr} {o : O} (x : OR B h a o) (kt : TupKeep h h') (kf : ∀ b ∈ footO a o, ∀ ob, h.get? b = some ob → h'.get? b = some ob) : OR B h' a o := by
  cases o with
  | list l => exact x.imp fun vs => Exists.imp fun n y => ⟨kf a (.head _) _ y.1, y.2.mono kt⟩
  | dict es =>
    refine x.imp fun xs y => ⟨?_, y.2.mono kt⟩
    obtain ⟨o, en, ep, ho, ex, hd, he, hk, hn⟩ := y.1
    refine ⟨o, en, ep, kf a (.head _) _ ho, ex, hd, he, fun y hy => ?_, hn⟩
    exact (hk y hy).imp fun o' => Exists.imp fun items => Exists.imp fun n' z => ⟨kt _ _ z.1 (.inl ⟨z.2.1, _, _, z.2.2.1⟩), z.2⟩
  | inst C dx fs =>
    exact ⟨kf a (.head _) _ x.1, x.2.imp fun es => Exists.imp fun n y => ⟨kf dx (.tail _ (.head _)) _ y.1, y.2.mono kt⟩⟩
/-- a change beside the ledger -/
theorem LH.side {B : Base} {D : Led} {s s' : Shared} (l : LH B D s) (X : List Addr) (hx : ∀ a ∈ X, a ∉ foot D ∧ B.h₀.get? a = none ∧ ∀ o, s.heap.get? a = some o → ¬ Imm o)
    (k : ∀ b o, b ∉ X → s.heap.get? b = some o → s'.heap.get? b = some o) (g : s'.gens = s.gens) (os : s'.os = s.os) : LH B D s' ∧ TupKeep s.heap s'.heap := by
  have kt : TupKeep s.heap s'.heap := fun a o ho hi => k a o (fun ha => (hx a ha).2.2 o ho hi) ho
  refine ⟨⟨l.ok, fun b o e => k b o (fun ha => by rw [(hx b ha).2.1] at e; cases e) (l.base b o e), fun p hp => (l.led p hp).keep kt fun b hb ob e => k b ob (fun ha => (hx b ha).1 (mem_foot.mpr ⟨p, hp, hb⟩)) e, l.nodup, l.new, g.trans l.gens, os.trans l.os⟩, kt⟩
theorem LH.grow {B : Base} {D : Led} {s s' : Shared} (l : LH B D s) (k : ∀ b o, s.heap.get? b = some o → s'.heap.get? b = some o) (g : s'.gens = s.gens) (os : s'.os = s.os) : LH B D s' ∧ Tr D s D s' :=
  ⟨(l.side [] (fun _ h => nomatch h) (fun b o _ e => k b o e) g os).1, fun b o _ e => k b o e, fun _ h => .inl h⟩
end Mine
end
section
open PySem PySem.W PyProof.Rows PySem.Calls
namespace Mine
structure AOk (n : Nat) (A : Around) : Prop where
  h : A.handled = none
  d : A.depth ≤ 320 + 4 * n
  u : A.units ≤ 60 + 20 * n
  n : n ≤ 60
theorem AOk.room {n : Nat} {A : Around} (h : AOk n A) : A.units + 1 < cLine := by have := h.u; have := h.n; unfold cLine; lia
theorem AOk.units {n : Nat} {A : Around} (h : AOk n A) : A.units < cLine := by have := h.room; lia
theorem AOk.deep {n : Nat} {A : Around} (h : AOk n A) : A.depth < recursionLimit := by have := h.d; have := h.n; unfold recursionLimit; lia
theorem AOk.mark {n : Nat} {A : Around} (h : AOk n A) : A.mark none = A := by obtain ⟨a, b, c, d, e⟩ := A; rfl
abbrev NoE : Value → Shared → Prop := fun _ _ => False
def TG {α : Type} (B : Base) (n : Nat) (t : Sem α) (D : Led) (s : Shared) (R : α → Led → Shared → Prop) : Prop :=
  ∀ A, AOk n A → wpAny (model B.prog B.w) A t (fun v s' => ∃ D', R v D' s' ∧ LH B D' s' ∧ Tr D s D' s') NoE s
def VQ (Q : V → Led → Prop) (v : Value) (D' : Led) (s' : Shared) : Prop := ∃ x, Q x D' ∧ VR s'.heap x v
section
variable {α β : Type} {B : Base} {n : Nat} {D : Led} {s : Shared}
theorem TG.bind {m : Sem α} {f : α → Sem β} {R₀ : α → Led → Shared → Prop} {R : β → Led → Shared → Prop} (h : TG B n m D s R₀)
    (k : ∀ a D' s', R₀ a D' s' → LH B D' s' → Tr D s D' s' → TG B n (f a) D' s' R) : TG B n (m >>= f) D s R := fun A hA =>
  wpAny_bind (wpAny_mono (h A hA) (fun a s' z1 => by obtain ⟨D', r, l, t⟩ := z1; exact wpAny_mono (k a D' s' r l t A hA) (fun b s'' z2 => by obtain ⟨D'', r', l', t'⟩ := z2; exact ⟨D'', r', l', t.trans t'⟩) fun _ _ e => e) fun _ _ e => e)
theorem TG.mono {t : Sem α} {R₀ R : α → Led → Shared → Prop} (h : TG B n t D s R₀) (k : ∀ a D' s', R₀ a D' s' → LH B D' s' → Tr D s D' s' → R a D' s') : TG B n t D s R := fun A hA =>
  wpAny_mono (h A hA) (fun a s' z3 => by obtain ⟨D', r, l, t⟩ := z3; exact ⟨D', k a D' s' r l t, l, t⟩) fun _ _ e => e
theorem TG.pure {a : α} {R : α → Led → Shared → Prop} (l : LH B D s) (h : R a D s) : TG B n (pure a) D s R := fun A hA => wpAny_pure ⟨D, h, l, .refl ..⟩
theorem TG.standAt {pos : Pos} {R : Unit → Led → Shared → Prop} (l : LH B D s) (h : R () D s) : TG B n (standAt pos) D s R := fun A hA => wpAny_standAt ⟨D, h, l, .refl ..⟩
theorem TG.point {R : Unit → Led → Shared → Prop} (l : LH B D s) (h : R () D s) : TG B n point D s R := fun A hA => wpAny_point ⟨D, h, l, .refl ..⟩
theorem TG.rule {tag : String} {R : Unit → Led → Shared → Prop} (l : LH B D s) (h : R () D s) : TG B n (rule tag) D s R := fun A hA => wpAny_rule ⟨D, h, l, .refl ..⟩
theorem TG.holding {vs : List Value} {m : Sem α} {R : α → Led → Shared → Prop} (h : TG B n m D s R) : TG B n (holding vs m) D s R := fun A hA => wpAny_holding (h A hA)
theorem TG.release {vs keep : List Value} {R : Unit → Led → Shared → Prop} (l : LH B D s) (h : R () D s) : TG B n (release vs keep) D s R := fun A hA => wpAny_release ⟨D, h, l, .refl ..⟩
theorem TG.operate {vs : List Value} {m : Sem Value} {R : Value → Led → Shared → Prop} (h : TG B n m D s R) : TG B n (operate vs m) D s R := by
  unfold PySem.operate
  exact TG.bind (TG.holding h) fun a D' s' r l t => TG.bind (TG.release (R := fun _ D₁ s₁ => R a D₁ s₁) l r) fun _ D₁ s₁ r₁ l₁ _ => TG.pure l₁ r₁
theorem TG.of_eq {t : Sem α} {a : α} {R : α → Led → Shared → Prop} (e : t = Pure.pure a) (l : LH B D s) (h : R a D s) : TG B n t D s R := e ▸ TG.pure l h
theorem LH.toks {D : Led} {s : Shared} (l : LH B D s) (k : Nat) : LH B D { s with toks := k } := ⟨l.ok, l.base, l.led, l.nodup, l.new, l.gens, l.os⟩
theorem Tr.toks (D : Led) (s : Shared) (k : Nat) : Tr D s D { s with toks := k } := ⟨fun _ _ _ e => e, fun _ h => .inl h⟩
/-- a library rule that changes the token count alone -/
theorem TG.tokR {t : Sem α} {a : α} {R : α → Led → Shared → Prop} (l : LH B D s)
    (h : ∀ A, AOk n A → ∀ Q : α → Shared → Prop, (∀ k, Q a { s with toks := k }) → wpAny (model B.prog B.w) A t Q NoE s) (q : ∀ k, R a D { s with toks := k }) : TG B n t D s R := fun A hA =>
  h A hA _ fun k => ⟨D, q k, l.toks k, Tr.toks ..⟩
theorem TG.lvl {t : Sem α} {R : α → Led → Shared → Prop} {k : Nat} (h : TG B n t D s R) (hk : k ≤ n) (hn : n ≤ 60) : TG B k t D s R := fun A hA =>
  h A ⟨hA.h, by have := hA.d; lia, by have := hA.u; lia, hn⟩
theorem TG.in1 {t : Sem α} {R : α → Led → Shared → Prop} (h : TG B (n + 1) t D s R) (hn : n < 60) {A : Around} (hA : AOk n A) : wpAny (model B.prog B.w) A.in1 t (fun v s' => ∃ D', R v D' s' ∧ LH B D' s' ∧ Tr D s D' s') NoE s :=
  h _ ⟨hA.h, by have := hA.d; show A.depth ≤ _; lia, by have := hA.u; show A.units + 1 ≤ _; lia, hn⟩
end
def own (env : Env) : List Addr := env.locals :: env.cells.map (·.2)
inductive E where
  | v (x : V)
  | g (x : V)
abbrev Loc := List (Str × E)
inductive Slot (B : Base) (env : Env) (mr : Str → Option Value) (h : Heap) (x : Str) : E → Prop
  | loc {v : V} (hk : env.kindOf x = some .local) (hv : v ≠ .unb → ∃ r, mr x = some r ∧ VR h v r) : Slot B env mr h x (.v v)
  | cell {v : V} (k : NameKind) (c : Addr) (u : Option Value) (hk : env.kindOf x = some k) (hkk : k = .cell ∨ k = .free) (hc : env.cells.lookup x = some c) (hcl : h.IsCell c u)
      (hx : (x == ("__classdict__" : Str)) = false) (hv : v ≠ .unb → ∃ r, u = some r ∧ VR h v r) : Slot B env mr h x (.v v)
  | glob {v : V} (r : Value) (hk : env.kindOf x = some .globalImplicit) (hr : B.mg x = some r ∨ (B.mg x = none ∧ B.mb x = some r)) (hv : VR B.h₀ v r) : Slot B env mr h x (.g v)
structure H (B : Base) (env : Env) (m : Loc) (D : Led) (s : Shared) : Prop where
  lh : LH B D s
  kind : env.scope.kind = .function
  genv : env.globals = mainGlobals ∧ env.builtins = builtinsNs
  names : (m.map (·.1)).Nodup
  dbg : ∀ p ∈ m, (p.1 == ("__debug__" : Str)) = false
  ns : ∃ mr, s.heap.Ns env.locals mr ∧ ∀ p ∈ m, Slot B env mr s.heap p.1 p.2
  cells : ∀ c ∈ env.cells.map (·.2), ∃ u, s.heap.IsCell c u
  own_nodup : (own env).Nodup
  own_disj : ∀ a ∈ own env, a ∉ foot D
  own_new : ∀ a ∈ own env, B.h₀.get? a = none
theorem LH.baseTup {B : Base} {D : Led} {s : Shared} (l : LH B D s) : TupKeep B.h₀ s.heap := fun a o ho _ => l.base a o ho
theorem mem_cells {env : Env} {x : Str} {c : Addr} (h : env.cells.lookup x = some c) : c ∈ env.cells.map (·.2) := by
  generalize env.cells = l at h
  induction l with
  | nil => simp at h
  | cons p r ih =>
    obtain ⟨y, d⟩ := p
    rw [List.lookup_cons] at h
    split at h
    · cases h; simp
    · exact List.mem_cons_of_mem _ (ih h)
theorem H.own_in {B : Base} {env : Env} {m : Loc} {D : Led} {s : Shared} (x : H B env m D s) : ∀ a ∈ own env, (s.heap.get? a).isSome = true := fun a ha => by
  rcases List.mem_cons.mp ha with rfl | ha
  · obtain ⟨mr, ⟨o, _, _, ho, _⟩, _⟩ := x.ns; rw [ho]; rfl
  · obtain ⟨u, o, ho, _⟩ := x.cells a ha; rw [ho]; rfl
theorem Slot.step {B : Base} {env : Env} {mr : Str → Option Value} {h h' : Heap} {x : Str} {v : E} (y : Slot B env mr h x v) (k : TupKeep h h') (kc : ∀ c u, c ∈ env.cells.map (·.2) → h.IsCell c u → h'.IsCell c u) : Slot B env mr h' x v := by
  cases y with
  | loc hk hv => exact .loc hk fun e => let ⟨r, a, b⟩ := hv e; ⟨r, a, b.mono k⟩
  | cell kd c u hk hkk hc hcl hx hv => exact .cell kd c u hk hkk hc (kc c u (mem_cells hc) hcl) hx fun e => let ⟨r, a, b⟩ := hv e; ⟨r, a, b.mono k⟩
  | glob r hk hr hv => exact .glob r hk hr hv
theorem H.step {B : Base} {env : Env} {m : Loc} {D D' : Led} {s s' : Shared} (x : H B env m D s) (l : LH B D' s') (t : Tr D s D' s') : H B env m D' s' where
  lh := l
  kind := x.kind
  genv := x.genv
  names := x.names
  dbg := x.dbg
  ns := by
    obtain ⟨mr, hn, hs⟩ := x.ns
    refine ⟨mr, hn.at' fun o e => t.keep _ o (x.own_disj _ (.head _)) e, fun p hp => (hs p hp).step (t.tup x.lh) fun c u hc z4 => by obtain ⟨o, ho, hd⟩ := z4; exact ⟨o, t.keep c o (x.own_disj c (.tail _ hc)) ho, hd⟩⟩
  cells := fun c hc => let ⟨u, o, ho, hd⟩ := x.cells c hc; ⟨u, o, t.keep c o (x.own_disj c (.tail _ hc)) ho, hd⟩
  own_nodup := x.own_nodup
  own_disj := fun a ha hm => (t.grow a hm).elim (x.own_disj a ha) fun e => by have := x.own_in a ha; rw [e] at this; cases this
  own_new := x.own_new
def EV (B : Base) (n : Nat) (env : Env) (e : Expr) (m : Loc) (D : Led) (Q : V → Led → Prop) : Prop := ∀ s, H B env m D s → TG B n (eval e env) D s (VQ Q)
def ET (B : Base) (n : Nat) (env : Env) (e : Expr) (m : Loc) (D : Led) (Q : Bool → Led → Prop) : Prop := ∀ s, H B env m D s → TG B n (isTrue e env (eval e env)) D s fun b D' _ => Q b D'
def BIN (B : Base) (n : Nat) (op : Operator) (x y : V) (D : Led) (Q : V → Led → Prop) : Prop := ∀ s a b, LH B D s → VR s.heap x a → VR s.heap y b → TG B n (binaryOp op a b) D s (VQ Q)
def CMP (B : Base) (n : Nat) (op : CmpOp) (x y : V) (D : Led) (Q : V → Led → Prop) : Prop := ∀ s a b, LH B D s → VR s.heap x a → VR s.heap y b → TG B n (compareOp op a b) D s (VQ Q)
def UNA (B : Base) (n : Nat) (op : UnaryOp) (x : V) (D : Led) (Q : V → Led → Prop) : Prop := ∀ s a, LH B D s → VR s.heap x a → TG B n (unaryOp op a) D s (VQ Q)
def TRU (B : Base) (n : Nat) (x : V) (D : Led) (Q : Bool → Led → Prop) : Prop := ∀ s a, LH B D s → VR s.heap x a → TG B n (truthy a) D s fun b D' _ => Q b D'
def GI (B : Base) (n : Nat) (x i : V) (D : Led) (Q : V → Led → Prop) : Prop := ∀ s a b, LH B D s → VR s.heap x a → VR s.heap i b → TG B n (getItem a b) D s (VQ Q)
def CL (B : Base) (n : Nat) (f : V) (args : List V) (D : Led) (Q : V → Led → Prop) : Prop := ∀ s a vs, LH B D s → VR s.heap f a → VRs s.heap args vs → TG B n (call a vs []) D s (VQ Q)
section
variable {B : Base} {n : Nat} {env : Env} {m : Loc} {D : Led}
theorem EV.mono {e : Expr} {Q Q' : V → Led → Prop} (h : EV B n env e m D Q) (k : ∀ x D', Q x D' → Q' x D') : EV B n env e m D Q' := fun s hs => (h s hs).mono fun _ _ _ z5 _ _ => by obtain ⟨x, q, v⟩ := z5; exact ⟨x, k _ _ q, v⟩
theorem CL.mono {f : V} {args : List V} {Q Q' : V → Led → Prop} (h : CL B n f args D Q) (k : ∀ x D', Q x D' → Q' x D') : CL B n f args D Q' := fun s a vs l va vvs => (h s a vs l va vvs).mono fun _ _ _ z6 _ _ => by obtain ⟨x, q, v⟩ := z6; exact ⟨x, k _ _ q, v⟩
theorem ev_int {i : Int} {k : Nat} {pos : Pos} {Q : V → Led → Prop} (h : Q (.int i) D) : EV B n env (.Constant (.int i) k pos) m D Q := fun s hs =>
  TG.tokR hs.lh (a := .int i s.toks) (fun A hA Q hQ => wpAny_Constant_int (hQ _)) fun k => ⟨_, h, .int ..⟩
theorem ev_none {k : Nat} {pos : Pos} {Q : V → Led → Prop} (h : Q .none D) : EV B n env (.Constant .none k pos) m D Q := fun s hs => TG.pure hs.lh ⟨_, h, .none⟩
theorem ev_bool {b : Bool} {k : Nat} {pos : Pos} {Q : V → Led → Prop} (h : Q (.bool b) D) : EV B n env (.Constant (.bool b) k pos) m D Q := fun s hs => TG.pure hs.lh ⟨_, h, .bool b⟩
theorem ev_str {x : Str} {k : Nat} {pos : Pos} {Q : V → Led → Prop} (h : Q (.str x) D) : EV B n env (.Constant (.str x) k pos) m D Q := fun s hs =>
  TG.tokR hs.lh (a := .str x s.toks) (fun A hA Q hQ => by show wpAny _ A (mkText x) Q NoE s; exact fun _ _ _ => hQ _) fun k => ⟨_, h, .str ..⟩
theorem ev_byt {x : List UInt8} {k : Nat} {pos : Pos} {Q : V → Led → Prop} (h : Q (.byt x) D) : EV B n env (.Constant (.bytes x) k pos) m D Q := fun s hs =>
  TG.tokR hs.lh (a := .bytes x.toArray s.toks) (fun A hA Q hQ => by show wpAny _ A (mkTextBytes x.toArray) Q NoE s; exact fun _ _ _ => hQ _) fun k => ⟨_, h, .byt ..⟩
theorem ev_name {x : Str} {v : V} {pos : Pos} {Q : V → Led → Prop} (hm : (x, .v v) ∈ m) (hv : v ≠ .unb) (h : Q v D) : EV B n env (.Name x pos) m D Q := fun s hs A hA => by
  obtain ⟨mr, hn, hsl⟩ := hs.ns
  refine wpAny_Name ?_ (hs.dbg _ hm)
  have done : ∀ r, VR s.heap v r → ∃ D', VQ Q r D' s ∧ LH B D' s ∧ Tr D s D' s := fun r hr => ⟨D, ⟨v, h, hr⟩, hs.lh, .refl ..⟩
  cases hsl _ hm with
  | loc hk hv' => obtain ⟨r, e, q⟩ := hv' hv; exact wpAny_loadName_local hs.kind hk hn e (done r q)
  | cell kd c u hk hkk hc hcl hx hv' =>
    obtain ⟨r, rfl, q⟩ := hv' hv
    rcases hkk with rfl | rfl
    · exact wpAny_loadName_cell hs.kind hk hc hcl (done r q)
    · exact wpAny_loadName_free hs.kind hk hc hcl (done r q) hx
theorem ev_glob {x : Str} {v : V} {pos : Pos} {Q : V → Led → Prop} (hm : (x, .g v) ∈ m) (h : Q v D) : EV B n env (.Name x pos) m D Q := fun s hs A hA => by
  obtain ⟨mr, hn, hsl⟩ := hs.ns
  refine wpAny_Name ?_ (hs.dbg _ hm)
  have done : ∀ r, VR s.heap v r → ∃ D', VQ Q r D' s ∧ LH B D' s ∧ Tr D s D' s := fun r hr => ⟨D, ⟨v, h, hr⟩, hs.lh, .refl ..⟩
  cases hsl _ hm with
  | glob r hk hr hv' =>
    rw [loadName_read hs.kind hk]
    unfold loadGlobal
    have hg : s.heap.Ns env.globals B.mg := hs.genv.1 ▸ (hs.lh.ok.g.keeps hs.lh.base)
    have hb : s.heap.Ns env.builtins B.mb := hs.genv.2 ▸ (hs.lh.ok.b.keeps hs.lh.base)
    refine wpAny_bind (wpAny_nsGet hg ?_)
    rcases hr with hr | ⟨hr, hr'⟩
    · rw [hr]; exact wpAny_pure (done r (hv'.mono hs.lh.baseTup))
    · rw [hr]; exact wpAny_bind (wpAny_nsGet hb (by rw [hr']; exact wpAny_pure (done r (hv'.mono hs.lh.baseTup))))
theorem ev_bin {l r : Expr} {op : Operator} {pos : Pos} {Q : V → Led → Prop} (h : EV B n env l m D fun x D₁ => EV B n env r m D₁ fun y D₂ => BIN B n op x y D₂ Q) : EV B n env (.BinOp l op r pos) m D Q := fun s hs => by
  rw [eval_BinOp]
  refine TG.bind (h s hs) fun a D₁ s₁ z7 l₁ t₁ => ?_
  obtain ⟨x, q₁, va⟩ := z7
  refine TG.bind (TG.holding (q₁ s₁ (hs.step l₁ t₁))) fun b D₂ s₂ z8 l₂ t₂ => ?_
  obtain ⟨y, q₂, vb⟩ := z8
  exact TG.bind (TG.standAt (R := fun _ D' s' => D' = D₂ ∧ s' = s₂) l₂ ⟨rfl, rfl⟩) fun _ _ _ z9 _ _ => by obtain ⟨e₁, e₂⟩ := z9; subst e₁ e₂; exact TG.operate (q₂ _ a b l₂ (va.mono (t₂.tup l₁)) vb)
theorem ev_una {x : Expr} {op : UnaryOp} {pos : Pos} {Q : V → Led → Prop} (h : EV B n env x m D fun y D₁ => UNA B n op y D₁ Q) : EV B n env (.UnaryOp op x pos) m D Q := fun s hs => by
  show TG B n (eval x env >>= fun v => standAt pos >>= fun _ => holding [v] (unaryOp op v)) D s _
  refine TG.bind (h s hs) fun a D₁ s₁ z10 l₁ t₁ => ?_
  obtain ⟨y, q₁, va⟩ := z10
  exact TG.bind (TG.standAt (R := fun _ D' s' => D' = D₁ ∧ s' = s₁) l₁ ⟨rfl, rfl⟩) fun _ _ _ z11 _ _ => by obtain ⟨e₁, e₂⟩ := z11; subst e₁ e₂; exact TG.holding (q₁ _ a l₁ va)
theorem ev_cmp {l r : Expr} {op : CmpOp} {pos : Pos} {Q : V → Led → Prop} (h : EV B n env l m D fun x D₁ => EV B n env r m D₁ fun y D₂ => CMP B n op x y D₂ Q) (hm : behindInMarks op r = false := by with_unfolding_all rfl) : EV B n env (.Compare l [op] [r] pos) m D Q := fun s hs => by
  rw [eval_Compare1, markedBehindIn_of_false hm]
  refine TG.bind (h s hs) fun a D₁ s₁ z12 l₁ t₁ => ?_
  obtain ⟨x, q₁, va⟩ := z12
  refine TG.bind (TG.holding (q₁ s₁ (hs.step l₁ t₁))) fun b D₂ s₂ z13 l₂ t₂ => ?_
  obtain ⟨y, q₂, vb⟩ := z13
  exact TG.bind (TG.standAt (R := fun _ D' s' => D' = D₂ ∧ s' = s₂) l₂ ⟨rfl, rfl⟩) fun _ _ _ z14 _ _ => by obtain ⟨e₁, e₂⟩ := z14; subst e₁ e₂; exact TG.operate (q₂ _ a b l₂ (va.mono (t₂.tup l₁)) vb)
theorem ev_if {t b o : Expr} {pos : Pos} {Q : V → Led → Prop} (h : ET B n env t m D fun c D₁ => if c = true then EV B n env b m D₁ Q else EV B n env o m D₁ Q) : EV B n env (.IfExp t b o pos) m D Q := fun s hs => by
  show TG B n (isTrue t env (eval t env) >>= fun c => if c = true then eval b env else eval o env) D s _
  refine TG.bind (h s hs) fun c D₁ s₁ q l₁ t₁ => ?_
  cases c
  · exact q s₁ (hs.step l₁ t₁)
  · exact q s₁ (hs.step l₁ t₁)
end
end Mine
end
section
open PySem PySem.W PyProof.Rows PySem.Calls
namespace Mine
section
variable {B : Base} {n : Nat} {env : Env} {m : Loc} {D : Led}
-- tests
theorem et_plain {e : Expr} {Q : Bool → Led → Prop} (hp : ∀ whole, isTrue e env whole = (do let v ← whole; standAt e.pos; holding [v] (truthy v))) (h : EV B n env e m D fun x D₁ => TRU B n x D₁ Q) : ET B n env e m D Q := fun s hs => by
  rw [hp]
  refine TG.bind (h s hs) fun a D₁ s₁ z15 l₁ t₁ => ?_
  obtain ⟨x, q₁, va⟩ := z15
  exact TG.bind (TG.standAt (R := fun _ D' s' => D' = D₁ ∧ s' = s₁) l₁ ⟨rfl, rfl⟩) fun _ _ _ z16 _ _ => by obtain ⟨e₁, e₂⟩ := z16; subst e₁ e₂; exact TG.holding (q₁ _ a l₁ va)
theorem et_not {x : Expr} {pos : Pos} {Q : Bool → Led → Prop} (h : ET B n env x m D fun b D₁ => Q (!b) D₁) : ET B n env (.UnaryOp .Not x pos) m D Q := fun s hs => by
  show TG B n (isTrue x env (eval x env) >>= fun c => pure (!c)) D s _
  exact TG.bind (h s hs) fun c D₁ s₁ q l₁ t₁ => TG.pure l₁ q
theorem et_cmp {l r : Expr} {op : CmpOp} {pos : Pos} {Q : Bool → Led → Prop} (h : EV B n env l m D fun x D₁ => EV B n env r m D₁ fun y D₂ => CMP B n op x y D₂ fun z D₃ => TRU B n z D₃ Q) (hm : behindInMarks op r = false := by with_unfolding_all rfl) : ET B n env (.Compare l [op] [r] pos) m D Q := fun s hs => by
  rw [isTrue_Compare1, markedBehindIn_of_false hm]
  refine TG.bind (h s hs) fun a D₁ s₁ z17 l₁ t₁ => ?_
  obtain ⟨x, q₁, va⟩ := z17
  refine TG.bind (TG.holding (q₁ s₁ (hs.step l₁ t₁))) fun b D₂ s₂ z18 l₂ t₂ => ?_
  obtain ⟨y, q₂, vb⟩ := z18
  refine TG.bind (TG.standAt (R := fun _ D' s' => D' = D₂ ∧ s' = s₂) l₂ ⟨rfl, rfl⟩) fun _ _ _ z19 _ _ => ?_
  obtain ⟨e₁, e₂⟩ := z19
  subst e₁ e₂
  exact TG.bind (TG.operate (q₂ _ a b l₂ (va.mono (t₂.tup l₁)) vb)) fun c D₃ s₃ z20 l₃ t₃ => by obtain ⟨z, q₃, vc⟩ := z20; exact TG.holding (q₃ _ c l₃ vc)
theorem et_or2 {a b : Expr} {pos : Pos} {Q : Bool → Led → Prop} (h : ET B n env a m D fun c D₁ => if c = true then Q true D₁ else ET B n env b m D₁ fun c' D₂ => Q c' D₂) : ET B n env (.BoolOp .Or [a, b] pos) m D Q := fun s hs => by
  show TG B n (isTrue a env (eval a env) >>= fun c => match BoolOp.Or, c with
    | .And, false => pure false | .Or, true => pure true | _, _ => (isTrue b env (eval b env) >>= fun c => match BoolOp.Or, c with
      | .And, false => pure false | .Or, true => pure true | _, _ => pure (BoolOp.Or == .And))) D s _
  refine TG.bind (h s hs) fun c D₁ s₁ q l₁ t₁ => ?_
  cases c
  · exact TG.bind (q s₁ (hs.step l₁ t₁)) fun c D₂ s₂ q₂ l₂ t₂ => by cases c <;> exact TG.pure l₂ q₂
  · exact TG.pure l₁ q
theorem et_and2 {a b : Expr} {pos : Pos} {Q : Bool → Led → Prop} (h : ET B n env a m D fun c D₁ => if c = true then ET B n env b m D₁ fun c' D₂ => Q c' D₂ else Q false D₁) : ET B n env (.BoolOp .And [a, b] pos) m D Q := fun s hs => by
  show TG B n (isTrue a env (eval a env) >>= fun c => match BoolOp.And, c with
    | .And, false => pure false | .Or, true => pure true | _, _ => (isTrue b env (eval b env) >>= fun c => match BoolOp.And, c with
      | .And, false => pure false | .Or, true => pure true | _, _ => pure (BoolOp.And == .And))) D s _
  refine TG.bind (h s hs) fun c D₁ s₁ q l₁ t₁ => ?_
  cases c
  · exact TG.pure l₁ q
  · exact TG.bind (q s₁ (hs.step l₁ t₁)) fun c D₂ s₂ q₂ l₂ t₂ => by cases c <;> exact TG.pure l₂ q₂
/-- the rest of a chain of tests joined by one word -/
def AT (B : Base) (n : Nat) (op : BoolOp) (es : List Expr) (env : Env) (m : Loc) (D : Led) (Q : Bool → Led → Prop) : Prop := ∀ s, H B env m D s → TG B n (allTrue op es env) D s fun b D' _ => Q b D'
theorem et_bool {op : BoolOp} {es : List Expr} {pos : Pos} {Q : Bool → Led → Prop} (h : AT B n op es env m D Q) : ET B n env (.BoolOp op es pos) m D Q := fun s hs => h s hs
theorem at_nil {op : BoolOp} {Q : Bool → Led → Prop} (h : Q (op == .And) D) : AT B n op [] env m D Q := fun s hs => TG.pure hs.lh h
theorem at_or {e : Expr} {es : List Expr} {Q : Bool → Led → Prop} (h : ET B n env e m D fun c D₁ => if c = true then Q true D₁ else AT B n .Or es env m D₁ Q) : AT B n .Or (e :: es) env m D Q := fun s hs => by
  show TG B n (isTrue e env (eval e env) >>= fun c => match BoolOp.Or, c with | .And, false => pure false | .Or, true => pure true | _, _ => allTrue .Or es env) D s _
  refine TG.bind (h s hs) fun c D₁ s₁ q l₁ t₁ => ?_
  cases c
  · exact q s₁ (hs.step l₁ t₁)
  · exact TG.pure l₁ q
theorem at_and {e : Expr} {es : List Expr} {Q : Bool → Led → Prop} (h : ET B n env e m D fun c D₁ => if c = true then AT B n .And es env m D₁ Q else Q false D₁) : AT B n .And (e :: es) env m D Q := fun s hs => by
  show TG B n (isTrue e env (eval e env) >>= fun c => match BoolOp.And, c with | .And, false => pure false | .Or, true => pure true | _, _ => allTrue .And es env) D s _
  refine TG.bind (h s hs) fun c D₁ s₁ q l₁ t₁ => ?_
  cases c
  · exact TG.pure l₁ q
  · exact q s₁ (hs.step l₁ t₁)
/-- a chain of two comparisons -/
theorem et_chain {l a b : Expr} {o₁ o₂ : CmpOp} {pos : Pos} {Q : Bool → Led → Prop} (h : EV B n env l m D fun x D₁ => EV B n env a m D₁ fun y D₂ => CMP B n o₁ x y D₂ fun z D₃ => TRU B n z D₃ fun c D₄ =>
      if c = true then EV B n env b m D₄ fun u D₅ => CMP B n o₂ y u D₅ fun w D₆ => TRU B n w D₆ Q else Q false D₄) (hm : behindInMarks o₂ b = false := by with_unfolding_all rfl) : ET B n env (.Compare l [o₁, o₂] [a, b] pos) m D Q := fun s hs => by
  show TG B n (eval l env >>= fun v => testChain pos v [o₁, o₂] (markedEach [o₁, o₂] [a, b] (evalEach [a, b] env))) D s _
  refine TG.bind (h s hs) fun va D₁ s₁ z21 l₁ t₁ => ?_
  obtain ⟨x, q₁, ra⟩ := z21
  rw [show markedEach [o₁, o₂] [a, b] (evalEach [a, b] env) = [eval a env, markedBehindIn o₂ b (eval b env)] from rfl, markedBehindIn_of_false hm]
  show TG B n (holding [va] (eval a env) >>= fun rv => standAt pos >>= fun _ => holding [va, rv] (compareOp o₁ va rv) >>= fun c => PySem.release [va, rv] [c] >>= fun _ => holding [c, rv] (truthy c) >>= fun t => if t = true then testChain pos rv [o₂] [eval b env] else pure false) D₁ s₁ _
  refine TG.bind (TG.holding (q₁ s₁ (hs.step l₁ t₁))) fun vb D₂ s₂ z22 l₂ t₂ => ?_
  obtain ⟨y, q₂, rb⟩ := z22
  refine TG.bind (TG.standAt (R := fun _ D' s' => D' = D₂ ∧ s' = s₂) l₂ ⟨rfl, rfl⟩) fun _ _ _ z23 _ _ => ?_
  obtain ⟨e₁, e₂⟩ := z23
  subst e₁ e₂
  refine TG.bind (TG.holding (q₂ _ va vb l₂ (ra.mono (t₂.tup l₁)) rb)) fun c D₃ s₃ z24 l₃ t₃ => ?_
  obtain ⟨z, q₃, vc⟩ := z24
  refine TG.bind (TG.release (R := fun _ D' s' => D' = D₃ ∧ s' = s₃) l₃ ⟨rfl, rfl⟩) fun _ _ _ z25 _ _ => ?_
  obtain ⟨e₁, e₂⟩ := z25
  subst e₁ e₂
  refine TG.bind (TG.holding (q₃ _ c l₃ vc)) fun t D₄ s₄ q₄ l₄ t₄ => ?_
  have hs₄ : H B env m D₄ s₄ := (((hs.step l₁ t₁).step l₂ t₂).step l₃ t₃).step l₄ t₄
  cases t
  · exact TG.pure l₄ q₄
  · show TG B n (holding [vb] (eval b env) >>= fun rv => standAt pos >>= fun _ => operate [vb, rv] (compareOp o₂ vb rv) >>= fun c => holding [c] (truthy c)) D₄ s₄ _
    refine TG.bind (TG.holding (q₄ s₄ hs₄)) fun vu D₅ s₅ z26 l₅ t₅ => ?_
    obtain ⟨u, q₅, ru⟩ := z26
    refine TG.bind (TG.standAt (R := fun _ D' s' => D' = D₅ ∧ s' = s₅) l₅ ⟨rfl, rfl⟩) fun _ _ _ z27 _ _ => ?_
    obtain ⟨e₁, e₂⟩ := z27
    subst e₁ e₂
    exact TG.bind (TG.operate (q₅ _ vb vu l₅ (((rb.mono (t₃.tup l₂)).mono (t₄.tup l₃)).mono (t₅.tup l₄)) ru)) fun c D₆ s₆ z28 l₆ t₆ => by obtain ⟨w, q₆, vw⟩ := z28; exact TG.holding (q₆ _ c l₆ vw)
theorem ev_chain {l a b : Expr} {o₁ o₂ : CmpOp} {pos : Pos} {Q : V → Led → Prop} (h : EV B n env l m D fun x D₁ => EV B n env a m D₁ fun y D₂ => CMP B n o₁ x y D₂ fun z D₃ => TRU B n z D₃ fun c D₄ =>
      if c = true then EV B n env b m D₄ fun u D₅ => CMP B n o₂ y u D₅ Q else Q z D₄) (hm : behindInMarks o₂ b = false := by with_unfolding_all rfl) : EV B n env (.Compare l [o₁, o₂] [a, b] pos) m D Q := fun s hs => by
  show TG B n (eval l env >>= fun v => compareChain pos v [o₁, o₂] (markedEach [o₁, o₂] [a, b] (evalEach [a, b] env))) D s _
  refine TG.bind (h s hs) fun va D₁ s₁ z29 l₁ t₁ => ?_
  obtain ⟨x, q₁, ra⟩ := z29
  rw [show markedEach [o₁, o₂] [a, b] (evalEach [a, b] env) = [eval a env, markedBehindIn o₂ b (eval b env)] from rfl, markedBehindIn_of_false hm]
  show TG B n (holding [va] (eval a env) >>= fun rv => standAt pos >>= fun _ => holding [va, rv] (compareOp o₁ va rv) >>= fun c => PySem.release [va, rv] [c] >>= fun _ => holding [c, rv] (truthy c) >>= fun t => if t = true then compareChain pos rv [o₂] [eval b env] else pure c) D₁ s₁ _
  refine TG.bind (TG.holding (q₁ s₁ (hs.step l₁ t₁))) fun vb D₂ s₂ z30 l₂ t₂ => ?_
  obtain ⟨y, q₂, rb⟩ := z30
  refine TG.bind (TG.standAt (R := fun _ D' s' => D' = D₂ ∧ s' = s₂) l₂ ⟨rfl, rfl⟩) fun _ _ _ z31 _ _ => ?_
  obtain ⟨e₁, e₂⟩ := z31
  subst e₁ e₂
  refine TG.bind (TG.holding (q₂ _ va vb l₂ (ra.mono (t₂.tup l₁)) rb)) fun c D₃ s₃ z32 l₃ t₃ => ?_
  obtain ⟨z, q₃, vc⟩ := z32
  refine TG.bind (TG.release (R := fun _ D' s' => D' = D₃ ∧ s' = s₃) l₃ ⟨rfl, rfl⟩) fun _ _ _ z33 _ _ => ?_
  obtain ⟨e₁, e₂⟩ := z33
  subst e₁ e₂
  refine TG.bind (TG.holding (q₃ _ c l₃ vc)) fun t D₄ s₄ q₄ l₄ t₄ => ?_
  have hs₄ : H B env m D₄ s₄ := (((hs.step l₁ t₁).step l₂ t₂).step l₃ t₃).step l₄ t₄
  cases t
  · exact TG.pure l₄ ⟨z, q₄, vc.mono (t₄.tup l₃)⟩
  · show TG B n (holding [vb] (eval b env) >>= fun rv => standAt pos >>= fun _ => operate [vb, rv] (compareOp o₂ vb rv)) D₄ s₄ _
    refine TG.bind (TG.holding (q₄ s₄ hs₄)) fun vu D₅ s₅ z34 l₅ t₅ => ?_
    obtain ⟨u, q₅, ru⟩ := z34
    refine TG.bind (TG.standAt (R := fun _ D' s' => D' = D₅ ∧ s' = s₅) l₅ ⟨rfl, rfl⟩) fun _ _ _ z35 _ _ => ?_
    obtain ⟨e₁, e₂⟩ := z35
    subst e₁ e₂
    exact TG.operate (q₅ _ vb vu l₅ (((rb.mono (t₃.tup l₂)).mono (t₄.tup l₃)).mono (t₅.tup l₄)) ru)
-- a value by a word: and, or
def BV (B : Base) (n : Nat) (op : BoolOp) (es : List Expr) (env : Env) (m : Loc) (D : Led) (Q : V → Led → Prop) : Prop := ∀ s pos, H B env m D s → TG B n (boolOp pos op (evalEach es env)) D s (VQ Q)
theorem ev_words {op : BoolOp} {es : List Expr} {pos : Pos} {Q : V → Led → Prop} (h : BV B n op es env m D Q) : EV B n env (.BoolOp op es pos) m D Q := fun s hs => h s pos hs
theorem bv_one {op : BoolOp} {e : Expr} {Q : V → Led → Prop} (h : EV B n env e m D Q) : BV B n op [e] env m D Q := fun s pos hs => h s hs
theorem bv_and {e e' : Expr} {es : List Expr} {Q : V → Led → Prop} (h : EV B n env e m D fun x D₁ => TRU B n x D₁ fun c D₂ => if c = true then BV B n .And (e' :: es) env m D₂ Q else Q x D₂) : BV B n .And (e :: e' :: es) env m D Q := fun s pos hs => by
  show TG B n (eval e env >>= fun v => standAt pos >>= fun _ => holding [v] (truthy v) >>= fun t => match BoolOp.And, t with | .And, false | .Or, true => pure v | _, _ => boolOp pos .And (evalEach (e' :: es) env)) D s _
  refine TG.bind (h s hs) fun va D₁ s₁ z36 l₁ t₁ => ?_
  obtain ⟨x, q₁, ra⟩ := z36
  refine TG.bind (TG.standAt (R := fun _ D' s' => D' = D₁ ∧ s' = s₁) l₁ ⟨rfl, rfl⟩) fun _ _ _ z37 _ _ => ?_
  obtain ⟨e₁, e₂⟩ := z37
  subst e₁ e₂
  refine TG.bind (TG.holding (q₁ _ va l₁ ra)) fun t D₄ s₄ q₄ l₄ t₄ => ?_
  cases t
  · exact TG.pure l₄ ⟨x, q₄, ra.mono (t₄.tup l₁)⟩
  · exact q₄ s₄ pos ((hs.step l₁ t₁).step l₄ t₄)
-- arguments
def noStar : List Expr → Bool
  | [] => true
  | .Starred .. :: _ => false
  | _ :: r => noStar r
theorem noStar_each {env : Env} : ∀ {es : List Expr}, noStar es = true → ∀ pos, backTo pos (starEach es env) = es.map fun e => (false, eval e env)
  | [], _, _ => rfl
  | e :: r, h, pos => by
    cases e <;> first | (simp [noStar] at h; done) | (have ih := noStar_each (env := env) (es := r) (by simpa [noStar] using h) pos; simp only [starEach, backTo, List.map_cons] at ih ⊢; exact congrArg (List.cons _) ih)
def AR (B : Base) (n : Nat) (env : Env) (es : List Expr) (m : Loc) (D : Led) (Q : List V → Led → Prop) : Prop := ∀ s, H B env m D s → TG B n (spliced (es.map fun e => (false, eval e env))) D s fun vs D' s' => ∃ xs, Q xs D' ∧ VRs s'.heap xs vs
theorem ar_nil {Q : List V → Led → Prop} (h : Q [] D) : AR B n env [] m D Q := fun s hs => TG.pure hs.lh ⟨[], h, .nil⟩
theorem ar_cons {e : Expr} {es : List Expr} {Q : List V → Led → Prop} (h : EV B n env e m D fun x D₁ => AR B n env es m D₁ fun xs D₂ => Q (x :: xs) D₂) : AR B n env (e :: es) m D Q := fun s hs => by
  show TG B n (eval e env >>= fun v => (pure [v] : Sem (List Value)) >>= fun here => holding here (spliced (es.map fun e => (false, eval e env))) >>= fun r => pure (here ++ r)) D s _
  refine TG.bind (h s hs) fun va D₁ s₁ z38 l₁ t₁ => ?_
  obtain ⟨x, q₁, ra⟩ := z38
  refine TG.bind (TG.pure (R := fun h D' s' => h = [va] ∧ D' = D₁ ∧ s' = s₁) l₁ ⟨rfl, rfl, rfl⟩) fun _ _ _ z39 _ _ => ?_
  obtain ⟨e₀, e₁, e₂⟩ := z39
  subst e₀ e₁ e₂
  exact TG.bind (TG.holding (q₁ _ (hs.step l₁ t₁))) fun r D₂ s₂ z40 l₂ t₂ => by obtain ⟨xs, q₂, rr⟩ := z40; exact TG.pure l₂ ⟨x :: xs, q₂, .cons (ra.mono (t₂.tup l₁)) rr⟩
def CK (B : Base) (f : Value) : Prop := ∀ M h, B.K.In h → ∃ k, (k = Keeper.frame ∨ k = Keeper.machine ∨ k = Keeper.boundFrame) ∧ Looks M h (keeperOf f) k
theorem ck_builtin (id : String) : CK B (.builtin id) := fun M h _ => ⟨.machine, .inr (.inl rfl), Looks.of_pure rfl⟩
theorem ck_type (id : String) : CK B (.type id) := fun M h _ => ⟨.machine, .inr (.inl rfl), Looks.of_pure rfl⟩
theorem ck_ref {a : Addr} (h : keepIn B.K (.ref a) = true) : CK B (.ref a) := fun M hp X => by obtain ⟨k, a, b⟩ := looks_keep (M := M) h X; exact ⟨k, a.elim .inl (fun e => .inr (.inl e)), b⟩
theorem spliced_nil_inv {M : Model} {A : Around} {E : Value → Shared → Prop} {s : Shared} {f : Value} {Q : Args → Shared → Prop} (h : wpAny M A (spliced []) (fun vs s' => Q ⟨vs, []⟩ s') E s) : wpAny M A (evalArgs f true [] []) Q E s := by
  unfold evalArgs
  show wpAny M A (spliced [] >>= _) Q E s
  refine wpAny_bind (wpAny_mono h (fun vs s' h' => ?_) fun _ _ e => e)
  refine wpAny_bind (wpAny_pure ?_)
  refine wpAny_holding ?_
  exact wpAny_bind (wpAny_pure (wpAny_bind (wpAny_pure (wpAny_pure h'))))
theorem evalArgs_map {M : Model} {A : Around} {E : Value → Shared → Prop} {s : Shared} {f : Value} {es : List Expr} {Q : Args → Shared → Prop}
    (h : wpAny M A (spliced (es.map fun e => (false, eval e env))) (fun vs s' => Q ⟨vs, []⟩ s') E s) : wpAny M A (evalArgs f true (es.map fun e => (false, eval e env)) []) Q E s := by
  cases es with
  | nil => exact spliced_nil_inv h
  | cons e r => exact Calls.evalArgs_plain h
theorem TG.callWith {f : Value} {first : List Value} {es : List Expr} {pos : Pos} {D : Led} {s : Shared} {R : Value → Led → Shared → Prop} (hk : CK B f)
    (h : TG B n (spliced (es.map fun e => (false, eval e env))) D s fun vs D' s' => TG B n (call f (first ++ vs) []) D' s' R) : TG B n (callWith pos f first (es.map fun e => (false, eval e env)) []) D s R := fun A hA => by
  refine callWith_of (P := fun h => B.K.In h) (by simp) (fun h X => hk _ h X) (evalArgs_map ?_)
  refine wpAny_mono (h A hA) (fun vs s' z41 => by obtain ⟨D', r, l, t⟩ := z41; exact ⟨l.ok.k.keeps l.base, wpAny_mono (r A hA) (fun b s'' z42 => by obtain ⟨D'', r', l', t'⟩ := z42; exact ⟨D'', r', l', t.trans t'⟩) fun _ _ e => e⟩) fun _ _ e => e
theorem ev_call {x : Str} {p pos : Pos} {es : List Expr} {Q : V → Led → Prop} (h : EV B n env (.Name x p) m D fun f D₁ => ∃ fv, f = .raw fv ∧ CK B fv ∧ AR B n env es m D₁ fun ys D₂ => CL B n f ys D₂ Q) (hn : noStar es = true := by rfl) : EV B n env (.Call (.Name x p) es [] pos) m D Q := fun s hs => by
  show TG B n (eval (.Name x p) env >>= fun f => PySem.callWith pos f [] (backTo pos (starEach es env)) []) D s _
  rw [noStar_each hn]
  refine TG.bind (h s hs) fun fr D₁ s₁ z43 l₁ t₁ => ?_
  obtain ⟨f, ⟨fv, e, ck, q₁⟩, ra⟩ := z43
  subst e; (first | obtain rfl := ra.inv | obtain ⟨_, rfl⟩ := ra.inv)
  exact TG.callWith ck ((q₁ s₁ (hs.step l₁ t₁)).mono fun vs D₂ s₂ z44 l₂ t₂ => by obtain ⟨ys, q₂, rv⟩ := z44; exact q₂ s₂ _ _ l₂ (.raw _) rv)
def GM (B : Base) (n : Nat) (x : V) (name : Str) (D : Led) (fv : Value) (first : List V) : Prop := ∀ s a A pl, AOk n A → LH B D s → VR s.heap x a → ∀ Q : Value × List Value → Shared → Prop, (∀ rs, VRs s.heap first rs → Q (fv, rs) s) → wpAny (model B.prog B.w) A (getMethod a name pl) Q NoE s
theorem ev_meth {o : Expr} {name : Str} {apos pos : Pos} {es : List Expr} {Q : V → Led → Prop} (h : EV B n env o m D fun x D₁ => ∃ fv first, GM B n x name D₁ fv first ∧ CK B fv ∧ AR B n env es m D₁ fun ys D₂ => CL B n (.raw fv) (first ++ ys) D₂ Q)
    (hn : noStar es = true := by rfl) (hfew : decide (es.length < 30) = true := by rfl) (hline : (apos.endLine == pos.line) = true := by rfl) (hbase : attributeBase o name env (eval o env) = eval o env := by rfl) :
    EV B n env (.Call (.Attribute o name apos) es [] pos) m D Q := fun s hs => by
  rw [arm_eval_Call, hbase, noStar_each hn]
  refine TG.bind (h s hs) fun ov D₁ s₁ z45 l₁ t₁ => ?_
  obtain ⟨x, ⟨fv, first, gm, ck, q₁⟩, ra⟩ := z45
  refine TG.bind (TG.standAt (R := fun _ D' s' => D' = D₁ ∧ s' = s₁) l₁ ⟨rfl, rfl⟩) fun _ _ _ z46 _ _ => ?_
  obtain ⟨e₁, e₂⟩ := z46
  subst e₁ e₂
  have hform : methodCallForm (es.length + ([] : List Keyword).length) (es.map fun e => (false, eval e env)) (backToKw pos (keywordEach [] env)) = true := by
    unfold methodCallForm
    simp only [List.all_map]
    have : es.length < 30 := of_decide_eq_true hfew
    simp [backToKw, keywordEach, this]
  have hpos : methodCallPos true o env apos pos = pure pos := by unfold methodCallPos; simp [hline]
  have hgm : TG B n (holding [ov] (calleeOf true o env ov name)) _ _ (fun r D' s' => r.1 = fv ∧ VRs s'.heap first r.2 ∧ D' = _ ∧ s' = _) := TG.holding fun A hA => gm _ ov A _ hA l₁ ra _ fun rs hr => ⟨_, ⟨rfl, hr, rfl, rfl⟩, l₁, .refl ..⟩
  unfold methodCall
  rw [hform]
  refine TG.bind hgm fun r D₂ s₂ z47 l₂ t₂ => ?_
  obtain ⟨e₁, e₂, e₃, e₄⟩ := z47
  obtain ⟨f, rs⟩ := r
  dsimp only at e₁ e₂; subst e₁ e₃ e₄
  dsimp only
  refine TG.bind (TG.of_eq (R := fun p D' s' => p = pos ∧ D' = _ ∧ s' = _) hpos l₂ ⟨rfl, rfl, rfl⟩) fun p D₃ s₃ z48 _ _ => ?_
  obtain ⟨e₅, e₆, e₇⟩ := z48
  subst e₅ e₆ e₇
  exact TG.callWith ck ((q₁ _ (hs.step l₁ t₁)).mono fun vs D₃ s₃ z49 l₃ t₃ => by obtain ⟨ys, q₂, rv⟩ := z49; exact q₂ s₃ _ _ l₃ (.raw _) ((VRs.mono (t₃.tup l₂) e₂).append rv))
def GA (B : Base) (n : Nat) (x : V) (name : Str) (D : Led) (Q : V → Led → Prop) : Prop := ∀ s a, LH B D s → VR s.heap x a → TG B n (getAttr a name true) D s (VQ Q)
theorem TG.letTemp {base : Expr} {o r : Value} {D : Led} {s : Shared} {R : Unit → Led → Shared → Prop} (l : LH B D s) (h : R () D s) : TG B n (letTemporaryGo base o r) D s R := fun A hA => wpAny_letTemporaryGo ⟨D, h, l, .refl ..⟩
theorem ev_attr {o : Expr} {name : Str} {pos : Pos} {Q : V → Led → Prop} (h : EV B n env o m D fun x D₁ => GA B n x name D₁ Q) (hbase : attributeBase o name env (eval o env) = eval o env := by rfl) : EV B n env (.Attribute o name pos) m D Q := fun s hs => by
  show TG B n (attributeBase o name env (eval o env) >>= fun ov => standAt pos.atName >>= fun _ => holding [ov] (getAttr ov name true) >>= fun r => letTemporaryGo o ov r >>= fun _ => pure r) D s _
  rw [hbase]
  refine TG.bind (h s hs) fun ov D₁ s₁ z50 l₁ t₁ => ?_
  obtain ⟨x, q₁, ra⟩ := z50
  refine TG.bind (TG.standAt (R := fun _ D' s' => D' = D₁ ∧ s' = s₁) l₁ ⟨rfl, rfl⟩) fun _ _ _ z51 _ _ => ?_
  obtain ⟨e₁, e₂⟩ := z51
  subst e₁ e₂
  refine TG.bind (TG.holding (q₁ _ ov l₁ ra)) fun r D₂ s₂ q₂ l₂ t₂ => ?_
  exact TG.bind (TG.letTemp (R := fun _ D' s' => D' = D₂ ∧ s' = s₂) l₂ ⟨rfl, rfl⟩) fun _ _ _ z52 _ _ => by obtain ⟨e₁, e₂⟩ := z52; subst e₁ e₂; exact TG.pure l₂ q₂
-- items
def SB (B : Base) (n : Nat) (value slice : Expr) (x i : V) (D : Led) (Q : V → Led → Prop) : Prop := ∀ s a b, LH B D s → VR s.heap x a → VR s.heap i b → TG B n (subscriptTail value slice a b) D s (VQ Q)
theorem ev_sub {value slice : Expr} {pos : Pos} {Q : V → Led → Prop} (h : EV B n env value m D fun x D₁ => EV B n env slice m D₁ fun i D₂ => SB B n value slice x i D₂ Q) : EV B n env (.Subscript value slice pos) m D Q := fun s hs => by
  show TG B n (eval value env >>= fun o => holding [o] (eval slice env) >>= fun i => standAt pos >>= fun _ => subscriptTail value slice o i) D s _
  refine TG.bind (h s hs) fun a D₁ s₁ z53 l₁ t₁ => ?_
  obtain ⟨x, q₁, va⟩ := z53
  refine TG.bind (TG.holding (q₁ s₁ (hs.step l₁ t₁))) fun b D₂ s₂ z54 l₂ t₂ => ?_
  obtain ⟨y, q₂, vb⟩ := z54
  exact TG.bind (TG.standAt (R := fun _ D' s' => D' = D₂ ∧ s' = s₂) l₂ ⟨rfl, rfl⟩) fun _ _ _ z55 _ _ => by obtain ⟨e₁, e₂⟩ := z55; subst e₁ e₂; exact q₂ _ a b l₂ (va.mono (t₂.tup l₁)) vb
theorem sub_ops (slice : Expr) (o i : Value) : ∃ ops, subscripted slice false o i = operate ops (getItem o i) := by
  cases slice with
  | Slice l u st p => cases st <;> exact ⟨_, rfl⟩
  | _ => exact ⟨_, rfl⟩
theorem sb_of {value slice : Expr} {x i : V} {T id : String} {D : Led} {Q : V → Led → Prop} (hT : ∀ s a, LH B D s → VR s.heap x a → s.TypeIs a T) (hl : typeLookup (.type T) "__getitem__" = pure (some (.builtin id))) (h : GI B n x i D Q) : SB B n value slice x i D Q := fun s a b l va vb A hA => by
  obtain ⟨ops, e⟩ := sub_ops slice a b
  exact tail_any (hT s a l va) hl (h s a b l va vb A hA) e
end
end Mine
end
section
open PySem PySem.W PyProof.Rows PySem.Calls
namespace Mine
structure KS where
  brk : Loc → Led → Prop
  cont : Loc → Led → Prop
  ret : V → Led → Prop
def KF (Q : Loc → Led → Prop) (K : KS) (h : Heap) : Flow → Loc → Led → Prop
  | .next, m, D => Q m D
  | .brk, m, D => K.brk m D
  | .cont, m, D => K.cont m D
  | .ret v, _, D => ∃ x, K.ret x D ∧ VR h x v
structure TrF (env : Env) (D : Led) (s : Shared) (D' : Led) (s' : Shared) : Prop where
  keep : ∀ b o, b ∉ foot D → b ∉ own env → s.heap.get? b = some o → s'.heap.get? b = some o
  grow : ∀ a ∈ foot D', a ∈ foot D ∨ s.heap.get? a = none
theorem TrF.refl (env : Env) (D : Led) (s : Shared) : TrF env D s D s := ⟨fun _ _ _ _ e => e, fun _ h => .inl h⟩
theorem Tr.frame {env : Env} {D D' : Led} {s s' : Shared} (t : Tr D s D' s') : TrF env D s D' s' := ⟨fun b o h _ e => t.keep b o h e, t.grow⟩
theorem TrF.trans {B : Base} {env : Env} {m : Loc} {D D' D'' : Led} {s s' s'' : Shared} (x : TrF env D s D' s') (y : TrF env D' s' D'' s'') (hs : H B env m D' s') : TrF env D s D'' s'' where
  keep := fun b o hb ho e => y.keep b o (fun hm => (x.grow b hm).elim hb fun en => by rw [e] at en; cases en) ho (x.keep b o hb ho e)
  grow := fun a ha => (y.grow a ha).elim (fun h => x.grow a h) fun en => by
    by_cases hm : a ∈ foot D
    · exact .inl hm
    · refine .inr ?_
      cases q : s.heap.get? a with
      | none => rfl
      | some o =>
        by_cases ho : a ∈ own env
        · have := hs.own_in a ho; rw [en] at this; cases this
        · rw [x.keep a o hm ho q] at en; cases en
def TX (B : Base) (n : Nat) (env : Env) (t : Sem Flow) (D : Led) (s : Shared) (Q : Loc → Led → Prop) (K : KS) : Prop :=
  ∀ A, AOk n A → wpAny (model B.prog B.w) A t (fun fl s' => ∃ m' D', KF Q K s'.heap fl m' D' ∧ H B env m' D' s' ∧ TrF env D s D' s') NoE s
def EX (B : Base) (n : Nat) (env : Env) (st : Stmt) (m : Loc) (D : Led) (Q : Loc → Led → Prop) (K : KS) : Prop := ∀ s, H B env m D s → TX B n env (exec st env) D s Q K
def EXS (B : Base) (n : Nat) (env : Env) (l : List Stmt) (m : Loc) (D : Led) (Q : Loc → Led → Prop) (K : KS) : Prop := ∀ s, H B env m D s → TX B n env (execs l env) D s Q K
/-- an assignment to a target -/
def AS (B : Base) (n : Nat) (env : Env) (t : Expr) (x : V) (m : Loc) (D : Led) (Q : Loc → Led → Prop) : Prop := ∀ s r, H B env m D s → VR s.heap x r → ∀ A, AOk n A →
  wpAny (model B.prog B.w) A (assign t env r) (fun _ s' => ∃ m' D', Q m' D' ∧ H B env m' D' s' ∧ TrF env D s D' s') NoE s
section
variable {B : Base} {n : Nat} {env : Env} {m : Loc} {D : Led} {Q : Loc → Led → Prop} {K : KS}
theorem TX.bindG {α : Type} {t : Sem α} {f : α → Sem Flow} {s : Shared} {R : α → Led → Shared → Prop} (hs : H B env m D s) (h : TG B n t D s R) (k : ∀ a D' s', R a D' s' → H B env m D' s' → TX B n env (f a) D' s' Q K) : TX B n env (t >>= f) D s Q K := fun A hA =>
  wpAny_bind (wpAny_mono (h A hA) (fun a s' z1 => by obtain ⟨D', r, l, t⟩ := z1; exact wpAny_mono (k a D' s' r (hs.step l t) A hA) (fun fl s'' z2 => by obtain ⟨m'', D'', r', h', t'⟩ := z2; exact ⟨m'', D'', r', h', t.frame.trans t' (hs.step l t)⟩) fun _ _ e => e) fun _ _ e => e)
theorem TX.stand {pos : Pos} {f : Unit → Sem Flow} {s : Shared} (hs : H B env m D s) (k : TX B n env (f ()) D s Q K) : TX B n env (standAt pos >>= f) D s Q K :=
  TX.bindG hs (TG.standAt (R := fun _ D' s' => D' = D ∧ s' = s) hs.lh ⟨rfl, rfl⟩) fun _ D' s' z3 _ => by obtain ⟨e₁, e₂⟩ := z3; subst e₁ e₂; exact k
theorem TX.next {s : Shared} (hs : H B env m D s) (q : Q m D) : TX B n env (pure .next) D s Q K := fun A hA => wpAny_pure ⟨m, D, q, hs, .refl ..⟩
theorem xs_nil (q : Q m D) : EXS B n env [] m D Q K := fun s hs => TX.next hs q
theorem xs_cons {st : Stmt} {rest : List Stmt} (h : EX B n env st m D (fun m' D' => EXS B n env rest m' D' Q K) K) : EXS B n env (st :: rest) m D Q K := fun s hs A hA => by
  refine wpAny_execs_cons (wpAny_mono (h s hs A hA) (fun fl s' z4 => ?_) fun _ _ e => e)
  obtain ⟨m', D', q, h', t'⟩ := z4
  cases fl with
  | next => exact wpAny_mono (q s' h' A hA) (fun fl s'' z5 => by obtain ⟨m'', D'', r', h'', t''⟩ := z5; exact ⟨m'', D'', r', h'', t'.trans t'' h'⟩) fun _ _ e => e
  | brk => exact ⟨m', D', q, h', t'⟩
  | cont => exact ⟨m', D', q, h', t'⟩
  | ret v => exact ⟨m', D', q, h', t'⟩
theorem ex_pass {pos : Pos} (q : Q m D) : EX B n env (.Pass pos) m D Q K := fun s hs => TX.stand hs (TX.next hs q)
theorem ex_cont {pos : Pos} (q : K.cont m D) : EX B n env (.Continue pos) m D Q K := fun s hs => TX.stand hs fun A hA => wpAny_pure ⟨m, D, q, hs, .refl ..⟩
theorem ex_brk {pos : Pos} (q : K.brk m D) : EX B n env (.Break pos) m D Q K := fun s hs => TX.stand hs fun A hA => wpAny_pure ⟨m, D, q, hs, .refl ..⟩
theorem ex_ret {e : Expr} {pos : Pos} (h : EV B n env e m D K.ret) : EX B n env (.Return (some e) pos) m D Q K := fun s hs => by
  rw [show exec (.Return (some e) pos) env = (standAt pos >>= fun _ => eval e env >>= fun v => pure (.ret v)) from rfl]
  exact TX.stand hs (TX.bindG hs (h s hs) fun v D' s' q h' A hA => wpAny_pure ⟨m, D', q, h', .refl ..⟩)
theorem ex_ret0 {pos : Pos} (q : K.ret .none D) : EX B n env (.Return none pos) m D Q K := fun s hs => TX.stand hs fun A hA => wpAny_pure ⟨m, D, ⟨.none, q, .none⟩, hs, .refl ..⟩
theorem ex_if {t : Expr} {b o : List Stmt} {pos : Pos} (h : ET B n env t m D fun c D₁ => if c = true then EXS B n env b m D₁ Q K else EXS B n env o m D₁ Q K) : EX B n env (.If t b o pos) m D Q K := fun s hs => by
  rw [exec_If]
  refine TX.stand hs (TX.bindG hs (h s hs) fun c D' s' q h' => ?_)
  cases c
  · exact q s' h'
  · exact q s' h'
theorem ex_expr {e : Expr} {pos : Pos} (h : EV B n env e m D fun v D' => (∀ a, v ≠ .ref a) ∧ (∀ l, v ≠ .tup l) ∧ (∀ r, v ≠ .raw r) ∧ (∀ a b c, v ≠ .rng a b c) ∧ (∀ a b, v ≠ .slc a b) ∧ Q m D') (hi : interactive env = false := by rfl) (hsw : swapsWith e none pos.line env = pure false := by rfl) : EX B n env (.Expr e pos) m D Q K := fun s hs => by
  rw [exec_Expr env e pos hi hsw]
  refine TX.stand hs (TX.bindG hs (h s hs) fun v D' s' z6 h' => ?_)
  obtain ⟨x, ⟨h1, h2, h3, h4, h5, q⟩, r⟩ := z6
  have hv : ∀ a, v ≠ .ref a := fun a e => by
    subst e
    cases r with
    | tup _ _ => exact h2 _ rfl
    | ref _ => exact h1 _ rfl
    | raw _ => exact h3 _ rfl
    | rng _ => exact h4 _ _ _ rfl
    | slc _ _ _ => exact h5 _ _ rfl
  rw [dropValue_plain hv]
  exact TX.next h' q
inductive SetL (x : Str) (v : V) : Loc → Loc → Prop
  | here {u : V} {r : Loc} : SetL x v ((x, .v u) :: r) ((x, .v v) :: r)
  | there {p : Str × E} {r r' : Loc} : SetL x v r r' → SetL x v (p :: r) (p :: r')
theorem SetL.names {x : Str} {v : V} {m m' : Loc} (h : SetL x v m m') : m'.map (·.1) = m.map (·.1) := by induction h with
  | here => rfl
  | there _ ih => simp [ih]
theorem SetL.old {x : Str} {v : V} {m m' : Loc} (h : SetL x v m m') : ∃ u, (x, .v u) ∈ m := by induction h with
  | @here u r => exact ⟨u, .head _⟩
  | there _ ih => exact let ⟨u, hu⟩ := ih; ⟨u, .tail _ hu⟩
theorem SetL.mem {x : Str} {v : V} {m m' : Loc} (h : SetL x v m m') (hn : (m.map (·.1)).Nodup) : ∀ p ∈ m', p = (x, .v v) ∨ (p ∈ m ∧ p.1 ≠ x) := by induction h with
  | @here u r =>
    intro p hp
    rcases List.mem_cons.mp hp with rfl | hp
    · exact .inl rfl
    · refine .inr ⟨.tail _ hp, fun e => ?_⟩
      simp only [List.map_cons, List.nodup_cons] at hn
      exact hn.1 (e ▸ List.mem_map_of_mem hp)
  | @there p r r' h ih =>
    intro q hq
    simp only [List.map_cons, List.nodup_cons] at hn
    rcases List.mem_cons.mp hq with rfl | hq
    · refine .inr ⟨.head _, fun e => ?_⟩
      obtain ⟨u, hu⟩ := h.old
      exact hn.1 (e ▸ List.mem_map_of_mem (f := (·.1)) hu)
    · exact (ih hn.2 q hq).imp id fun z7 => by obtain ⟨a, b⟩ := z7; exact ⟨.tail _ a, b⟩
theorem lookup_ne {l : List (Str × Addr)} (hn : (l.map (·.2)).Nodup) {x y : Str} {c d : Addr} (hx : l.lookup x = some c) (hy : l.lookup y = some d) (hne : x ≠ y) : c ≠ d := by
  induction l with
  | nil => simp at hx
  | cons p r ih =>
    obtain ⟨z, e⟩ := p
    simp only [List.map_cons, List.nodup_cons] at hn
    rw [List.lookup_cons] at hx hy
    have memr : ∀ {w : Str} {f : Addr}, r.lookup w = some f → f ∈ r.map (·.2) := fun {w f} h => mem_cells (env := { scope := default, locals := 0, globals := 0, cells := r }) (x := w) h
    by_cases h1 : x == z
    · rw [h1] at hx; cases hx
      by_cases h2 : y == z
      · exact absurd ((beq_iff_eq.mp h1).trans (beq_iff_eq.mp h2).symm) hne
      · rw [Bool.not_eq_true] at h2; rw [h2] at hy
        intro q; subst q; exact hn.1 (memr hy)
    · rw [Bool.not_eq_true] at h1; rw [h1] at hx
      by_cases h2 : y == z
      · rw [h2] at hy; cases hy
        intro q; subst q; exact hn.1 (memr hx)
      · rw [Bool.not_eq_true] at h2; rw [h2] at hy
        exact ih hn.2 hx hy
theorem H.notImm {s : Shared} (hs : H B env m D s) : ∀ a ∈ own env, ∀ o, s.heap.get? a = some o → ¬ Imm o := fun a ha o ho hi => by
  rcases List.mem_cons.mp ha with rfl | ha
  · obtain ⟨mr, ⟨o', es, ep, ho', hd, _⟩, _⟩ := hs.ns
    rw [ho] at ho'; cases ho'
    rcases hi with ⟨_, _, _, e⟩ | ⟨_, _, e⟩ | ⟨_, _, e⟩ <;> rw [hd] at e <;> cases e
  · obtain ⟨u, o', ho', hd⟩ := hs.cells a ha
    rw [ho] at ho'; cases ho'
    rcases hi with ⟨_, _, _, e⟩ | ⟨_, _, e⟩ | ⟨_, _, e⟩ <;> rw [hd] at e <;> cases e
theorem store_ok {x : Str} {v : V} {m' : Loc} {r : Value} {s : Shared} {A : Around} (hs : H B env m D s) (hset : SetL x v m m') (hr : VR s.heap v r) :
    wpAny (model B.prog B.w) A (storeName env x r) (fun _ s' => H B env m' D s' ∧ TrF env D s D s') NoE s := by
  obtain ⟨u, hu⟩ := hset.old
  obtain ⟨mr, hn, hsl⟩ := hs.ns
  have hnd := hs.own_nodup
  have side : ∀ (a : Addr) (ha : a ∈ own env) (h' : Heap) (k : Nat), Heap.SameBut a s.heap h' → LH B D { s with heap := h', toks := k } ∧ TupKeep s.heap h' := fun a ha h' k sb =>
    hs.lh.side (s' := { s with heap := h', toks := k }) [a] (fun b hb => by rw [List.mem_singleton.mp hb]; exact ⟨hs.own_disj a ha, hs.own_new a ha, hs.notImm a ha⟩) (fun b o hb e => (sb.2 b (fun q => hb (by rw [q]; exact .head _))).trans e) rfl rfl
  have tr : ∀ (a : Addr) (ha : a ∈ own env) (h' : Heap) (k : Nat), Heap.SameBut a s.heap h' → TrF env D s D { s with heap := h', toks := k } := fun a ha h' k sb =>
    ⟨fun b o _ hb e => (sb.2 b (fun q => hb (q ▸ ha))).trans e, fun _ h => .inl h⟩
  cases hsl _ hu with
  | loc hk hv' =>
    refine wpAny_storeName_local hk hn (fun h' hn' sb => ?_) (by rw [hs.kind]; rfl)
    obtain ⟨lh, kt⟩ := side env.locals (.head _) h' (s.toks + 1) sb
    refine ⟨⟨lh, hs.kind, hs.genv, hset.names ▸ hs.names, fun p hp => ?_, ⟨_, hn', fun p hp => ?_⟩, fun c hc => ?_, hnd, hs.own_disj, hs.own_new⟩, tr _ (.head _) _ _ sb⟩
    · rcases hset.mem hs.names p hp with rfl | ⟨hp, _⟩
      · exact (hs.dbg (x, .v u) hu : _)
      · exact hs.dbg p hp
    · rcases hset.mem hs.names p hp with rfl | ⟨hp, hne⟩
      · exact .loc hk fun _ => ⟨r, by simp, hr.mono kt⟩
      · have hslp := hsl p hp
        obtain ⟨px, pe⟩ := p
        cases hslp with
        | loc hk2 hv2 => exact .loc hk2 fun e => let ⟨r2, a, b⟩ := hv2 e; ⟨r2, by simpa [hne] using a, b.mono kt⟩
        | cell kd c w hk2 hkk hc hcl hx hv2 =>
          have hcl' : c ≠ env.locals := fun q => by
            have := (List.nodup_cons.mp hnd).1
            exact this (q ▸ mem_cells hc)
          exact .cell kd c w hk2 hkk hc (hcl.sameBut sb hcl') hx fun e => let ⟨r2, a, b⟩ := hv2 e; ⟨r2, a, b.mono kt⟩
        | glob r2 hk2 hr2 hv2 => exact .glob r2 hk2 hr2 hv2
    · obtain ⟨w, hcl⟩ := hs.cells c hc
      exact ⟨w, hcl.sameBut sb fun q => (List.nodup_cons.mp hnd).1 (q ▸ hc)⟩
  | cell kd c w hk hkk hc hcl hx hv' =>
    have hcm : c ∈ own env := .tail _ (mem_cells hc)
    have fin : ∀ h', h'.IsCell c (some r) → Heap.SameBut c s.heap h' → H B env m' D { s with heap := h' } ∧ TrF env D s D { s with heap := h' } := fun h' hc' sb => by
      obtain ⟨lh, kt⟩ := side c hcm h' s.toks sb
      refine ⟨⟨lh, hs.kind, hs.genv, hset.names ▸ hs.names, fun p hp => ?_, ⟨mr, hn.sameBut sb fun q => (List.nodup_cons.mp hnd).1 (q ▸ mem_cells hc), fun p hp => ?_⟩, fun d hd => ?_, hnd, hs.own_disj, hs.own_new⟩, tr c hcm _ _ sb⟩
      · rcases hset.mem hs.names p hp with rfl | ⟨hp, _⟩
        · exact (hs.dbg (x, .v u) hu : _)
        · exact hs.dbg p hp
      · rcases hset.mem hs.names p hp with rfl | ⟨hp, hne⟩
        · exact .cell kd c _ hk hkk hc hc' hx fun _ => ⟨r, rfl, hr.mono kt⟩
        · have hslp := hsl p hp
          obtain ⟨px, pe⟩ := p
          cases hslp with
          | loc hk2 hv2 => exact .loc hk2 fun e => let ⟨r2, a, b⟩ := hv2 e; ⟨r2, a, b.mono kt⟩
          | cell kd2 c2 w2 hk2 hkk2 hc2 hcl2 hx2 hv2 =>
            have hcl' : c2 ≠ c := lookup_ne (List.nodup_cons.mp hnd).2 hc2 hc hne
            exact .cell kd2 c2 w2 hk2 hkk2 hc2 (hcl2.sameBut sb hcl') hx2 fun e => let ⟨r2, a, b⟩ := hv2 e; ⟨r2, a, b.mono kt⟩
          | glob r2 hk2 hr2 hv2 => exact .glob r2 hk2 hr2 hv2
      · by_cases q : d = c
        · exact ⟨_, q ▸ hc'⟩
        · obtain ⟨w, hcl⟩ := hs.cells d hd
          exact ⟨w, hcl.sameBut sb q⟩
    rcases hkk with rfl | rfl
    · exact wpAny_storeName_cell hs.kind hk hc hcl fin
    · exact storeName_free hs.kind hk hc hcl fin
theorem as_name {x : Str} {v : V} {m' : Loc} {p : Pos} (hset : SetL x v m m') (q : Q m' D) : AS B n env (.Name x p) v m D Q := fun s r hs hr A hA =>
  wpAny_assign_Name (wpAny_mono (store_ok hs hset hr) (fun _ s' z8 => by obtain ⟨h', t'⟩ := z8; exact ⟨m', D, q, h', t'⟩) fun _ _ e => e)
theorem ex_assign {x : Str} {p pos : Pos} {e : Expr} (h : EV B n env e m D fun v D₁ => ∃ m', SetL x v m m' ∧ Q m' D₁) (hsw : swapsWith e (some (.Name x p)) pos.line env = pure false := by rfl) : EX B n env (.Assign [.Name x p] e pos) m D Q K := fun s hs A hA => by
  refine wpAny_Assign_Name (wpAny_mono (h s hs A hA) (fun r s₁ z9 => ?_) fun _ _ e => e) hsw
  obtain ⟨D₁, ⟨v, ⟨m', hset, q⟩, hr⟩, l₁, t₁⟩ := z9
  have h₁ := hs.step l₁ t₁
  exact wpAny_mono (store_ok h₁ hset hr) (fun _ s' z10 => by obtain ⟨h', t'⟩ := z10; exact ⟨m', D₁, q, h', t₁.frame.trans t' h₁⟩) fun _ _ e => e
theorem ex_assignT {t e : Expr} {pos : Pos} (h : EV B n env e m D fun v D₁ => AS B n env t v m D₁ Q) (hsw : swapsWithSole [t] e pos.line env = pure false := by rfl) (hst : swappedStores [t] e env = pure none := by rfl) (hns : assignEach [t] env = [(false, assign t env)] := by rfl) : EX B n env (.Assign [t] e pos) m D Q K := fun s hs => by
  rw [show exec (.Assign [t] e pos) env = (standAt pos >>= fun _ => swapsWithSole [t] e pos.line env >>= fun b => if b = true then (evalThenUse e env fun v => assignAll v ((assignEach [t] env).map (·.2))) >>= fun _ => pure .next
    else eval e env >>= fun v => swappedStores [t] e env >>= fun sw => assignStores env v sw ((assignEach [t] env).map (·.2))) from rfl, hsw, hst, hns]
  refine TX.stand hs ?_
  show TX B n env (eval e env >>= fun v => assign t env v >>= fun _ => pure .next) D s Q K
  refine TX.bindG hs (h s hs) fun r D₁ s₁ z11 h₁ A hA => ?_
  obtain ⟨v, q, hr⟩ := z11
  exact wpAny_bind (wpAny_mono (q s₁ r h₁ hr A hA) (fun _ s' z12 => by obtain ⟨m', D', q', h', t'⟩ := z12; exact wpAny_pure ⟨m', D', q', h', t'⟩) fun _ _ e => e)
-- a while
theorem ex_while {t : Expr} {b : List Stmt} {pos : Pos} (I : Nat → Loc → Led → Prop) (k : Nat) (h0 : I k m D)
    (turn : ∀ k m D, I k m D → ET B n env t m D fun c D₁ => if c = true then EXS B n env b m D₁ (fun m' D' => ∃ j, j < k ∧ I j m' D') ⟨Q, fun m' D' => ∃ j, j < k ∧ I j m' D', K.ret⟩ else Q m D₁) : EX B n env (.While t b [] pos) m D Q K := fun s hs A hA => by
  refine wpAny_While ?_
  refine codeAny_whileLoop (fun k s' => ∃ m' D', I k m' D' ∧ H B env m' D' s' ∧ TrF env D s D' s') (fun k s' z13 => ?_) k ⟨m, D, h0, hs, .refl ..⟩
  obtain ⟨m', D', hI, hs', ht'⟩ := z13
  refine wpAny_mono (turn k m' D' hI s' hs' A hA) (fun c s₁ z14 => ?_) fun _ _ e => e.elim
  obtain ⟨D₁, q, l₁, t₁⟩ := z14
  have h₁ := hs'.step l₁ t₁
  cases c
  · exact wpAny_execs_nil ⟨m', D₁, q, h₁, ht'.trans t₁.frame hs'⟩
  · refine wpAny_mono (q s₁ h₁ A hA) (fun fl s₂ z15 => ?_) fun _ _ e => e.elim
    obtain ⟨m₂, D₂, q₂, h₂, t₂⟩ := z15
    have tt := (ht'.trans t₁.frame hs').trans t₂ h₁
    cases fl with
    | next => obtain ⟨j, hj, q⟩ := q₂; exact ⟨j, hj, m₂, D₂, q, h₂, tt⟩
    | cont => obtain ⟨j, hj, q⟩ := q₂; exact ⟨j, hj, m₂, D₂, q, h₂, tt⟩
    | brk => exact ⟨m₂, D₂, q₂, h₂, tt⟩
    | ret v => exact ⟨m₂, D₂, q₂, h₂, tt⟩
end
end Mine
end
section
open PySem PySem.W PyProof.Rows PySem.Calls
namespace Mine
section
variable {B : Base} {n : Nat} {env : Env} {m : Loc} {D : Led} {a b : Int} {Q : V → Led → Prop}
theorem TG.grow {α : Type} {t : Sem α} {s : Shared} {R : α → Led → Shared → Prop} (l : LH B D s)
    (h : ∀ A, AOk n A → ∀ Q : α → Shared → Prop, (∀ v h' k, (∀ b o, s.heap.get? b = some o → h'.get? b = some o) → R v D { s with heap := h', toks := k } → Q v { s with heap := h', toks := k }) → wpAny (model B.prog B.w) A t Q NoE s) : TG B n t D s R := fun A hA =>
  h A hA _ fun v h' k hk r => ⟨D, r, (l.grow (s' := { s with heap := h', toks := k }) hk rfl rfl).1, (l.grow (s' := { s with heap := h', toks := k }) hk rfl rfl).2⟩
-- ints
theorem bin_add (h : Q (.int (a + b)) D) : BIN B n .Add (.int a) (.int b) D Q := fun s x y l ra rb => by
  (first | obtain rfl := ra.inv | obtain ⟨_, rfl⟩ := ra.inv); (first | obtain rfl := rb.inv | obtain ⟨_, rfl⟩ := rb.inv)
  exact TG.tokR l (fun A hA Q hQ => P.add_int (hQ _)) fun k => ⟨_, h, .int ..⟩
theorem bin_sub (h : Q (.int (a - b)) D) : BIN B n .Sub (.int a) (.int b) D Q := fun s x y l ra rb => by
  (first | obtain rfl := ra.inv | obtain ⟨_, rfl⟩ := ra.inv); (first | obtain rfl := rb.inv | obtain ⟨_, rfl⟩ := rb.inv)
  exact TG.tokR l (fun A hA Q hQ => P.sub_int (hQ _)) fun k => ⟨_, h, .int ..⟩
theorem bin_mul (hm : IntMulOk a b) (h : Q (.int (a * b)) D) : BIN B n .Mult (.int a) (.int b) D Q := fun s x y l ra rb => by
  (first | obtain rfl := ra.inv | obtain ⟨_, rfl⟩ := ra.inv); (first | obtain rfl := rb.inv | obtain ⟨_, rfl⟩ := rb.inv)
  exact TG.tokR l (fun A hA Q hQ => P.mul_int (hQ _) hm) fun k => ⟨_, h, .int ..⟩
theorem bin_mod (hb : 0 < b) (h : Q (.int (a % b)) D) : BIN B n .Mod (.int a) (.int b) D Q := fun s x y l ra rb => by
  (first | obtain rfl := ra.inv | obtain ⟨_, rfl⟩ := ra.inv); (first | obtain rfl := rb.inv | obtain ⟨_, rfl⟩ := rb.inv)
  rw [← Int.fmod_eq_emod_of_nonneg a (Int.le_of_lt hb)] at h
  exact TG.tokR l (fun A hA Q hQ => PyProof.Rows.mod_int' (by lia) (hQ _)) fun k => ⟨_, h, .int ..⟩
theorem noPy {a b : Int} (h0 : 0 < b) (h1 : b < 2 ^ 64) : Builtin.divisionGoesByPylong a b = false := by
  unfold Builtin.divisionGoesByPylong
  have : b.natAbs.log2 < 64 := (Nat.log2_lt (by lia)).mpr (by lia)
  have hb : (b == 0) = false := by simp; lia
  simp only [hb]
  have : ¬ (b.natAbs.log2 / 30 + 1 > 300) := by lia
  simp [this]
theorem bin_div (hb : 0 < b) (hb2 : b < 2 ^ 64) (h : Q (.int (a / b)) D) : BIN B n .FloorDiv (.int a) (.int b) D Q := fun s x y l ra rb => by
  (first | obtain rfl := ra.inv | obtain ⟨_, rfl⟩ := ra.inv); (first | obtain rfl := rb.inv | obtain ⟨_, rfl⟩ := rb.inv)
  rw [← Int.fdiv_eq_ediv_of_nonneg a (Int.le_of_lt hb)] at h
  exact TG.tokR l (fun A hA Q hQ => PyProof.Rows.floordiv_int (by lia) (hQ _) (.inl (noPy hb hb2))) fun k => ⟨_, h, .int ..⟩
theorem bin_pow (hn : 0 ≤ b) (hn2 : b ≤ 1000000) (ha : a.natAbs < 2 ^ 64) (h : Q (.int (a ^ b.toNat)) D) : BIN B n .Pow (.int a) (.int b) D Q := fun s x y l ra rb => by
  (first | obtain rfl := ra.inv | obtain ⟨_, rfl⟩ := ra.inv); (first | obtain rfl := rb.inv | obtain ⟨_, rfl⟩ := rb.inv)
  exact TG.tokR l (fun A hA Q hQ => pow_int_small hn hn2 ha (hQ _)) fun k => ⟨_, h, .int ..⟩
theorem bin_shr (hn : 0 ≤ b) (h : Q (.int (a / 2 ^ b.toNat)) D) : BIN B n .RShift (.int a) (.int b) D Q := fun s x y l ra rb => by
  (first | obtain rfl := ra.inv | obtain ⟨_, rfl⟩ := ra.inv); (first | obtain rfl := rb.inv | obtain ⟨_, rfl⟩ := rb.inv)
  rw [← Int.fdiv_eq_ediv_of_nonneg a (by exact_mod_cast Nat.zero_le (2 ^ b.toNat))] at h
  exact TG.tokR l (fun A hA Q hQ => rshift_int hn (hQ _)) fun k => ⟨_, h, .int ..⟩
theorem bin_shl (hn : 0 ≤ b) (hn2 : b ≤ 1000000) (ha : a.natAbs < 2 ^ 64) (h : Q (.int (a * 2 ^ b.toNat)) D) : BIN B n .LShift (.int a) (.int b) D Q := fun s x y l ra rb => by
  (first | obtain rfl := ra.inv | obtain ⟨_, rfl⟩ := ra.inv); (first | obtain rfl := rb.inv | obtain ⟨_, rfl⟩ := rb.inv)
  exact TG.tokR l (fun A hA Q hQ => lshift_int_small hn hn2 ha (hQ _)) fun k => ⟨_, h, .int ..⟩
theorem bin_and (h : Q (.int (Builtin.bitAnd a b)) D) : BIN B n .BitAnd (.int a) (.int b) D Q := fun s x y l ra rb => by
  (first | obtain rfl := ra.inv | obtain ⟨_, rfl⟩ := ra.inv); (first | obtain rfl := rb.inv | obtain ⟨_, rfl⟩ := rb.inv)
  exact TG.tokR l (fun A hA Q hQ => and_int (hQ _)) fun k => ⟨_, h, .int ..⟩
theorem una_neg (h : Q (.int (-a)) D) : UNA B n .USub (.int a) D Q := fun s x l ra => by
  (first | obtain rfl := ra.inv | obtain ⟨_, rfl⟩ := ra.inv)
  exact TG.tokR l (fun A hA Q hQ => P.neg_int (hQ _)) fun k => ⟨_, h, .int ..⟩
theorem cmp_eq (h : Q (.bool (decide (a = b))) D) : CMP B n .Eq (.int a) (.int b) D Q := fun s x y l ra rb A hA => by
  (first | obtain rfl := ra.inv | obtain ⟨_, rfl⟩ := ra.inv); (first | obtain rfl := rb.inv | obtain ⟨_, rfl⟩ := rb.inv)
  exact P.eq_int ⟨D, ⟨_, h, .bool _⟩, l, .refl ..⟩
theorem cmp_ne (h : Q (.bool (decide (a ≠ b))) D) : CMP B n .NotEq (.int a) (.int b) D Q := fun s x y l ra rb A hA => by
  (first | obtain rfl := ra.inv | obtain ⟨_, rfl⟩ := ra.inv); (first | obtain rfl := rb.inv | obtain ⟨_, rfl⟩ := rb.inv)
  refine P.ne_int ⟨D, ⟨_, h, ?_⟩, l, .refl ..⟩
  rw [show (a != b) = decide (a ≠ b) by simp [bne, Bool.beq_eq_decide_eq]]; exact .bool _
theorem cmp_lt (h : Q (.bool (decide (a < b))) D) : CMP B n .Lt (.int a) (.int b) D Q := fun s x y l ra rb A hA => by
  (first | obtain rfl := ra.inv | obtain ⟨_, rfl⟩ := ra.inv); (first | obtain rfl := rb.inv | obtain ⟨_, rfl⟩ := rb.inv)
  exact P.lt_int ⟨D, ⟨_, h, .bool _⟩, l, .refl ..⟩
theorem cmp_le (h : Q (.bool (decide (a ≤ b))) D) : CMP B n .LtE (.int a) (.int b) D Q := fun s x y l ra rb A hA => by
  (first | obtain rfl := ra.inv | obtain ⟨_, rfl⟩ := ra.inv); (first | obtain rfl := rb.inv | obtain ⟨_, rfl⟩ := rb.inv)
  exact P.le_int ⟨D, ⟨_, h, .bool _⟩, l, .refl ..⟩
theorem cmp_gt (h : Q (.bool (decide (b < a))) D) : CMP B n .Gt (.int a) (.int b) D Q := fun s x y l ra rb A hA => by
  (first | obtain rfl := ra.inv | obtain ⟨_, rfl⟩ := ra.inv); (first | obtain rfl := rb.inv | obtain ⟨_, rfl⟩ := rb.inv)
  exact P.gt_int ⟨D, ⟨_, h, .bool _⟩, l, .refl ..⟩
theorem cmp_ge (h : Q (.bool (decide (b ≤ a))) D) : CMP B n .GtE (.int a) (.int b) D Q := fun s x y l ra rb A hA => by
  (first | obtain rfl := ra.inv | obtain ⟨_, rfl⟩ := ra.inv); (first | obtain rfl := rb.inv | obtain ⟨_, rfl⟩ := rb.inv)
  exact P.ge_int ⟨D, ⟨_, h, .bool _⟩, l, .refl ..⟩
theorem tru_bool {b : Bool} {Q : Bool → Led → Prop} (h : Q b D) : TRU B n (.bool b) D Q := fun s x l ra A hA => by
  (first | obtain rfl := ra.inv | obtain ⟨_, rfl⟩ := ra.inv)
  exact wpAny_truthy_bool ⟨D, h, l, .refl ..⟩
-- strs, bytes
theorem cmp_eq_str {x y : Str} (h : Q (.bool (x.cps.toList == y.cps.toList)) D) : CMP B n .Eq (.str x) (.str y) D Q := fun s v w l ra rb A hA => by
  (first | obtain rfl := ra.inv | obtain ⟨_, rfl⟩ := ra.inv); (first | obtain rfl := rb.inv | obtain ⟨_, rfl⟩ := rb.inv)
  exact P.eq_str ⟨D, ⟨_, h, .bool _⟩, l, .refl ..⟩
theorem cmp_ne_str {x y : Str} (h : Q (.bool (x.cps.toList != y.cps.toList)) D) : CMP B n .NotEq (.str x) (.str y) D Q := fun s v w l ra rb A hA => by
  (first | obtain rfl := ra.inv | obtain ⟨_, rfl⟩ := ra.inv); (first | obtain rfl := rb.inv | obtain ⟨_, rfl⟩ := rb.inv)
  exact P.ne_str ⟨D, ⟨_, h, .bool _⟩, l, .refl ..⟩
theorem cmp_eq_byt {x y : List UInt8} (h : Q (.bool (x == y)) D) : CMP B n .Eq (.byt x) (.byt y) D Q := fun s v w l ra rb A hA => by
  (first | obtain rfl := ra.inv | obtain ⟨_, rfl⟩ := ra.inv); (first | obtain rfl := rb.inv | obtain ⟨_, rfl⟩ := rb.inv)
  exact W.eq_bytes ⟨D, ⟨_, h, .bool _⟩, l, .refl ..⟩
theorem cmp_ne_byt {x y : List UInt8} (h : Q (.bool (x != y)) D) : CMP B n .NotEq (.byt x) (.byt y) D Q := fun s v w l ra rb A hA => by
  (first | obtain rfl := ra.inv | obtain ⟨_, rfl⟩ := ra.inv); (first | obtain rfl := rb.inv | obtain ⟨_, rfl⟩ := rb.inv)
  exact W.ne_bytes ⟨D, ⟨_, h, .bool _⟩, l, .refl ..⟩
theorem cl_len_byt {x : List UInt8} (hf : x.length ≤ 1099511627776) (h : Q (.int x.length) D) : CL B n (.raw (.builtin "len")) [.byt x] D Q := fun s f vs l ra rb => by
  (first | obtain rfl := ra.inv | obtain ⟨_, rfl⟩ := ra.inv); obtain ⟨_, _, rfl, r1, r2⟩ := rb.inv; (first | obtain rfl := r1.inv | obtain ⟨_, rfl⟩ := r1.inv); (first | obtain rfl := r2.inv | obtain ⟨_, rfl⟩ := r2.inv); exact TG.tokR l (fun A hA Q hQ => W.len_bytes (by simpa using hf) (hQ _)) fun k => ⟨_, h, by simpa using VR.int (h := s.heap) x.length _⟩
theorem cl_len_list {r : Addr} {x : List V} (hm : (r, .list x) ∈ D) (hf : x.length < 2 ^ 63) (h : Q (.int x.length) D) : CL B n (.raw (.builtin "len")) [.ref r] D Q := fun s f vs l ra rb => by
  obtain ⟨us, c, e, q⟩ := l.led _ hm
  have hq := q.length
  have hl : s.heap.IsList r us := ⟨_, e, rfl, _, rfl⟩
  have hs : us.size = x.length := by rw [hq]; simp
  (first | obtain rfl := ra.inv | obtain ⟨_, rfl⟩ := ra.inv); obtain ⟨_, _, rfl, r1, r2⟩ := rb.inv; (first | obtain rfl := r1.inv | obtain ⟨_, rfl⟩ := r1.inv); (first | obtain rfl := r2.inv | obtain ⟨_, rfl⟩ := r2.inv); exact TG.tokR l (fun A hA Q hQ => call_len_list hl (by rw [hs]; exact_mod_cast hf) (hQ _)) fun k => ⟨_, h, by rw [hs]; exact .int ..⟩
end
end Mine
end
section
open PySem PySem.W PyProof.Rows PySem.Calls
namespace Mine
theorem fresh_size {h : Heap} : h.get? h.objs.size = none := by
  cases e : h.get? h.objs.size with
  | none => rfl
  | some o => exact absurd (Heap.lt_size e) (Nat.lt_irrefl _)
theorem LH.baseNone {B : Base} {D : Led} {s : Shared} (l : LH B D s) {a : Addr} (e : s.heap.get? a = none) : B.h₀.get? a = none := by
  cases q : B.h₀.get? a with
  | none => rfl
  | some o => rw [l.base a o q] at e; cases e
theorem LH.foot_some {B : Base} {D : Led} {s : Shared} (l : LH B D s) {a : Addr} (h : a ∈ foot D) : ∃ o, s.heap.get? a = some o := by
  obtain ⟨p, hp, hb⟩ := mem_foot.mp h
  obtain ⟨ob, e, _⟩ := foot_notImm (l.led p hp) hb
  exact ⟨ob, e⟩
theorem LH.notFoot {B : Base} {D : Led} {s : Shared} (l : LH B D s) {a : Addr} (e : s.heap.get? a = none) : a ∉ foot D := fun h => by
  obtain ⟨o, q⟩ := l.foot_some h
  rw [e] at q; cases q
/-- a new object of the ledger -/
theorem LH.cons {B : Base} {D : Led} {s s' : Shared} (l : LH B D s) (a : Addr) (o : O) (hf : ∀ b ∈ footO a o, s.heap.get? b = none) (hn : (footO a o).Nodup)
    (k : ∀ b o, s.heap.get? b = some o → s'.heap.get? b = some o) (hor : OR B s'.heap a o) (g : s'.gens = s.gens) (os : s'.os = s.os) : LH B ((a, o) :: D) s' ∧ Tr D s ((a, o) :: D) s' := by
  obtain ⟨l', t⟩ := l.grow k g os
  refine ⟨⟨l'.ok, l'.base, fun p hp => ?_, ?_, fun b hb => ?_, l'.gens, l'.os⟩, ⟨fun b o _ e => k b o e, fun b hb => ?_⟩⟩
  · rcases List.mem_cons.mp hp with rfl | hp
    · exact hor
    · exact l'.led p hp
  · show (footO a o ++ foot D).Nodup
    refine List.nodup_append.mpr ⟨hn, l.nodup, fun x hx y hy e => ?_⟩
    subst e; exact l.notFoot (hf x hx) hy
  · rcases List.mem_append.mp (show b ∈ footO a o ++ foot D from hb) with h | h
    · exact l.baseNone (hf b h)
    · exact l.new b h
  · rcases List.mem_append.mp (show b ∈ footO a o ++ foot D from hb) with h | h
    · exact .inr (hf b h)
    · exact .inl h
theorem VRs.of_toList {h : Heap} {xs : List V} {vs : List Value} (r : VRs h xs vs) : VRs h xs vs.toArray.toList := by simpa using r
theorem LH.newList {B : Base} {D : Led} {s s' : Shared} (l : LH B D s) {vs : Array Value} {n : Nat} {xs : List V} (r : VRs s.heap xs vs.toList)
    (e : s'.heap.get? s.heap.objs.size = some (listOf vs n)) (k : ∀ b o, s.heap.get? b = some o → s'.heap.get? b = some o) (g : s'.gens = s.gens) (os : s'.os = s.os) :
    LH B ((s.heap.objs.size, .list xs) :: D) s' ∧ Tr D s ((s.heap.objs.size, .list xs) :: D) s' :=
  l.cons _ _ (fun b hb => by simp [footO] at hb; subst hb; exact fresh_size) (by simp [footO]) k ⟨vs, n, e, r.mono fun a o ho _ => k a o ho⟩ g os
theorem LH.pushList {B : Base} {D : Led} {s : Shared} (l : LH B D s) {vs : Array Value} {xs : List V} (r : VRs s.heap xs vs.toList) (tk : Nat) :
    LH B ((s.heap.objs.size, .list xs) :: D) { s with heap := s.heap.push (listOf vs 0), toks := tk } ∧ Tr D s ((s.heap.objs.size, .list xs) :: D) { s with heap := s.heap.push (listOf vs 0), toks := tk } :=
  l.newList (n := 0) r (Heap.get?_push_size _ rfl) (fun b o e => Heap.get?_push_of_some _ e) rfl rfl
/-- the ledger turned at one place -/
inductive SetD (a : Addr) (o o' : O) : Led → Led → Prop
  | here {r : Led} : SetD a o o' ((a, o) :: r) ((a, o') :: r)
  | there {p : Addr × O} {r r' : Led} : SetD a o o' r r' → SetD a o o' (p :: r) (p :: r')
theorem SetD.old {a : Addr} {o o' : O} {D D' : Led} (h : SetD a o o' D D') : (a, o) ∈ D := by induction h with
  | here => exact .head _
  | there _ ih => exact .tail _ ih
theorem SetD.new {a : Addr} {o o' : O} {D D' : Led} (h : SetD a o o' D D') : (a, o') ∈ D' := by induction h with
  | here => exact .head _
  | there _ ih => exact .tail _ ih
theorem SetD.foot {a : Addr} {o o' : O} {D D' : Led} (h : SetD a o o' D D') (e : footO a o' = footO a o) : foot D' = foot D := by induction h with
  | here => simp [Mine.foot, e]
  | there _ ih => simp [Mine.foot, ih]
theorem SetD.mem {a : Addr} {o o' : O} {D D' : Led} (h : SetD a o o' D D') (hn : (Mine.foot D).Nodup) : ∀ p ∈ D', p = (a, o') ∨ (p ∈ D ∧ ∀ b ∈ footO p.1 p.2, b ∉ footO a o) := by induction h with
  | @here r =>
    intro p hp
    rcases List.mem_cons.mp hp with rfl | hp
    · exact .inl rfl
    · refine .inr ⟨.tail _ hp, fun b hb hb' => ?_⟩
      have := (List.nodup_append.mp (show (footO a o ++ Mine.foot r).Nodup from hn)).2.2 b hb' b (mem_foot.mpr ⟨p, hp, hb⟩)
      exact this rfl
  | @there q r r' h ih =>
    intro p hp
    have hn' := List.nodup_append.mp (show (footO q.1 q.2 ++ Mine.foot r).Nodup from hn)
    rcases List.mem_cons.mp hp with rfl | hp
    · refine .inr ⟨.head _, fun b hb hb' => hn'.2.2 b hb b (mem_foot.mpr ⟨_, h.old, hb'⟩) rfl⟩
    · exact (ih hn'.2.1 p hp).imp id fun z16 => by obtain ⟨x, y⟩ := z16; exact ⟨.tail _ x, y⟩
/-- an object of the ledger changed -/
theorem LH.set {B : Base} {D D' : Led} {s s' : Shared} (l : LH B D s) {a : Addr} {o o' : O} (hs : SetD a o o' D D') (hf : footO a o' = footO a o)
    (k : ∀ b ob, b ∉ footO a o → s.heap.get? b = some ob → s'.heap.get? b = some ob) (hor : TupKeep s.heap s'.heap → OR B s'.heap a o') (g : s'.gens = s.gens) (os : s'.os = s.os) : LH B D' s' ∧ Tr D s D' s' := by
  have sub : ∀ b ∈ footO a o, b ∈ foot D := fun b hb => mem_foot.mpr ⟨_, hs.old, hb⟩
  have kt : TupKeep s.heap s'.heap := fun b ob e hi => k b ob (fun hb => l.notImm e hi (sub b hb)) e
  refine ⟨⟨l.ok, fun b ob e => k b ob (fun hb => by have := l.new b (sub b hb); rw [this] at e; cases e) (l.base b ob e), fun p hp => ?_, by rw [hs.foot hf]; exact l.nodup, fun b hb => l.new b (by rw [hs.foot hf] at hb; exact hb), g.trans l.gens, os.trans l.os⟩,
    ⟨fun b ob hb e => k b ob (fun h => hb (sub b h)) e, fun b hb => .inl (by rw [hs.foot hf] at hb; exact hb)⟩⟩
  rcases hs.mem l.nodup p hp with rfl | ⟨hp, hd⟩
  · exact hor kt
  · exact (l.led p hp).keep kt fun b hb ob e => k b ob (hd b hb) e
/-- the ledger forgets -/
theorem LH.drop {B : Base} {D E : Led} {s : Shared} (l : LH B D s) (h : E.Sublist D) : LH B E s := by
  have hf : (foot E).Sublist (foot D) := by
    induction h with
    | slnil => exact .slnil
    | cons a _ ih => exact (ih ⟨l.ok, l.base, fun p hp => l.led p (.tail _ hp), (List.nodup_append.mp (show (footO a.1 a.2 ++ foot _).Nodup from l.nodup)).2.1, fun b hb => l.new b (List.mem_append_right _ hb), l.gens, l.os⟩).trans (List.sublist_append_right _ _)
    | cons_cons a _ ih => exact List.Sublist.append_left (ih ⟨l.ok, l.base, fun p hp => l.led p (.tail _ hp), (List.nodup_append.mp (show (footO a.1 a.2 ++ foot _).Nodup from l.nodup)).2.1, fun b hb => l.new b (List.mem_append_right _ hb), l.gens, l.os⟩) _
  exact ⟨l.ok, l.base, fun p hp => l.led p (h.subset hp), l.nodup.sublist hf, fun b hb => l.new b (hf.subset hb), l.gens, l.os⟩
theorem foot_sublist {D E : Led} (h : E.Sublist D) : (foot E).Sublist (foot D) := by
  induction h with
  | slnil => exact .slnil
  | cons a _ ih => exact ih.trans (List.sublist_append_right _ _)
  | cons_cons a _ ih => exact List.Sublist.append_left ih _
theorem foot_perm {D E : Led} (h : D.Perm E) : (foot D).Perm (foot E) := by
  induction h with
  | nil => exact .nil
  | cons x _ ih => exact ih.append_left _
  | swap x y l => simp only [foot]; rw [← List.append_assoc, ← List.append_assoc]; exact List.perm_append_comm.append_right _
  | trans _ _ ih1 ih2 => exact ih1.trans ih2
theorem LH.perm {B : Base} {D E : Led} {s : Shared} (l : LH B D s) (h : D.Perm E) : LH B E s :=
  ⟨l.ok, l.base, fun p hp => l.led p (h.mem_iff.mpr hp), (foot_perm h).nodup_iff.mp l.nodup, fun b hb => l.new b ((foot_perm h).mem_iff.mpr hb), l.gens, l.os⟩
/-- E: part of D, in any order -/
def Part (E D : Led) : Prop := ∃ F, E.Sublist F ∧ D.Perm F
theorem LH.part {B : Base} {D E : Led} {s : Shared} (l : LH B D s) (h : Part E D) : LH B E s := let ⟨_, a, b⟩ := h; (l.perm b).drop a
theorem Part.foot {D E : Led} (h : Part E D) : ∀ a ∈ foot E, a ∈ Mine.foot D := fun a ha => let ⟨_, x, y⟩ := h; (foot_perm y).mem_iff.mpr ((foot_sublist x).subset ha)
theorem Tr.part {B : Base} {D D' E : Led} {s s' : Shared} (t : Tr D s D' s') (h : Part E D') : Tr D s E s' := ⟨t.keep, fun a ha => t.grow a (h.foot a ha)⟩
theorem Part.refl (D : Led) : Part D D := ⟨D, .refl _, .refl _⟩
theorem Part.of_perm {D E : Led} (h : D.Perm E) : Part E D := ⟨E, .refl _, h⟩
theorem Part.tail {D : Led} {p : Addr × O} : Part D (p :: D) := ⟨p :: D, .cons _ (.refl _), .refl _⟩
section
variable {B : Base} {n : Nat} {env : Env} {m : Loc} {D : Led} {Q : V → Led → Prop}
theorem TG.part {α : Type} {t : Sem α} {s : Shared} {R : α → Led → Shared → Prop} (h : TG B n t D s fun v D' s' => ∃ E, Part E D' ∧ R v E s') : TG B n t D s R := fun A hA =>
  wpAny_mono (h A hA) (fun v s' z17 => by obtain ⟨D', ⟨E, p, r⟩, l, t⟩ := z17; exact ⟨E, r, l.part p, t.part (B := B) p⟩) fun _ _ e => e
theorem EV.part {e : Expr} (h : EV B n env e m D fun x D' => ∃ E, Part E D' ∧ Q x E) : EV B n env e m D Q := fun s hs =>
  TG.part ((h s hs).mono fun v D' s' z18 _ _ => by obtain ⟨x, ⟨E, p, q⟩, r⟩ := z18; exact ⟨E, p, x, q, r⟩)
theorem CL.part {f : V} {args : List V} (h : CL B n f args D fun x D' => ∃ E, Part E D' ∧ Q x E) : CL B n f args D Q := fun s a vs l ra rvs =>
  TG.part ((h s a vs l ra rvs).mono fun v D' s' z19 _ _ => by obtain ⟨x, ⟨E, p, q⟩, r⟩ := z19; exact ⟨E, p, x, q, r⟩)
theorem H.part {s : Shared} {E : Led} (hs : H B env m D s) (p : Part E D) : H B env m E s := ⟨hs.lh.part p, hs.kind, hs.genv, hs.names, hs.dbg, hs.ns, hs.cells, hs.own_nodup, fun a ha hm => hs.own_disj a ha (p.foot a hm), hs.own_new⟩
theorem TrF.part {D' E : Led} {s s' : Shared} (t : TrF env D s D' s') (h : Part E D') : TrF env D s E s' := ⟨t.keep, fun a ha => t.grow a (h.foot a ha)⟩
/-- less is known, ahead -/
theorem Tr.pre {E D' : Led} {s s' : Shared} (p : Part E D) (t : Tr E s D' s') : Tr D s D' s' := ⟨fun b o hb e => t.keep b o (fun h => hb (p.foot b h)) e, fun a ha => (t.grow a ha).imp (p.foot a) id⟩
theorem TrF.pre {E D' : Led} {s s' : Shared} (p : Part E D) (t : TrF env E s D' s') : TrF env D s D' s' := ⟨fun b o hb ho e => t.keep b o (fun h => hb (p.foot b h)) ho e, fun a ha => (t.grow a ha).imp (p.foot a) id⟩
theorem TG.pre {α : Type} {t : Sem α} {s : Shared} {E : Led} {R : α → Led → Shared → Prop} (p : Part E D) (h : TG B n t E s R) : TG B n t D s R := fun A hA =>
  wpAny_mono (h A hA) (fun v s' z20 => by obtain ⟨D', r, l, t⟩ := z20; exact ⟨D', r, l, t.pre p⟩) fun _ _ e => e
theorem EV.pre {e : Expr} {E : Led} (p : Part E D) (h : EV B n env e m E Q) : EV B n env e m D Q := fun s hs => TG.pre p (h s (hs.part p))
theorem CL.pre {f : V} {args : List V} {E : Led} (p : Part E D) (h : CL B n f args E Q) : CL B n f args D Q := fun s a vs l ra rvs => TG.pre p (h s a vs (l.part p) ra rvs)
theorem EXS.pre {l : List Stmt} {E : Led} {Q : Loc → Led → Prop} {K : KS} (p : Part E D) (h : EXS B n env l m E Q K) : EXS B n env l m D Q K := fun s hs A hA =>
  wpAny_mono (h s (hs.part p) A hA) (fun fl s' z21 => by obtain ⟨m', D', r, h', t⟩ := z21; exact ⟨m', D', r, h', t.pre p⟩) fun _ _ e => e
theorem EXS.nodup {l : List Stmt} {Q : Loc → Led → Prop} {K : KS} (h : (foot D).Nodup → EXS B n env l m D Q K) : EXS B n env l m D Q K := fun s hs => h hs.lh.nodup s hs
-- lists
theorem ev_list {es : List Expr} {pos : Pos} (h : AR B n env es m D fun xs D₁ => xs.length ≤ 16777216 ∧ ∀ r, Q (.ref r) ((r, .list xs) :: D₁)) (hn : noStar es = true := by rfl) : EV B n env (.List es pos) m D Q := fun s hs => by
  show TG B n (standAt pos >>= fun _ => spliced (backTo pos (starEach es env)) >>= fun vs => newList vs) D s _
  rw [noStar_each hn]
  refine TG.bind (TG.standAt (R := fun _ D' s' => D' = D ∧ s' = s) hs.lh ⟨rfl, rfl⟩) fun _ _ _ z22 _ _ => ?_
  obtain ⟨e₁, e₂⟩ := z22
  subst e₁ e₂
  refine TG.bind (h _ hs) fun vs D₁ s₁ z23 l₁ t₁ A hA => ?_
  obtain ⟨xs, ⟨hz, q₁⟩, ra⟩ := z23
  have hv := ra.length
  refine wpAny_newObj_type ?_ (by simp [sizeOk, sizeLine, ← hv]; exact hz)
  obtain ⟨l₂, t₂⟩ := l₁.pushList (vs := vs.toArray) (by simpa using ra) s₁.toks
  exact ⟨_, ⟨_, q₁ _, .ref _⟩, l₂, t₂⟩
end
end Mine
end
section
open PySem PySem.W PyProof.Rows PySem.Calls
namespace Mine
theorem LH.list {B : Base} {D : Led} {s : Shared} (l : LH B D s) {r : Addr} {xs : List V} (hm : (r, O.list xs) ∈ D) : ∃ vs n, s.heap.get? r = some (listOf vs n) ∧ s.heap.IsList r vs ∧ VRs s.heap xs vs.toList ∧ vs.size = xs.length := by
  obtain ⟨vs, n, e, q⟩ := l.led _ hm
  exact ⟨vs, n, e, ⟨_, e, rfl, _, rfl⟩, q, by rw [q.length]; simp⟩
theorem VRs.at {h : Heap} {xs : List V} {vs : Array Value} (q : VRs h xs vs.toList) {i : Nat} {x : V} (e : xs[i]? = some x) : ∃ v, vs[i]? = some v ∧ VR h x v := by
  obtain ⟨v, a, b⟩ := q.get e
  exact ⟨v, by simpa using a, b⟩
theorem lt_of_get {α : Type} {l : List α} {i : Nat} {x : α} (e : l[i]? = some x) : i < l.length := (List.getElem?_eq_some_iff.mp e).1
/-- the places that a cut leaves -/
def cut {α : Type} (lo hi : Option Int) (l : List α) : List α := (l.drop (kms_lo lo l.length)).take (kms_hi hi l.length - kms_lo lo l.length)
theorem max0 (z : Int) : (max 0 z).toNat = z.toNat := by
  rcases Int.le_total 0 z with h | h
  · rw [Int.max_eq_right h]
  · rw [Int.max_eq_left h, Int.toNat_of_nonpos h]; rfl
theorem clip_eq (n : Nat) (x : Int) : clipAt n x = if x < 0 then n - (-x).toNat else min x.toNat n := by
  unfold clipAt
  rw [max0]
  cases x with
  | ofNat a =>
    have h : ¬ Int.ofNat a < 0 := Int.not_lt.mpr (Int.natCast_nonneg a)
    rw [if_neg h, if_neg h]
    show (min (a : Int) n).toNat = min a n
    rcases Nat.le_total a n with q | q
    · rw [Nat.min_eq_left q, Int.min_eq_left (Int.ofNat_le.mpr q), Int.toNat_natCast]
    · rw [Nat.min_eq_right q, Int.min_eq_right (Int.ofNat_le.mpr q), Int.toNat_natCast]
  | negSucc a =>
    rw [if_pos (Int.negSucc_lt_zero a), if_pos (Int.negSucc_lt_zero a)]
    have e : Int.negSucc a + (n : Int) = (n : Int) - ((a + 1 : Nat) : Int) := Int.add_comm _ _
    rw [e, Int.min_eq_left (Int.sub_le_self _ (Int.natCast_nonneg _)), Int.toNat_sub]; rfl
theorem cut_bytes (b : List UInt8) (lo hi : Option Int) : KBy.picked b.toArray lo hi = (cut lo hi b).toArray := by
  rw [KBc.picked_eq]
  simp only [cut, List.size_toArray]
  congr 1
  have e1 : lo.elim 0 (clipAt b.length) = kms_lo lo b.length := by cases lo <;> simp [kms_lo, clip_eq]
  have e2 : hi.elim b.length (clipAt b.length) = kms_hi hi b.length := by cases hi <;> simp [kms_hi, clip_eq]
  rw [e1, e2]
theorem cut_last {α : Type} (l : List α) : cut none (some (-1)) l = l.dropLast := by
  simp [cut, kms_lo, kms_hi, List.dropLast_eq_take]
theorem nneg {x : Int} (h : 0 ≤ x) : ¬ x < 0 := Int.not_lt.mpr h
theorem cut_upto {α : Type} (l : List α) {y : Int} (h : 0 ≤ y) : cut none (some y) l = l.take y.toNat := by
  unfold cut kms_lo kms_hi
  dsimp only
  rw [if_neg (nneg h), List.drop_zero, Nat.sub_zero, ← List.take_eq_take_min]
theorem drop_min {α : Type} (l : List α) (a : Nat) : l.drop (min a l.length) = l.drop a := by
  rcases Nat.le_total a l.length with h | h
  · rw [Nat.min_eq_left h]
  · rw [Nat.min_eq_right h, List.drop_of_length_le (Nat.le_refl _), List.drop_of_length_le h]
theorem cut_from {α : Type} (l : List α) {x : Int} (h : 0 ≤ x) : cut (some x) none l = l.drop x.toNat := by
  unfold cut kms_lo kms_hi
  dsimp only
  rw [if_neg (nneg h), drop_min, List.take_of_length_le]
  rw [List.length_drop]
  rcases Nat.le_total x.toNat l.length with h | h
  · rw [Nat.min_eq_left h]; exact Nat.le_refl _
  · rw [Nat.sub_eq_zero_of_le h]; exact Nat.zero_le _
theorem cut_run {α : Type} (l : List α) {x y : Int} (h : 0 ≤ x) (h' : 0 ≤ y) : cut (some x) (some y) l = (l.drop x.toNat).take (y.toNat - x.toNat) := by
  unfold cut kms_lo kms_hi
  dsimp only
  rw [if_neg (nneg h), if_neg (nneg h'), drop_min, List.take_eq_take_min (i := y.toNat - x.toNat), List.length_drop]
  rcases Nat.le_total x.toNat l.length with q | q
  · rw [Nat.min_eq_left q, Nat.sub_min_sub_right]
  · rw [List.drop_of_length_le q, List.take_nil, List.take_nil]
theorem cut_nat {α : Type} (l : List α) (t i : Nat) : cut (some (t : Int)) (some ((t : Int) + (i : Int))) l = (l.drop t).take i := by
  rw [cut_run l (Int.natCast_nonneg _) (Int.add_nonneg (Int.natCast_nonneg _) (Int.natCast_nonneg _)), ← Int.natCast_add, Int.toNat_natCast, Int.toNat_natCast, Nat.add_sub_cancel_left]
theorem cut_natc {α : Type} (l : List α) (t i : Nat) : cut (some (t : Int)) (some ((t + i : Nat) : Int)) l = (l.drop t).take i := cut_nat l t i
theorem VRs.cut {h : Heap} {xs : List V} {vs : List Value} (q : VRs h xs vs) (lo hi : Option Int) : VRs h (cut lo hi xs) (kms_pick vs lo hi) := by
  unfold Mine.cut kms_pick
  rw [q.length]
  exact (q.drop _).take _
section
variable {B : Base} {n : Nat} {env : Env} {m : Loc} {D : Led} {Q : V → Led → Prop}
theorem gi_list {r : Addr} {xs : List V} {x : V} {i : Int} (hm : (r, .list xs) ∈ D) (h0 : 0 ≤ i) (hx : xs[i.toNat]? = some x) (h : Q x D) (hf : i < 2 ^ 63 := by lia) : GI B n (.ref r) (.int i) D Q := fun s a b l ra rb A hA => by
  obtain ⟨vs, c, e, hl, q, hs⟩ := l.list hm
  obtain ⟨v, hv, rv⟩ := q.at hx
  (first | obtain rfl := ra.inv | obtain ⟨_, rfl⟩ := ra.inv); (first | obtain rfl := rb.inv | obtain ⟨_, rfl⟩ := rb.inv)
  exact wpAny_getItem_list hl h0 hf hv ⟨D, ⟨_, h, rv⟩, l, .refl ..⟩
theorem gi_list_neg {r : Addr} {xs : List V} {x : V} {i : Int} (hm : (r, .list xs) ∈ D) (h0 : i < 0) (h1 : -(xs.length : Int) ≤ i) (hx : xs[(i + xs.length).toNat]? = some x) (h : Q x D) (hf : -(2 ^ 63) ≤ i := by lia) : GI B n (.ref r) (.int i) D Q := fun s a b l ra rb A hA => by
  obtain ⟨vs, c, e, hl, q, hs⟩ := l.list hm
  obtain ⟨v, hv, rv⟩ := q.at hx
  (first | obtain rfl := ra.inv | obtain ⟨_, rfl⟩ := ra.inv); (first | obtain rfl := rb.inv | obtain ⟨_, rfl⟩ := rb.inv)
  exact wpAny_getItem_list_neg hl h0 (by rw [hs]; exact h1) hf (by rw [hs]; exact hv) ⟨D, ⟨_, h, rv⟩, l, .refl ..⟩
theorem gi_tup {xs : List V} {x : V} {i : Int} (h0 : 0 ≤ i) (hx : xs[i.toNat]? = some x) (h : Q x D) (hf : i < 2 ^ 63 := by lia) : GI B n (.tup xs) (.int i) D Q := fun s a b l ra rb A hA => by
  obtain ⟨t, items, rfl, ht, q⟩ := ra.inv
  obtain ⟨v, hv, rv⟩ := q.at hx
  (first | obtain rfl := rb.inv | obtain ⟨_, rfl⟩ := rb.inv)
  have hlt : i.toNat < items.size := (Array.getElem?_eq_some_iff.mp hv).1
  have hi : ¬ i < 0 := by lia
  have hi2 : i < items.size := by lia
  exact PyProof.Rows.getItem_tuple ht (by lia) hf (by simp [seqIndex?, hi, h0, hi2]) hv ⟨D, ⟨_, h, rv⟩, l, .refl ..⟩
theorem gi_byt {b : List UInt8} {i : Int} (hf : b.length ≤ 1099511627776) (h0 : 0 ≤ i) (h1 : i < b.length) (h : Q (.int (b.getD i.toNat 0).toNat) D) : GI B n (.byt b) (.int i) D Q := fun s a c l ra rb => by
  (first | obtain rfl := ra.inv | obtain ⟨_, rfl⟩ := ra.inv); (first | obtain rfl := rb.inv | obtain ⟨_, rfl⟩ := rb.inv)
  exact TG.tokR l (fun A hA Q hQ => W.getItem_bytes hf h0 h1 (hQ _)) fun k => ⟨_, h, .int ..⟩
theorem gi_byt_neg {b : List UInt8} {i : Int} (hf : b.length ≤ 1099511627776) (h0 : i < 0) (h1 : -(b.length : Int) ≤ i) (h : Q (.int (b.getD (i + b.length).toNat 0).toNat) D) : GI B n (.byt b) (.int i) D Q := fun s a c l ra rb => by
  obtain ⟨t, rfl⟩ := ra.inv; obtain ⟨u, rfl⟩ := rb.inv
  refine TG.tokR l (fun A hA Q hQ => getItem_gives (typeIs_bytes s _ t) (by decide) FB.slot_bytes_getitem FB.entry_bytes_getitem (FB.args_bytes_getitem_2 _ _) (gives_bytes_getitem _ i t u (b.getD (i + b.length).toNat 0) ?_ ?_) (hQ _)) fun k => ⟨_, h, .int ..⟩
  · simp only [Builtin.Bytes.fitsIndex, Bool.and_eq_true, decide_eq_true_eq]; lia
  · have hl : (i + b.length).toNat < b.length := by lia
    have h2 : 0 ≤ i + (b.length : Int) := by lia
    have h3 : i + (b.length : Int) < b.length := by lia
    have e : seqIndex? i b.toArray.size = some (i + b.length).toNat := by simp [seqIndex?, h0, h2, h3]
    rw [e]; simp [hl]
theorem gi_str {x : Str} {i : Int} {c : Nat} (h0 : 0 ≤ i) (hc : x.cps[i.toNat]? = some c) (h : Q (.str ⟨#[c]⟩) D) (hf : i < 2 ^ 63 := by lia) : GI B n (.str x) (.int i) D Q := fun s a d l ra rb => by
  (first | obtain rfl := ra.inv | obtain ⟨_, rfl⟩ := ra.inv); (first | obtain rfl := rb.inv | obtain ⟨_, rfl⟩ := rb.inv)
  have hlt : i.toNat < x.length := (Array.getElem?_eq_some_iff.mp hc).1
  have hi : ¬ i < 0 := by lia
  have hi2 : i < x.length := by lia
  refine TG.tokR l (fun A hA Q hQ => PySem.P.getItem_str (by simp; lia) ?_ (hQ _)) fun k => ⟨_, h, .str ..⟩
  simp [seqIndex?, hi, h0, hi2, hc]
theorem LH.newList' {D : Led} {s : Shared} (l : LH B D s) {vs : Array Value} {xs : List V} (r : VRs s.heap xs vs.toList) {R : Value → Led → Shared → Prop} (hR : ∀ s', VR s'.heap (.ref s.heap.objs.size) (.ref s.heap.objs.size) → R (.ref s.heap.objs.size) ((s.heap.objs.size, .list xs) :: D) s') :
    ∃ D', R (.ref s.heap.objs.size) D' { s with heap := s.heap.push { cls := .type "list", data := .seq vs } } ∧ LH B D' { s with heap := s.heap.push { cls := .type "list", data := .seq vs } } ∧ Tr D s D' { s with heap := s.heap.push { cls := .type "list", data := .seq vs } } :=
  let ⟨a, b⟩ := l.pushList r s.toks
  ⟨_, hR _ (.ref _), a, b⟩
theorem part_of {l : Option Int} {v : Value} (h : IsPart' l v) : IsPart v l := by cases h <;> constructor
theorem gi_cut_list {r : Addr} {xs : List V} {lo hi : Option Int} (hm : (r, .list xs) ∈ D) (hz : xs.length ≤ 16777216) (h : ∀ q, Q (.ref q) ((q, .list (cut lo hi xs)) :: D)) : GI B n (.ref r) (.slc lo hi) D Q := fun s a b l ra rb A hA => by
  obtain ⟨vs, c, e, hl, q, hs⟩ := l.list hm
  (first | obtain rfl := ra.inv | obtain ⟨_, rfl⟩ := ra.inv); obtain ⟨_, _, _, rfl, sl, pl, pu⟩ := rb.inv
  refine wpAny_getItem_list_slice hl sl (part_of pl) (part_of pu) .none (by simp) ?_ (by rw [hs]; exact hz)
  rw [kms_pick_eq]
  exact l.newList' (vs := (kms_pick vs.toList lo hi).toArray) (by simpa using q.cut lo hi) fun s' r => ⟨_, h _, r⟩
theorem gi_cut_byt {b : List UInt8} {lo hi : Option Int} (hz : b.length ≤ 16777216) (h : Q (.byt (cut lo hi b)) D) : GI B n (.byt b) (.slc lo hi) D Q := fun s a c l ra rb A hA => by
  (first | obtain rfl := ra.inv | obtain ⟨_, rfl⟩ := ra.inv); obtain ⟨_, _, _, rfl, sl, pl, pu⟩ := rb.inv
  refine getItem_meets (typeIs_bytes _ _ _) (by decide) FB.slot_bytes_getitem FB.entry_bytes_getitem (FB.args_bytes_getitem_2 _ _) (KBc.meets_slice2 _ _ _ (part_of pl) (part_of pu))
    ⟨sl, Nat.le_trans (KBc.size_picked_le _ lo hi) (by simpa [sizeLine_eq] using hz), fun t' k => ?_⟩
  rw [cut_bytes]
  exact ⟨D, ⟨_, h, .byt ..⟩, l.toks k, Tr.toks ..⟩
theorem sb_list {value slice : Expr} {r : Addr} {xs : List V} {i : V} (hm : (r, .list xs) ∈ D) (h : GI B n (.ref r) i D Q) : SB B n value slice (.ref r) i D Q :=
  sb_of (fun s a l ra => by obtain ⟨vs, c, e, hl, q, hs⟩ := l.list hm; (first | obtain rfl := ra.inv | obtain ⟨_, rfl⟩ := ra.inv); exact hl.typeIs) PySem.F.slot_list_getitem.lookup h
theorem sb_tup {value slice : Expr} {xs : List V} {i : V} (h : GI B n (.tup xs) i D Q) : SB B n value slice (.tup xs) i D Q :=
  sb_of (fun s a l ra => by obtain ⟨_, _, rfl, ht, q⟩ := ra.inv; obtain ⟨o, e, c, _⟩ := ht; exact ⟨o, e, c⟩) PySem.F.slot_tuple_getitem.lookup h
theorem sb_byt {value slice : Expr} {b : List UInt8} {i : V} (h : GI B n (.byt b) i D Q) : SB B n value slice (.byt b) i D Q :=
  sb_of (fun s a l ra => by (first | obtain rfl := ra.inv | obtain ⟨_, rfl⟩ := ra.inv); exact typeIs_bytes ..) FB.slot_bytes_getitem.lookup h
theorem sb_str {value slice : Expr} {x : Str} {i : V} (h : GI B n (.str x) i D Q) : SB B n value slice (.str x) i D Q :=
  sb_of (fun s a l ra => by (first | obtain rfl := ra.inv | obtain ⟨_, rfl⟩ := ra.inv); rfl) PySem.F.slot_str_getitem.lookup h
-- slices
def PT (B : Base) (n : Nat) (env : Env) (e : Option Expr) (m : Loc) (D : Led) (Q : Option Int → Led → Prop) : Prop := ∀ s, H B env m D s → TG B n (valueOrNone (evalOpt e env)) D s fun v D' _ => ∃ x, Q x D' ∧ IsPart' x v
theorem pt_none {Q : Option Int → Led → Prop} (h : Q none D) : PT B n env none m D Q := fun s hs => TG.pure hs.lh ⟨_, h, .none⟩
theorem pt_some {e : Expr} {Q : Option Int → Led → Prop} (h : EV B n env e m D fun x D₁ => ∃ i, x = .int i ∧ Q (some i) D₁) : PT B n env (some e) m D Q := fun s hs =>
  (h s hs).mono fun v D₁ s₁ z24 _ _ => by obtain ⟨x, ⟨i, e, q⟩, r⟩ := z24; subst e; (first | obtain rfl := r.inv | obtain ⟨_, rfl⟩ := r.inv); exact ⟨_, q, .int ..⟩
theorem ev_slice {lo hi : Option Expr} {pos : Pos} (h : PT B n env lo m D fun x D₁ => PT B n env hi m D₁ fun y D₂ => Q (.slc x y) D₂) : EV B n env (.Slice lo hi none pos) m D Q := fun s hs => by
  show TG B n (valueOrNone (evalOpt lo env) >>= fun l => holding [l] (valueOrNone (evalOpt hi env)) >>= fun u => holding [l, u] (pure .none) >>= fun st => newFields "slice" [l, u, st]) D s _
  refine TG.bind (h s hs) fun lv D₁ s₁ z25 l₁ t₁ => ?_
  obtain ⟨x, q₁, px⟩ := z25
  refine TG.bind (TG.holding (q₁ s₁ (hs.step l₁ t₁))) fun uv D₂ s₂ z26 l₂ t₂ => ?_
  obtain ⟨y, q₂, py⟩ := z26
  refine TG.bind (TG.holding (TG.pure (R := fun h D' s' => h = Value.none ∧ D' = D₂ ∧ s' = s₂) l₂ ⟨rfl, rfl, rfl⟩)) fun st D' s' z27 l₂' _ A hA => ?_
  obtain ⟨e₀, e₁, e₂⟩ := z27
  subst e₀ e₁ e₂
  unfold newFields
  refine wpAny_newObj_type ?_ (by simp [sizeOk]; decide)
  obtain ⟨l', t'⟩ := l₂'.grow (s' := { s' with heap := s'.heap.push { cls := .type "slice", data := .fields #[lv, uv, .none] } }) (fun b o e => Heap.get?_push_of_some _ e) rfl rfl
  exact ⟨_, ⟨_, q₂, .slc (Heap.IsSliceOf.new ..) px py⟩, l', t'⟩
-- tuples
theorem ev_tuple {es : List Expr} {k : Nat} {pos : Pos} (h : AR B n env es m D fun xs D₁ => xs.length ≤ 16777216 ∧ Q (.tup xs) D₁) (hn : noStar es = true := by rfl) : EV B n env (.Tuple es k pos) m D Q := fun s hs => by
  show TG B n (standAt pos >>= fun _ => spliced (backTo pos (starEach es env)) >>= fun vs => newTuple vs) D s _
  rw [noStar_each hn]
  refine TG.bind (TG.standAt (R := fun _ D' s' => D' = D ∧ s' = s) hs.lh ⟨rfl, rfl⟩) fun _ _ _ z28 _ _ => ?_
  obtain ⟨e₁, e₂⟩ := z28
  subst e₁ e₂
  refine TG.bind (h _ hs) fun vs D₁ s₁ z29 l₁ t₁ A hA => ?_
  obtain ⟨xs, ⟨hz, q₁⟩, ra⟩ := z29
  refine wpAny_newTuple ?_ (by rw [← ra.length]; simpa [sizeLine_eq] using hz)
  obtain ⟨l', t'⟩ := l₁.grow (s' := { s₁ with heap := s₁.heap.push { cls := .type "tuple", data := .seq vs.toArray } }) (fun b o e => Heap.get?_push_of_some _ e) rfl rfl
  exact ⟨_, ⟨_, q₁, .tup ⟨_, Heap.get?_push_size _ rfl, rfl, _, rfl⟩ (by simpa using ra.mono (t'.tup l₁))⟩, l', t'⟩
end
end Mine
end
section
open PySem PySem.W PyProof.Rows PySem.Calls
namespace Mine
abbrev GT := List (Str × V)
def GOk (B : Base) (g : GT) : Prop := ∀ x v, g.lookup x = some v → v ≠ .unb ∧ ∃ r, (B.mg x = some r ∨ (B.mg x = none ∧ B.mb x = some r)) ∧ VR B.h₀ v r
inductive BR (h : Heap) : List (Str × V) → List (Str × Value) → Prop
  | nil : BR h [] []
  | cons {x : Str} {v : V} {r : Value} {pb : List (Str × V)} {bs : List (Str × Value)} : VR h v r → BR h pb bs → BR h ((x, v) :: pb) ((x, r) :: bs)
theorem BR.mono {h h' : Heap} (k : TupKeep h h') : ∀ {pb : List (Str × V)} {bs : List (Str × Value)}, BR h pb bs → BR h' pb bs := by
  intro pb bs q
  induction q with
  | nil => exact .nil
  | cons a _ ih => exact .cons (a.mono k) ih
theorem BR.names {h : Heap} : ∀ {pb : List (Str × V)} {bs : List (Str × Value)}, BR h pb bs → bs.map (·.1) = pb.map (·.1) := by
  intro pb bs q
  induction q with
  | nil => rfl
  | cons _ _ ih => exact congrArg (List.cons _) ih
theorem BR.zip {h : Heap} : ∀ {ns : List Str} {xs : List V} {vs : List Value}, VRs h xs vs → BR h (ns.zip xs) (ns.zip vs) := by
  intro ns
  induction ns with
  | nil => intro _ _ _; exact .nil
  | cons n ns ih =>
    intro xs vs q
    cases xs with
    | nil => obtain rfl := q.inv; exact .nil
    | cons x xs => obtain ⟨v, ws, rfl, a, b⟩ := q.inv; exact .cons a (ih b)
def bindV : List (Str × V) → (Str → V) → Str → V
  | [], f => f
  | (n, v) :: r, f => bindV r fun y => if y = n then v else f y
theorem bind_ok {h : Heap} {kindOf : Str → Option NameKind} : ∀ {pb : List (Str × V)} {bs : List (Str × Value)}, BR h pb bs → ∀ (m cm : Str → Option Value) (f : Str → V),
    (∀ x, kindOf x = some .local → f x ≠ .unb → ∃ r, m x = some r ∧ VR h (f x) r) → (∀ x, kindOf x ≠ some .local → f x ≠ .unb → ∃ r, cm x = some r ∧ VR h (f x) r) →
    (∀ x, kindOf x = some .local → bindV pb f x ≠ .unb → ∃ r, bindL kindOf bs m x = some r ∧ VR h (bindV pb f x) r) ∧ (∀ x, kindOf x ≠ some .local → bindV pb f x ≠ .unb → ∃ r, bindC kindOf bs cm x = some r ∧ VR h (bindV pb f x) r) := by
  intro pb bs q
  induction q with
  | nil => exact fun m cm f a b => ⟨a, b⟩
  | @cons n v r pb bs rv rest ih =>
    intro m cm f a b
    have here : ∀ (m : Str → Option Value) (x : Str), (x = n → m x = some r) → (x ≠ n → f x ≠ .unb → ∃ r, m x = some r ∧ VR h (f x) r) → (if x = n then v else f x) ≠ .unb → ∃ r, m x = some r ∧ VR h (if x = n then v else f x) r := fun m x h1 h2 hf => by
      by_cases e : x = n
      · rw [if_pos e]; exact ⟨r, h1 e, rv⟩
      · rw [if_neg e] at hf ⊢; exact h2 e hf
    unfold bindL bindC bindV
    by_cases hn : kindOf n = some .local
    · rw [if_pos hn, if_pos hn]
      exact ih _ _ _ (fun x hx => here (fun y => if y = n then some r else m y) x (fun e => if_pos e) fun e hf => by rw [if_neg e]; exact a x hx hf) fun x hx => here _ x (fun e => absurd (e ▸ hn) hx) fun _ => b x hx
    · rw [if_neg hn, if_neg hn]
      exact ih _ _ _ (fun x hx => here _ x (fun e => absurd (e ▸ hx) hn) fun _ => a x hx) fun x hx => here (fun y => if y = n then some r else cm y) x (fun e => if_pos e) fun e hf => by rw [if_neg e]; exact b x hx hf
/-- the frame's table at the start -/
def loc0 (g : GT) (pb : List (Str × V)) : List (Str × NameKind) → Loc
  | [] => []
  | (x, .globalImplicit) :: r => match g.lookup x with
    | some v => (x, .g v) :: loc0 g pb r
    | none => loc0 g pb r
  | (x, _) :: r => (x, .v (bindV pb (fun _ => .unb) x)) :: loc0 g pb r
def namesOkB (names : List (Str × NameKind)) : Bool := decide (names.map (·.1)).Nodup && names.all fun p => (!(p.1 == ("__debug__" : Str)) && !(p.1 == ("__classdict__" : Str))) && (p.2 == .local || p.2 == .cell || p.2 == .globalImplicit)
theorem loc0_sub (g : GT) (pb : List (Str × V)) : ∀ names : List (Str × NameKind), ((loc0 g pb names).map (·.1)).Sublist (names.map (·.1))
  | [] => .slnil
  | (x, k) :: r => by
    have ih := loc0_sub g pb r
    cases k <;> simp only [loc0, List.map_cons]
    case globalImplicit =>
      split
      · exact .cons_cons _ ih
      · exact .cons _ ih
    all_goals exact .cons_cons _ ih
theorem loc0_mem {g : GT} {pb : List (Str × V)} : ∀ {names : List (Str × NameKind)}, ∀ p ∈ loc0 g pb names, ∃ k, (p.1, k) ∈ names ∧ ((k = .globalImplicit ∧ ∃ v, g.lookup p.1 = some v ∧ p.2 = .g v) ∨ (k ≠ .globalImplicit ∧ p.2 = .v (bindV pb (fun _ => .unb) p.1)))
  | [], p, hp => by cases hp
  | (x, k) :: r, p, hp => by
    have ih := fun q hq => loc0_mem (g := g) (pb := pb) (names := r) q hq
    have lift : (∃ k, (p.1, k) ∈ r ∧ ((k = .globalImplicit ∧ ∃ v, g.lookup p.1 = some v ∧ p.2 = .g v) ∨ (k ≠ .globalImplicit ∧ p.2 = .v (bindV pb (fun _ => .unb) p.1)))) → (∃ k', (p.1, k') ∈ (x, k) :: r ∧ ((k' = .globalImplicit ∧ ∃ v, g.lookup p.1 = some v ∧ p.2 = .g v) ∨ (k' ≠ .globalImplicit ∧ p.2 = .v (bindV pb (fun _ => .unb) p.1)))) :=
      fun z30 => by obtain ⟨k', a, b⟩ := z30; exact ⟨k', .tail _ a, b⟩
    by_cases hk : k = .globalImplicit
    · subst hk
      simp only [loc0] at hp
      split at hp
      · rename_i v hv
        rcases List.mem_cons.mp hp with rfl | hp
        · exact ⟨_, .head _, .inl ⟨rfl, v, hv, rfl⟩⟩
        · exact lift (ih p hp)
      · exact lift (ih p hp)
    · have hp' : p ∈ (x, E.v (bindV pb (fun _ => .unb) x)) :: loc0 g pb r := by cases k <;> first | exact hp | exact absurd rfl hk
      rcases List.mem_cons.mp hp' with rfl | hp'
      · exact ⟨k, .head _, .inr ⟨hk, rfl⟩⟩
      · exact lift (ih p hp')
theorem lookup_nodup {α : Type} : ∀ {l : List (Str × α)}, (l.map (·.1)).Nodup → ∀ {x : Str} {a : α}, (x, a) ∈ l → l.lookup x = some a
  | (y, b) :: r, hn, x, a, hm => by
    simp only [List.map_cons, List.nodup_cons] at hn
    rw [List.lookup_cons]
    rcases List.mem_cons.mp hm with e | hm
    · cases e; simp
    · have : (x == y) = false := by
        refine beq_eq_false_iff_ne.mpr fun e => hn.1 ?_
        rw [← e]; exact List.mem_map_of_mem (f := (·.1)) hm
      rw [this]; exact lookup_nodup hn.2 hm
theorem cellsFrom_mem : ∀ (names : List (Str × NameKind)) (n : Nat) (acc : List (Str × Addr)) (x : Str), ((x, NameKind.cell) ∈ names ∨ x ∈ acc.map (·.1)) → x ∈ (cellsFrom n names acc).map (·.1)
  | [], n, acc, x, h => h.elim (fun h => nomatch h) id
  | (y, k) :: r, n, acc, x, h => by
    unfold cellsFrom
    split
    · rename_i hk
      refine cellsFrom_mem r _ _ x ?_
      rcases h with h | h
      · rcases List.mem_cons.mp h with e | h
        · cases e; exact .inr (.head _)
        · exact .inl h
      · exact .inr (.tail _ h)
    · rename_i hk
      refine cellsFrom_mem r _ _ x ?_
      rcases h with h | h
      · rcases List.mem_cons.mp h with e | h
        · cases e; exact absurd rfl hk
        · exact .inl h
      · exact .inr h
theorem cellsFrom_sub : ∀ (names : List (Str × NameKind)) (n : Nat) (acc : List (Str × Addr)) (x : Str), x ∈ (cellsFrom n names acc).map (·.1) → x ∈ names.map (·.1) ∨ x ∈ acc.map (·.1)
  | [], n, acc, x, h => .inr h
  | (y, k) :: r, n, acc, x, h => by
    unfold cellsFrom at h
    split at h
    · rcases cellsFrom_sub r _ _ x h with h | h
      · exact .inl (.tail _ h)
      · rcases List.mem_cons.mp (show x ∈ y :: acc.map (·.1) from h) with rfl | h
        · exact .inl (.head _)
        · exact .inr h
    · rcases cellsFrom_sub r _ _ x h with h | h
      · exact .inl (.tail _ h)
      · exact .inr h
theorem cellsFrom_nodup : ∀ (names : List (Str × NameKind)) (n : Nat) (acc : List (Str × Addr)), (names.map (·.1)).Nodup → (acc.map (·.1)).Nodup → (∀ x ∈ acc.map (·.1), x ∉ names.map (·.1)) → ((cellsFrom n names acc).map (·.1)).Nodup
  | [], n, acc, _, h, _ => h
  | (y, k) :: r, n, acc, hn, ha, hd => by
    simp only [List.map_cons, List.nodup_cons] at hn
    unfold cellsFrom
    split
    · refine cellsFrom_nodup r _ _ hn.2 ?_ ?_
      · simp only [List.map_cons, List.nodup_cons]
        exact ⟨fun h => hd y h (.head _), ha⟩
      · intro x hx
        rcases List.mem_cons.mp (show x ∈ y :: acc.map (·.1) from hx) with rfl | hx
        · exact hn.1
        · exact fun h => hd x hx (.tail _ h)
    · exact cellsFrom_nodup r _ _ hn.2 ha fun x hx h => hd x hx (.tail _ h)
theorem lookup_some_of_mem {α : Type} {l : List (Str × α)} {x : Str} (h : x ∈ l.map (·.1)) : ∃ a, l.lookup x = some a := by
  induction l with
  | nil => cases h
  | cons p r ih =>
    obtain ⟨y, b⟩ := p
    rw [List.lookup_cons]
    cases e : x == y with
    | true => exact ⟨b, rfl⟩
    | false =>
      rcases List.mem_cons.mp (show x ∈ y :: r.map (·.1) from h) with rfl | h
      · simp at e
      · exact ih h
structure FdOk (fd : FuncData) (body : List Stmt) : Prop where
  body : fd.body = .stmts body
  clo : fd.closure = []
  glob : fd.globals = mainGlobals
  blt : fd.builtins = builtinsNs
  co : fd.scope.isCoroutine = false
  gen : fd.scope.isGenerator = false
  kind : fd.scope.kind = .function
  names : namesOkB fd.scope.names = true
theorem H.enter {B : Base} {g : GT} (hg : GOk B g) {D : Led} {s s₁ : Shared} {fd : FuncData} {body : List Stmt} (ok : FdOk fd body) {a : Addr} {pb : List (Str × V)} {bs : List (Str × Value)} (l : LH B D s) (hb : BR s.heap pb bs)
    (x : InCallC s (callEnvC fd s.heap.objs.size a).locals (bindL (callEnvC fd s.heap.objs.size a).kindOf bs fun _ => none) (callEnvC fd s.heap.objs.size a).cells (bindC (callEnvC fd s.heap.objs.size a).kindOf bs fun _ => none) s₁) :
    H B (callEnvC fd s.heap.objs.size a) (loc0 g pb fd.scope.names) D s₁ ∧ (∀ b ∈ own (callEnvC fd s.heap.objs.size a), s.heap.get? b = none) := by
  have hn := ok.names
  simp only [namesOkB, Bool.and_eq_true, decide_eq_true_eq, List.all_eq_true, Bool.not_eq_true', Bool.or_eq_true, beq_iff_eq] at hn
  obtain ⟨hnd, hall⟩ := hn
  have keep := x.toInCall.keep
  obtain ⟨h', tk, rfl⟩ := x.toInCall.same
  obtain ⟨lh, tr⟩ := l.grow (s' := { s with heap := h', toks := tk }) keep rfl rfl
  have hcn : ((callEnvC fd s.heap.objs.size a).cells.map (·.1)).Nodup := cellsFrom_nodup _ _ _ hnd List.nodup_nil (fun x hx => nomatch hx)
  have above : ∀ c ∈ (callEnvC fd s.heap.objs.size a).cells.map (·.2), s.heap.objs.size < c := fun c hc => by
    obtain ⟨p, hp, rfl⟩ := List.mem_map.mp hc
    exact Nat.lt_of_le_of_lt x.toInCall.fresh (x.above p.1 p.2 hp)
  have ownNew : ∀ b ∈ own (callEnvC fd s.heap.objs.size a), s.heap.get? b = none := fun b hb => by
    cases q : s.heap.get? b with
    | none => rfl
    | some o =>
      have hlt := Heap.lt_size q
      rcases List.mem_cons.mp hb with rfl | hb
      · exact absurd hlt (Nat.not_lt.mpr x.toInCall.fresh)
      · exact absurd hlt (Nat.not_lt.mpr (Nat.le_of_lt (above b hb)))
  have cellOf : ∀ c ∈ (callEnvC fd s.heap.objs.size a).cells.map (·.2), ∃ n, (callEnvC fd s.heap.objs.size a).cells.lookup n = some c := fun c hc => by
    obtain ⟨p, hp, rfl⟩ := List.mem_map.mp hc
    exact ⟨p.1, lookup_nodup hcn hp⟩
  refine ⟨⟨lh, ok.kind, ⟨ok.glob, ok.blt⟩, hnd.sublist (loc0_sub ..), fun p hp => ?_, ⟨_, x.toInCall.ns, fun p hp => ?_⟩, fun c hc => ?_, ?_, fun b hb hm => l.notFoot (ownNew b hb) hm, fun b hb => l.baseNone (ownNew b hb)⟩, ownNew⟩
  · obtain ⟨k, hk, _⟩ := loc0_mem p hp
    exact (hall _ hk).1.1
  · obtain ⟨k, hk, hc⟩ := loc0_mem p hp
    have hko : (callEnvC fd s.heap.objs.size a).kindOf p.1 = some k := lookup_nodup hnd hk
    obtain ⟨px, pe⟩ := p
    have bok := bind_ok (h := h') (kindOf := (callEnvC fd s.heap.objs.size a).kindOf) (hb.mono (tr.tup l)) (fun _ => none) (fun _ => none) (fun _ => .unb) (fun _ _ h => absurd rfl h) (fun _ _ h => absurd rfl h)
    dsimp only at hk hc hko ⊢
    rcases hc with ⟨rfl, v, hv, rfl⟩ | ⟨hne, rfl⟩
    · obtain ⟨_, r, hr, vr⟩ := hg _ _ hv
      exact .glob r hko hr vr
    · have hkk := (hall _ hk).2
      rcases hkk with (rfl | rfl) | rfl
      · exact .loc hko fun hu => bok.1 px hko hu
      · obtain ⟨c, hcl⟩ := lookup_some_of_mem (cellsFrom_mem fd.scope.names (s.heap.objs.size + 1) [] px (.inl hk))
        have hcl' : (callEnvC fd s.heap.objs.size a).cells.lookup px = some c := hcl
        exact .cell .cell c _ hko (.inl rfl) hcl' (x.cell px c hcl') (hall _ hk).1.2 fun hu => bok.2 px (by rw [hko]; decide) hu
      · exact absurd rfl hne
  · obtain ⟨n, hn⟩ := cellOf c hc
    exact ⟨_, x.cell n c hn⟩
  · refine List.nodup_cons.mpr ⟨fun h => ?_, ?_⟩
    · obtain ⟨p, hp, e⟩ := List.mem_map.mp h
      exact absurd (x.above p.1 p.2 hp) (by rw [e]; exact Nat.lt_irrefl _)
    · exact List.pairwise_map.mpr x.apart
end Mine
end
section
open PySem PySem.W PyProof.Rows PySem.Calls
namespace Mine
section
variable {B : Base} {n : Nat} {D : Led} {Q : V → Led → Prop}
abbrev KR (Q : V → Led → Prop) : KS := ⟨fun _ _ => False, fun _ _ => False, Q⟩
theorem leave_def {env : Env} {D D' : Led} {s s₁ s' : Shared} (keep : ∀ b o, s.heap.get? b = some o → s₁.heap.get? b = some o) (ownNew : ∀ b ∈ own env, s.heap.get? b = none) (t : TrF env D s₁ D' s') : Tr D s D' s' := by
  refine ⟨fun b o hb e => t.keep b o hb (fun hm => by rw [ownNew b hm] at e; cases e) (keep b o e), fun a ha => (t.grow a ha).imp id fun en => ?_⟩
  cases q : s.heap.get? a with
  | none => rfl
  | some o => rw [keep a o q] at en; cases en
/-- a call, by its code -/
def CLC (B : Base) (n : Nat) (f : V) (args : List V) (D : Led) (Q : V → Led → Prop) : Prop := ∀ s a vs, LH B D s → VR s.heap f a → VRs s.heap args vs → ∀ A, AOk n A →
  codeAny (model B.prog B.w) A (.call a ⟨vs, []⟩) (fun r s' => match r with | .ok (.ret v) => ∃ D', VQ Q v D' s' ∧ LH B D' s' ∧ Tr D s D' s' | .ok _ => False | .error e => NoE e s') s
theorem CLC.cl {f : V} {args : List V} (h : CLC B n f args D Q) : CL B n f args D Q := fun s a vs l ra rvs A hA => wpAny_call (h s a vs l ra rvs A hA)
theorem clc_cells {a : Addr} {o : Obj} {fd : FuncData} {body : List Stmt} {args : List V} {g : GT} {pb : List (Str × V)} {m₀ : Loc} {c : Addr}
    (hK : B.K.lookup a = some o) (hd : o.data = .func fd) (ok : FdOk fd body) (hcd : fd.code = .ref c) (hC : (c, fd.qualname) ∈ B.C) (hg : GOk B g)
    (hbind : ∀ (s : Shared) (vs : List Value), VRs s.heap args vs → ∃ bs, BR s.heap pb bs ∧ bindArgs fd ⟨vs, []⟩ = pure bs)
    (hpar : ∀ x ∈ pb.map (·.1), fd.scope.names.lookup x = some .local ∨ fd.scope.names.lookup x = some .cell)
    (hm : loc0 g pb fd.scope.names = m₀) (hn : n < 60)
    (h : ∀ env : Env, env.scope = fd.scope → EXS B (n + 1) env body m₀ D (fun _ D' => Q .none D') (KR Q)) : CLC B n (.raw (.ref a)) args D Q := fun s f vs l ra rvs A hA => by
  (first | obtain rfl := ra.inv | obtain ⟨_, rfl⟩ := ra.inv)
  obtain ⟨bs, hb, he⟩ := hbind s vs rvs
  have kin : B.K.In s.heap := l.ok.k.keeps l.base
  refine codeAny_call_cells hA.deep (kin a o hK) hd (l.ok.lim.keeps l.base) (by rw [hcd]; exact (l.ok.codes _ hC).keeps l.base) ok.body he ok.clo (fun x hx => ?_) (fun s₁ x => ?_) ok.co ok.gen ok.kind
  · rcases hpar x.1 (hb.names ▸ List.mem_map_of_mem (f := (·.1)) hx) with h | h
    · exact .inl h
    · refine .inr ⟨h, ?_⟩
      obtain ⟨c, hc⟩ := lookup_some_of_mem (cellsFrom_mem fd.scope.names (s.heap.objs.size + 1) [] x.1 (.inl (mem_of_lookup h)))
      rw [hc]; rfl
  · obtain ⟨he, ownNew⟩ := H.enter hg ok l hb x
    rw [hm] at he
    have hA' : AOk (n + 1) (A.deeper (callEnvC fd s.heap.objs.size a)) := ⟨hA.h, by have := hA.d; show A.depth + 1 ≤ _; lia, by have := hA.u; show A.units + 3 ≤ _; lia, hn⟩
    refine wpAny_mono (h _ rfl s₁ he _ hA') (fun fl s' z31 => ?_) fun _ _ e => e.elim
    obtain ⟨m', D', kf, h', t'⟩ := z31
    have t := leave_def x.toInCall.keep ownNew t'
    cases fl with
    | next => exact ⟨D', ⟨_, kf, .none⟩, h'.lh, t⟩
    | ret v => exact ⟨D', kf, h'.lh, t⟩
    | brk => exact kf.elim
    | cont => exact kf.elim
theorem clc_dflt {a : Addr} {o : Obj} {fd : FuncData} {body : List Stmt} {args : List V} {g : GT} {pb : List (Str × V)} {m₀ : Loc} {c : Addr}
    (hK : B.K.lookup a = some o) (hd : o.data = .func fd) (ok : FdOk fd body) (hcd : fd.code = .ref c) (hC : (c, fd.qualname) ∈ B.C) (hg : GOk B g)
    (hbind : ∀ (s : Shared) (vs : List Value), B.K.In s.heap → VRs s.heap args vs → ∃ bs, BR s.heap pb bs ∧ BindsTo s fd ⟨vs, []⟩ bs)
    (hcell : ∀ x ∈ fd.scope.names, x.2 ≠ .cell)
    (hpar : ∀ x ∈ pb.map (·.1), fd.scope.names.lookup x = some .local) (hnd : (pb.map (·.1)).Nodup)
    (hm : loc0 g pb fd.scope.names = m₀) (hn : n < 60)
    (h : ∀ env : Env, env.scope = fd.scope → EXS B (n + 1) env body m₀ D (fun _ D' => Q .none D') (KR Q)) : CLC B n (.raw (.ref a)) args D Q := fun s f vs l ra rvs A hA => by
  (first | obtain rfl := ra.inv | obtain ⟨_, rfl⟩ := ra.inv)
  have kin : B.K.In s.heap := l.ok.k.keeps l.base
  obtain ⟨bs, hb, he⟩ := hbind s vs kin rvs
  refine codeAny_call_def hA.deep (kin a o hK) hd (l.ok.lim.keeps l.base) (by rw [hcd]; exact (l.ok.codes _ hC).keeps l.base) ok.body he hcell (fun x hx => hpar x.1 (hb.names ▸ List.mem_map_of_mem (f := (·.1)) hx)) (fun h₁ hns hk => ?_) ok.co ok.gen ok.kind
  have nocells : cellsFrom (s.heap.objs.size + 1) fd.scope.names [] = [] := by
    have : ∀ (l : List (Str × NameKind)) (k : Nat), (∀ x ∈ l, x.2 ≠ .cell) → cellsFrom k l [] = [] := by
      intro l
      induction l with
      | nil => intros; rfl
      | cons p r ih =>
        intro k hc
        obtain ⟨y, kd⟩ := p
        unfold cellsFrom
        have : (kd == NameKind.cell) = false := by simpa using hc _ (.head _)
        rw [this]; simp only [Bool.false_eq_true, if_false]
        exact ih k fun x hx => hc x (.tail _ hx)
    exact this _ _ hcell
  have henv : callEnv fd s.heap.objs.size a = callEnvC fd s.heap.objs.size a := by
    unfold callEnv callEnvC
    rw [nocells, ← ok.clo]
  have hbl : (bindL (callEnvC fd s.heap.objs.size a).kindOf bs fun _ => none) = fun x => bs.reverse.lookup x := by
    have gen : ∀ (bs : List (Str × Value)) (f : Str → Option Value), (∀ x ∈ bs, (callEnvC fd s.heap.objs.size a).kindOf x.1 = some .local) → bindL (callEnvC fd s.heap.objs.size a).kindOf bs f = fun x => (bs.reverse.lookup x).or (f x) := by
      intro bs
      induction bs with
      | nil => intros; funext x; rfl
      | cons p r ih =>
        intro f hl
        obtain ⟨y, v⟩ := p
        unfold bindL
        rw [if_pos (hl _ (.head _)), ih _ fun x hx => hl x (.tail _ hx)]
        funext x
        rw [List.reverse_cons, List.lookup_append, List.lookup_cons]
        by_cases e : x = y
        · subst e; simp
        · have : (x == y) = false := beq_eq_false_iff_ne.mpr e
          simp [e, this]
    rw [gen bs _ fun x hx => hpar x.1 (hb.names ▸ List.mem_map_of_mem (f := (·.1)) hx)]
    funext x; simp
  have X : InCallC s (callEnvC fd s.heap.objs.size a).locals (bindL (callEnvC fd s.heap.objs.size a).kindOf bs fun _ => none) (callEnvC fd s.heap.objs.size a).cells (bindC (callEnvC fd s.heap.objs.size a).kindOf bs fun _ => none) { s with heap := h₁, toks := s.toks + bs.length } := by
    rw [hbl]
    have hc : (callEnvC fd s.heap.objs.size a).cells = [] := nocells
    rw [hc]
    exact ⟨⟨⟨_, _, rfl⟩, hns, hk, Nat.le_refl _⟩, fun _ _ h => (by simp at h), .nil, fun _ _ h => nomatch h⟩
  obtain ⟨he, ownNew⟩ := H.enter hg ok l hb X
  rw [hm] at he
  have hA' : AOk (n + 1) (A.deeper (callEnvC fd s.heap.objs.size a)) := ⟨hA.h, by have := hA.d; show A.depth + 1 ≤ _; lia, by have := hA.u; show A.units + 3 ≤ _; lia, hn⟩
  rw [henv]
  refine wpAny_mono (h _ rfl _ he _ hA') (fun fl s' z32 => ?_) fun _ _ e => e.elim
  obtain ⟨m', D', kf, h', t'⟩ := z32
  have t := leave_def (s₁ := { s with heap := h₁, toks := s.toks + bs.length }) hk ownNew t'
  cases fl with
  | next => exact ⟨D', ⟨_, kf, .none⟩, h'.lh, t⟩
  | ret v => exact ⟨D', kf, h'.lh, t⟩
  | brk => exact kf.elim
  | cont => exact kf.elim
end
end Mine
end
section
open PySem PySem.W PyProof.Rows PySem.Calls
namespace Mine
def rngItems (a b c : Int) : List V := (List.range (Builtin.Range.rangeSize a b c).toNat).map fun (i : Nat) => V.int (a + (i : Int) * c)
inductive Src (D : Led) : V → List V → Prop
  | list {r : Addr} {xs : List V} : (r, O.list xs) ∈ D → Src D (.ref r) xs
  | rng {a b c : Int} : Builtin.Range.small a b c = true → Src D (.rng a b c) (rngItems a b c)
  | str {x : Str} : x.cps.all (· < 128) = true → Src D (.str x) (x.cps.toList.map fun c => V.str ⟨#[c]⟩)
  | byt {b : List UInt8} : Src D (.byt b) (b.map fun c => V.int c.toNat)
/-- the iterator I stands at the place i of x -/
inductive ItAt (h : Heap) (I : Addr) : V → Nat → Prop
  | list {r : Addr} {i : Nat} : h.IsListIter I r i → ItAt h I (.ref r) i
  | rng {a b c : Int} {i : Nat} : IsRangeIter h I (a + i * c) ((Builtin.Range.rangeSize a b c) - i) c → ItAt h I (.rng a b c) i
  | str {x : Str} {t : Tok} {i : Nat} : h.IsStrIter I "str_ascii_iterator" x t i → ItAt h I (.str x) i
  | byt {b : List UInt8} {t : Tok} {i : Nat} : KBw.IsBytesIter h I b.toArray t i → ItAt h I (.byt b) i
theorem ItAt.keep {h h' : Heap} {I : Addr} {x : V} {i : Nat} (y : ItAt h I x i) (k : ∀ o, h.get? I = some o → h'.get? I = some o) : ItAt h' I x i := by
  cases y with
  | list z => exact .list (let ⟨o, e, r⟩ := z; ⟨o, k o e, r⟩)
  | rng z => exact .rng (k _ z)
  | str z => exact .str (let ⟨o, e, r⟩ := z; ⟨o, k o e, r⟩)
  | byt z => exact .byt (let ⟨o, e, r⟩ := z; ⟨o, k o e, r⟩)
def iterIds : List String := ["list_iterator", "range_iterator", "str_ascii_iterator", "bytes_iterator"]
theorem ItAt.cls {h : Heap} {I : Addr} {x : V} {i : Nat} (y : ItAt h I x i) : ∃ o T, h.get? I = some o ∧ T ∈ iterIds ∧ o.cls = .type T := by
  cases y with
  | list z => obtain ⟨o, e, c, _⟩ := z; exact ⟨o, _, e, by simp [iterIds], c⟩
  | rng z => exact ⟨_, _, z, by simp [iterIds], rfl⟩
  | str z => obtain ⟨o, e, c, _⟩ := z; exact ⟨o, _, e, by simp [iterIds], c⟩
  | byt z => obtain ⟨o, e, c, _⟩ := z; exact ⟨o, _, e, by simp [iterIds], c⟩
theorem ItAt.notImm {h : Heap} {I : Addr} {x : V} {i : Nat} (y : ItAt h I x i) : ∀ o, h.get? I = some o → ¬ Imm o := fun o e hi => by
  obtain ⟨o', T, e', hT, hc⟩ := y.cls
  rw [e] at e'; cases e'
  simp only [iterIds, List.mem_cons, List.not_mem_nil, or_false] at hT
  rcases hi with ⟨c, _⟩ | ⟨c, _⟩ | ⟨c, _⟩ <;> rw [hc] at c <;> cases c <;> simp at hT
section
variable {B : Base} {n : Nat} {env : Env} {D : Led} {A : Around} {s : Shared} {x : V} {v : Value} {items : List V}
theorem iter_start (hA : AOk n A) (l : LH B D s) (rv : VR s.heap x v) (hs : Src D x items) {Q : Value → Shared → Prop}
    (h : ∀ h', (∀ b o, s.heap.get? b = some o → h'.get? b = some o) → ItAt h' s.heap.objs.size x 0 → Q (.ref s.heap.objs.size) { s with heap := h' }) : wpAny (model B.prog B.w) A (pyIter v) Q NoE s := by
  cases hs with
  | list hm =>
    obtain ⟨vs, c, e, hl, q, hz⟩ := l.list hm
    (first | obtain rfl := rv.inv | obtain ⟨_, rfl⟩ := rv.inv)
    exact wpAny_pyIter_list hl (h _ (fun b o e => Heap.get?_push_of_some _ e) (.list ⟨_, Heap.get?_push_size _ rfl, rfl, rfl⟩))
  | rng hsm =>
    obtain ⟨_, _, _, _, rfl, hr⟩ := rv.inv
    refine wpAny_pyIter_range hr hsm (h _ (fun b o e => Heap.get?_push_of_some _ e) (.rng ?_))
    simp only [Int.natCast_zero, Int.zero_mul, Int.add_zero, Int.sub_zero]
    exact Heap.get?_push_size _ rfl
  | str ha =>
    obtain ⟨t, rfl⟩ := rv.inv
    exact wpAny_pyIter_ascii ha (h _ (fun b o e => Heap.get?_push_of_some _ e) (.str ⟨_, Heap.get?_push_size _ rfl, rfl, rfl⟩))
  | byt =>
    obtain ⟨t, rfl⟩ := rv.inv
    exact KBw.pyIter_bytes (h _ (fun b o e => Heap.get?_push_of_some _ e) (.byt ⟨_, Heap.get?_push_size _ rfl, rfl, rfl⟩))
theorem iter_self {I : Addr} {i : Nat} (y : ItAt s.heap I x i) {Q : Value → Shared → Prop} (h : Q (.ref I) s) : wpAny (model B.prog B.w) A (pyIter (.ref I)) Q NoE s := by
  cases y with
  | list z => exact wpAny_pyIter_listiter z h
  | rng z => exact wpAny_pyIter_rangeiter z h
  | str z => exact wpAny_pyIter_striter_ascii z h
  | byt z => exact KBw.pyIter_self z h
theorem rngItems_get {a b c : Int} {i : Nat} {y : V} (e : (rngItems a b c)[i]? = some y) : y = .int (a + i * c) ∧ (i : Int) < Builtin.Range.rangeSize a b c := by
  unfold rngItems at e
  have hl : i < (Builtin.Range.rangeSize a b c).toNat := by simpa using lt_of_get e
  simp [hl] at e
  exact ⟨e.symm, by lia⟩
theorem rngItems_end {a b c : Int} {i : Nat} (e : (rngItems a b c)[i]? = none) : Builtin.Range.rangeSize a b c - i ≤ 0 := by
  have : (rngItems a b c).length ≤ i := by simpa using e
  simp [rngItems] at this; lia
theorem iter_item (hA : AOk n A) (l : LH B D s) {I : Addr} {i : Nat} (y : ItAt s.heap I x i) (hs : Src D x items) {e : V} (hi : items[i]? = some e) {Q : Option Value → Shared → Prop}
    (h : ∀ h' v k, Heap.SameBut I s.heap h' → ItAt h' I x (i + 1) → (TupKeep s.heap h' → VR h' e v) → Q (some v) { s with heap := h', toks := k }) : wpAny (model B.prog B.w) A (pyNext (.ref I)) Q NoE s := by
  cases hs with
  | list hm =>
    cases y with | list z =>
    obtain ⟨vs, c, e, hl, q, hz⟩ := l.list hm
    obtain ⟨v, hv, rv⟩ := q.at hi
    exact wpAny_pyNext_list_item z hl hv fun h' z' sb => h h' v s.toks sb (.list z') fun k => rv.mono k
  | rng hsm =>
    cases y with | rng z =>
    obtain ⟨rfl, hlt⟩ := rngItems_get hi
    refine wpAny_pyNext_range_item z (by lia) fun h' z' sb => h h' _ _ sb (.rng ?_) fun k => .int ..
    have e1 : ∀ a c : Int, a + ((i + 1 : Nat) : Int) * c = a + i * c + c := fun a c => by rw [Int.natCast_add, Int.add_mul]; lia
    rw [e1, show ∀ z : Int, z - ((i + 1 : Nat) : Int) = z - i - 1 from fun z => by lia]
    exact z'
  | str ha =>
    cases y with | str z =>
    simp only [List.getElem?_map, Option.map_eq_some_iff, Array.getElem?_toList] at hi
    obtain ⟨c, hc, rfl⟩ := hi
    exact wpAny_pyNext_ascii_item z hc fun h' z' sb => h h' _ _ sb (.str z') fun k => .str ..
  | byt =>
    cases y with | byt z =>
    simp only [List.getElem?_map, Option.map_eq_some_iff] at hi
    obtain ⟨c, hc, rfl⟩ := hi
    exact KBw.next_item z (by simpa using hc) fun h' z' sb => h h' _ _ sb (.byt z') fun k => .int ..
theorem iter_done (hA : AOk n A) (l : LH B D s) {I : Addr} {i : Nat} (y : ItAt s.heap I x i) (hs : Src D x items) (hi : items[i]? = none) {Q : Option Value → Shared → Prop}
    (h : ∀ h', Heap.ExtBut I s.heap h' → Q none { s with heap := h' }) : wpAny (model B.prog B.w) A (pyNext (.ref I)) Q NoE s := by
  cases hs with
  | list hm =>
    cases y with | list z =>
    obtain ⟨vs, c, e, hl, q, hz⟩ := l.list hm
    exact wpAny_pyNext_list_end hA.h z hl (by simp at hi; simp [hz, hi]) h
  | rng hsm =>
    cases y with | rng z => exact wpAny_pyNext_range_end hA.h z (rngItems_end hi) h
  | str ha =>
    cases y with | str z => exact wpAny_pyNext_ascii_end hA.h z (by simpa using hi) h
  | byt =>
    cases y with | byt z => exact KBw.next_end hA.h z (by simpa using hi) h
/-- the names that a loop keeps -/
theorem H.side {m : Loc} {s' : Shared} (hs : H B env m D s) {I : Addr} (h1 : I ∉ foot D) (h2 : I ∉ own env) (h3 : B.h₀.get? I = none) (h4 : ∀ o, s.heap.get? I = some o → ¬ Imm o)
    (k : ∀ b o, b ≠ I → s.heap.get? b = some o → s'.heap.get? b = some o) (g : s'.gens = s.gens) (os : s'.os = s.os) : H B env m D s' ∧ TupKeep s.heap s'.heap := by
  obtain ⟨lh, kt⟩ := hs.lh.side (s' := s') [I] (fun a ha => by rw [List.mem_singleton.mp ha]; exact ⟨h1, h3, h4⟩) (fun b o hb e => k b o (fun q => hb (by simp [q])) e) g os
  have ne : ∀ a ∈ own env, a ≠ I := fun a ha q => h2 (q ▸ ha)
  refine ⟨⟨lh, hs.kind, hs.genv, hs.names, hs.dbg, ?_, fun c hc => ?_, hs.own_nodup, hs.own_disj, hs.own_new⟩, kt⟩
  · obtain ⟨mr, hn, hsl⟩ := hs.ns
    exact ⟨mr, hn.at' fun o e => k _ o (ne _ (.head _)) e, fun p hp => (hsl p hp).step kt fun c u hc z33 => by obtain ⟨o, ho, hd⟩ := z33; exact ⟨o, k c o (ne c (.tail _ hc)) ho, hd⟩⟩
  · obtain ⟨u, o, ho, hd⟩ := hs.cells c hc
    exact ⟨u, o, k c o (ne c (.tail _ hc)) ho, hd⟩
theorem letGo_ok {target : Expr} {I : Addr} {i : Nat} (y : ItAt s.heap I x i) {Q : Unit → Shared → Prop} (h : Q () s) : wpAny (model B.prog B.w) A (letOwnedTupleGo target (.ref I) v) Q NoE s := by
  obtain ⟨o, T, e, hT, hc⟩ := y.cls
  have main : wpAny (model B.prog B.w) A (do
      let (.ref r, .ref a) := (Value.ref I, v) | return
      let o ← load r
      match o.cls, o.data with
      | .type n, .fields vs =>
        if ["enumerate", "zip", "dict_itemiterator", "dict_reverseitemiterator", "odict_iterator", "itertools.zip_longest", "itertools.pairwise"].contains n && vs[0]? == some (rawInt a) then
          rule "for.unpacks-the-owned-tuple"
          updateField r 0 .none
      | _, _ => pure ()) Q NoE s := by
    cases v with
    | ref a =>
      refine wpAny_bind (wpAny_load e ?_)
      rw [hc]
      cases o.data with
      | fields vs =>
        have : (["enumerate", "zip", "dict_itemiterator", "dict_reverseitemiterator", "odict_iterator", "itertools.zip_longest", "itertools.pairwise"].contains T) = false := by
          simp only [iterIds, List.mem_cons, List.not_mem_nil, or_false] at hT
          rcases hT with rfl | rfl | rfl | rfl <;> decide
        show wpAny _ A (if (_ && _) = true then _ else _) _ _ _
        rw [this]
        exact wpAny_pure h
      | _ => exact wpAny_pure h
    | _ => exact wpAny_pure h
  cases target <;> first | exact main | exact wpAny_pure h
end
end Mine
end
section
open PySem PySem.W PyProof.Rows PySem.Calls
namespace Mine
section
variable {B : Base} {n : Nat} {env : Env} {m : Loc} {D : Led} {Q : Loc → Led → Prop} {K : KS}
theorem TrF.side {D₁ D' : Led} {s₁ s' s'' : Shared} (t : TrF env D₁ s₁ D' s') {I : Addr} (hf : s₁.heap.get? I = none) (k : ∀ b o, b ≠ I → s'.heap.get? b = some o → s''.heap.get? b = some o) : TrF env D₁ s₁ D' s'' :=
  ⟨fun b o hb ho e => k b o (fun q => by subst q; rw [hf] at e; cases e) (t.keep b o hb ho e), t.grow⟩
theorem notedBy_of_false {M : Model} {A : Around} {e : Value} {s : Shared} {R : Value → Shared → Prop} (h : NoE e s) : notedBy M A env R e s := h.elim
theorem ex_for {target iter : Expr} {body : List Stmt} {pos : Pos}
    (h : EV B n env iter m D fun x D₁ => ∃ items, Src D₁ x items ∧ ∃ Inv : Nat → Loc → Led → Prop, Inv 0 m D₁ ∧
      (∀ i m' D' e, items[i]? = some e → Inv i m' D' → Src D' x items ∧ AS B n env target e m' D' fun m'' D'' => EXS B n env body m'' D'' (Inv (i + 1)) ⟨Q, Inv (i + 1), K.ret⟩) ∧
      (∀ m' D', Inv items.length m' D' → Src D' x items ∧ Q m' D'))
    (hs : ∀ x, foldedSetIterable iter env x = pure x := by intro _; rfl) : EX B n env (.For target iter body [] pos) m D Q K := fun s hs0 A hA => by
  refine wpAny_For (wpAny_mono (h s hs0 A hA) (fun v s₁ z34 => ?_) fun _ _ e => e.elim) hs
  obtain ⟨D₁, ⟨x, ⟨items, src, Inv, h0, turn, fin⟩, rv⟩, l₁, t₁⟩ := z34
  have hs₁ := hs0.step l₁ t₁
  refine iter_start hA l₁ rv src fun h' kh it => ?_
  obtain ⟨l₂, t₂⟩ := l₁.grow (s' := { s₁ with heap := h' }) kh rfl rfl
  have fr : s₁.heap.get? s₁.heap.objs.size = none := fresh_size
  generalize hI : s₁.heap.objs.size = I at it fr
  have frB : B.h₀.get? I = none := l₁.baseNone fr
  have notOwn : I ∉ own env := fun q => by have := hs₁.own_in I q; rw [fr] at this; cases this
  refine codeAny_forLoop_any (fun k s' => ∃ i m' D', i + k = items.length ∧ Inv i m' D' ∧ H B env m' D' s' ∧ TrF env D₁ s₁ D' s' ∧ ItAt s'.heap I x i ∧ I ∉ foot D') (fun k s' z35 => ?_) items.length
    ⟨0, m, D₁, Nat.zero_add _, h0, hs₁.step l₂ t₂, t₂.frame, it, l₁.notFoot fr⟩
  obtain ⟨i, m', D', hik, hInv, hs', ht', it', nf⟩ := z35
  cases hi : items[i]? with
  | none =>
    have hil : i = items.length := by have := List.getElem?_eq_none_iff.mp hi; lia
    subst hil
    obtain ⟨sr, q⟩ := fin m' D' hInv
    refine wpAny_mono (iter_done hA hs'.lh it' sr hi (Q := fun r s₂ => r = none ∧ ∃ h₁, Heap.ExtBut I s'.heap h₁ ∧ s₂ = { s' with heap := h₁ }) fun h₁ eb => ⟨rfl, h₁, eb, rfl⟩) (fun r s₂ z36 => ?_) fun _ _ e => e.elim
    obtain ⟨hr, h₁, eb, hs₂⟩ := z36
    subst hr hs₂
    refine wpAny_execs_nil ?_
    obtain ⟨hs₂, _⟩ := hs'.side (s' := { s' with heap := h₁ }) nf notOwn frB it'.notImm (fun b o hb e => eb b o hb e) rfl rfl
    exact ⟨m', D', q, hs₂, (t₁.frame.trans (ht'.side fr fun b o hb e => eb b o hb e) hs₁)⟩
  | some e =>
    obtain ⟨sr, as⟩ := turn i m' D' e hi hInv
    refine wpAny_mono (iter_item hA hs'.lh it' sr hi (Q := fun r s₂ => ∃ v, r = some v ∧ H B env m' D' s₂ ∧ VR s₂.heap e v ∧ TrF env D₁ s₁ D' s₂ ∧ ItAt s₂.heap I x (i + 1)) fun h₁ v k sb it₁ hv => ?_) (fun r s₂ z37 => ?_) fun _ _ e => e.elim
    · obtain ⟨hs₂, kt⟩ := hs'.side (s' := { s' with heap := h₁, toks := k }) nf notOwn frB it'.notImm (fun b o hb e => (sb.2 b hb).trans e) rfl rfl
      exact ⟨v, rfl, hs₂, hv kt, ht'.side fr fun b o hb e => (sb.2 b hb).trans e, it₁⟩
    · obtain ⟨v, hr, hs₂, rv₂, ht₂, it₂⟩ := z37
      subst hr
      refine wpAny_mono (letGo_ok it₂ (Q := fun _ s₀ => s₀ = s₂) rfl) (fun _ s₀ e₀ => ?_) fun _ _ e => e.elim
      subst e₀
      refine wpAny_mono (as s₀ v hs₂ rv₂ A hA) (fun _ s₃ z38 => ?_) fun _ _ e => e.elim
      obtain ⟨m₃, D₃, ex, hs₃, t₃⟩ := z38
      refine wpAny_mono (ex s₃ hs₃ A hA) (fun fl s₄ z39 => ?_) fun _ _ e => e.elim
      obtain ⟨m₄, D₄, kf, hs₄, t₄⟩ := z39
      have t' := t₃.trans t₄ hs₃
      have it₄ : ItAt s₄.heap I x (i + 1) := it₂.keep fun o ho => t'.keep I o nf notOwn ho
      have nf₄ : I ∉ foot D₄ := fun hm => (t'.grow I hm).elim nf fun en => by obtain ⟨o, T, e, _⟩ := it₂.cls; rw [en] at e; cases e
      have tt := ht₂.trans t' hs₂
      have hlt := lt_of_get hi
      cases fl with
      | next => exact ⟨k - 1, by lia, i + 1, m₄, D₄, by lia, kf, hs₄, tt, it₄, nf₄⟩
      | cont => exact ⟨k - 1, by lia, i + 1, m₄, D₄, by lia, kf, hs₄, tt, it₄, nf₄⟩
      | brk => exact ⟨m₄, D₄, kf, hs₄, t₁.frame.trans tt hs₁⟩
      | ret v => exact ⟨m₄, D₄, kf, hs₄, t₁.frame.trans tt hs₁⟩
/-- two names out of a tuple -/
theorem as_pair {x y : Str} {p q pos : Pos} {k : Nat} {u v : V} {m₁ m₂ : Loc} (h1 : SetL x u m m₁) (h2 : SetL y v m₁ m₂) (h : Q m₂ D) : AS B n env (.Tuple [.Name x p, .Name y q] k pos) (.tup [u, v]) m D Q := fun s r hs rv A hA => by
  obtain ⟨t, items, rfl, ht, vs⟩ := rv.inv
  have hl := vs.length
  obtain ⟨a, ha, ra⟩ := vs.at (i := 0) rfl
  obtain ⟨b, hb, rb⟩ := vs.at (i := 1) rfl
  have hit : items = #[a, b] := by
    have h2 : items.size = 2 := by simpa using hl.symm
    apply Array.ext
    · simp [h2]
    · intro i h1 h3
      rcases i with _ | _ | i
      · simpa using Array.getElem_eq_iff.mpr ha
      · simpa using Array.getElem_eq_iff.mpr hb
      · lia
  subst hit
  refine wpAny_assign_Tuple hA.h ht rfl rfl fun h' eb => ?_
  have keep : ∀ b o, s.heap.get? b = some o → h'.get? b = some o := fun b o e => eb b o (Nat.ne_of_lt (Heap.lt_size e)) e
  obtain ⟨l₁, t₁⟩ := hs.lh.grow (s' := { s with heap := h' }) keep rfl rfl
  have hs₁ := hs.step l₁ t₁
  show wpAny _ A (holding [b] (assign (.Name x p) env a) >>= fun _ => holding [] (assign (.Name y q) env b) >>= fun _ => pure ()) _ _ _
  refine wpAny_bind (wpAny_holding (wpAny_assign_Name (wpAny_mono (store_ok hs₁ h1 (ra.mono (t₁.tup hs.lh))) (fun _ s₂ z40 => ?_) fun _ _ e => e)))
  obtain ⟨hs₂, t₂⟩ := z40
  have rb₂ : VR s₂.heap v b := rb.mono fun c o ho hi => t₂.keep c o (hs.lh.notImm ho hi) (fun hm => hs.notImm c hm o ho hi) (keep c o ho)
  refine wpAny_bind (wpAny_holding (wpAny_assign_Name (wpAny_mono (store_ok hs₂ h2 rb₂) (fun _ s₃ z41 => ?_) fun _ _ e => e)))
  obtain ⟨hs₃, t₃⟩ := z41
  exact wpAny_pure ⟨m₂, D, h, hs₃, (t₁.frame.trans t₂ hs₁).trans t₃ hs₂⟩
end
end Mine
end
section
open PySem PySem.W PyProof.Rows PySem.Calls
namespace Mine
/-- the cells that a comprehension takes along -/
def clOf (env : Env) : List (Str × NameKind) → List (Str × Addr) → List (Str × Addr)
  | [], acc => acc
  | (x, k) :: r, acc => if k == .free then clOf env r ((x, (env.cells.lookup x).getD 0) :: acc) else clOf env r acc
theorem closure_ok {scope : Scope} {env : Env} (h : ∀ p ∈ scope.names, p.2 = .free → ∃ c, env.cells.lookup p.1 = some c) : closureFor scope env = pure (clOf env scope.names []) := by
  unfold closureFor
  have gen : ∀ (names : List (Str × NameKind)) (acc : List (Str × Addr)), (∀ p ∈ names, p.2 = .free → ∃ c, env.cells.lookup p.1 = some c) →
      (forIn names acc fun x r => match x with | (name, kind) => if kind == .free then do let c ← cellOf env name; pure (ForInStep.yield ((name, c) :: r)) else pure (ForInStep.yield r) : Sem _) = pure (clOf env names acc) := by
    intro names
    induction names with
    | nil => intros; rfl
    | cons p r ih =>
      intro acc hp
      obtain ⟨x, k⟩ := p
      rw [List.forIn_cons]
      unfold clOf
      by_cases hk : k == NameKind.free
      · obtain ⟨c, hc⟩ := hp _ (.head _) (eq_of_beq hk)
        have hco : cellOf env x = pure c := by unfold cellOf; rw [show env.cells.lookup x = some c from hc]
        have e := ih ((x, c) :: acc) fun q hq => hp q (.tail _ hq)
        dsimp only at e ⊢
        rw [if_pos hk, if_pos hk, hco, show env.cells.lookup x = some c from hc]
        exact e
      · have e := ih acc fun q hq => hp q (.tail _ hq)
        dsimp only at e ⊢
        rw [if_neg hk, if_neg hk]
        exact e
  have := gen scope.names [] h
  simpa using this
theorem clOf_mem {env : Env} : ∀ (names : List (Str × NameKind)) (acc : List (Str × Addr)), ∀ p ∈ clOf env names acc, p ∈ acc ∨ ((p.1, NameKind.free) ∈ names ∧ p.2 = (env.cells.lookup p.1).getD 0)
  | [], acc, p, hp => .inl hp
  | (x, k) :: r, acc, p, hp => by
    unfold clOf at hp
    split at hp
    · rename_i hk
      rcases clOf_mem r _ p hp with h | ⟨h, e⟩
      · rcases List.mem_cons.mp h with rfl | h
        · exact .inr ⟨by rw [eq_of_beq hk]; exact .head _, rfl⟩
        · exact .inl h
      · exact .inr ⟨.tail _ h, e⟩
    · rcases clOf_mem r _ p hp with h | ⟨h, e⟩
      · exact .inl h
      · exact .inr ⟨.tail _ h, e⟩
theorem clOf_has {env : Env} : ∀ (names : List (Str × NameKind)) (acc : List (Str × Addr)) (x : Str), ((x, NameKind.free) ∈ names ∨ x ∈ acc.map (·.1)) → x ∈ (clOf env names acc).map (·.1)
  | [], acc, x, h => h.elim (fun h => nomatch h) id
  | (y, k) :: r, acc, x, h => by
    unfold clOf
    split
    · refine clOf_has r _ x ?_
      rcases h with h | h
      · rcases List.mem_cons.mp h with e | h
        · cases e; exact .inr (.head _)
        · exact .inl h
      · exact .inr (.tail _ h)
    · rename_i hk
      refine clOf_has r _ x ?_
      rcases h with h | h
      · rcases List.mem_cons.mp h with e | h
        · cases e; exact absurd rfl hk
        · exact .inl h
      · exact .inr h
theorem clOf_nodup {env : Env} : ∀ (names : List (Str × NameKind)) (acc : List (Str × Addr)), (names.map (·.1)).Nodup → (acc.map (·.1)).Nodup → (∀ x ∈ acc.map (·.1), x ∉ names.map (·.1)) → ((clOf env names acc).map (·.1)).Nodup
  | [], acc, _, h, _ => h
  | (y, k) :: r, acc, hn, ha, hd => by
    simp only [List.map_cons, List.nodup_cons] at hn
    unfold clOf
    split
    · refine clOf_nodup r _ hn.2 ?_ ?_
      · simp only [List.map_cons, List.nodup_cons]
        exact ⟨fun h => hd y h (.head _), ha⟩
      · intro x hx
        rcases List.mem_cons.mp (show x ∈ y :: acc.map (·.1) from hx) with rfl | hx
        · exact hn.1
        · exact fun h => hd x hx (.tail _ h)
    · exact clOf_nodup r _ hn.2 ha fun x hx h => hd x hx (.tail _ h)
/-- the comprehension's table -/
def locC (g : GT) (m : Loc) : List (Str × NameKind) → Loc
  | [] => []
  | (x, .globalImplicit) :: r => match g.lookup x with
    | some v => (x, .g v) :: locC g m r
    | none => locC g m r
  | (x, .free) :: r => match m.lookup x with
    | some (.v v) => (x, .v v) :: locC g m r
    | _ => locC g m r
  | (x, _) :: r => (x, .v .unb) :: locC g m r
def namesOkC (en : List (Str × NameKind)) (m : Loc) (names : List (Str × NameKind)) : Bool :=
  decide (names.map (·.1)).Nodup && names.all fun p => (!(p.1 == ("__debug__" : Str)) && !(p.1 == ("__classdict__" : Str))) && (p.2 == .local || p.2 == .globalImplicit || (p.2 == .free && en.lookup p.1 == some .cell && (match m.lookup p.1 with | some (.v _) => true | _ => false)))
theorem locC_mem {g : GT} {m : Loc} : ∀ {names : List (Str × NameKind)}, ∀ p ∈ locC g m names, ∃ k, (p.1, k) ∈ names ∧ ((k = .globalImplicit ∧ ∃ v, g.lookup p.1 = some v ∧ p.2 = .g v) ∨ (k = .free ∧ ∃ v, m.lookup p.1 = some (.v v) ∧ p.2 = .v v) ∨ (k ≠ .globalImplicit ∧ k ≠ .free ∧ p.2 = .v .unb))
  | [], p, hp => by cases hp
  | (x, k) :: r, p, hp => by
    have ih := fun q hq => locC_mem (g := g) (m := m) (names := r) q hq
    cases k
    case globalImplicit =>
      simp only [locC] at hp
      split at hp
      · rename_i v hv
        rcases List.mem_cons.mp hp with rfl | hp
        · exact ⟨_, .head _, .inl ⟨rfl, v, hv, rfl⟩⟩
        · obtain ⟨k', a, b⟩ := ih p hp; exact ⟨k', .tail _ a, b⟩
      · obtain ⟨k', a, b⟩ := ih p hp; exact ⟨k', .tail _ a, b⟩
    case free =>
      simp only [locC] at hp
      split at hp
      · rename_i v hv
        rcases List.mem_cons.mp hp with rfl | hp
        · exact ⟨_, .head _, .inr (.inl ⟨rfl, v, hv, rfl⟩)⟩
        · obtain ⟨k', a, b⟩ := ih p hp; exact ⟨k', .tail _ a, b⟩
      · obtain ⟨k', a, b⟩ := ih p hp; exact ⟨k', .tail _ a, b⟩
    all_goals
      simp only [locC] at hp
      rcases List.mem_cons.mp hp with rfl | hp
      · exact ⟨_, .head _, .inr (.inr ⟨(by simp), (by simp), rfl⟩)⟩
      · obtain ⟨k', a, b⟩ := ih p hp; exact ⟨k', .tail _ a, b⟩
theorem locC_sub (g : GT) (m : Loc) : ∀ names : List (Str × NameKind), ((locC g m names).map (·.1)).Sublist (names.map (·.1))
  | [] => .slnil
  | (x, k) :: r => by
    have ih := locC_sub g m r
    cases k <;> simp only [locC, List.map_cons]
    case globalImplicit =>
      split
      · exact .cons_cons _ ih
      · exact .cons _ ih
    case free =>
      split
      · exact .cons_cons _ ih
      · exact .cons _ ih
    all_goals exact .cons_cons _ ih
section
variable {B : Base} {n : Nat} {env : Env} {m : Loc} {D : Led}
theorem relabel_lookup {scope : Scope} (hn : (scope.names.map (·.1)).Nodup) {x : Str} {k : NameKind} (h : (x, k) ∈ scope.names) :
    (relabel scope env).names.lookup x = some (if (k == .free && env.scope.kind == .function && env.kindOf x == some .cell) = true then .cell else k) := by
  refine lookup_nodup (l := (relabel scope env).names) ?_ ?_
  · have : (relabel scope env).names.map (·.1) = scope.names.map (·.1) := by
      simp only [relabel, List.map_map]
      apply List.map_congr_left
      rintro ⟨y, k⟩ _
      simp only [Function.comp]
      split <;> rfl
    rw [this]; exact hn
  · simp only [relabel]
    refine List.mem_map.mpr ⟨(x, k), h, ?_⟩
    dsimp only
    split <;> rfl
/-- the frame of a comprehension -/
theorem H.comp {s s' : Shared} {scope : Scope} {g : GT} (hg : GOk B g) (hs : H B env m D s) (hok : namesOkC env.scope.names m scope.names = true) (hk : scope.kind = .function) {C : Addr}
    (hC : s.heap.get? C = none) (hns : s'.heap.Ns C fun _ => none) (keep : ∀ b o, s.heap.get? b = some o → s'.heap.get? b = some o) (hgn : s'.gens = s.gens) (hos : s'.os = s.os) :
    H B (compEnvC scope (clOf env scope.names []) C env) (locC g m scope.names) D s' := by
  simp only [namesOkC, Bool.and_eq_true, decide_eq_true_eq, List.all_eq_true, Bool.not_eq_true', Bool.or_eq_true, beq_iff_eq] at hok
  obtain ⟨hnd, hall⟩ := hok
  obtain ⟨lh, tr⟩ := hs.lh.grow keep hgn hos
  obtain ⟨mr, hn, hsl⟩ := hs.ns
  have free : ∀ x, (x, NameKind.free) ∈ scope.names → env.kindOf x = some .cell ∧ ∃ v, m.lookup x = some (.v v) := fun x hx => by
    have h := (hall _ hx).2
    rcases h with (h | h) | ⟨⟨_, h1⟩, h2⟩
    · cases h
    · cases h
    · refine ⟨h1, ?_⟩
      dsimp only at h2
      split at h2
      · rename_i v hv; exact ⟨v, hv⟩
      · cases h2
  have cell : ∀ x, (x, NameKind.free) ∈ scope.names → ∃ c u v, m.lookup x = some (.v v) ∧ env.cells.lookup x = some c ∧ s.heap.IsCell c u ∧ (v ≠ .unb → ∃ r, u = some r ∧ VR s.heap v r) := fun x hx => by
    obtain ⟨h1, v, h2⟩ := free x hx
    cases hsl _ (mem_of_lookup h2) with
    | loc hk' => rw [h1] at hk'; cases hk'
    | cell kd c u hk' hkk hc hcl hx' hv => exact ⟨c, u, v, h2, hc, hcl, hv⟩
  have clm : ∀ p ∈ clOf env scope.names [], (p.1, NameKind.free) ∈ scope.names ∧ env.cells.lookup p.1 = some p.2 := fun p hp => by
    rcases clOf_mem _ _ p hp with h | ⟨h, e⟩
    · cases h
    · obtain ⟨c, u, v, _, hc, _⟩ := cell _ h
      rw [hc] at e; exact ⟨h, by rw [hc, e]; rfl⟩
  have hcn : ((clOf env scope.names []).map (·.1)).Nodup := clOf_nodup _ _ hnd List.nodup_nil fun _ h => nomatch h
  have cown : ∀ c ∈ (clOf env scope.names []).map (·.2), c ∈ env.cells.map (·.2) := fun c hc => by
    obtain ⟨p, hp, rfl⟩ := List.mem_map.mp hc
    exact mem_cells (clm p hp).2
  refine ⟨lh, hk, hs.genv, hnd.sublist (locC_sub ..), fun p hp => ?_, ⟨_, hns, fun p hp => ?_⟩, fun c hc => ?_, ?_, fun a ha hm => ?_, fun a ha => ?_⟩
  · obtain ⟨k, hk, _⟩ := locC_mem p hp
    exact (hall _ hk).1.1
  · obtain ⟨k, hk2, hc⟩ := locC_mem p hp
    obtain ⟨px, pe⟩ := p
    dsimp only at hk2 hc ⊢
    have hko := relabel_lookup (env := env) hnd hk2
    rcases hc with ⟨rfl, v, hv, rfl⟩ | ⟨rfl, v, hv, rfl⟩ | ⟨h1, h2, rfl⟩
    · obtain ⟨_, r, hr, vr⟩ := hg _ _ hv
      exact .glob r hko hr vr
    · obtain ⟨c, u, v', h2, hc, hcl, hval⟩ := cell px hk2
      rw [hv] at h2; cases h2
      rw [if_pos (by rw [(free px hk2).1, hs.kind]; rfl)] at hko
      obtain ⟨c', hc'⟩ := lookup_some_of_mem (clOf_has (env := env) scope.names [] px (.inl hk2))
      have : c' = c := by
        have := (clm _ (mem_of_lookup hc')).2
        dsimp only at this
        rw [hc] at this; exact (Option.some.inj this).symm
      subst this
      exact .cell .cell c' u hko (.inl rfl) hc' (hcl.keeps keep) (hall _ hk2).1.2 fun hu => let ⟨r, a, b⟩ := hval hu; ⟨r, a, b.mono (tr.tup hs.lh)⟩
    · have hkl : k = .local := by
        rcases (hall _ hk2).2 with (h | h) | ⟨⟨h, _⟩, _⟩
        · exact h
        · exact absurd h h1
        · exact absurd h h2
      subst hkl
      exact .loc hko fun h => absurd rfl h
  · obtain ⟨u, hcl⟩ := hs.cells c (cown c hc)
    exact ⟨u, hcl.keeps keep⟩
  · refine List.nodup_cons.mpr ⟨fun h => ?_, ?_⟩
    · obtain ⟨u, o, ho, _⟩ := hs.cells C (cown C h)
      rw [hC] at ho; cases ho
    · refine List.pairwise_map.mpr ?_
      have hp := List.pairwise_map.mp hcn
      refine hp.imp_of_mem fun {a b} ha hb hne => ?_
      exact lookup_ne (List.nodup_cons.mp hs.own_nodup).2 (clm a ha).2 (clm b hb).2 hne
  · rcases List.mem_cons.mp ha with rfl | ha
    · exact hs.lh.notFoot hC hm
    · exact hs.own_disj a (.tail _ (cown a ha)) hm
  · rcases List.mem_cons.mp ha with rfl | ha
    · exact hs.lh.baseNone hC
    · exact hs.own_new a (.tail _ (cown a ha))
end
end Mine
end
section
open PySem PySem.W PyProof.Rows PySem.Calls
namespace Mine
section
variable {B : Base} {n : Nat} {env : Env} {m : Loc} {D : Led}
theorem store_loc {x : Str} {v : V} {m' : Loc} {r : Value} {s : Shared} {A : Around} (hs : H B env m D s) (hset : SetL x v m m') (hr : VR s.heap v r) (hk : env.kindOf x = some .local) :
    wpAny (model B.prog B.w) A (storeName env x r) (fun _ s' => H B env m' D s' ∧ ∀ b o, b ≠ env.locals → s.heap.get? b = some o → s'.heap.get? b = some o) NoE s := by
  obtain ⟨u, hu⟩ := hset.old
  obtain ⟨mr, hn, hsl⟩ := hs.ns
  have hnd := hs.own_nodup
  refine wpAny_storeName_local hk hn (fun h' hn' sb => ?_) (by rw [hs.kind]; rfl)
  obtain ⟨lh, kt⟩ := hs.lh.side (s' := { s with heap := h', toks := s.toks + 1 }) [env.locals] (fun b hb => by rw [List.mem_singleton.mp hb]; exact ⟨hs.own_disj _ (.head _), hs.own_new _ (.head _), hs.notImm _ (.head _)⟩) (fun b o hb e => (sb.2 b (fun q => hb (by rw [q]; exact .head _))).trans e) rfl rfl
  refine ⟨⟨lh, hs.kind, hs.genv, hset.names ▸ hs.names, fun p hp => ?_, ⟨_, hn', fun p hp => ?_⟩, fun c hc => ?_, hnd, hs.own_disj, hs.own_new⟩, fun b o hb e => (sb.2 b hb).trans e⟩
  · rcases hset.mem hs.names p hp with rfl | ⟨hp, _⟩
    · exact (hs.dbg (x, .v u) hu : _)
    · exact hs.dbg p hp
  · rcases hset.mem hs.names p hp with rfl | ⟨hp, hne⟩
    · exact .loc hk fun _ => ⟨r, by simp, hr.mono kt⟩
    · have hslp := hsl p hp
      obtain ⟨px, pe⟩ := p
      cases hslp with
      | loc hk2 hv2 => exact .loc hk2 fun e => let ⟨r2, a, b⟩ := hv2 e; ⟨r2, by simpa [hne] using a, b.mono kt⟩
      | cell kd c w hk2 hkk hc hcl hx hv2 =>
        have hcl' : c ≠ env.locals := fun q => (List.nodup_cons.mp hnd).1 (q ▸ mem_cells hc)
        exact .cell kd c w hk2 hkk hc (hcl.sameBut sb hcl') hx fun e => let ⟨r2, a, b⟩ := hv2 e; ⟨r2, a, b.mono kt⟩
      | glob r2 hk2 hr2 hv2 => exact .glob r2 hk2 hr2 hv2
  · obtain ⟨w, hcl⟩ := hs.cells c hc
    exact ⟨w, hcl.sameBut sb fun q => (List.nodup_cons.mp hnd).1 (q ▸ hc)⟩
/-- a comprehension's target and what it turns -/
inductive TgS (names : List (Str × NameKind)) : Expr → V → Loc → Loc → Prop
  | name {x : Str} {p : Pos} {e : V} {m m' : Loc} : (x, NameKind.local) ∈ names → SetL x e m m' → TgS names (.Name x p) e m m'
  | pair {x y : Str} {p q pos : Pos} {k : Nat} {u v : V} {m m₁ m₂ : Loc} : (x, NameKind.local) ∈ names → (y, NameKind.local) ∈ names → SetL x u m m₁ → SetL y v m₁ m₂ → TgS names (.Tuple [.Name x p, .Name y q] k pos) (.tup [u, v]) m m₂
theorem SetL.rev {x : Str} {v : V} {m m' : Loc} (h : SetL x v m m') : ∀ p ∈ m, p.1 ≠ x → p ∈ m' := by induction h with
  | @here u r =>
    intro p hp hne
    rcases List.mem_cons.mp hp with rfl | hp
    · exact absurd rfl hne
    · exact .tail _ hp
  | @there q r r' _ ih =>
    intro p hp hne
    rcases List.mem_cons.mp hp with rfl | hp
    · exact .head _
    · exact .tail _ (ih p hp hne)
theorem TgS.rev {names : List (Str × NameKind)} {t : Expr} {e : V} {m m' : Loc} (h : TgS names t e m m') : ∀ p ∈ m, (p.1, NameKind.local) ∉ names → p ∈ m' := by
  cases h with
  | name hx h => exact fun p hp hn => h.rev p hp fun e => hn (e ▸ hx)
  | pair hx hy h1 h2 => exact fun p hp hn => h2.rev p (h1.rev p hp fun e => hn (e ▸ hx)) fun e => hn (e ▸ hy)
theorem TgS.names {names : List (Str × NameKind)} {t : Expr} {e : V} {m m' : Loc} (h : TgS names t e m m') : m'.map (·.1) = m.map (·.1) := by
  cases h with
  | name _ h => exact h.names
  | pair _ _ h1 h2 => rw [h2.names, h1.names]
theorem tgs_ok {scope : Scope} {C : Addr} {cl : List (Str × Addr)} (hnd : (scope.names.map (·.1)).Nodup) {t : Expr} {e : V} {m' : Loc} (ht : TgS scope.names t e m m') {s : Shared} {A : Around} (hA : AOk n A) {r : Value}
    (hs : H B (compEnvC scope cl C env) m D s) (hr : VR s.heap e r) :
    wpAny (model B.prog B.w) A (assign t (compEnvC scope cl C env) r) (fun _ s' => H B (compEnvC scope cl C env) m' D s' ∧ ∀ b o, b ≠ C → s.heap.get? b = some o → s'.heap.get? b = some o) NoE s := by
  have kl : ∀ {z : Str}, (z, NameKind.local) ∈ scope.names → (compEnvC scope cl C env).kindOf z = some .local := fun {z} hx => by
    have h := relabel_lookup (env := env) hnd hx
    have h' : (relabel scope env).names.lookup z = some .local := by simpa using h
    exact h'
  cases ht with
  | name hx h => exact wpAny_assign_Name (store_loc hs h hr (kl hx))
  | @pair x y p q pos k u v _ m₁ _ hx hy h1 h2 =>
    cases hr with | @tup _ t items ht vs =>
    have hl := vs.length
    obtain ⟨a, ha, ra⟩ := vs.at (i := 0) rfl
    obtain ⟨b, hb, rb⟩ := vs.at (i := 1) rfl
    have hit : items = #[a, b] := by
      have h2 : items.size = 2 := by simpa using hl.symm
      apply Array.ext
      · simp [h2]
      · intro i h1 h3
        rcases i with _ | _ | i
        · simpa using Array.getElem_eq_iff.mpr ha
        · simpa using Array.getElem_eq_iff.mpr hb
        · lia
    subst hit
    refine wpAny_assign_Tuple hA.h ht rfl rfl fun h' eb => ?_
    have keep : ∀ b o, s.heap.get? b = some o → h'.get? b = some o := fun b o e => eb b o (Nat.ne_of_lt (Heap.lt_size e)) e
    obtain ⟨l₁, t₁⟩ := hs.lh.grow (s' := { s with heap := h' }) keep rfl rfl
    have hs₁ := hs.step l₁ t₁
    show wpAny _ A (holding [b] (assign (.Name x p) _ a) >>= fun _ => holding [] (assign (.Name y q) _ b) >>= fun _ => pure ()) _ _ _
    refine wpAny_bind (wpAny_holding (wpAny_assign_Name (wpAny_mono (store_loc hs₁ h1 (ra.mono (t₁.tup hs.lh)) (kl hx)) (fun _ s₂ z42 => ?_) fun _ _ e => e)))
    obtain ⟨hs₂, t₂⟩ := z42
    have rb₂ : VR s₂.heap v b := rb.mono fun c o ho hi => t₂ c o (fun e => hs.notImm c (e ▸ .head _) o ho hi) (keep c o ho)
    refine wpAny_bind (wpAny_holding (wpAny_assign_Name (wpAny_mono (store_loc hs₂ h2 rb₂ (kl hy)) (fun _ s₃ z43 => ?_) fun _ _ e => e)))
    obtain ⟨hs₃, t₃⟩ := z43
    exact wpAny_pure ⟨hs₃, fun c o hc e => t₃ c o hc (t₂ c o hc (keep c o e))⟩
/-- what a turn set is forgotten -/
theorem H.forget {scope : Scope} {C : Addr} {cl : List (Str × Addr)} (hnd : (scope.names.map (·.1)).Nodup) {t : Expr} {e : V} {g : GT} {m₀ m' : Loc} {D' : Led} {s : Shared} (ht : TgS scope.names t e (locC g m₀ scope.names) m')
    (hs : H B (compEnvC scope cl C env) m' D' s) : H B (compEnvC scope cl C env) (locC g m₀ scope.names) D' s := by
  obtain ⟨mr, hn, hsl⟩ := hs.ns
  refine ⟨hs.lh, hs.kind, hs.genv, ht.names ▸ hs.names, fun p hp => ?_, ⟨mr, hn, fun p hp => ?_⟩, hs.cells, hs.own_nodup, hs.own_disj, hs.own_new⟩
  · obtain ⟨q, hq, e⟩ := List.mem_map.mp (show p.1 ∈ m'.map (·.1) from ht.names ▸ List.mem_map_of_mem (f := (·.1)) hp)
    rw [← e]; exact hs.dbg q hq
  · by_cases hl : (p.1, NameKind.local) ∈ scope.names
    · obtain ⟨k, hk, hc⟩ := locC_mem p hp
      have hkl : k = .local := by
        have a := lookup_nodup hnd hk
        have b := lookup_nodup hnd hl
        rw [a] at b; exact Option.some.inj b
      subst hkl
      obtain ⟨px, pe⟩ := p
      rcases hc with ⟨h, _⟩ | ⟨h, _⟩ | ⟨_, _, h⟩
      · cases h
      · cases h
      · dsimp only at h; subst h
        have h := relabel_lookup (env := env) hnd hl
        have h' : (relabel scope env).names.lookup px = some .local := by simpa using h
        exact .loc h' fun h => absurd rfl h
    · exact hsl p (ht.rev p hp hl)
def CT (B : Base) (n : Nat) (cenv : Env) (ifs : List Expr) (elt : Expr) (m : Loc) (D : Led) (ys : List V) (Q : List V → Led → Prop) : Prop := match ifs with
  | [] => EV B n cenv elt m D fun y D' => Q (ys ++ [y]) D'
  | [c] => ET B n cenv c m D fun b D₂ => if b = true then EV B n cenv elt m D₂ fun y D' => Q (ys ++ [y]) D' else Q ys D₂
  | _ => False
def CompSt (B : Base) (cenv : Env) (mc : Loc) (D₁ : Led) (s₁ : Shared) (x : V) (len : Nat) (Inv : Nat → List V → Led → Prop) (I Acc : Addr) (k : Nat) (s' : Shared) : Prop :=
  ∃ i ys D' arr, i + k = len ∧ Inv i ys D' ∧ ys.length ≤ i ∧ H B cenv mc D' s' ∧ Tr D₁ s₁ D' s' ∧ ItAt s'.heap I x i ∧ I ∉ foot D' ∧ s'.heap.PlainList Acc arr ∧ VRs s'.heap ys arr.toList ∧ Acc ∉ foot D'
theorem Tr.side {D₁ D' : Led} {s₁ s' s'' : Shared} (t : Tr D₁ s₁ D' s') {I : Addr} (hf : s₁.heap.get? I = none) (k : ∀ b o, b ≠ I → s'.heap.get? b = some o → s''.heap.get? b = some o) : Tr D₁ s₁ D' s'' :=
  ⟨fun b o hb e => k b o (fun q => by subst q; rw [hf] at e; cases e) (t.keep b o hb e), t.grow⟩
theorem foot_stays {D' D'' : Led} {s s' : Shared} (t : Tr D' s D'' s') {I : Addr} {o : Obj} (e : s.heap.get? I = some o) (h : I ∉ foot D') : I ∉ foot D'' := fun hm => (t.grow I hm).elim h fun en => by rw [e] at en; cases en
/-- the next item is fetched and bound -/
theorem comp_fetch {scope : Scope} {C I Acc : Addr} {cl : List (Str × Addr)} {g : GT} {D₁ : Led} {s₁ : Shared} {x : V} {items : List V} {Inv : Nat → List V → Led → Prop} {k : Nat} {s' : Shared} {A : Around} (hA : AOk n A)
    (hnd : (scope.names.map (·.1)).Nodup) (fI : s₁.heap.get? I = none) (fA : s₁.heap.get? Acc = none) (fC : s₁.heap.get? C = none) (hIC : I ≠ C) (hAC : Acc ≠ C) (hIA : I ≠ Acc) (hIcl : I ∉ cl.map (·.2)) (bI : B.h₀.get? I = none)
    (st : CompSt B (compEnvC scope cl C env) (locC g m scope.names) D₁ s₁ x items.length Inv I Acc k s')
    (src : ∀ i ys D', Inv i ys D' → i ≤ items.length → Src D' x items)
    {P : Option Value → Shared → Prop} {E : Value → Shared → Prop}
    (h0 : ∀ ys D' arr s₂, Inv items.length ys D' → H B (compEnvC scope cl C env) (locC g m scope.names) D' s₂ → Tr D₁ s₁ D' s₂ → s₂.heap.PlainList Acc arr → VRs s₂.heap ys arr.toList → Acc ∉ foot D' → P none s₂)
    (h1 : ∀ i e ys D' arr s₂ v, items[i]? = some e → i + k = items.length → Inv i ys D' → ys.length ≤ i → H B (compEnvC scope cl C env) (locC g m scope.names) D' s₂ → Tr D₁ s₁ D' s₂ → ItAt s₂.heap I x (i + 1) → I ∉ foot D' → s₂.heap.PlainList Acc arr → VRs s₂.heap ys arr.toList → Acc ∉ foot D' →
      VR s₂.heap e v → P (some v) s₂) : wpAny (model B.prog B.w) A (pyNext (.ref I)) P E s' := by
  obtain ⟨i, ys, D', arr, hik, hInv, hle, hs', ht', it', nf, pl, vr, nA⟩ := st
  have hio : I ∉ own (compEnvC scope cl C env) := fun h => by
    rcases List.mem_cons.mp h with h | h
    · exact hIC h
    · exact hIcl h
  have sr := src i ys D' hInv (by lia)
  cases hi : items[i]? with
  | none =>
    have hil : i = items.length := by have := List.getElem?_eq_none_iff.mp hi; lia
    subst hil
    refine wpAny_mono (iter_done hA hs'.lh it' sr hi (Q := fun r s₂ => r = none ∧ ∃ h₁, Heap.ExtBut I s'.heap h₁ ∧ s₂ = { s' with heap := h₁ }) fun h₁ eb => ⟨rfl, h₁, eb, rfl⟩) (fun r s₂ z44 => ?_) fun _ _ e => e.elim
    obtain ⟨hr, h₁, eb, hs₂⟩ := z44
    subst hr hs₂
    obtain ⟨hs₂, kt⟩ := hs'.side (s' := { s' with heap := h₁ }) nf hio bI it'.notImm (fun b o hb e => eb b o hb e) rfl rfl
    exact h0 ys D' arr _ hInv hs₂ (ht'.side fI fun b o hb e => eb b o hb e) (pl.at fun o e => eb Acc o (Ne.symm hIA) e) (vr.mono kt) nA
  | some e =>
    refine wpAny_mono (iter_item hA hs'.lh it' sr hi (Q := fun r s₂ => ∃ v h₁ k, r = some v ∧ Heap.SameBut I s'.heap h₁ ∧ s₂ = { s' with heap := h₁, toks := k } ∧ ItAt h₁ I x (i + 1) ∧ (TupKeep s'.heap h₁ → VR h₁ e v)) fun h₁ v k sb it₁ hv => ⟨v, h₁, k, rfl, sb, rfl, it₁, hv⟩) (fun r s₂ z45 => ?_) fun _ _ e => e.elim
    obtain ⟨v, h₁, k', hr, sb, hs₂, it₁, hv⟩ := z45
    subst hr hs₂
    obtain ⟨hs₂, kt⟩ := hs'.side (s' := { s' with heap := h₁, toks := k' }) nf hio bI it'.notImm (fun b o hb e => (sb.2 b hb).trans e) rfl rfl
    exact h1 i e ys D' arr _ v hi hik hInv hle hs₂ (ht'.side fI fun b o hb e => (sb.2 b hb).trans e) it₁ nf (pl.at fun o e => (sb.2 Acc (Ne.symm hIA)).trans e) (vr.mono kt) nA (hv kt)
end
end Mine
end
section
open PySem PySem.W PyProof.Rows PySem.Calls
namespace Mine
section
variable {B : Base} {n : Nat} {env : Env} {m : Loc} {D : Led} {Q : V → Led → Prop}
theorem LH.adopt {D' : Led} {s : Shared} (l : LH B D' s) {a : Addr} {xs : List V} {arr : Array Value} (pl : s.heap.PlainList a arr) (vr : VRs s.heap xs arr.toList) (h1 : a ∉ foot D') (h2 : B.h₀.get? a = none) : LH B ((a, .list xs) :: D') s := by
  obtain ⟨c, e⟩ := pl
  refine ⟨l.ok, l.base, fun p hp => ?_, ?_, fun b hb => ?_, l.gens, l.os⟩
  · rcases List.mem_cons.mp hp with rfl | hp
    · exact ⟨arr, c, e, vr⟩
    · exact l.led p hp
  · exact List.nodup_cons.mpr ⟨h1, l.nodup⟩
  · rcases List.mem_cons.mp (show b ∈ a :: foot D' from hb) with rfl | hb
    · exact h2
    · exact l.new b hb
theorem ev_comp {elt target iter : Expr} {ifs : List Expr} {scope : Scope} {pos : Pos} {g : GT} {mc : Loc} (hg : GOk B g) (hmc : locC g m scope.names = mc)
    (hok : namesOkC env.scope.names m scope.names = true) (hk : scope.kind = .function)
    (h : EV B n env iter m D fun x D₁ => ∃ items, Src D₁ x items ∧ items.length ≤ 16777216 ∧ ∃ Inv : Nat → List V → Led → Prop, Inv 0 [] D₁ ∧
      (∀ i ys D', Inv i ys D' → i ≤ items.length → Src D' x items) ∧
      (∀ i e ys D', items[i]? = some e → Inv i ys D' → ∃ m'', TgS scope.names target e mc m'' ∧ ∀ cenv, CT B n cenv ifs elt m'' D' ys fun ys' D'' => Inv (i + 1) ys' D'') ∧
      (∀ ys D', Inv items.length ys D' → ∀ r, Q (.ref r) ((r, .list ys) :: D')))
    (hs : ∀ x, foldedSetIterable iter env x = pure x := by intro _; rfl) (hifs : ifs.length ≤ 1 := by decide) : EV B n env (.ListComp elt [⟨target, iter, ifs, 0⟩] scope pos) m D Q := fun s hs0 A hA => by
  subst hmc
  have hok' := hok
  simp only [namesOkC, Bool.and_eq_true, decide_eq_true_eq, List.all_eq_true, Bool.not_eq_true', Bool.or_eq_true, beq_iff_eq] at hok'
  obtain ⟨hnd, hall⟩ := hok'
  obtain ⟨mr, hn, hsl⟩ := hs0.ns
  have cells : ∀ p ∈ scope.names, p.2 = .free → ∃ c, env.cells.lookup p.1 = some c := fun p hp hf => by
    have h := (hall _ hp).2
    rcases h with (h | h) | ⟨⟨_, h1⟩, h2⟩
    · rw [hf] at h; cases h
    · rw [hf] at h; cases h
    · split at h2
      · rename_i v hv
        cases hsl _ (mem_of_lookup hv) with
        | loc hk' =>
          have : env.kindOf p.1 = some .cell := h1
          rw [this] at hk'; cases hk'
        | cell kd c u hk' hkk hc hcl hx' hv => exact ⟨c, hc⟩
      · cases h2
  have clcells : ∀ c ∈ (clOf env scope.names []).map (·.2), c ∈ env.cells.map (·.2) := fun c hc => by
    obtain ⟨p, hp, rfl⟩ := List.mem_map.mp hc
    rcases clOf_mem _ _ p hp with h | ⟨h, e⟩
    · cases h
    · obtain ⟨c, hc⟩ := cells _ h rfl
      rw [hc] at e
      exact e ▸ mem_cells hc
  have hnames : ∀ y ∈ scope.names, y.2 = .local → scope.names.lookup y.1 = some .local := fun y hy hl => by
    obtain ⟨a, b⟩ := y
    dsimp only at hl; subst hl
    exact lookup_nodup hnd hy
  have hnc : ∀ y ∈ scope.names, y.2 ≠ .cell := fun y hy hc => by
    rcases (hall _ hy).2 with (h | h) | ⟨⟨h, _⟩, _⟩ <;> rw [hc] at h <;> cases h
  rw [eval_ListComp]
  refine wpAny_comprehension_free rfl hs (closure_ok cells) hk hnames (wpAny_mono (h s hs0 A hA) (fun v s₁ z46 => ?_) fun _ _ e => e.elim)
  obtain ⟨D₁, ⟨x, ⟨items, src0, hz, Inv, h0, src, turn, fin⟩, rv⟩, l₁, t₁⟩ := z46
  have hs₁ := hs0.step l₁ t₁
  refine iter_start hA l₁ rv src0 fun h' kh it => ?_
  obtain ⟨l₂, t₂⟩ := l₁.grow (s' := { s₁ with heap := h' }) kh rfl rfl
  have fI : s₁.heap.get? s₁.heap.objs.size = none := fresh_size
  have it₀ : ∃ o, h'.get? s₁.heap.objs.size = some o := let ⟨o, T, e, _⟩ := it.cls; ⟨o, e⟩
  generalize hI : s₁.heap.objs.size = I at it fI it₀
  refine wpAny_newObj_type (wpAny_newFunctionEnv hnc (by intro y hy; simp at hy) (fun h₁ hns₁ hsb₁ => ?_) hk) (by simp [sizeOk, sizeLine])
  dsimp only at hns₁ hsb₁ ⊢
  have fA' : h'.get? h'.objs.size = none := fresh_size
  have fA : s₁.heap.get? h'.objs.size = none := by
    cases q : s₁.heap.get? h'.objs.size with
    | none => rfl
    | some o => rw [kh _ _ q] at fA'; cases fA'
  have hC1 : (h'.push { cls := .type "list", dict := none, data := .seq ([] : List Value).toArray }).objs.size = h'.objs.size + 1 := Heap.size_push ..
  have fC' : h'.get? (h'.push { cls := .type "list", dict := none, data := .seq ([] : List Value).toArray }).objs.size = none := by
    rw [hC1]
    cases q : h'.get? (h'.objs.size + 1) with
    | none => rfl
    | some o => exact absurd (Nat.lt_of_succ_lt (Heap.lt_size q)) (Nat.lt_irrefl _)
  have hAC : h'.objs.size ≠ (h'.push { cls := .type "list", dict := none, data := .seq ([] : List Value).toArray }).objs.size := by rw [hC1]; exact Nat.ne_of_lt (Nat.lt_succ_self _)
  generalize hCC : (h'.push { cls := .type "list", dict := none, data := .seq ([] : List Value).toArray }).objs.size = C at hns₁ hsb₁ fC' hAC
  have acc₀ : (h'.push { cls := .type "list", dict := none, data := .seq ([] : List Value).toArray }).get? h'.objs.size = some { cls := .type "list", data := .seq #[] } := Heap.get?_push_size _ rfl
  generalize hAA : h'.objs.size = Acc at fA' fA hAC acc₀
  have fC : s₁.heap.get? C = none := by
    cases q : s₁.heap.get? C with
    | none => rfl
    | some o => rw [kh _ _ q] at fC'; cases fC'
  have hIA : I ≠ Acc := fun e => by obtain ⟨o, q⟩ := it₀; rw [e, fA'] at q; cases q
  have hIC : I ≠ C := fun e => by obtain ⟨o, q⟩ := it₀; rw [e, fC'] at q; cases q
  have keep₁ : ∀ b o, h'.get? b = some o → h₁.get? b = some o := fun b o e => by
    have hb : b ≠ C := fun q => by rw [q, fC'] at e; cases e
    exact (hsb₁.2 b hb).trans (Heap.get?_push_of_some _ (Heap.get?_push_of_some _ e))
  have accAt : h₁.PlainList Acc #[] := ⟨_, (hsb₁.2 Acc hAC).trans (Heap.get?_push_of_some _ acc₀)⟩
  have nsC : h₁.Ns C fun _ => none := by simpa using hns₁
  have bI := l₁.baseNone fI
  have bA := l₁.baseNone fA
  have bC := l₁.baseNone fC
  have clSome : ∀ c ∈ (clOf env scope.names []).map (·.2), ∃ o, s₁.heap.get? c = some o := fun c hc => by
    obtain ⟨u, o, ho, _⟩ := hs₁.cells c (clcells c hc)
    exact ⟨o, ho⟩
  have hIcl : I ∉ (clOf env scope.names []).map (·.2) := fun hm => by obtain ⟨o, q⟩ := clSome I hm; rw [fI] at q; cases q
  have hAcl : Acc ∉ (clOf env scope.names []).map (·.2) := fun hm => by obtain ⟨o, q⟩ := clSome Acc hm; rw [fA] at q; cases q
  have hAo : Acc ∉ own (compEnvC scope (clOf env scope.names []) C env) := fun h => by
    rcases List.mem_cons.mp h with h | h
    · exact hAC h
    · exact hAcl h
  have keepAll : ∀ b o, s₁.heap.get? b = some o → h₁.get? b = some o := fun b o e => keep₁ b o (kh b o e)
  have init : ∀ s₃ : Shared, s₃ = { s₁ with heap := h₁, toks := s₁.toks + ([] : List (Str × Value)).length } → CompSt B (compEnvC scope (clOf env scope.names []) C env) (locC g m scope.names) D₁ s₁ x items.length Inv I Acc items.length s₃ := by
    rintro s₃ rfl
    obtain ⟨l₃, t₃⟩ := l₁.grow (s' := { s₁ with heap := h₁, toks := s₁.toks + ([] : List (Str × Value)).length }) keepAll rfl rfl
    exact ⟨0, [], D₁, #[], by lia, h0, Nat.le_refl _, H.comp hg hs₁ hok hk fC nsC keepAll rfl rfl, t₃, it.keep fun o e => keep₁ _ o e, l₁.notFoot fI, accAt, .nil, l₁.notFoot fA⟩
  have fin' : ∀ (s₂ : Shared) ys D' (arr : Array Value), Inv items.length ys D' → H B (compEnvC scope (clOf env scope.names []) C env) (locC g m scope.names) D' s₂ → Tr D₁ s₁ D' s₂ → s₂.heap.PlainList Acc arr → VRs s₂.heap ys arr.toList → Acc ∉ foot D' →
      ∃ mm, s₂.heap.Ns C mm ∧ ∀ h'', Heap.SameBut C s₂.heap h'' → ∃ D'', VQ Q (.ref Acc) D'' { s₂ with heap := h'' } ∧ LH B D'' { s₂ with heap := h'' } ∧ Tr D s D'' { s₂ with heap := h'' } := by
    intro s₂ ys D' arr hInv hs₂ ht pl vr nA
    obtain ⟨mm, hmm, _⟩ := hs₂.ns
    refine ⟨mm, hmm, fun h'' sb => ?_⟩
    have kb : ∀ b o, b ≠ C → s₂.heap.get? b = some o → h''.get? b = some o := fun b o hb e => (sb.2 b hb).trans e
    obtain ⟨l₅, kt⟩ := hs₂.lh.side (s' := { s₂ with heap := h'' }) [C] (fun a ha => by rw [List.mem_singleton.mp ha]; exact ⟨hs₂.own_disj _ (.head _), bC, hs₂.notImm _ (.head _)⟩) (fun b o hb e => kb b o (fun q => hb (by simp [q])) e) rfl rfl
    have l₆ := l₅.adopt (a := Acc) (xs := ys) (arr := arr) (pl.at fun o e => kb _ o hAC e) (vr.mono kt) nA bA
    have t₅ := ht.side (s'' := { s₂ with heap := h'' }) fC kb
    refine ⟨_, ⟨_, fin ys D' hInv Acc, .ref _⟩, l₆, t₁.trans ⟨t₅.keep, fun a ha => ?_⟩⟩
    rcases List.mem_cons.mp (show a ∈ Acc :: foot D' from ha) with rfl | ha
    · exact .inr fA
    · exact t₅.grow a ha
  have app : ∀ (k i : Nat) (e : V) (ys : List V) (y : V) (D'' : Led) (arr : Array Value) (m'' : Loc) (s₃ : Shared) (yv : Value), i + k = items.length → i < items.length → ys.length ≤ i → TgS scope.names target e (locC g m scope.names) m'' → Inv (i + 1) (ys ++ [y]) D'' →
      H B (compEnvC scope (clOf env scope.names []) C env) m'' D'' s₃ → Tr D₁ s₁ D'' s₃ → ItAt s₃.heap I x (i + 1) → I ∉ foot D'' → s₃.heap.PlainList Acc arr → VRs s₃.heap ys arr.toList → Acc ∉ foot D'' → VR s₃.heap y yv →
      wpAny (model B.prog B.w) A (call (.builtin "list.append") [.ref Acc, yv]) (fun _ s₅ => ∃ j, j < k ∧ CompSt B (compEnvC scope (clOf env scope.names []) C env) (locC g m scope.names) D₁ s₁ x items.length Inv I Acc j s₅) NoE s₃ := by
    intro k i e ys y D'' arr m'' s₃ yv hik hlt hle ht hInv hs₃ t₃ it₃ nf pl vr nA ry
    have hsz : arr.size = ys.length := by rw [vr.length]; simp
    refine wpAny_list_append_plain pl (fun h₅ pl₅ sb => ?_) (by rw [hsz, sizeLine_eq]; lia)
    have kb : ∀ b o, b ≠ Acc → s₃.heap.get? b = some o → h₅.get? b = some o := fun b o hb e => (sb.2 b hb).trans e
    obtain ⟨hs₅, kt⟩ := hs₃.side (s' := { s₃ with heap := h₅ }) nA hAo bA (fun o ho hi => by
      obtain ⟨c, e⟩ := pl
      rw [e] at ho; cases ho
      rcases hi with ⟨c, _⟩ | ⟨c, _⟩ | ⟨c, _⟩ <;> simp at c) kb rfl rfl
    refine ⟨k - 1, by lia, i + 1, ys ++ [y], D'', arr.push yv, by lia, hInv, by simp; lia, hs₅.forget hnd ht, t₃.side fA kb, it₃.keep fun o e => kb I o hIA e, nf, pl₅, ?_, nA⟩
    rw [Array.toList_push]
    exact (vr.mono kt).append (.cons (ry.mono kt) .nil)
  have ne : ∀ {R : Value → Shared → Prop} {t : Sem Unit} {P : Unit → Shared → Prop} {s : Shared}, wpAny (model B.prog B.w) A t P NoE s → wpAny (model B.prog B.w) A t P R s := fun h => wpAny_mono h (fun _ _ h => h) fun _ _ e => e.elim
  have loop : ∀ s₃ : Shared, s₃ = { s₁ with heap := h₁, toks := s₁.toks + ([] : List (Str × Value)).length } → codeAny (model B.prog B.w) A (.compLoop (.ListComp elt [⟨target, iter, ifs, 0⟩] scope pos) 0 (.ref I) (.ref Acc) (compEnvC scope (clOf env scope.names []) C env))
      (compPost (model B.prog B.w) A NoE none (fun v s' => ∃ D', VQ Q v D' s' ∧ LH B D' s' ∧ Tr D s D' s') (.ref Acc) C) s₃ := by
    intro s₃ e₃
    -- a turn behind the item
    have body : ∀ (k i : Nat) (e : V) (ys : List V) (D' : Led) (arr : Array Value) (s₂ : Shared) (v : Value), items[i]? = some e → i + k = items.length → Inv i ys D' → ys.length ≤ i →
        H B (compEnvC scope (clOf env scope.names []) C env) (locC g m scope.names) D' s₂ → Tr D₁ s₁ D' s₂ → ItAt s₂.heap I x (i + 1) → I ∉ foot D' → s₂.heap.PlainList Acc arr → VRs s₂.heap ys arr.toList → Acc ∉ foot D' → VR s₂.heap e v →
        ∃ m'', TgS scope.names target e (locC g m scope.names) m'' ∧ (∀ cenv, CT B n cenv ifs elt m'' D' ys fun ys' D'' => Inv (i + 1) ys' D'') ∧
          wpAny (model B.prog B.w) A (assign target (compEnvC scope (clOf env scope.names []) C env) v) (fun _ s₄ => H B (compEnvC scope (clOf env scope.names []) C env) m'' D' s₄ ∧ Tr D₁ s₁ D' s₄ ∧ ItAt s₄.heap I x (i + 1) ∧ s₄.heap.PlainList Acc arr ∧ VRs s₄.heap ys arr.toList) NoE s₂ := by
      intro k i e ys D' arr s₂ v hi hik hInv hle hs₂ t₂ it₂ nf pl vr nA rv
      obtain ⟨m'', tg, ct⟩ := turn i e ys D' hi hInv
      refine ⟨m'', tg, ct, wpAny_mono (tgs_ok hnd tg hA hs₂ rv) (fun _ s₄ z47 => ?_) fun _ _ e => e⟩
      obtain ⟨hs₄, k₄⟩ := z47
      have kt : TupKeep s₂.heap s₄.heap := fun a o ho hi => k₄ a o (fun q => hs₂.notImm a (q ▸ .head _) o ho hi) ho
      exact ⟨hs₄, t₂.side fC k₄, it₂.keep fun o e => k₄ I o hIC e, pl.at fun o e => k₄ Acc o hAC e, vr.mono kt⟩
    have elem : ∀ (k i : Nat) (e : V) (ys : List V) (D' : Led) (arr : Array Value) (m'' : Loc) (s₄ : Shared), i + k = items.length → i < items.length → ys.length ≤ i → TgS scope.names target e (locC g m scope.names) m'' →
        EV B n (compEnvC scope (clOf env scope.names []) C env) elt m'' D' (fun y D'' => Inv (i + 1) (ys ++ [y]) D'') →
        H B (compEnvC scope (clOf env scope.names []) C env) m'' D' s₄ → Tr D₁ s₁ D' s₄ → ItAt s₄.heap I x (i + 1) → I ∉ foot D' → s₄.heap.PlainList Acc arr → VRs s₄.heap ys arr.toList → Acc ∉ foot D' →
        wpAny (model B.prog B.w) A (eval elt (compEnvC scope (clOf env scope.names []) C env)) (fun yv s₅ => wpAny (model B.prog B.w) A (call (.builtin "list.append") [.ref Acc, yv]) (fun _ s₆ => ∃ j, j < k ∧ CompSt B (compEnvC scope (clOf env scope.names []) C env) (locC g m scope.names) D₁ s₁ x items.length Inv I Acc j s₆) NoE s₅) NoE s₄ := by
      intro k i e ys D' arr m'' s₄ hik hlt hle tg ev hs₄ t₄ it₄ nf pl vr nA
      refine wpAny_mono (ev s₄ hs₄ A hA) (fun yv s₅ z48 => ?_) fun _ _ e => e
      obtain ⟨D'', ⟨y, hInv, ry⟩, l₅, t₅⟩ := z48
      obtain ⟨o, T, ei, _⟩ := it₄.cls
      obtain ⟨c, ea⟩ := id pl
      exact app k i e ys y D'' arr m'' s₅ yv hik hlt hle tg hInv (hs₄.step l₅ t₅) (t₄.trans t₅) (it₄.keep fun o e => t₅.keep I o nf e) (foot_stays t₅ ei nf) (pl.at fun o e => t₅.keep Acc o nA e) (vr.mono (t₅.tup hs₄.lh)) (foot_stays t₅ ea nA) ry
    match ifs, hifs, body with
    | [], _, body =>
      refine kcp_loop (CompSt B (compEnvC scope (clOf env scope.names []) C env) (locC g m scope.names) D₁ s₁ x items.length Inv I Acc) (fun k s' st => ?_) items.length (init s₃ e₃)
      refine comp_fetch hA hnd fI fA fC hIC hAC hIA hIcl bI st src (fun ys D' arr s₂ a b c d e f => fin' s₂ ys D' arr a b c d e f) fun i e ys D' arr s₂ v hi hik hInv hle hs₂ t₂ it₂ nf pl vr nA rv => ?_
      obtain ⟨m'', tg, ct, as⟩ := body k i e ys D' arr s₂ v hi hik hInv hle hs₂ t₂ it₂ nf pl vr nA rv
      refine ne (letGo_ok it₂ (wpAny_mono as (fun _ s₄ z49 => ?_) fun _ _ e => e.elim))
      obtain ⟨hs₄, t₄, it₄, pl₄, vr₄⟩ := z49
      refine wpAny_mono (elem k i e ys D' arr m'' s₄ hik (lt_of_get hi) hle tg (ct _) hs₄ t₄ it₄ nf pl₄ vr₄ nA) (fun yv s₅ h₅ => wpAny_mono h₅ (fun _ _ h => h) fun _ _ e => e.elim) fun _ _ e => e.elim
    | [c], _, body =>
      refine kct_loop (CompSt B (compEnvC scope (clOf env scope.names []) C env) (locC g m scope.names) D₁ s₁ x items.length Inv I Acc) (fun k s' st => ?_) items.length (init s₃ e₃)
      refine comp_fetch hA hnd fI fA fC hIC hAC hIA hIcl bI st src (fun ys D' arr s₂ a b c d e f => fin' s₂ ys D' arr a b c d e f) fun i e ys D' arr s₂ v hi hik hInv hle hs₂ t₂ it₂ nf pl vr nA rv => ?_
      obtain ⟨m'', tg, ct, as⟩ := body k i e ys D' arr s₂ v hi hik hInv hle hs₂ t₂ it₂ nf pl vr nA rv
      refine ne (letGo_ok it₂ (wpAny_mono as (fun _ s₄ z50 => ?_) fun _ _ e => e.elim))
      obtain ⟨hs₄, t₄, it₄, pl₄, vr₄⟩ := z50
      refine wpAny_mono (ct _ s₄ hs₄ A hA) (fun b s₅ z51 => ?_) fun _ _ e => e.elim
      obtain ⟨D₅, q, l₅, t₅⟩ := z51
      obtain ⟨o, T, ei, _⟩ := it₄.cls
      obtain ⟨cc, ea⟩ := id pl₄
      have hs₅ := hs₄.step l₅ t₅
      have tt := t₄.trans t₅
      have it₅ : ItAt s₅.heap I x (i + 1) := it₄.keep fun o e => t₅.keep I o nf e
      have nf₅ := foot_stays t₅ ei nf
      have pl₅ : s₅.heap.PlainList Acc arr := pl₄.at fun o e => t₅.keep Acc o nA e
      have vr₅ := vr₄.mono (t₅.tup hs₄.lh)
      have nA₅ := foot_stays t₅ ea nA
      have hlt := lt_of_get hi
      cases b with
      | true =>
        exact wpAny_mono (elem k i e ys D₅ arr m'' s₅ hik hlt hle tg q hs₅ tt it₅ nf₅ pl₅ vr₅ nA₅) (fun yv s₅ h₅ => wpAny_mono h₅ (fun _ _ h => h) fun _ _ e => e.elim) fun _ _ e => e.elim
      | false =>
        exact ⟨k - 1, by lia, i + 1, ys, D₅, arr, by lia, q, by lia, hs₅.forget hnd tg, tt, it₅, nf₅, pl₅, vr₅, nA₅⟩
    | _ :: _ :: _, h, _ => simp at h
  exact codeAny_compStart_list (loop _ rfl) (wpAny_mono (iter_self (B := B) (it.keep fun o e => keep₁ _ o e) (Q := fun it' s' => it' = .ref I ∧ s' = { s₁ with heap := h₁, toks := s₁.toks + ([] : List (Str × Value)).length }) ⟨rfl, rfl⟩) (fun it' s' z52 => by obtain ⟨e₁, e₂⟩ := z52; subst e₁; exact loop s' e₂) fun _ _ e => e.elim)
end
end Mine
end
section
open PySem PySem.W PyProof.Rows PySem.Calls PySem.SeqAt
namespace Mine
mutual
inductive EQ (D : Led) : Nat → V → V → Bool → Prop
  | int (k : Nat) (a b : Int) : EQ D k (.int a) (.int b) (decide (a = b))
  | str (k : Nat) (x y : Str) : EQ D k (.str x) (.str y) (decide (x = y))
  | byt (k : Nat) (x y : List UInt8) : EQ D k (.byt x) (.byt y) (decide (x = y))
  | tup {k : Nat} {l l' : List V} {b : Bool} : EQs D k l l' b → EQ D (k + 1) (.tup l) (.tup l') b
  | lst {k : Nat} {r r' : Addr} {l l' : List V} {b : Bool} : (r, O.list l) ∈ D → (r', O.list l') ∈ D → EQs D k l l' b → EQ D (k + 1) (.ref r) (.ref r') b
inductive EQs (D : Led) : Nat → List V → List V → Bool → Prop
  | nil {k : Nat} : EQs D k [] [] true
  | cons {k : Nat} {x y : V} {xs ys : List V} {a b : Bool} : EQ D k x y a → EQs D k xs ys b → EQs D k (x :: xs) (y :: ys) (a && b)
  | short {k : Nat} {y : V} {ys : List V} : EQs D k [] (y :: ys) false
  | long {k : Nat} {x : V} {xs : List V} : EQs D k (x :: xs) [] false
end
theorem tup_items {h : Heap} {a : Addr} {i j : Array Value} (x : IsTup h a i) (y : IsTup h a j) : i = j := by
  obtain ⟨o, e, _, n, d⟩ := x
  obtain ⟨o', e', _, n', d'⟩ := y
  rw [e] at e'; cases e'
  rw [d] at d'; injection d'
theorem tl_get {i : Array Value} {j : Nat} (a : j < i.size) : i.toList[j]? = some i[j] := Array.getElem?_toList.trans (Array.getElem?_eq_getElem a)
theorem EQ.same_mk {B : Base} {D : Led} {s : Shared} (l : LH B D s) : (∀ {k : Nat} {x y : V} {b : Bool}, EQ D k x y b → ∀ {v : Value}, VR s.heap x v → VR s.heap y v → b = true) ∧ (∀ {k : Nat} {x y : List V} {b : Bool}, EQs D k x y b → ∀ {v : List Value}, VRs s.heap x v → VRs s.heap y v → b = true) := by
  have c1 : ∀ (k : Nat) (a b : Int) {v : Value}, VR s.heap (.int a) v → VR s.heap (.int b) v → decide (a = b) = true := fun k a b v r r' => by
    obtain ⟨t, rfl⟩ := r.inv
    obtain ⟨u, e⟩ := r'.inv
    exact decide_eq_true (Value.int.inj e).1
  have c2 : ∀ (k : Nat) (a b : Str) {v : Value}, VR s.heap (.str a) v → VR s.heap (.str b) v → decide (a = b) = true := fun k a b v r r' => by
    obtain ⟨t, rfl⟩ := r.inv
    obtain ⟨u, e⟩ := r'.inv
    exact decide_eq_true (Value.str.inj e).1
  have c3 : ∀ (k : Nat) (a b : List UInt8) {v : Value}, VR s.heap (.byt a) v → VR s.heap (.byt b) v → decide (a = b) = true := fun k a b v r r' => by
    obtain ⟨t, rfl⟩ := r.inv
    obtain ⟨u, e⟩ := r'.inv
    exact decide_eq_true (congrArg Array.toList (Value.bytes.inj e).1)
  have c4 : ∀ {x y : List V} {b : Bool}, (∀ {v : List Value}, VRs s.heap x v → VRs s.heap y v → b = true) → ∀ {v : Value}, VR s.heap (.tup x) v → VR s.heap (.tup y) v → b = true := fun ih v r r' => by
    obtain ⟨_, _, rfl, i, q⟩ := r.inv
    obtain ⟨_, _, e, i', q'⟩ := r'.inv
    obtain rfl := Value.ref.inj e
    exact ih q (tup_items i i' ▸ q')
  have c5 : ∀ {r r' : Addr} {x y : List V} {b : Bool}, (r, O.list x) ∈ D → (r', O.list y) ∈ D → (∀ {v : List Value}, VRs s.heap x v → VRs s.heap y v → b = true) → ∀ {v : Value}, VR s.heap (.ref r) v → VR s.heap (.ref r') v → b = true := fun m m' ih v r r' => by
    obtain rfl := r.inv
    obtain rfl := Value.ref.inj r'.inv
    obtain ⟨vs, n, e, q⟩ := l.led _ m
    obtain ⟨vs', n', e', q'⟩ := l.led _ m'
    have e2 := Option.some.inj (e.symm.trans e')
    obtain rfl := (Data.seq.inj (congrArg Obj.data e2)).1
    exact ih q q'
  have d1 : ∀ {x y : V} {xs ys : List V} {a b : Bool}, (∀ {v : Value}, VR s.heap x v → VR s.heap y v → a = true) → (∀ {v : List Value}, VRs s.heap xs v → VRs s.heap ys v → b = true) → ∀ {v : List Value}, VRs s.heap (x :: xs) v → VRs s.heap (y :: ys) v → (a && b) = true := fun i1 i2 v r r' => by
    obtain ⟨_, _, rfl, p, q⟩ := r.inv
    obtain ⟨_, _, e, p', q'⟩ := r'.inv
    obtain ⟨rfl, rfl⟩ := List.cons.inj e
    rw [i1 p p', i2 q q']; rfl
  have d2 : ∀ {y : V} {ys : List V} {v : List Value}, VRs s.heap [] v → VRs s.heap (y :: ys) v → False := fun r r' => by
    obtain rfl := r.inv
    obtain ⟨_, _, e, _⟩ := r'.inv
    cases e
  exact ⟨fun h => EQ.rec (motive_1 := fun k x y b _ => ∀ {v : Value}, VR s.heap x v → VR s.heap y v → b = true) (motive_2 := fun k x y b _ => ∀ {v : List Value}, VRs s.heap x v → VRs s.heap y v → b = true) c1 c2 c3 (fun _ ih => c4 ih) (fun m m' _ ih => c5 m m' ih) (fun _ _ => rfl) (fun _ _ => d1) (fun r r' => (d2 r r').elim) (fun r r' => (d2 r' r).elim) h,
    fun h => EQs.rec (motive_1 := fun k x y b _ => ∀ {v : Value}, VR s.heap x v → VR s.heap y v → b = true) (motive_2 := fun k x y b _ => ∀ {v : List Value}, VRs s.heap x v → VRs s.heap y v → b = true) c1 c2 c3 (fun _ ih => c4 ih) (fun m m' _ ih => c5 m m' ih) (fun _ _ => rfl) (fun _ _ => d1) (fun r r' => (d2 r r').elim) (fun r r' => (d2 r' r).elim) h⟩
theorem all_succ (n : Nat) (e : Nat → Bool) : (List.range (n + 1)).all e = (e 0 && (List.range n).all fun j => e (j + 1)) := by
  rw [List.range_succ_eq_map, List.all_cons, List.all_map]; rfl
/-- two lists of values, place by place -/
def EqsAt (s : Shared) (A : Around) (k : Nat) (x y : List V) (b : Bool) : Prop := ∀ {vs ws : List Value}, VRs s.heap x vs → VRs s.heap y ws →
  ∃ f : Nat → Bool, (∀ j v w, vs[j]? = some v → ws[j]? = some w → EqAt A s v w (f j)) ∧ (vs.length ≠ ws.length → b = false) ∧ b = ((List.range (min vs.length ws.length)).all f && vs.length == ws.length)
abbrev EqV (s : Shared) (k : Nat) (x y : V) (b : Bool) : Prop := ∀ {v w : Value} {A : Around}, VR s.heap x v → VR s.heap y w → A.units + k < cLine → EqAt A s v w b
abbrev EqL (s : Shared) (k : Nat) (x y : List V) (b : Bool) : Prop := ∀ {A : Around}, A.units + k < cLine → EqsAt s A k x y b
theorem room_in1 {A : Around} {k : Nat} (h : A.units + (k + 1) < cLine) : A.in1.units + k < cLine := by
  show A.units + 1 + k < _
  rw [Nat.add_assoc, Nat.add_comm 1 k]; exact h
theorem room_le {a k c : Nat} (h : a + k < c) : a < c := Nat.lt_of_le_of_lt (Nat.le_add_right a k) h
theorem succ_beq (x y : Nat) : (x + 1 == y + 1) = (x == y) := by simp
theorem EQ.at_mk {B : Base} {D : Led} {s : Shared} (l : LH B D s) : (∀ {k : Nat} {x y : V} {b : Bool}, EQ D k x y b → EqV s k x y b) ∧ (∀ {k : Nat} {x y : List V} {b : Bool}, EQs D k x y b → EqL s k x y b) := by
  have c1 : ∀ (k : Nat) (a b : Int), EqV s k (.int a) (.int b) (decide (a = b)) := fun k a b v w A r r' _ => by
    obtain ⟨t, rfl⟩ := r.inv
    obtain ⟨u, rfl⟩ := r'.inv
    exact EqAt.int_int (A := A) (s := s) a t b u
  have c2 : ∀ (k : Nat) (a b : Str), EqV s k (.str a) (.str b) (decide (a = b)) := fun k a b v w A r r' _ => by
    obtain ⟨t, rfl⟩ := r.inv
    obtain ⟨u, rfl⟩ := r'.inv
    intro prog w E Q hq
    exact wpAny_eqBool_str hq
  have c3 : ∀ (k : Nat) (a b : List UInt8), EqV s k (.byt a) (.byt b) (decide (a = b)) := fun k a b v w A r r' _ => by
    obtain ⟨t, rfl⟩ := r.inv
    obtain ⟨u, rfl⟩ := r'.inv
    intro prog w E Q hq
    exact eqBool_bytes (by simpa using hq)
  have c4 : ∀ {k : Nat} {x y : List V} {b : Bool}, EQs D k x y b → EqL s k x y b → EqV s (k + 1) (.tup x) (.tup y) b := fun {k x y b} h ih v w A r r' hu => by
    have hb := (EQ.same_mk l).1 (EQ.tup h) (v := _) r
    obtain ⟨a, i, rfl, hi, q⟩ := r.inv
    obtain ⟨a', i', rfl, hi', q'⟩ := r'.inv
    by_cases e : a = a'
    · subst e
      rw [hb (.tup hi' q')]
      exact EqAt.same _
    · obtain ⟨f, h1, h2, h3⟩ := ih (A := A.in1) (room_in1 hu) q q'
      refine EqAt.of_refs e ?_
      rw [h3]
      exact RcAt.tuples hi hi' (e := f) (room_le hu) fun j a b => h1 j _ _ (tl_get a) (tl_get b)
  have c5 : ∀ {k : Nat} {a a' : Addr} {x y : List V} {b : Bool}, (a, O.list x) ∈ D → (a', O.list y) ∈ D → EQs D k x y b → EqL s k x y b → EqV s (k + 1) (.ref a) (.ref a') b := fun {k a a' x y b} m m' h ih v w A r r' hu => by
    have hb := (EQ.same_mk l).1 (EQ.lst m m' h) (v := _) r
    obtain rfl := r.inv
    obtain rfl := r'.inv
    obtain ⟨vs, n, e, il, q, _⟩ := l.list m
    obtain ⟨vs', n', e', il', q', _⟩ := l.list m'
    by_cases e : a = a'
    · subst e
      rw [hb (.ref _)]
      exact EqAt.same _
    · obtain ⟨f, h1, h2, h3⟩ := ih (A := A.in1) (room_in1 hu) q q'
      refine EqAt.of_refs e ?_
      by_cases hz : vs.size = vs'.size
      · have := RcAt.lists il il' (e := f) hz (room_le hu) fun j a b => h1 j _ _ (tl_get a) (tl_get b)
        rw [h3]
        simpa [hz] using this
      · rw [h2 hz]
        exact RcAt.lists_lengths il il' (bne_iff_ne.mpr hz) (room_le hu)
  have d0 : ∀ {k : Nat}, EqL s k [] [] true := fun {k A} _ vs ws r r' => by
    obtain rfl := r.inv; obtain rfl := r'.inv
    exact ⟨fun _ => true, fun j v w h => (nomatch h), fun h => absurd rfl h, rfl⟩
  have d1 : ∀ {k : Nat} {x y : V} {xs ys : List V} {a b : Bool}, EqV s k x y a → EqL s k xs ys b → EqL s k (x :: xs) (y :: ys) (a && b) := fun {k x y xs ys a b} i1 i2 A hu vs ws r r' => by
    obtain ⟨_, _, rfl, p, q⟩ := r.inv
    obtain ⟨_, _, rfl, p', q'⟩ := r'.inv
    obtain ⟨f, h1, h2, h3⟩ := i2 hu q q'
    refine ⟨fun j => Nat.casesOn j a f, fun j v w e e' => ?_, fun hn => ?_, ?_⟩
    · cases j with
      | zero => obtain rfl := Option.some.inj e; obtain rfl := Option.some.inj e'; exact i1 p p' hu
      | succ j => exact h1 j v w e e'
    · rw [h2 (fun e => hn (congrArg (· + 1) e)), Bool.and_false]
    · rw [List.length_cons, List.length_cons, Nat.succ_min_succ, all_succ, h3, Bool.and_assoc, succ_beq]; rfl
  have d2 : ∀ {k : Nat} {y : V} {ys : List V}, EqL s k [] (y :: ys) false := fun {k y ys A} _ vs ws r r' => by
    obtain rfl := r.inv; obtain ⟨_, _, rfl, _⟩ := r'.inv
    exact ⟨fun _ => true, fun j v w h => (nomatch h), fun _ => rfl, (Bool.and_false _).symm⟩
  have d3 : ∀ {k : Nat} {x : V} {xs : List V}, EqL s k (x :: xs) [] false := fun {k y ys A} _ vs ws r r' => by
    obtain rfl := r'.inv; obtain ⟨_, _, rfl, _⟩ := r.inv
    exact ⟨fun _ => true, fun j v w _ h => (nomatch h), fun _ => rfl, (Bool.and_false _).symm⟩
  exact ⟨fun h => EQ.rec (motive_1 := fun k x y b _ => EqV s k x y b) (motive_2 := fun k x y b _ => EqL s k x y b) c1 c2 c3 (fun h ih => c4 h ih) (fun m m' h ih => c5 m m' h ih) d0 (fun _ _ => d1) d2 d3 h,
    fun h => EQs.rec (motive_1 := fun k x y b _ => EqV s k x y b) (motive_2 := fun k x y b _ => EqL s k x y b) c1 c2 c3 (fun h ih => c4 h ih) (fun m m' h ih => c5 m m' h ih) d0 (fun _ _ => d1) d2 d3 h⟩
section
variable {B : Base} {n : Nat} {D : Led} {Q : V → Led → Prop} {x y : V} {b : Bool}
theorem AOk.roomE {n : Nat} {A : Around} (h : AOk n A) {k : Nat} (hk : k ≤ 1000) : A.units + k < cLine := by have := h.u; have := h.n; unfold cLine; lia
theorem ne_step {s : Shared} {D' : Led} {c : Bool} (l : LH B D' s) (hq : Q (.bool c) D') : ∃ D'', VQ Q (.bool c) D'' s ∧ LH B D'' s ∧ Tr D' s D'' s := ⟨D', ⟨_, hq, .bool _⟩, l, .refl ..⟩
theorem EQ.tup_inv {D : Led} {k : Nat} {x y : List V} {b : Bool} (h : EQ D k (.tup x) (.tup y) b) : ∃ j, k = j + 1 ∧ EQs D j x y b := by
  cases h with | tup h => exact ⟨_, rfl, h⟩
theorem EQ.ref_inv {D : Led} {k : Nat} {r r' : Addr} {b : Bool} (h : EQ D k (.ref r) (.ref r') b) : ∃ j x y, k = j + 1 ∧ (r, O.list x) ∈ D ∧ (r', O.list y) ∈ D ∧ EQs D j x y b := by
  cases h with | lst m m' h => exact ⟨_, _, _, rfl, m, m', h⟩
theorem AOk.room1 {n : Nat} {A : Around} (h : AOk n A) {k : Nat} (hk : k + 1 ≤ 1000) : A.in1.units + k < cLine := room_in1 (h.roomE hk)
theorem tup_at {B : Base} {s : Shared} {n k : Nat} {A : Around} {x y : List V} {b : Bool} {v w : Value} (lh : LH B D s) (hA : AOk n A) (h : EQ D k (.tup x) (.tup y) b) (hk : k ≤ 1000) (r : VR s.heap (.tup x) v) (r' : VR s.heap (.tup y) w) :
    ∃ a a' i i', v = .ref a ∧ w = .ref a' ∧ IsTup s.heap a i ∧ IsTup s.heap a' i' ∧ ∃ f : Nat → Bool, (∀ j (h1 : j < i.size) (h2 : j < i'.size), EqAt A.in1 s i[j] i'[j] (f j)) ∧ b = ((List.range (min i.size i'.size)).all f && i.size == i'.size) := by
  obtain ⟨j, rfl, h0⟩ := h.tup_inv
  obtain ⟨a, i, rfl, hi, q⟩ := r.inv
  obtain ⟨a', i', rfl, hi', q'⟩ := r'.inv
  obtain ⟨f, h1, h2, h3⟩ := (EQ.at_mk lh).2 h0 (A := A.in1) (hA.room1 hk) q q'
  exact ⟨a, a', i, i', rfl, rfl, hi, hi', f, fun j a b => h1 j _ _ (tl_get a) (tl_get b), h3⟩
theorem cmp_eq_tup {k : Nat} {l l' : List V} (h : EQ D k (.tup l) (.tup l') b) (hk : k ≤ 1000) (hq : Q (.bool b) D) : CMP B n .Eq (.tup l) (.tup l') D Q := fun s v w lh r r' A hA => by
  obtain ⟨a, a', i, i', rfl, rfl, hi, hi', f, h1, rfl⟩ := tup_at lh hA h hk r r'
  exact eq_tupleAt hi hi' hA.units (e := f) (fun j a b => h1 j a b) (ne_step lh hq)
theorem cmp_ne_tup {k : Nat} {l l' : List V} (h : EQ D k (.tup l) (.tup l') b) (hk : k ≤ 1000) (hq : Q (.bool (!b)) D) : CMP B n .NotEq (.tup l) (.tup l') D Q := fun s v w lh r r' A hA => by
  obtain ⟨a, a', i, i', rfl, rfl, hi, hi', f, h1, rfl⟩ := tup_at lh hA h hk r r'
  exact RcNeAt.tuples hi hi' hA.units (e := f) (fun j a b => h1 j a b) _ _ _ _ (ne_step lh hq)
theorem cmp_ne_list {k : Nat} {r r' : Addr} (h : EQ D k (.ref r) (.ref r') b) (hk : k ≤ 1000) (hq : Q (.bool (!b)) D) : CMP B n .NotEq (.ref r) (.ref r') D Q := fun s v w lh rv rw' A hA => by
  obtain ⟨j, x, y, rfl, m, m', h0⟩ := h.ref_inv
  obtain rfl := rv.inv
  obtain rfl := rw'.inv
  obtain ⟨vs, n, e, il, q, _⟩ := lh.list m
  obtain ⟨vs', n', e', il', q', _⟩ := lh.list m'
  obtain ⟨f, h1, h2, h3⟩ := (EQ.at_mk lh).2 h0 (A := A.in1) (hA.room1 hk) q q'
  by_cases hz : vs.size = vs'.size
  · have h3 : b = ((List.range (min vs.size vs'.size)).all f && vs.size == vs'.size) := h3
    rw [← hz, Nat.min_self, beq_self_eq_true, Bool.and_true] at h3
    subst h3
    exact RcNeAt.lists il il' (e := f) hz hA.units (fun j a b => h1 j _ _ (tl_get a) (tl_get b)) _ _ _ _ (ne_step lh hq)
  · rw [h2 hz] at hq
    exact RcNeAt.lists_lengths il il' (bne_iff_ne.mpr hz) hA.units _ _ _ _ (ne_step lh hq)
def isI (a : Int) : Value → Bool
  | .int b _ => b == a
  | _ => false
/-- an int in a tuple of ints -/
theorem in_ints {h : Heap} (a : Int) : ∀ (l : List Int) (vs : List Value), VRs h (l.map V.int) vs → (∀ y ∈ vs, ∃ b u, y = .int b u) ∧ vs.any (isI a) = l.contains a := by
  intro l
  induction l with
  | nil => intro vs h; obtain rfl := h.inv; exact ⟨fun _ h => (nomatch h), rfl⟩
  | cons b r ih =>
    intro vs h
    obtain ⟨_, _, rfl, h1, h2⟩ := h.inv
    obtain ⟨t, rfl⟩ := h1.inv
    obtain ⟨i1, i2⟩ := ih _ h2
    refine ⟨fun y hy => ?_, ?_⟩
    · rcases List.mem_cons.mp hy with rfl | hy
      · exact ⟨_, _, rfl⟩
      · exact i1 y hy
    · rw [List.any_cons, i2, List.contains_cons]
      exact congrArg (· || _) (show (b == a) = (a == b) from BEq.comm)
theorem in_tup {B : Base} {s : Shared} {A : Around} {a : Int} {l : List Int} {v w : Value} (r : VR s.heap (.int a) v) (r' : VR s.heap (.tup (l.map .int)) w) :
    ∃ t p i, v = .int a t ∧ w = .ref p ∧ IsTup s.heap p i ∧ (∀ y ∈ i, EqAt A s y (.int a t) (isI a y)) ∧ i.any (isI a) = l.contains a := by
  obtain ⟨t, rfl⟩ := r.inv
  obtain ⟨p, i, rfl, hi, q⟩ := r'.inv
  obtain ⟨g1, g2⟩ := in_ints a l _ q
  refine ⟨t, p, i, rfl, rfl, hi, fun y hy => ?_, Array.any_toList.symm.trans g2⟩
  obtain ⟨b, u, rfl⟩ := g1 y (Array.mem_toList_iff.mpr hy)
  exact EqAt.int_int _ _ _ _
theorem cmp_in_tup {a : Int} {l : List Int} (hq : Q (.bool (l.contains a)) D) : CMP B n .In (.int a) (.tup (l.map .int)) D Q := fun s v w lh r r' A hA => by
  obtain ⟨t, p, i, rfl, rfl, hi, g1, g2⟩ := in_tup (B := B) r r'
  exact in_tupleAt (isI a) hi g1 (g2 ▸ ne_step lh hq)
theorem cmp_nin_tup {a : Int} {l : List Int} (hq : Q (.bool (!l.contains a)) D) : CMP B n .NotIn (.int a) (.tup (l.map .int)) D Q := fun s v w lh r r' A hA => by
  obtain ⟨t, p, i, rfl, rfl, hi, g1, g2⟩ := in_tup (B := B) r r'
  exact notIn_tupleAt (isI a) hi g1 (g2 ▸ ne_step lh hq)
theorem cmp_is_none (hq : Q (.bool true) D) : CMP B n .Is .none .none D Q := fun s v w lh r r' A hA => by
  obtain rfl := r.inv
  obtain rfl := r'.inv
  exact wpAny_is_self rfl (ne_step lh hq)
end
end Mine
end
section
open PySem PySem.W PyProof.Rows PySem.Calls
namespace Mine
section
variable {B : Base} {n : Nat} {env : Env} {m : Loc} {D : Led} {Q : V → Led → Prop}
theorem one_arg {h : Heap} {x : V} {vs : List Value} (r : VRs h [x] vs) : ∃ v, vs = [v] ∧ VR h x v := by
  obtain ⟨_, _, rfl, a, b⟩ := r.inv; cases b; exact ⟨_, rfl, a⟩
theorem two_args {h : Heap} {x y : V} {vs : List Value} (r : VRs h [x, y] vs) : ∃ v w, vs = [v, w] ∧ VR h x v ∧ VR h y w := by
  obtain ⟨_, _, rfl, a, b⟩ := r.inv; obtain ⟨w, rfl, c⟩ := one_arg b; exact ⟨_, _, rfl, a, c⟩
theorem three_args {h : Heap} {x y z : V} {vs : List Value} (r : VRs h [x, y, z] vs) : ∃ v w u, vs = [v, w, u] ∧ VR h x v ∧ VR h y w ∧ VR h z u := by
  obtain ⟨_, _, rfl, a, b⟩ := r.inv; obtain ⟨w, u, rfl, c, d⟩ := two_args b; exact ⟨_, _, _, rfl, a, c, d⟩
theorem cl_abs {a : Int} (h : Q (.int (if a < 0 then -a else a)) D) : CL B n (.raw (.builtin "abs")) [.int a] D Q := fun s f vs l ra rvs A hA => by
  obtain ⟨v, rfl, rv⟩ := one_arg rvs
  (first | obtain rfl := ra.inv | obtain ⟨_, rfl⟩ := ra.inv); (first | obtain rfl := rv.inv | obtain ⟨_, rfl⟩ := rv.inv)
  exact call_abs_int fun u tk => ⟨D, ⟨_, h, .int ..⟩, l.toks tk, Tr.toks ..⟩
theorem cl_int {a : Int} (h : Q (.int a) D) : CL B n (.raw (.type "int")) [.int a] D Q := fun s f vs l ra rvs A hA => by
  obtain ⟨v, rfl, rv⟩ := one_arg rvs
  (first | obtain rfl := ra.inv | obtain ⟨_, rfl⟩ := ra.inv); (first | obtain rfl := rv.inv | obtain ⟨_, rfl⟩ := rv.inv)
  exact call_int_int ⟨D, ⟨_, h, .int ..⟩, l, .refl ..⟩
theorem cl_ord {c : Nat} (h : Q (.int c) D) : CL B n (.raw (.builtin "ord")) [.str ⟨#[c]⟩] D Q := fun s f vs l ra rvs => by
  obtain ⟨v, rfl, rv⟩ := one_arg rvs
  (first | obtain rfl := ra.inv | obtain ⟨_, rfl⟩ := ra.inv); (first | obtain rfl := rv.inv | obtain ⟨_, rfl⟩ := rv.inv)
  exact TG.tokR l (fun A hA Q hQ => P.ord_of_char (hQ _)) fun k => ⟨_, h, .int ..⟩
theorem cl_chr {i : Int} (h0 : 0 ≤ i) (h1 : i ≤ 0x10FFFF) (h : Q (.str ⟨#[i.toNat]⟩) D) : CL B n (.raw (.builtin "chr")) [.int i] D Q := fun s f vs l ra rvs => by
  obtain ⟨v, rfl, rv⟩ := one_arg rvs
  (first | obtain rfl := ra.inv | obtain ⟨_, rfl⟩ := ra.inv); (first | obtain rfl := rv.inv | obtain ⟨_, rfl⟩ := rv.inv)
  exact TG.tokR l (fun A hA Q hQ => P.chr_of_int (by simp; lia) (hQ _)) fun k => ⟨_, h, .str ..⟩
theorem cl_list_list {r : Addr} {xs : List V} (hm : (r, .list xs) ∈ D) (hz : xs.length ≤ 16777216) (h : ∀ q, Q (.ref q) ((q, .list xs) :: D)) : CL B n (.raw (.type "list")) [.ref r] D Q := fun s f vs l ra rvs A hA => by
  obtain ⟨v, rfl, rv⟩ := one_arg rvs
  obtain ⟨us, c, e, il, q, hs⟩ := l.list hm
  (first | obtain rfl := ra.inv | obtain ⟨_, rfl⟩ := ra.inv); (first | obtain rfl := rv.inv | obtain ⟨_, rfl⟩ := rv.inv)
  refine call_list_seq r (T := "list") (.inl rfl) e rfl rfl (fun h' c' hk ho => ?_) (by rw [hs, sizeLine_eq]; exact hz)
  obtain ⟨l', t'⟩ := l.newList (s' := { s with heap := h' }) q ho hk rfl rfl
  exact ⟨_, ⟨_, h _, .ref _⟩, l', t'⟩
theorem ints_are {h : Heap} : ∀ {ns : List Int} {vs : List Value}, VRs h (ns.map V.int) vs → IntsAre vs ns := by
  intro ns
  induction ns with
  | nil => intro vs r; obtain rfl := r.inv; exact .nil
  | cons a ns ih => intro vs r; obtain ⟨v, ws, rfl, ra, rs⟩ := r.inv; obtain ⟨t, rfl⟩ := ra.inv; exact .cons a t (ih rs)
theorem strs_are {h : Heap} : ∀ {ns : List Str} {vs : List Value}, VRs h (ns.map V.str) vs → StrsAre vs ns := by
  intro ns
  induction ns with
  | nil => intro vs r; obtain rfl := r.inv; exact .nil
  | cons a ns ih => intro vs r; obtain ⟨v, ws, rfl, ra, rs⟩ := r.inv; obtain ⟨t, rfl⟩ := ra.inv; exact .cons a t (ih rs)
def byts (ns : List Int) : List UInt8 := ns.map fun n => n.toNat.toUInt8
theorem cl_bytes {r : Addr} {ns : List Int} (hm : (r, .list (ns.map .int)) ∈ D) (hz : ns.length ≤ 16777216) (hr : ∀ n ∈ ns, 0 ≤ n ∧ n < 256) (h : Q (.byt (byts ns)) D) : CL B n (.raw (.type "bytes")) [.ref r] D Q := fun s f vs l ra rvs A hA => by
  obtain ⟨v, rfl, rv⟩ := one_arg rvs
  obtain ⟨us, c, e, il, q, hs⟩ := l.list hm
  (first | obtain rfl := ra.inv | obtain ⟨_, rfl⟩ := ra.inv); (first | obtain rfl := rv.inv | obtain ⟨_, rfl⟩ := rv.inv)
  have hl : s.heap.IsList r us.toList.toArray := by simpa using il
  refine call_bytes_ints hl (ints_are q) hr (by rw [Array.length_toList, hs, List.length_map, sizeLine_eq]; exact hz) hA.h fun h' t k hk => ?_
  obtain ⟨l', t'⟩ := l.grow (s' := { s with heap := h', toks := k }) hk rfl rfl
  exact ⟨D, ⟨_, h, .byt _ t⟩, l', t'⟩
theorem cl_range1 {b : Int} (h : Q (.rng 0 b 1) D) : CL B n (.raw (.type "range")) [.int b] D Q := fun s f vs l ra rvs A hA => by
  obtain ⟨v, rfl, rv⟩ := one_arg rvs
  (first | obtain rfl := ra.inv | obtain ⟨_, rfl⟩ := ra.inv); (first | obtain rfl := rv.inv | obtain ⟨_, rfl⟩ := rv.inv)
  refine call_range_1 ?_
  obtain ⟨l', t'⟩ := l.grow (s' := { s with heap := s.heap.push { cls := .type "range", data := .fields #[.int 0 s.toks, .int b _, .int 1 (s.toks + 1)] }, toks := s.toks + 1 + 1 }) (fun b o e => Heap.get?_push_of_some _ e) rfl rfl
  exact ⟨D, ⟨_, h, .rng (IsRange.new ..)⟩, l', t'⟩
theorem cl_range2 {a b : Int} (h : Q (.rng a b 1) D) : CL B n (.raw (.type "range")) [.int a, .int b] D Q := fun s f vs l ra rvs A hA => by
  obtain ⟨v, w, rfl, rv, rw'⟩ := two_args rvs
  (first | obtain rfl := ra.inv | obtain ⟨_, rfl⟩ := ra.inv); (first | obtain rfl := rv.inv | obtain ⟨_, rfl⟩ := rv.inv); (first | obtain rfl := rw'.inv | obtain ⟨_, rfl⟩ := rw'.inv)
  refine call_range_2 ?_
  obtain ⟨l', t'⟩ := l.grow (s' := { s with heap := s.heap.push { cls := .type "range", data := .fields #[.int a _, .int b _, .int 1 s.toks] }, toks := s.toks + 1 }) (fun b o e => Heap.get?_push_of_some _ e) rfl rfl
  exact ⟨D, ⟨_, h, .rng (IsRange.new ..)⟩, l', t'⟩
theorem cl_range3 {a b c : Int} (hc : 0 < c) (hc2 : c < 2 ^ 64) (h : Q (.rng a b c) D) : CL B n (.raw (.type "range")) [.int a, .int b, .int c] D Q := fun s f vs l ra rvs A hA => by
  obtain ⟨v, w, u, rfl, rv, rw', ru⟩ := three_args rvs
  (first | obtain rfl := ra.inv | obtain ⟨_, rfl⟩ := ra.inv); (first | obtain rfl := rv.inv | obtain ⟨_, rfl⟩ := rv.inv); (first | obtain rfl := rw'.inv | obtain ⟨_, rfl⟩ := rw'.inv); (first | obtain rfl := ru.inv | obtain ⟨_, rfl⟩ := ru.inv)
  refine call_range_3 (by lia) ?_ (.inl (noPy hc hc2))
  obtain ⟨l', t'⟩ := l.grow (s' := { s with heap := s.heap.push { cls := .type "range", data := .fields #[.int a _, .int b _, .int c _] }, toks := s.toks }) (fun b o e => Heap.get?_push_of_some _ e) rfl rfl
  exact ⟨D, ⟨_, h, .rng (IsRange.new ..)⟩, l', t'⟩
theorem cl_min {r : Addr} {ns : List Int} (hm : (r, .list (ns.map .int)) ∈ D) (hne : 0 < ns.length) (h : ∀ M, M ∈ ns → (∀ a ∈ ns, M ≤ a) → Q (.int M) D) : CL B n (.raw (.builtin "min")) [.ref r] D Q := fun s f vs l ra rvs A hA => by
  obtain ⟨v, rfl, rv⟩ := one_arg rvs
  obtain ⟨us, c, e, il, q, hs⟩ := l.list hm
  (first | obtain rfl := ra.inv | obtain ⟨_, rfl⟩ := ra.inv); (first | obtain rfl := rv.inv | obtain ⟨_, rfl⟩ := rv.inv)
  have hi := ints_are q
  obtain ⟨xs, e⟩ := hi.allInts.items
  have hns : ns = xs.toList.map (·.1) := by
    rw [← hi.numsOf, ← nums_intItems, ← e]
  have hsz : 0 < xs.size := by
    have h3 := hne; rw [hns, List.length_map, Array.length_toList] at h3; exact h3
  have il' : s.heap.IsList r (intItems xs) := by rw [← e]; simpa using il
  refine min_intList hA.h il' hsz fun v h' tk hv hk => ?_
  obtain ⟨t, rfl⟩ := intItems_at hv
  obtain ⟨h1, h2⟩ := argBest_lt (numAt xs) (xs.size - 1)
  obtain ⟨l', t'⟩ := l.grow (s' := { s with heap := h', toks := tk }) hk rfl rfl
  refine ⟨D, ⟨_, h _ ?_ fun a ha => ?_, .int ..⟩, l', t'⟩
  · rw [hns, numAt_eq]; exact getD_mem (by rw [List.length_map, Array.length_toList]; lia)
  · rw [hns] at ha
    obtain ⟨j, hj, rfl⟩ := mem_getD ha
    rw [List.length_map, Array.length_toList] at hj
    rw [← numAt_eq]; exact h2 j (by lia)
theorem cl_join {r : Addr} {x : Str} {ys : List Str} (hm : (r, .list (ys.map .str)) ∈ D) (hok : (ys.map (·.length)).sum + ys.length * x.length ≤ 16777216) (h : Q (.str (Txt.join x ys)) D) : CL B n (.raw (.builtin "str.join")) [.str x, .ref r] D Q := fun s f vs l ra rvs A hA => by
  obtain ⟨v, w, rfl, rv, rw'⟩ := two_args rvs
  obtain ⟨us, c, e, il, q, hs⟩ := l.list hm
  (first | obtain rfl := ra.inv | obtain ⟨_, rfl⟩ := ra.inv); (first | obtain rfl := rv.inv | obtain ⟨_, rfl⟩ := rv.inv); (first | obtain rfl := rw'.inv | obtain ⟨_, rfl⟩ := rw'.inv)
  exact join_list il (strs_are q) hok fun t' k => ⟨D, ⟨_, h, .str ..⟩, l.toks k, Tr.toks ..⟩
-- lists grown
theorem cl_append {r : Addr} {xs : List V} {y : V} {D' : Led} (hs : SetD r (.list xs) (.list (xs ++ [y])) D D') (hz : xs.length ≤ 16777216) (h : Q .none D') : CL B n (.raw (.builtin "list.append")) [.ref r, y] D Q := fun s f vs l ra rvs A hA => by
  obtain ⟨v, w, rfl, rv, rw'⟩ := two_args rvs
  obtain ⟨us, c, e, q⟩ := l.led _ hs.old
  have hsz : us.size = xs.length := by rw [q.length]; simp
  (first | obtain rfl := ra.inv | obtain ⟨_, rfl⟩ := ra.inv); (first | obtain rfl := rv.inv | obtain ⟨_, rfl⟩ := rv.inv)
  refine wpAny_list_append_plain ⟨c, e⟩ (fun h' pl sb => ?_) (by rw [hsz, sizeLine_eq]; exact hz)
  obtain ⟨c', e'⟩ := pl
  obtain ⟨l', t'⟩ := l.set (s' := { s with heap := h' }) hs rfl (fun b ob hb e => (sb.2 b (by simpa [footO] using hb)).trans e) (fun kt => ⟨_, c', e', by rw [Array.toList_push]; exact (q.mono kt).append (.cons (rw'.mono kt) .nil)⟩) rfl rfl
  exact ⟨D', ⟨_, h, .none⟩, l', t'⟩
theorem cl_extend {r b : Addr} {xs ys : List V} {D' : Led} (hb : (b, .list ys) ∈ D) (hs : SetD r (.list xs) (.list (xs ++ ys)) D D') (hz : xs.length + ys.length ≤ 16777000) (h : Q .none D') : CL B n (.raw (.builtin "list.extend")) [.ref r, .ref b] D Q := fun s f vs l ra rvs A hA => by
  obtain ⟨v, w, rfl, rv, rw'⟩ := two_args rvs
  obtain ⟨us, c, e, q⟩ := l.led _ hs.old
  obtain ⟨us2, c2, e2, q2⟩ := l.led _ hb
  have hsz : us.size = xs.length := by rw [q.length]; simp
  have hsz2 : us2.size = ys.length := by rw [q2.length]; simp
  (first | obtain rfl := ra.inv | obtain ⟨_, rfl⟩ := ra.inv); (first | obtain rfl := rv.inv | obtain ⟨_, rfl⟩ := rv.inv); (first | obtain rfl := rw'.inv | obtain ⟨_, rfl⟩ := rw'.inv)
  refine call_meets PySem.F.slot_list_extend ⟨_, e, rfl⟩ PySem.F.entry_list_extend (PySem.F.args_list_extend_2 _ _) (PySem.AutoSeq1.list_extend_list_list_0 r us c b us2 c2 (by simp [Builtin.List.listTooLong, hsz, hsz2, sizeLine_eq]; lia) (by rw [hsz, sizeLine_eq]; lia) (by rw [hsz, hsz2, sizeLine_eq]; lia)) ⟨e, e2, ?_⟩
  have e3 := PySem.IsL.update e (· ++ us2)
  obtain ⟨l', t'⟩ := l.set (s' := { s with heap := s.heap.update r (Obj.mapSeq (· ++ us2)) }) hs rfl (fun d ob hd e => (Heap.get?_update_other _ _ (Ne.symm (by simpa [footO] using hd))).trans e) (fun kt => ⟨_, _, e3, by rw [Array.toList_append]; exact (q.mono kt).append (q2.mono kt)⟩) rfl rfl
  exact ⟨D', ⟨_, h, .none⟩, l', t'⟩
end
end Mine
end
section
open PySem PySem.W PyProof.Rows PySem.Calls PySem.SeqAt
namespace Mine
section
variable {B : Base} {n : Nat} {env : Env} {m : Loc} {D : Led} {Q : V → Led → Prop}
theorem bin_add_list {r b : Addr} {xs ys : List V} (h1 : (r, .list xs) ∈ D) (h2 : (b, .list ys) ∈ D) (hz : xs.length + ys.length ≤ 16777216) (h : ∀ q, Q (.ref q) ((q, .list (xs ++ ys)) :: D)) : BIN B n .Add (.ref r) (.ref b) D Q := fun s v w l ra rb A hA => by
  obtain ⟨us, c, e, il, q, hs⟩ := l.list h1
  obtain ⟨us2, c2, e2, il2, q2, hs2⟩ := l.list h2
  (first | obtain rfl := ra.inv | obtain ⟨_, rfl⟩ := ra.inv); (first | obtain rfl := rb.inv | obtain ⟨_, rfl⟩ := rb.inv)
  refine P.add_list e e2 ?_ (by rw [hs, hs2, sizeLine_eq]; exact hz)
  exact l.newList' (vs := us ++ us2) (by rw [Array.toList_append]; exact q.append q2) fun s' r => ⟨_, h _, r⟩
theorem Str.ext {x y : Str} (h : x.cps = y.cps) : x = y := by cases x; cases y; cases h; rfl
theorem bin_add_str {x y : Str} (hz : x.length + y.length ≤ 16777216) (h : Q (.str (x ++ y)) D) : BIN B n .Add (.str x) (.str y) D Q := fun s v w l ra rb A hA => by
  obtain ⟨t, rfl⟩ := ra.inv; obtain ⟨u, rfl⟩ := rb.inv
  refine P.add_str ?_
  have app : (x ++ y).cps = x.cps ++ y.cps := rfl
  split
  · rename_i h0
    have h0' : x.cps.size = 0 := by simpa [Str.length] using h0
    have : x ++ y = y := Str.ext (by rw [app, Array.size_eq_zero_iff.mp h0']; simp)
    rw [this] at h
    exact ⟨D, ⟨_, h, .str ..⟩, l, .refl ..⟩
  · split
    · rename_i h1
      have h1' : y.cps.size = 0 := by simpa [Str.length] using h1
      have : x ++ y = x := Str.ext (by rw [app, Array.size_eq_zero_iff.mp h1']; simp)
      rw [this] at h
      exact ⟨D, ⟨_, h, .str ..⟩, l, .refl ..⟩
    · exact ⟨by rw [strLen_append, sizeLine_eq]; exact hz, D, ⟨_, h, .str ..⟩, l.toks _, Tr.toks ..⟩
theorem bin_add_byt {x y : List UInt8} (hz : x.length + y.length ≤ 16777216) (h : Q (.byt (x ++ y)) D) : BIN B n .Add (.byt x) (.byt y) D Q := fun s v w l ra rb A hA => by
  (first | obtain rfl := ra.inv | obtain ⟨_, rfl⟩ := ra.inv); (first | obtain rfl := rb.inv | obtain ⟨_, rfl⟩ := rb.inv)
  refine KBy.add_bytes (by simpa using hz) fun t' k => ?_
  rw [List.append_toArray]
  exact ⟨D, ⟨_, h, .byt ..⟩, l.toks k, Tr.toks ..⟩
theorem tru_list {r : Addr} {xs : List V} {Q : Bool → Led → Prop} (hm : (r, .list xs) ∈ D) (hz : xs.length ≤ 16777216) (h : Q (decide (xs ≠ [])) D) : TRU B n (.ref r) D Q := fun s a l ra => by
  obtain ⟨us, c, e, il, q, hs⟩ := l.list hm
  (first | obtain rfl := ra.inv | obtain ⟨_, rfl⟩ := ra.inv)
  refine TG.tokR (a := decide (xs ≠ [])) l (fun A hA Q hQ => wpAny_truthy_list il (by rw [hs]; lia) ?_) fun k => h
  have : (decide (xs ≠ [])) = !us.isEmpty := by
    unfold Array.isEmpty
    rw [hs]; cases xs <;> simp
  rw [this] at hQ
  exact hQ _
-- methods of built-ins
theorem gm_list {r : Addr} {xs : List V} {name : Str} {id : String} (hm : (r, .list xs) ∈ D) (slot : PySem.Slot "list" name id) (hty : typeOf (.builtin id) = pure (.type "method_descriptor")) : GM B n (.ref r) name D (.builtin id) [.ref r] := fun s a A pl hA l ra Q h => by
  obtain ⟨us, c, e, il, q, hs⟩ := l.list hm
  (first | obtain rfl := ra.inv | obtain ⟨_, rfl⟩ := ra.inv)
  exact getMethod_list_of slot hty il ⟨_, e, rfl⟩ (h _ (.cons (.ref _) .nil))
theorem gm_append {r : Addr} {xs : List V} (hm : (r, .list xs) ∈ D) : GM B n (.ref r) "append" D (.builtin "list.append") [.ref r] := fun s a A pl hA l ra Q h => by
  obtain ⟨us, c, e, il, q, hs⟩ := l.list hm
  (first | obtain rfl := ra.inv | obtain ⟨_, rfl⟩ := ra.inv)
  exact getMethod_list_append e rfl rfl (h _ (.cons (.ref _) .nil))
theorem gm_extend {r : Addr} {xs : List V} (hm : (r, .list xs) ∈ D) : GM B n (.ref r) "extend" D (.builtin "list.extend") [.ref r] := gm_list hm PySem.F.slot_list_extend PySem.F.type_list_extend
theorem gm_join {x : Str} : GM B n (.str x) "join" D (.builtin "str.join") [.str x] := fun s a A pl hA l ra Q h => by
  (first | obtain rfl := ra.inv | obtain ⟨_, rfl⟩ := ra.inv)
  exact GM.join (h _ (.cons (.str ..) .nil))
-- statements
theorem ex_expr' {Q : Loc → Led → Prop} {K : KS} {e : Expr} {pos : Pos} (h : EV B n env e m D fun v D' => v = .none ∧ Q m D') (hsw : swapsWith e none pos.line env = pure false := by rfl) : EX B n env (.Expr e pos) m D Q K := fun s hs =>
  ex_expr (h.mono fun v D' z53 => by obtain ⟨e, q⟩ := z53; subst e; exact ⟨by simp, by simp, by simp, by simp, by simp, q⟩) (by unfold interactive; rw [hs.kind]; rfl) hsw s hs
theorem ex_try {Q : Loc → Led → Prop} {K : KS} {b : List Stmt} {hd : List ExceptHandler} {pos : Pos} (h : EXS B n env b m D Q K) : EX B n env (.Try b hd [] [] pos) m D Q K := fun s hs => by
  show TX B n env (standAt pos >>= fun _ => tryStmt false (execs b env) hd (execs [] env) [] env) D s Q K
  refine TX.stand hs fun A hA => ?_
  unfold tryStmt
  simp only [List.isEmpty_nil, if_true]
  show wpAny _ A ((execs b env).attempt >>= _) _ _ _
  refine wpAny_bind (wpAny_attempt (wpAny_mono (h s hs A hA) (fun fl s' z54 => ?_) fun _ _ e => e.elim))
  obtain ⟨m', D', kf, h', t'⟩ := z54
  cases fl with
  | next => exact wpAny_execs_nil ⟨m', D', kf, h', t'⟩
  | brk => exact wpAny_pure ⟨m', D', kf, h', t'⟩
  | cont => exact wpAny_pure ⟨m', D', kf, h', t'⟩
  | ret v => exact wpAny_pure ⟨m', D', kf, h', t'⟩
/-- a store into a list or a dict -/
def ST (B : Base) (n : Nat) (x i v : V) (D : Led) (Q : Led → Prop) : Prop := ∀ s a b c, LH B D s → VR s.heap x a → VR s.heap i b → VR s.heap v c → TG B n (setItem a b c) D s fun _ D' _ => Q D'
theorem as_sub {Q : Loc → Led → Prop} {o i : Expr} {pos : Pos} {v : V} (h : EV B n env o m D fun x D₁ => EV B n env i m D₁ fun y D₂ => ST B n x y v D₂ fun D₃ => Q m D₃) : AS B n env (.Subscript o i pos) v m D Q := fun s r hs rv A hA => by
  rw [arm_assign_Subscript]
  refine wpAny_bind (wpAny_holding (wpAny_mono (h s hs A hA) (fun ov s₁ z55 => ?_) fun _ _ e => e))
  obtain ⟨D₁, ⟨x, q₁, rx⟩, l₁, t₁⟩ := z55
  have hs₁ := hs.step l₁ t₁
  refine wpAny_bind (wpAny_holding (wpAny_mono (q₁ s₁ hs₁ A hA) (fun iv s₂ z56 => ?_) fun _ _ e => e))
  obtain ⟨D₂, ⟨y, q₂, ry⟩, l₂, t₂⟩ := z56
  have hs₂ := hs₁.step l₂ t₂
  refine wpAny_bind (wpAny_standAt (wpAny_bind (wpAny_holding (wpAny_mono (q₂ s₂ ov iv r l₂ (rx.mono (t₂.tup l₁)) ry ((rv.mono (t₁.tup hs.lh)).mono (t₂.tup l₁)) A hA) (fun _ s₃ z57 => ?_) fun _ _ e => e))))
  obtain ⟨D₃, q₃, l₃, t₃⟩ := z57
  exact wpAny_release ⟨m, D₃, q₃, hs₂.step l₃ t₃, (t₁.trans (t₂.trans t₃)).frame⟩
theorem VRs.setD {h : Heap} {xs : List V} {vs : Array Value} (q : VRs h xs vs.toList) {i : Nat} {x : V} {v : Value} (r : VR h x v) : VRs h (xs.set i x) (vs.setIfInBounds i v).toList := by
  rw [Array.toList_setIfInBounds]; exact q.set i r
theorem st_list {r : Addr} {xs : List V} {i : Int} {v : V} {D' : Led} {Q : Led → Prop} (hs : SetD r (.list xs) (.list (xs.set i.toNat v)) D D') (h0 : 0 ≤ i) (h1 : i < xs.length) (h : Q D') (hf : i < 2 ^ 63 := by lia) : ST B n (.ref r) (.int i) v D Q := fun s a b c l ra rb rc A hA => by
  obtain ⟨us, k, e, q⟩ := l.led _ hs.old
  have hsz : us.size = xs.length := by rw [q.length]; simp
  (first | obtain rfl := ra.inv | obtain ⟨_, rfl⟩ := ra.inv); (first | obtain rfl := rb.inv | obtain ⟨_, rfl⟩ := rb.inv)
  refine ki_setAt e h0 hf (by rw [hsz]; exact h1) ?_
  have e3 := PySem.IsL.update e (·.setIfInBounds i.toNat c)
  obtain ⟨l', t'⟩ := l.set (s' := { s with heap := s.heap.update r (Obj.mapSeq (·.setIfInBounds i.toNat c)) }) hs rfl (fun d ob hd e => (Heap.get?_update_other _ _ (Ne.symm (by simpa [footO] using hd))).trans e) (fun kt => ⟨_, _, e3, VRs.setD (q.mono kt) (rc.mono kt)⟩) rfl rfl
  exact ⟨D', h, l', t'⟩
-- dicts by tuples of ints
theorem items_are {h : Heap} : ∀ {k : List Int} {vs : List Value}, VRs h (k.map V.int) vs → ItemsAre (PySem.intKind B.prog B.w) k vs := by
  intro k
  induction k with
  | nil => intro vs r; obtain rfl := r.inv; exact .nil
  | cons a ns ih => intro vs r; obtain ⟨v, ws, rfl, ra, rs⟩ := r.inv; obtain ⟨t, rfl⟩ := ra.inv; exact .cons (by show (a == a) = true; exact beq_self_eq_true a) (ih rs)
theorem key_of {s : Shared} {k : List Int} {v : Value} (r : VR s.heap (.tup (k.map .int)) v) : ∃ a, v = .ref a ∧ (tk B).is s.heap k a := by
  obtain ⟨a, items, rfl, ht, q⟩ := r.inv
  obtain ⟨o, e, c, nn, d⟩ := ht
  exact ⟨a, rfl, o, items, nn, e, c, d, items_are q⟩
theorem dsr_keys {h : Heap} : ∀ {es : List (List Int × V)} {xs : List (List Int × Addr × Value)}, DsR h es xs → xs.map (·.1) = es.map (·.1) := by
  intro es xs r
  induction r with
  | nil => rfl
  | cons _ _ ih => exact congrArg (List.cons _) ih
theorem dsr_append {h : Heap} : ∀ {es : List (List Int × V)} {xs : List (List Int × Addr × Value)} {k : List Int} {v : V} {a : Addr} {r : Value}, DsR h es xs → VR h v r → DsR h (es ++ [(k, v)]) (xs ++ [(k, a, r)]) := by
  intro es xs k v a r q rv
  induction q with
  | nil => exact .cons rv .nil
  | cons a _ ih => exact .cons a ih
theorem atKey_none {xs : List (List Int × Addr × Value)} {k : List Int} (h : k ∉ xs.map (·.1)) : atKey xs k = none :=
  atKey_none_of_get fun j p hj => h (List.mem_map.mpr ⟨_, List.mem_of_getElem? hj, rfl⟩)
theorem st_dict {d : Addr} {es : List (List Int × V)} {k : List Int} {v : V} {D' : Led} {Q : Led → Prop} (hs : SetD d (.dict es) (.dict (es ++ [(k, v)])) D D') (hn : k ∉ es.map (·.1)) (hz : es.length ≤ 16777216) (h : Q D') : ST B n (.ref d) (.tup (k.map .int)) v D Q := fun s a b c l ra rb rc A hA => by
  obtain ⟨xs, hd, q⟩ := l.led _ hs.old
  obtain ⟨key, rfl, hk⟩ := key_of (B := B) rb
  (first | obtain rfl := ra.inv | obtain ⟨_, rfl⟩ := ra.inv)
  have hx : k ∉ xs.map (·.1) := by rw [dsr_keys q]; exact hn
  have hlen : xs.length = es.length := by have := congrArg List.length (dsr_keys q); simpa using this
  refine wpAny_setItem_heap (knd := tk B) hA.room hk hd (fun h' hd' sb => ?_) (by rw [hlen, sizeLine_eq]; exact hz)
  rw [storedH_new (atKey_none hx)] at hd'
  obtain ⟨l', t'⟩ := l.set (s' := { s with heap := h', toks := s.toks + (tk B).draws k }) hs rfl (fun b ob hb e => (sb.2 b (by simpa [footO] using hb)).trans e) (fun kt => ⟨_, hd', dsr_append (q.mono kt) (rc.mono kt)⟩) rfl rfl
  exact ⟨D', h, l', t'⟩
theorem ev_dict0 {pos : Pos} (h : ∀ r, Q (.ref r) ((r, .dict []) :: D)) : EV B n env (.Dict [] [] pos) m D Q := fun s hs A hA => by
  have hl := hs.lh
  rw [eval_Dict_empty]
  refine wpAny_bind (wpAny_standAt ?_)
  unfold newDict
  refine wpAny_newObj_type ?_ (by simp [sizeOk, sizeLine])
  have hd : (s.heap.push { cls := .type "dict", dict := none, data := .dict #[] }).DictOfH (tk B) s.heap.objs.size [] := Heap.DictOfH.new s.heap
  obtain ⟨l', t'⟩ := hl.cons (s' := { s with heap := s.heap.push { cls := .type "dict", dict := none, data := .dict #[] } }) s.heap.objs.size (.dict []) (fun b hb => by simp [footO] at hb; subst hb; exact fresh_size) (by simp [footO]) (fun b o e => Heap.get?_push_of_some _ e) ⟨[], hd, .nil⟩ rfl rfl
  exact ⟨_, ⟨_, h _, .ref _⟩, l', t'⟩
end
end Mine
end
section
open PySem PySem.W PyProof.Rows PySem.Calls PySem.SeqAt
namespace Mine
section
variable {B : Base} {n : Nat} {env : Env} {m : Loc} {D : Led} {Q : V → Led → Prop}
theorem dsr_get {h : Heap} : ∀ {es : List (List Int × V)} {xs : List (List Int × Addr × Value)}, DsR h es xs → ∀ {i : Nat} {k : List Int} {v : V}, es[i]? = some (k, v) → ∃ a r, xs[i]? = some (k, a, r) ∧ VR h v r := by
  intro es xs q
  induction q with
  | nil => intro i k v e; cases e
  | cons a _ ih =>
    intro i k v e
    cases i with
    | zero => obtain ⟨rfl, rfl⟩ := Prod.mk.inj (Option.some.inj e); exact ⟨_, _, rfl, a⟩
    | succ i => exact ih e
theorem samePairs_ok {A : Around} {s : Shared} {a b : Addr} {es : List (List Int × V)} {xs ys : List (List Int × Addr × Value)} {nm : String} (ha : (a == sysModules) = false) (hb : (b == sysModules) = false)
    (da : s.heap.DictOfH (tk B) a xs) (db : s.heap.DictOfH (tk B) b ys) (qa : DsR s.heap es xs) (qb : DsR s.heap es ys) (hstr : ∀ p ∈ es, ∃ x, p.2 = .str x) (hu : A.units < cLine) {E : Value → Shared → Prop} {Q : Bool → Shared → Prop} (h : Q true s) :
    wpAny (model B.prog B.w) A (Builtin.Dict.samePairs nm a b) Q E s := by
  obtain ⟨oa, ea, ep, hoa, _, hda, hea, hka, hna⟩ := da
  obtain ⟨ob, eb, ep', hob, _, hdb, heb, hkb, hnb⟩ := db
  have hla : xs.length = es.length := by have := congrArg List.length (dsr_keys qa); simpa using this
  have hlb : ys.length = es.length := by have := congrArg List.length (dsr_keys qb); simpa using this
  have hsa : ea.size = es.length := by rw [size_of_entries hea, hla]
  have hsb : eb.size = es.length := by rw [size_of_entries heb, hlb]
  unfold Builtin.Dict.samePairs Builtin.Dict.showsAll
  rw [if_neg (show ¬ (a == sysModules) = true by rw [ha]; exact Bool.false_ne_true), if_neg (show ¬ (b == sysModules) = true by rw [hb]; exact Bool.false_ne_true)]
  refine wpAny_bind (wpAny_pure (wpAny_bind (wpAny_pure ?_)))
  refine wpAny_bind (wpAny_dictEntries hoa hda ?_)
  dsimp only
  refine wpAny_bind (wpAny_dictEntries hob hdb ?_)
  rw [if_neg (by rw [hsa, hsb]; simp)]
  refine wpAny_bind (wpAny_dictEpoch hoa hda ?_)
  refine wpAny_bind ?_
  rw [Std.Legacy.Range.forIn_eq_forIn_range']
  simp only [Std.Legacy.Range.size, Nat.sub_zero, Nat.add_sub_cancel, Nat.div_one]
  refine wpAny_forIn_list _
    (fun rest q s' => s' = s ∧ q = (none, ()) ∧ ∃ i, rest = List.range' i (ea.size - i) ∧ i ≤ ea.size)
    _ ?_ ?_ _ _ ⟨rfl, rfl, 0, by simp, Nat.zero_le _⟩
  · rintro x rest q s' ⟨rfl, rfl, i, hr, hi⟩
    have hlt : i < ea.size := by
      rcases Nat.lt_or_ge i ea.size with h | h
      · exact h
      · rw [Nat.sub_eq_zero_of_le h] at hr; simp at hr
    obtain ⟨rfl, hrest⟩ : x = i ∧ rest = List.range' (i + 1) (ea.size - (i + 1)) := by
      have e : ea.size - i = (ea.size - (i + 1)) + 1 := by lia
      rw [e, List.range'_succ] at hr
      injection hr with h1 h2
      exact ⟨h1, h2⟩
    have hx : x < es.length := by lia
    obtain ⟨⟨k, v⟩, hes⟩ : ∃ p, es[x] = p := ⟨_, rfl⟩
    have hget : es[x]? = some (k, v) := by rw [List.getElem?_eq_getElem hx, hes]
    obtain ⟨ax, rx, hax, vrx⟩ := dsr_get qa hget
    obtain ⟨ay, ry, hay, vry⟩ := dsr_get qb hget
    obtain ⟨st, rfl⟩ := hstr _ (List.mem_of_getElem? hget)
    have hexa : ea[x]? = some (entryOfKey (tk B) (k, ax, rx)) := by rw [entry_at hea, hax]; rfl
    have heyb : eb[x]? = some (entryOfKey (tk B) (k, ay, ry)) := by rw [entry_at heb, hay]; rfl
    refine wpAny_bind (wpAny_dictEntries hoa hda ?_)
    rw [hexa]
    show wpAny _ _ (holding _ _ >>= _) _ _ _
    have hkey : (tk B).is s'.heap k ax := hka _ (List.mem_of_getElem? hax)
    refine wpAny_bind (wpAny_holding (wpAny_bind (wpAny_dictFind_heap (knd := tk B) hu hkey hob hdb heb hkb hnb (fun hno => absurd hay (hno x (ay, ry))) fun j p hj => ?_)))
    have hjx : j = x := idxH_unique hnb hj hay
    subst hjx
    refine wpAny_bind (wpAny_dictEntries hob hdb ?_)
    rw [heyb]
    obtain ⟨t, rfl⟩ := vrx.inv
    obtain ⟨t', rfl⟩ := vry.inv
    refine wpAny_holding (wpAny_eqBool_str ?_)
    simp only [decide_true]
    show wpAny _ _ (if (!true) = true then _ else _) _ _ _
    rw [if_neg (by decide)]
    refine wpAny_bind (wpAny_dictEpoch hoa hda ?_)
    rw [if_neg (by simp)]
    exact wpAny_pure ⟨rfl, rfl, j + 1, hrest, hlt⟩
  · rintro q s' ⟨rfl, rfl, i, hr, hi⟩
    exact wpAny_pure h
theorem notModules {s : Shared} (l : LH B D s) {a : Addr} (h : a ∈ foot D) : (a == sysModules) = false := by
  refine beq_eq_false_iff_ne.mpr fun e => ?_
  obtain ⟨o, ho⟩ := l.ok.sys
  have := l.new a h
  rw [e, ho] at this; cases this
theorem cmp_eq_dict {a b : Addr} {es : List (List Int × V)} (h1 : (a, .dict es) ∈ D) (h2 : (b, .dict es) ∈ D) (hstr : ∀ p ∈ es, ∃ x, p.2 = .str x) (hq : Q (.bool true) D) : CMP B n .Eq (.ref a) (.ref b) D Q := fun s v w l rv rw' A hA => by
  obtain ⟨xs, da, qa⟩ := l.led _ h1
  obtain ⟨ys, db, qb⟩ := l.led _ h2
  have ha := notModules l (mem_foot.mpr ⟨_, h1, mem_footO ..⟩)
  have hb := notModules l (mem_foot.mpr ⟨_, h2, mem_footO ..⟩)
  (first | obtain rfl := rv.inv | obtain ⟨_, rfl⟩ := rv.inv); (first | obtain rfl := rw'.inv | obtain ⟨_, rfl⟩ := rw'.inv)
  refine wpAny_richCompare_same_room (op := .Eq) da.typeIs db.typeIs PySem.F.slot_dict_eq (wpAny_call_entry PySem.F.slot_dict_eq da.typeIs PySem.F.entry_dict_eq ?_ (PySem.F.args_dict_eq_2 _ _)) hA.units
  show wpAny _ _ (Builtin.Dict.dictSlotArgs "__eq__" ⟨[.ref a, .ref b], []⟩ >>= _) _ _ s
  refine wpAny_bind ?_
  unfold Builtin.Dict.dictSlotArgs
  refine wpAny_bind (wpAny_notOrdered_dict da.typeIs ?_)
  show wpAny _ _ (pure (Value.ref a, Value.ref b)) _ _ s
  refine wpAny_pure ?_
  refine wpAny_bind (wpAny_isInstance (T := "dict") db.typeIs PySem.F.sub_dict_dict ?_)
  simp only [Bool.not_true, Bool.false_eq_true, if_false]
  refine wpAny_bind (wpAny_pure (wpAny_bind (wpAny_pure ?_)))
  refine wpAny_bind (samePairs_ok ha hb da db qa qb hstr (by show A.units + 1 < _; exact hA.room) ?_)
  refine wpAny_pure ⟨_, rfl, ?_, ?_⟩
  · exact fun x => nomatch x
  · exact ne_step l hq
end
end Mine
end
section
open PySem PySem.W PyProof.Rows PySem.Calls PySem.SeqAt
namespace Mine
theorem len_bytes_lookup : typeLookup (.type "bytes") "__len__" = pure (some (.builtin "bytes.__len__")) := FB.slot_bytes_len.lookup
section
variable {prog : Program} {w : World} {A : Around} {E : Value → Shared → Prop} {s : Shared}
def ByteAt (b : Array UInt8) (i : Nat) (v : Value) : Prop := ∃ c u, b[i]? = some c ∧ v = .int (c.toNat : Int) u
theorem extend_bytes {R : Result → Shared → Prop} (hh : A.handled = none) (x : Array UInt8) (t : Tok) (S : Addr) (res : Value) (c₀ : Nat) (hS : s.heap.get? S = some { cls := .type "list", data := .seq #[] c₀ })
    (hR : ∀ h' tk acc' c', (∀ b o, b ≠ S → s.heap.get? b = some o → h'.get? b = some o) → h'.get? S = some { cls := .type "list", dict := none, data := .seq acc' c', slots := #[] } →
      ItemsOf (ByteAt x) acc' x.size → R (.ok (.ret res)) { s with heap := h', toks := tk }) (hn : x.size ≤ sizeLine) :
    wpAny (model prog w) A.in1 (Builtin.List.listExtendWith (.ref S) (.bytes x t) res)
      (fun fin s' => match fin with | .done f => R (.ok f) s' | .again c' => c'.quiet = true ∧ codeAny (model prog w) A c' R s') (fun e s' => R (.error e) s') s := by
  have hSI : S ≠ s.heap.objs.size := Nat.ne_of_lt (Heap.lt_size hS)
  have hSf : S ∉ [s.heap.objs.size] := fun hm => hSI (List.mem_singleton.mp hm)
  unfold Builtin.List.listExtendWith
  refine wpAny_bind (wpAny_typeOf (T := "bytes") (v := .bytes x t) rfl ?_)
  have h1 : Builtin.List.listSameRef (.ref S) (.bytes x t) = false := rfl
  have h2 : (Value.type "bytes" == Value.type "list") = false := by decide
  have h3 : (Value.type "bytes" == Value.type "tuple") = false := by decide
  simp only [h1, h2, h3, Bool.or_false, Bool.false_eq_true, if_false]
  refine wpAny_bind (KBw.pyIter_bytes ?_)
  refine wpAny_bind (wpAny_holding ?_)
  unfold Builtin.List.listLengthHint
  refine wpAny_bind (wpAny_specialOf (T := "bytes") (v := .bytes x t) rfl len_bytes_lookup ?_)
  wp_delta
  refine wpAny_bind (wpAny_isInstance (T := "bytes") (v := .bytes x t) (b := true) rfl (by rw [isSubtype_type]; kernel_rfl) ?_)
  show wpAny _ _ (typeOf (Value.bytes x t) >>= _) _ _ _
  refine wpAny_bind (wpAny_typeOf (T := "bytes") (v := .bytes x t) rfl ?_)
  refine wpAny_pure ?_
  rw [if_neg (by decide)]
  refine wpAny_pure ⟨plainId_quiet PySem.F.plain_extend_loop _, codeAny_extend_loopS (KBw.walks (A := A.in1) hh s.heap.objs.size x t).toS hn _ hSf _ x.size 0 _ _ _ rfl (Nat.zero_le _) ⟨_, Heap.get?_push_size _ rfl, rfl, rfl⟩ (Heap.get?_push_of_some _ hS) (ItemsOf.nil _) fun s' acc' c' hm hS' hacc => ?_⟩
  rw [Moved.eq_with hm]
  refine hR s'.heap s'.toks acc' c' (fun b ob hb e => hm.heap b ob (fun hmem => ?_) (Heap.get?_push_of_some _ e)) hS' hacc
  rcases List.mem_cons.mp hmem with e' | hmem
  · exact hb e'
  · exact absurd (Heap.lt_size e) (by rw [List.mem_singleton.mp hmem]; exact Nat.lt_irrefl _)
theorem list_init_bytes {R : Result → Shared → Prop} (hh : A.handled = none) (x : Array UInt8) (t : Tok) (S : Addr) (hS : s.heap.get? S = some { cls := .type "list", data := .seq #[] })
    (hR : ∀ h' tk acc' c', (∀ b o, b ≠ S → s.heap.get? b = some o → h'.get? b = some o) → h'.get? S = some { cls := .type "list", dict := none, data := .seq acc' c', slots := #[] } →
      ItemsOf (ByteAt x) acc' x.size → R (.ok (.ret .none)) { s with heap := h', toks := tk }) (hn : x.size ≤ sizeLine) :
    wpAny (model prog w) A.in1 (Builtin.«list.__init__» ⟨[.ref S, .bytes x t], []⟩)
      (fun fin s' => match fin with | .done f => R (.ok f) s' | .again c' => c'.quiet = true ∧ codeAny (model prog w) A c' R s') (fun e s' => R (.error e) s') s := by
  show wpAny _ _ (do let old ← Builtin.List.listItems (.ref S); Builtin.List.listUpdate (.ref S) (fun _ => #[]); letGo old.toList.reverse; Builtin.List.listExtendWith (.ref S) (.bytes x t) .none) _ _ s
  refine wpAny_bind ?_
  unfold Builtin.List.listItems
  refine wpAny_bind (wpAny_seqItems hS rfl (wpAny_pure ?_))
  show wpAny _ _ (updateSeq S (fun _ => #[]) >>= fun _ => letGo (#[] : Array Value).toList.reverse >>= fun _ => Builtin.List.listExtendWith (.ref S) (.bytes x t) .none) _ _ s
  refine wpAny_bind (wpAny_updateSeq hS rfl ?_)
  have hS₂ := Heap.get?_update_self (Obj.mapSeq (fun _ => (#[] : Array Value))) hS rfl
  have oth : ∀ b o, b ≠ S → s.heap.get? b = some o → (s.heap.update S (Obj.mapSeq (fun _ => (#[] : Array Value)))).get? b = some o :=
    fun b o hb e => (Heap.get?_update_other _ _ (Ne.symm hb)).trans e
  refine wpAny_bind (wpAny_letGo ?_)
  refine extend_bytes (hn := hn) hh x t S .none _ hS₂ fun h' tk acc' c' hk hS' hacc => ?_
  exact hR h' tk acc' c' (fun b o hb e => hk b o hb (oth b o hb e)) hS' hacc
theorem call_list_bytes {Q : Value → Shared → Prop} (hh : A.handled = none) (x : Array UInt8) (t : Tok)
    (hQ : ∀ h' tk acc' c', (∀ b o, s.heap.get? b = some o → h'.get? b = some o) →
      h'.get? s.heap.objs.size = some { cls := .type "list", dict := none, data := .seq acc' c', slots := #[] } → ItemsOf (ByteAt x) acc' x.size → Q (.ref s.heap.objs.size) { s with heap := h', toks := tk }) (hn : x.size ≤ sizeLine) :
    wpAny (model prog w) A (call (.type "list") [.bytes x t]) Q E s := by
  refine callType_codes (Q₁ := fun obj s₁ => obj = .ref s.heap.objs.size ∧ s₁ = { s with heap := s.heap.push { cls := .type "list", data := .seq #[] } }) PySem.F.called_list (PySem.F.typeCall_list_1 _) PySem.F.entry_list_init
    (code_list_new _ ⟨rfl, rfl⟩) fun obj s₁ h₁ => ?_
  obtain ⟨rfl, rfl⟩ := h₁
  have hS : (s.heap.push { cls := .type "list", data := .seq #[] }).get? s.heap.objs.size = some { cls := .type "list", data := .seq #[] } := Heap.get?_push_size _ rfl
  refine ⟨⟨_, hS, rfl⟩, PySem.F.args_list_init_2 _ _, list_init_bytes (A := A.in1) (hn := hn) hh x t _ hS fun h' tk acc' c' hk hS' hacc => ?_⟩
  exact ⟨rfl, hQ h' tk acc' c' (fun b o e => hk b o (Nat.ne_of_lt (Heap.lt_size e)) (Heap.get?_push_of_some _ e)) hS' hacc⟩
end
theorem am_keys : typeLookup (.type "list") "keys" = pure none := by rw [typeLookup_type, builtinLookup_eq_fast]; kernel_rfl
theorem vrs_of {h : Heap} : ∀ {xs : List V} {vs : List Value}, xs.length = vs.length → (∀ (j : Nat) (x : V) (v : Value), xs[j]? = some x → vs[j]? = some v → VR h x v) → VRs h xs vs := by
  intro xs
  induction xs with
  | nil =>
    intro vs hl _
    obtain rfl := List.eq_nil_of_length_eq_zero hl.symm
    exact .nil
  | cons x xs ih =>
    intro vs hl hv
    cases vs with
    | nil => cases hl
    | cons v vs => exact .cons (hv 0 x v rfl rfl) (ih (Nat.succ.inj hl) fun j a b e e' => hv (j + 1) a b e e')
section
variable {prog : Program} {w : World} {A : Around} {E : Value → Shared → Prop} {s : Shared}
theorem no_keys {a : Addr} {xs : Array Value} {k : Nat} {Q : Option Value → Shared → Prop} (hx : s.heap.get? a = some (listOf xs k)) (hA : A.handled = none)
    (h : ∀ h' tk, (∀ b o, s.heap.get? b = some o → h'.get? b = some o) → Q none { s with heap := h', toks := tk }) : wpAny (model prog w) A (getAttr? (.ref a) "keys") Q E s := by
  obtain ⟨hp, g, d, tk, os⟩ := s
  have hT : ∀ tk', (⟨hp, g, d, tk', os⟩ : Shared).TypeIs (.ref a) "list" := fun _ => ⟨_, hx, rfl⟩
  have f1 := PySem.sub_AttributeError
  have f3 := PySem.F.slot_list_getattribute.lookup
  have f4 := PySem.F.slot_list_getattribute.bind (.ref a)
  have f5 := PySem.am_list_getattr_none
  unfold getAttr? getAttrBy?
  refine wpAny_bind (wpAny_mkText ?_)
  refine wpAny_bind (wpAny_attempt ?_)
  unfold getAttrBy
  repeat (any_goals (first | assumption | exact hT _ | ((with_reducible show wpAny _ _ (call (Value.builtin "list.__getattribute__") _ _) _ _ _); refine call_meets PySem.F.slot_list_getattribute (hT _) PySem.am_entry_list_getattribute (PySem.F.args_list_getattribute_2 _ _) (PySem.meets_getattribute_miss_list a xs k #[] "keys" _ am_keys (by decide +kernel) (by decide +kernel)) ⟨hx, hA, fun h' tk' e hx' => ?_⟩) | wp_step))
  obtain ⟨t', u', he⟩ := hx'.there
  show wpAny _ _ (getattributeRaised _ _ _ _ _ _ _) _ _ _
  unfold getattributeRaised
  repeat (any_goals (first | assumption | wp_step))
  exact h _ _ hx'.keeps
end
section
variable {B : Base} {n : Nat} {env : Env} {m : Loc} {D : Led} {Q : V → Led → Prop}
theorem cl_list_byt {b : List UInt8} (hz : b.length ≤ 16777216) (h : ∀ q, Q (.ref q) ((q, .list (b.map fun c => V.int c.toNat)) :: D)) : CL B n (.raw (.type "list")) [.byt b] D Q := fun s f vs l ra rvs A hA => by
  obtain ⟨v, rfl, rv⟩ := one_arg rvs
  (first | obtain rfl := ra.inv | obtain ⟨_, rfl⟩ := ra.inv); obtain ⟨t, rfl⟩ := rv.inv
  refine call_list_bytes hA.h _ _ (fun h' tk acc' c' hk ho hi => ?_) (by simpa [sizeLine_eq] using hz)
  have vr : VRs s.heap (b.map fun c => V.int c.toNat) acc'.toList := by
    refine vrs_of (by simp [hi.1]) fun j x v e e' => ?_
    obtain ⟨c, u, hc, rfl⟩ := hi.2 j v (by simpa using e')
    simp only [List.getElem?_toArray] at hc
    rw [List.getElem?_map, hc] at e
    simp at e; subst e
    exact .int ..
  obtain ⟨l', t'⟩ := l.newList (s' := { s with heap := h', toks := tk }) vr ho hk rfl rfl
  exact ⟨_, ⟨_, h _, .ref _⟩, l', t'⟩
end
end Mine
end
section
open PySem PySem.W PyProof.Rows PySem.Calls PySem.SeqAt
namespace Mine
theorem upd_entry : entryFor table "dict.update.loop" = some Builtin.«dict.update.loop» := entryFor_of_tree (by kernel_rfl)
theorem upd_plain : plainId "dict.update.loop" = true := by decide +kernel
def pairV (p : List Int × V) : V := .tup [.tup (p.1.map .int), p.2]
section
variable {B : Base} {n : Nat} {env : Env} {m : Loc} {D : Led} {Q : V → Led → Prop}
theorem upd_loop {A : Around} (hA : A.handled = none) (hu : A.units + 1 < cLine) {es : List (List Int × V)} (hn : (es.map (·.1)).Nodup) (hz : es.length ≤ 16777216) {S I l : Addr} (hSI : S ≠ I) (hlI : l ≠ I) (hlS : l ≠ S) {vs : Array Value} {R : Result → Shared → Prop} :
    ∀ (k i : Nat) (s : Shared) (xs : List (List Int × Addr × Value)), es.length - i = k → i ≤ es.length → s.heap.IsList l vs → VRs s.heap (es.map pairV) vs.toList → s.heap.IsListIter I l i → s.heap.DictOfH (tk B) S xs → DsR s.heap (es.take i) xs →
      (∀ h' tk xs', (∀ b o, b ≠ S → b ≠ I → s.heap.get? b = some o → h'.get? b = some o) → h'.DictOfH (Mine.tk B) S xs' → DsR h' es xs' → R (.ok (.ret .none)) { s with heap := h', toks := tk }) →
      codeAny (model B.prog B.w) A (.builtin "dict.update.loop" ⟨[.ref S, .ref I, rawInt i, .none], []⟩) R s := by
  have hlen : ∀ s : Shared, VRs s.heap (es.map pairV) vs.toList → vs.size = es.length := fun s q => by have := q.length; simpa using this.symm
  intro k
  induction k with
  | zero =>
    intro i s xs hk hle hl hv hit hd q hR
    have hin : i = es.length := by lia
    subst hin
    refine codeAny_builtin upd_entry ?_
    rw [Around.under_plainId upd_plain _]
    show wpAny _ A.in1 (pyNext (.ref I) >>= _) _ _ s
    refine wpAny_bind (wpAny_pyNext_list_end hA hit hl (by simp [hlen s hv]) fun h' he => ?_)
    show wpAny _ A.in1 (Builtin.Dict.addKeywords S [] >>= fun _ => ret .none) _ _ _
    refine wpAny_bind (wpAny_pure (wpAny_pure ?_))
    have kt : TupKeep s.heap h' := fun b o hb hi => he b o (fun e => by
      obtain ⟨o', e', c, d⟩ := hit
      rw [e, e'] at hb; cases hb
      rcases hi with ⟨c', _⟩ | ⟨c', _⟩ | ⟨c', _⟩ <;> rw [c] at c' <;> simp at c') hb
    rw [List.take_length] at q
    obtain ⟨o, en, ep, ho, ex, hdd, hee, hkk, hnn⟩ := hd
    refine hR h' s.toks xs (fun b o _ hb e => he b o hb e) ⟨o, en, ep, he S o hSI ho, ex, hdd, hee, fun y hy => ?_, hnn⟩ (q.mono kt)
    obtain ⟨o', items, n', ho', hc', hd', hi'⟩ := hkk y hy
    exact ⟨o', items, n', kt _ _ ho' (.inl ⟨hc', _, _, hd'⟩), hc', hd', hi'⟩
  | succ k ih =>
    intro i s xs hk hle hl hv hit hd q hR
    have hlt : i < es.length := by lia
    obtain ⟨⟨key, val⟩, he⟩ : ∃ p, es[i]? = some p := ⟨es[i], List.getElem?_eq_getElem hlt⟩
    obtain ⟨v, hvv, rv⟩ := hv.at (i := i) (x := pairV (key, val)) (by rw [List.getElem?_map, he]; rfl)
    refine codeAny_builtin upd_entry ?_
    rw [Around.under_plainId upd_plain _]
    show wpAny _ A.in1 (pyNext (.ref I) >>= _) _ _ s
    refine wpAny_bind (wpAny_pyNext_list_item hit hl hvv fun h₁ hit₁ sb => ?_)
    have kt : TupKeep s.heap h₁ := fun b o hb hi => (sb.2 b (fun e => by
      obtain ⟨o', e', c, d⟩ := hit
      rw [e, e'] at hb; cases hb
      rcases hi with ⟨c', _⟩ | ⟨c', _⟩ | ⟨c', _⟩ <;> rw [c] at c' <;> simp at c')).trans hb
    have rv₁ := rv.mono kt
    obtain ⟨pa, items, rfl, ht, vr⟩ := rv₁.inv
    obtain ⟨kv, hk0, rk⟩ := vr.at (i := 0) rfl
    obtain ⟨vv, hv0, rvv⟩ := vr.at (i := 1) rfl
    have hsz := vr.length
    have hit2 : items.toList = [kv, vv] := by
      match hh : items.toList, hsz with
      | [a, b], _ =>
        have ha : items[0]? = some a := by rw [← Array.getElem?_toList, hh]; rfl
        have hb : items[1]? = some b := by rw [← Array.getElem?_toList, hh]; rfl
        rw [ha] at hk0; rw [hb] at hv0; cases hk0; cases hv0; rfl
    obtain ⟨ka, rfl, hkey⟩ := key_of (B := B) (s := { s with heap := h₁ }) rk
    show wpAny _ A.in1 (holding [.ref pa] _ >>= _) _ _ { s with heap := h₁ }
    obtain ⟨o, ho, hc, nn, hdat⟩ := ht
    have hd₁ : h₁.DictOfH (tk B) S xs := by
      obtain ⟨o, en, ep, ho, ex, hdd, hee, hkk, hnn⟩ := hd
      refine ⟨o, en, ep, (sb.2 S hSI).trans ho, ex, hdd, hee, fun y hy => ?_, hnn⟩
      obtain ⟨o', items, n', ho', hc', hd', hi'⟩ := hkk y hy
      exact ⟨o', items, n', kt _ _ ho' (.inl ⟨hc', _, _, hd'⟩), hc', hd', hi'⟩
    have hx : key ∉ xs.map (·.1) := by
      rw [dsr_keys q]
      intro hm
      obtain ⟨p, hp, e⟩ := List.mem_map.mp hm
      obtain ⟨j, hj⟩ := List.mem_iff_getElem?.mp hp
      have hji : j < i := by have := lt_of_get hj; simp at this; lia
      rw [List.getElem?_take_of_lt hji] at hj
      have h1 : (es.map (·.1))[j]? = some key := by rw [List.getElem?_map, hj, ← e]; rfl
      have h2 : (es.map (·.1))[i]? = some key := by rw [List.getElem?_map, he]; rfl
      have := (List.getElem?_inj (lt_of_get h1) hn).mp (h1.trans h2.symm)
      lia
    have hxl : xs.length = i := by have := congrArg List.length (dsr_keys q); simp at this; lia
    refine wpAny_bind (wpAny_holding (wpAny_bind (wpAny_tryCatch ?_)))
    show wpAny _ A.in1 (Builtin.Dict.pairItems (.ref pa)) _ _ _
    unfold Builtin.Dict.pairItems
    refine wpAny_bind (wpAny_typeOf (T := "tuple") ⟨o, ho, hc⟩ ?_)
    refine wpAny_ite ?_
    rw [if_pos (by decide)]
    refine wpAny_bind (wpAny_seqItems ho hdat (wpAny_pure ?_))
    simp only [Option.getD_some, hit2]
    refine wpAny_holding ?_
    refine wpAny_dictSet_heap (knd := tk B) (show A.in1.units < cLine from hu) hkey hd₁ (fun h₂ hd₂ sb₂ => ?_) (by rw [hxl, sizeLine_eq]; lia)
    rw [storedH_new (atKey_none hx)] at hd₂
    have kt₂ : TupKeep h₁ h₂ := fun b o hb hi => (sb₂.2 b (fun e => by
      obtain ⟨o', en, ep, e', ex, _⟩ := hd₁
      rw [e, e'] at hb; cases hb
      rcases hi with ⟨c', _⟩ | ⟨c', _⟩ | ⟨c', _⟩ <;> rw [ex.1] at c' <;> simp at c')).trans hb
    have kx : ∀ b o, b ≠ S → b ≠ I → s.heap.get? b = some o → h₂.get? b = some o := fun b o h1 h2 e => (sb₂.2 b h1).trans ((sb.2 b h2).trans e)
    refine wpAny_pure ⟨plainId_quiet upd_plain _, ?_⟩
    have hnext := ih (i + 1) { s with heap := h₂, toks := s.toks + (tk B).draws key } (xs ++ [(key, ka, vv)]) (by lia) (by lia) (hl.at fun o e => kx l o hlS hlI e) (hv.mono fun a o ho hi => kt₂ a o (kt a o ho hi) hi)
      (hit₁.at fun o e => (sb₂.2 I (Ne.symm hSI)).trans e) hd₂ (by
        rw [List.take_add_one, he]
        exact dsr_append (q.mono fun a o ho hi => kt₂ a o (kt a o ho hi) hi) (rvv.mono kt₂)) fun h' tk' xs' hk' hd' q' => hR h' tk' xs' (fun b o h1 h2 e => hk' b o h1 h2 (kx b o h1 h2 e)) hd' q'
    exact hnext
end
end Mine
end
section
open PySem PySem.W PyProof.Rows PySem.Calls PySem.SeqAt
namespace Mine
section
variable {B : Base} {n : Nat} {env : Env} {m : Loc} {D : Led} {Q : V → Led → Prop}
theorem cl_dict {r : Addr} {es : List (List Int × V)} (hm : (r, .list (es.map pairV)) ∈ D) (hn : (es.map (·.1)).Nodup) (hz : es.length ≤ 16777216) (h : ∀ q, Q (.ref q) ((q, .dict es) :: D)) : CL B n (.raw (.type "dict")) [.ref r] D Q := fun s f vs l ra rvs A hA => by
  obtain ⟨v, rfl, rv⟩ := one_arg rvs
  obtain ⟨us, c, e, il, q, hs⟩ := l.list hm
  (first | obtain rfl := ra.inv | obtain ⟨_, rfl⟩ := ra.inv); (first | obtain rfl := rv.inv | obtain ⟨_, rfl⟩ := rv.inv)
  have hfr : s.heap.get? s.heap.objs.size = none := fresh_size
  refine callType_codes (Q₁ := fun obj s₁ => obj = .ref s.heap.objs.size ∧ s₁ = { s with heap := s.heap.push { cls := .type "dict", data := .dict #[] } }) PySem.F.kt_called_dict (PySem.F.kt_typeCall_dict_1 _) PySem.F.entry_dict_init (kt_code_dict_new _ ⟨rfl, rfl⟩) ?_
  rintro obj s₁ ⟨rfl, rfl⟩
  have hnew : (s.heap.push { cls := .type "dict", data := .dict #[] }).DictOfH (tk B) s.heap.objs.size [] := Heap.DictOfH.new s.heap
  have hne : r ≠ s.heap.objs.size := fun q => by rw [q, hfr] at e; cases e
  have kp : ∀ b o, s.heap.get? b = some o → (s.heap.push { cls := .type "dict", data := .dict #[] }).get? b = some o := fun b o e => Heap.get?_push_of_some _ e
  have il' : (s.heap.push { cls := .type "dict", data := .dict #[] }).IsList r us := il.push _
  have e' := kp _ _ e
  generalize hS : s.heap.objs.size = S at hnew hne hfr
  generalize hH : s.heap.push { cls := .type "dict", data := .dict #[] } = H at hnew kp il' e'
  refine ⟨hnew.typeIs, PySem.F.args_dict_init_2 _ _, ?_⟩
  unfold Builtin.«dict.__init__»
  refine wpAny_bind ?_
  unfold Builtin.Dict.selfAndRest
  refine wpAny_bind (wpAny_notOrdered_dict hnew.typeIs ?_)
  show wpAny _ _ (pure (S, [Value.ref r])) _ _ _
  refine wpAny_pure ?_
  show wpAny _ _ (Builtin.Dict.updateFrom "dict.__init__" S (.ref r) [] .none) _ _ _
  unfold Builtin.Dict.updateFrom
  refine wpAny_bind (wpAny_typeOf il'.typeIs ?_)
  rw [if_pos (by decide)]
  refine wpAny_bind (no_keys (s := { s with heap := H }) e' hA.h fun h₁ tk₁ hk₁ => ?_)
  simp only [Option.isNone_none, if_true]
  refine wpAny_bind (wpAny_rule (wpAny_bind (wpAny_pyIter_list (il'.at fun o e => hk₁ _ o e) ?_)))
  have fresh₁ : h₁.get? h₁.objs.size = none := fresh_size
  have hSh : ∃ o, h₁.get? S = some o := by obtain ⟨o, _, _, ho, _⟩ := hnew; exact ⟨o, hk₁ _ _ ho⟩
  have kt : ∀ b o, s.heap.get? b = some o → (h₁.push { cls := .type "list_iterator", data := .fields #[.ref r, .int 0 0] }).get? b = some o := fun b o e => Heap.get?_push_of_some _ (hk₁ _ _ (kp _ _ e))
  have hSI : S ≠ h₁.objs.size := fun q => by obtain ⟨o, ho⟩ := hSh; rw [q, fresh₁] at ho; cases ho
  have hlI : r ≠ h₁.objs.size := fun q => by have := hk₁ _ _ e'; rw [q, fresh₁] at this; cases this
  have nI : s.heap.get? h₁.objs.size = none := by
    cases q : s.heap.get? h₁.objs.size with
    | none => rfl
    | some o => have := hk₁ _ _ (kp _ _ q); rw [fresh₁] at this; cases this
  have hd₂ : (h₁.push { cls := .type "list_iterator", data := .fields #[.ref r, .int 0 0] }).DictOfH (tk B) S [] := by
    obtain ⟨o, en, ep, ho, ex, hdd, hee, hkk, hnn⟩ := hnew
    exact ⟨o, en, ep, Heap.get?_push_of_some _ (hk₁ _ _ ho), ex, hdd, hee, fun y hy => (nomatch hy), hnn⟩
  refine wpAny_pure ⟨plainId_quiet upd_plain _, upd_loop (B := B) (A := A.in1) hA.h (by show A.units + 1 + 1 < cLine; have := hA.roomE (k := 2) (by decide); lia) hn hz hSI hlI hne es.length 0 { s with heap := h₁.push { cls := .type "list_iterator", data := .fields #[.ref r, .int 0 0] }, toks := tk₁ } [] (by lia) (Nat.zero_le _) ((il'.at fun o e => hk₁ _ o e).push _) (q.mono fun a o ho _ => kt a o ho) ⟨_, Heap.get?_push_size _ rfl, rfl, rfl⟩ hd₂ .nil fun h₂ tk₂ xs' hk₂ hd' q' => ?_⟩
  have keep : ∀ b o, s.heap.get? b = some o → h₂.get? b = some o := fun b o e => hk₂ b o (fun q => by rw [q, hfr] at e; cases e) (fun q => by rw [q, nI] at e; cases e) (kt b o e)
  obtain ⟨l', t'⟩ := l.cons (s' := { s with heap := h₂, toks := tk₂ }) S (.dict es) (fun b hb => by simp [footO] at hb; subst hb; exact hfr) (by simp [footO]) keep ⟨xs', hd', q'⟩ rfl rfl
  exact ⟨rfl, _, ⟨_, h _, .ref _⟩, l', t'⟩
end
end Mine
end
section
open PySem PySem.W PyProof.Rows PySem.Calls PySem.SeqAt
namespace Mine
def putF (name : Str) (v : V) : List (Str × V) → List (Str × V)
  | [] => [(name, v)]
  | (x, u) :: r => if x == name then (x, v) :: r else (x, u) :: putF name v r
theorem fsr_find {P : Params} {h : Heap} {name : Str} : ∀ {fs : List (Str × V)} {es : List DictEntry}, FsR P h fs es →
    (∀ v, fs.lookup name = some v → ∃ e, es.find? (·.key.isStr name) = some e ∧ VR h v e.val) ∧ (fs.lookup name = none → es.find? (·.key.isStr name) = none ∧ es.any (·.refKey) = false) := by
  intro fs es q
  induction q with
  | nil => exact ⟨fun _ h => (nomatch h), fun _ => ⟨rfl, rfl⟩⟩
  | @cons x v t r fs es a _ ih =>
    have hk : ∀ e : Value, (DictEntry.mk (PyData.keyHash P x) (.str x t) e).key.isStr name = (x == name) := fun e => rfl
    rw [List.lookup_cons, List.find?_cons, hk, List.any_cons, BEq.comm (a := name)]
    by_cases hx : (x == name) = true
    · rw [hx]
      exact ⟨fun w hw => ⟨_, rfl, Option.some.inj hw ▸ a⟩, fun hn => nomatch hn⟩
    · rw [Bool.not_eq_true] at hx
      rw [hx]
      exact ⟨ih.1, fun hn => ⟨(ih.2 hn).1, by rw [(ih.2 hn).2]; rfl⟩⟩
theorem fsr_put {P : Params} {h : Heap} {name : Str} {v : V} {r : Value} {tk : Tok} : ∀ {fs : List (Str × V)} {es : List DictEntry}, FsR P h fs es → VR h v r → FsR P h (putF name v fs) (putL name (PyData.keyHash P name) (.str name tk) r es) := by
  intro fs es q rv
  induction q with
  | nil => exact .cons rv .nil
  | @cons x u t w fs es a b ih =>
    unfold putF putL
    rw [show (Value.str x t).isStr name = (x == name) from rfl]
    by_cases hx : (x == name) = true
    · rw [if_pos hx, if_pos hx]; exact .cons rv b
    · rw [if_neg hx, if_neg hx]; exact .cons a ih
theorem fsr_len {P : Params} {h : Heap} : ∀ {fs : List (Str × V)} {es : List DictEntry}, FsR P h fs es → es.length = fs.length := by
  intro fs es q
  induction q with
  | nil => rfl
  | cons _ _ ih => exact congrArg (· + 1) ih
section
variable {prog : Program} {w : World} {A : Around} {E : Value → Shared → Prop} {s : Shared} {K : Frag} {x C dx : Addr} {es : List DictEntry} {n : Nat} {name : Str} {v : Value} {R : Result → Shared → Prop}
theorem osa_mine {tk : Tok} (X : K.In s.heap) (I : InstAt s.heap x (instObj C dx) C (some (dictOf es n))) (hp : plainOver K C = true) (ht : takerIn K C name = some none) (hh : (clsIn K C).any (·.hasDict) = true)
    (hl : (getL name es).isSome = true) (hz : (putL name (PyData.keyHash w.params name) (.str name s.toks) v es).length ≤ 1000)
    (h : R (.ok (.ret .none)) { s with heap := s.heap.update dx (Obj.putName name (PyData.keyHash w.params name) (.str name s.toks) v), toks := s.toks + 1 }) :
    codeAny (model prog w) A (.call (.builtin "object.__setattr__") ⟨[.ref x, .str name tk, v], []⟩) R s := by
  refine osa_open X I hp ht fun b => ?_
  obtain ⟨cd, hc, hd'⟩ : ∃ cd, clsIn K C = some cd ∧ cd.hasDict = true := by
    cases q : clsIn K C with
    | none => rw [q] at hh; cases hh
    | some cd => rw [q] at hh; exact ⟨cd, rfl, hh⟩
  obtain ⟨hx, hcl, hn, D⟩ := I
  have D : s.heap.get? dx = some (dictOf es n) := D
  have D' : (s.heap.update dx (Obj.putName name (PyData.keyHash w.params name) (.str name s.toks) v)).get? dx = some (dictOf (putL name (PyData.keyHash w.params name) (.str name s.toks) v es) (putN name es n)) := by
    rw [← putName_dict]
    exact Heap.get?_update_self _ D (by rw [putName_dict]; rfl)
  refine wpAny_bind (wpAny_pure (wpAny_bind (wpAny_bind (wpAny_loadPart hx (wpAny_bind ((looks_clsIn X hc).here ?_))))))
  rw [hd']
  refine wpAny_pure (a := some dx) (wpAny_bind (wpAny_pure (wpAny_bind ?_)))
  unfold nsSet
  refine wpAny_bind (wpAny_bind (wpAny_askSetting (wpAny_pure (wpAny_bind (wpAny_mkText (wpAny_bind (wpAny_loadPart D ?_)))))))
  dsimp only
  have c : (!es.toArray.any (·.key.isStr name) && es.toArray.any (·.refKey)) = false := by
    rw [← Array.any_toList, ← Array.any_toList]
    unfold getL at hl
    split at hl
    · rename_i en he
      rw [List.any_eq_true.mpr ⟨en, List.mem_of_find?_eq_some he, List.find?_some he⟩]; rfl
    · split at hl
      · cases hl
      · rename_i z; rw [Bool.not_eq_true] at z; rw [z, Bool.and_false]
  rw [aRefKeyMayBeTheName_at, c]
  refine wpAny_updatePart D ?_
  refine wpAny_bind (wpAny_lookBehind D' (pastItsLine_dict (by rw [List.size_toArray, sizeLine_eq]; lia)) ?_)
  exact wpAny_pure h
end
section
variable {B : Base} {n : Nat} {env : Env} {m : Loc} {D : Led} {Q : V → Led → Prop}
theorem LH.inst {s : Shared} (l : LH B D s) {a C dx : Addr} {fs : List (Str × V)} (hm : (a, O.inst C dx fs) ∈ D) : ∃ es k, InstAt s.heap a (instObj C dx) C (some (dictOf es k)) ∧ FsR B.w.params s.heap fs es ∧ s.heap.get? dx = some (dictOf es k) := by
  obtain ⟨e, es, k, e2, r⟩ := l.led _ hm
  exact ⟨es, k, ⟨e, rfl, rfl, e2⟩, r, e2⟩
def handedV (x : V) : Bool := V.casesOn x false true (fun _ => true) (fun _ => true) (fun _ => true) (fun _ => true) (fun _ => true) (fun _ => true) (fun _ => false) (fun _ _ _ => false) (fun _ _ => false)
theorem handed_of {h : Heap} {x : V} {v : Value} (e : handedV x = true) (r : VR h x v) : handedIn v = true :=
  VR.casesOn (motive_1 := fun x v _ => handedV x = true → handedIn v = true) r (fun _ => rfl) (fun _ _ => rfl) (fun _ _ _ => rfl) (fun _ _ _ => rfl) (fun _ _ _ => rfl) (fun _ _ _ => rfl) (fun _ _ => rfl) (fun _ e => Bool.noConfusion e) (fun _ e => Bool.noConfusion e) (fun _ _ _ e => Bool.noConfusion e) e
/-- a field read -/
theorem ga_inst {a C dx : Addr} {fs : List (Str × V)} {name : Str} {v : V} {attr : Option Value} (hm : (a, .inst C dx fs) ∈ D) (hf : fs.lookup name = some v) (hg : plainGet B.K C name = true) (hh : hasDictIn B.K C = true) (ha : findIn B.K (.ref C) name = some attr) (hn : noGet B.K attr = true) (hv : handedV v = true) (h : Q v D) : GA B n (.ref a) name D Q := fun s b l ra A hA => by
  obtain ⟨es, k, I, r, _⟩ := l.inst hm
  (first | obtain rfl := ra.inv | obtain ⟨_, rfl⟩ := ra.inv)
  obtain ⟨e, he, vr⟩ := (fsr_find (name := name) r).1 v hf
  have hl : lookIn name (dictOf es k) = some (some e.val) := by rw [lookIn_dict]; unfold getL; rw [he]
  exact get_value (l.ok.k.keeps l.base) I (plainGet_of hg).1 (findObj_own hh ha hn hl) (handed_of hv vr) ⟨D, ⟨_, h, vr⟩, l.toks _, Tr.toks ..⟩
/-- a method of an own class -/
theorem gm_inst {a C dx f : Addr} {fs : List (Str × V)} {name : Str} (hm : (a, .inst C dx fs) ∈ D) (hno : fs.lookup name = none) (hg : plainGet B.K C name = true) (hf : findIn B.K (.ref C) name = some (some (.ref f))) (ht : isFn B.K (.ref f) = true) : GM B n (.ref a) name D (.ref f) [.ref a] := fun s b A pl hA l ra Q h => by
  obtain ⟨es, k, I, r, _⟩ := l.inst hm
  (first | obtain rfl := ra.inv | obtain ⟨_, rfl⟩ := ra.inv)
  obtain ⟨h1, h2⟩ := (fsr_find (name := name) r).2 hno
  have hl : getL name es = some none := by unfold getL; rw [h1]; simp [h2]
  exact method_fn (l.ok.k.keeps l.base) I (plainGet_of hg).1 (plainGet_of hg).2 hf (beq_iff_eq.mp ht) (by show (lookIn name (dictOf es k)).map _ = _; rw [lookIn_dict, hl]; rfl) (h _ (.cons (.ref _) .nil))
/-- a field stored -/
theorem as_attr {Q : Loc → Led → Prop} {o : Expr} {name : Str} {pos : Pos} {v : V} (h : EV B n env o m D fun x D₁ => ∃ a C dx fs D₂, x = .ref a ∧ SetD a (.inst C dx fs) (.inst C dx (putF name v fs)) D₁ D₂ ∧ fs.length ≤ 900 ∧
    findIn B.K (.ref C) "__setattr__" = some (some (.builtin "object.__setattr__")) ∧ plainOver B.K C = true ∧ takerIn B.K C name = some none ∧ hasDictIn B.K C = true ∧ Q m D₂) : AS B n env (.Attribute o name pos) v m D Q := fun s r hs rv A hA => by
  rw [arm_assign_Attribute]
  refine wpAny_bind (wpAny_holding (wpAny_mono (h s hs A hA) (fun ov s₁ z58 => ?_) fun _ _ e => e))
  obtain ⟨D₁, ⟨x, ⟨a, C, dx, fs, D₂, hx, hset, hlen, hsa, hp, ht, hh, q⟩, rx⟩, l₁, t₁⟩ := z58
  subst hx; (first | obtain rfl := rx.inv | obtain ⟨_, rfl⟩ := rx.inv)
  have hs₁ := hs.step l₁ t₁
  refine wpAny_bind (wpAny_standAt (wpAny_bind (wpAny_holding ?_)))
  obtain ⟨es, k, I, fr, hdx⟩ := l₁.inst hset.old
  have rv₁ := rv.mono (t₁.tup hs.lh)
  have X := l₁.ok.k.keeps l₁.base
  have hl : (getL name es).isSome = true := by
    unfold getL
    cases q : fs.lookup name with
    | none => obtain ⟨a, b⟩ := (fsr_find (name := name) fr).2 q; rw [a]; simp [b]
    | some u => obtain ⟨e, a, b⟩ := (fsr_find (name := name) fr).1 u q; rw [a]; rfl
  have hlen2 : ∀ (tk : Tok), (putL name (PyData.keyHash B.w.params name) (.str name tk) r es).length ≤ 1000 := fun tk => by
    rw [fsr_len (fsr_put (tk := tk) (name := name) fr rv₁)]
    have : ∀ (fs : List (Str × V)), (putF name v fs).length ≤ fs.length + 1 := by
      intro fs
      induction fs with
      | nil => simp [putF]
      | cons p r ih => obtain ⟨y, u⟩ := p; unfold putF; split <;> simp; lia
    have := this fs; lia
  refine set_plain X I hsa (osa_mine (s := { s₁ with toks := s₁.toks + 1 }) X I hp ht hh hl (hlen2 _) ?_)
  have D' : (s₁.heap.update dx (Obj.putName name (PyData.keyHash B.w.params name) (.str name (s₁.toks + 1)) r)).get? dx = some (dictOf (putL name (PyData.keyHash B.w.params name) (.str name (s₁.toks + 1)) r es) (putN name es k)) := by
    rw [← putName_dict]
    exact Heap.get?_update_self _ hdx (by rw [putName_dict]; rfl)
  have hne : a ≠ dx := by
    intro e
    have := l₁.nodup.sublist (foot_sublist (List.singleton_sublist.mpr hset.old))
    simp [foot, footO] at this
    exact this e
  obtain ⟨l₂, t₂⟩ := l₁.set (s' := { s₁ with heap := s₁.heap.update dx (Obj.putName name (PyData.keyHash B.w.params name) (.str name (s₁.toks + 1)) r), toks := s₁.toks + 1 + 1 }) hset rfl (fun b ob hb e => (Heap.get?_update_other _ _ (fun q => hb (by simp [footO, q]))).trans e)
    (fun kt => ⟨(Heap.get?_update_other _ _ (Ne.symm hne)).trans I.at_, _, _, D', fsr_put (fr.mono kt) (rv₁.mono kt)⟩) rfl rfl
  exact wpAny_release ⟨m, D₂, q, hs₁.step l₂ t₂, (t₁.trans t₂).frame⟩
end
end Mine
end
section
open PySem PySem.W PyProof.Rows PySem.Calls PySem.SeqAt
namespace Mine
section
variable {B : Base} {n : Nat} {env : Env} {m : Loc} {D : Led} {Q : V → Led → Prop}
/-- an own class called -/
theorem cl_class {C fI : Addr} {args : List V} (hm : makesIn B.K C = true) (hi : findIn B.K (.ref C) "__init__" = some (some (.ref fI))) (hf : typeIn B.K (.ref fI) = some (.type "function")) (hn : n < 60)
    (h : ∀ x dx, CLC B (n + 1) (.raw (.ref fI)) (.ref x :: args) ((x, .inst C dx []) :: D) fun r D' => r = .none ∧ Q (.ref x) D') : CL B n (.raw (.ref C)) args D Q := fun s a vs l ra rvs A hA => by
  (first | obtain rfl := ra.inv | obtain ⟨_, rfl⟩ := ra.inv)
  have X := l.ok.k.keeps l.base
  obtain ⟨hh, g, d, t, os⟩ := s
  refine wpAny_call (make_core (makes_of X hm) (looks_findIn X hi) (fun self => bind_fn X self hf) (.inl rfl) ?_)
  have f1 : hh.get? hh.objs.size = none := fresh_size
  have f2 : hh.get? (hh.objs.size + 1) = none := by
    cases q : hh.get? (hh.objs.size + 1) with
    | none => rfl
    | some o => exact absurd (Nat.lt_of_succ_lt (Heap.lt_size q)) (Nat.lt_irrefl _)
  have e1 : ((hh.push emptyDict).push (instObj C hh.objs.size)).get? (hh.objs.size + 1) = some (instObj C hh.objs.size) := by
    have := Heap.get?_push_size (hh.push emptyDict) (o := instObj C hh.objs.size) rfl
    rwa [Heap.size_push] at this
  have e2 : ((hh.push emptyDict).push (instObj C hh.objs.size)).get? hh.objs.size = some emptyDict := Heap.get?_push_of_some _ (Heap.get?_push_size _ rfl)
  obtain ⟨l', t'⟩ := l.cons (s' := ⟨(hh.push emptyDict).push (instObj C hh.objs.size), g, d, t, os⟩) (hh.objs.size + 1) (.inst C hh.objs.size []) (fun b hb => by
      simp only [footO, List.mem_cons, List.not_mem_nil, or_false] at hb
      rcases hb with rfl | rfl
      · exact f2
      · exact f1) (by simp [footO]) (fun b o e => Heap.get?_push_of_some _ (Heap.get?_push_of_some _ e)) ⟨e1, [], 0, e2, .nil⟩ rfl rfl
  have hA' : AOk (n + 1) (A.under (.builtin "type.__call__" ⟨.ref C :: vs, []⟩)) := by
    refine ⟨hA.h, ?_, ?_, hn⟩
    · have := hA.d
      have hw : (Code.builtin "type.__call__" ⟨.ref C :: vs, []⟩).weight = 1 := by rfl
      show A.depth + _ ≤ _
      rw [hw]; lia
    · have := hA.u
      have hw : (Code.builtin "type.__call__" ⟨.ref C :: vs, []⟩).cUnits ≤ 20 := by
        show 1 + 3 * (Code.builtin "type.__call__" ⟨.ref C :: vs, []⟩).frames ≤ 20
        have : (Code.builtin "type.__call__" ⟨.ref C :: vs, []⟩).frames = 0 := by rfl
        lia
      show A.units + _ ≤ _
      lia
  refine codeAny_mono (h (hh.objs.size + 1) hh.objs.size _ _ _ l' (.raw _) (.cons (.ref _) (rvs.mono (t'.tup l))) _ hA') (fun r s' hr => ?_)
  rcases r with e | (_ | _ | _ | v)
  · exact hr.elim
  · exact hr
  · exact hr
  · exact hr
  · obtain ⟨D', ⟨x, ⟨hx, q⟩, vx⟩, l₂, t₂⟩ := hr
    subst hx; (first | obtain rfl := vx.inv | obtain ⟨_, rfl⟩ := vx.inv)
    exact ⟨rfl, D', ⟨_, q, .ref _⟩, l₂, t'.trans t₂⟩
end
end Mine
end
section
open PySem PySem.W PyProof.Rows PySem.Calls
namespace Mine
abbrev P0 : Program := PySem.Challenge.pw_og0190_01
def sd (i : Nat) : Stmt := (P0.main.body.drop i).headD (.Pass default)
def cd (i j : Nat) : Stmt := match sd i with
  | .ClassDef _ _ _ b _ _ _ _ _ _ _ => (b.drop j).headD (.Pass default)
  | s => s
def fnO (st : Stmt) (qual : Str) (dV pm : Value) (code : Addr) : Obj := match st with
  | .FunctionDef name args body _ _ _ scope _ _ _ => { cls := .type "function", data := .func { name := name, qualname := qual, params := args, body := .stmts body, scope := scope, globals := 3, closure := [], defaults := dV, kwdefaults := .none, doc := .none, pyModule := pm, annotations := none, code := .ref code, closureTuple := .none, builtins := 0 } }
  | _ => { cls := .none }
noncomputable def kf (P : Params) : List (Addr × Obj) := [
  (74, { cls := .type "tuple", data := .seq #[.int 0 270, .int 9 271, .int 10 272, .int 12 273, .int 13 274, .int 32 275] }),
  (75, { cls := .type "tuple", data := .seq #[.int 40 277, .int 41 278, .int 60 279, .int 62 280, .int 91 281, .int 93 282, .int 123 283, .int 125 284, .int 47 285, .int 37 286] }),
  (82, fnO (sd 12) "is_white" (.none) (.str "paperhold.cursor" 268) 81),
  (89, fnO (sd 13) "is_regular" (.none) (.str "paperhold.cursor" 268) 88),
  (104, { cls := .type "tuple", data := .seq #[.int 0 329, .int (-1) 331] }),
  (111, fnO (cd 15 0) "Cursor.__init__" (.ref 104) (.str "paperhold.cursor" 268) 110),
  (118, fnO (cd 15 1) "Cursor.is_done" (.none) (.str "paperhold.cursor" 268) 117),
  (119, { cls := .type "tuple", data := .seq #[.int 0 349] }),
  (126, fnO (cd 15 2) "Cursor.peek" (.ref 119) (.str "paperhold.cursor" 268) 125),
  (133, fnO (cd 15 3) "Cursor.take" (.none) (.str "paperhold.cursor" 268) 132),
  (140, fnO (cd 15 4) "Cursor.starts" (.none) (.str "paperhold.cursor" 268) 139),
  (147, fnO (cd 15 5) "Cursor.skip" (.none) (.str "paperhold.cursor" 268) 146),
  (154, fnO (cd 15 6) "Cursor.skip_white" (.none) (.str "paperhold.cursor" 268) 153),
  (161, fnO (cd 15 7) "Cursor.take_regular" (.none) (.str "paperhold.cursor" 268) 160),
  (198, { cls := .type "dict", data := .dict [⟨PyData.keyHash P "__module__", .str "__module__" 324, .str "paperhold.cursor" 268⟩, ⟨PyData.keyHash P "__firstlineno__", .str "__firstlineno__" 328, .int 31 327⟩, ⟨PyData.keyHash P "__init__", .str "__init__" 341, .ref 111⟩, ⟨PyData.keyHash P "is_done", .str "is_done" 348, .ref 118⟩, ⟨PyData.keyHash P "peek", .str "peek" 358, .ref 126⟩, ⟨PyData.keyHash P "take", .str "take" 366, .ref 133⟩, ⟨PyData.keyHash P "starts", .str "starts" 374, .ref 140⟩, ⟨PyData.keyHash P "skip", .str "skip" 382, .ref 147⟩, ⟨PyData.keyHash P "skip_white", .str "skip_white" 390, .ref 154⟩, ⟨PyData.keyHash P "take_regular", .str "take_regular" 398, .ref 161⟩, ⟨PyData.keyHash P "skip_line_end", .str "skip_line_end" 405, .ref 168⟩, ⟨PyData.keyHash P "take_line", .str "take_line" 412, .ref 175⟩, ⟨PyData.keyHash P "number", .str "number" 421, .ref 182⟩, ⟨PyData.keyHash P "find", .str "find" 430, .ref 189⟩, ⟨PyData.keyHash P "find_last", .str "find_last" 438, .ref 196⟩, ⟨PyData.keyHash P "__static_attributes__", .str "__static_attributes__" 442, .ref 197⟩, ⟨PyData.keyHash P "__dict__", .str "__dict__" 444, .ref 200⟩, ⟨PyData.keyHash P "__weakref__", .str "__weakref__" 446, .ref 201⟩, ⟨PyData.keyHash P "__doc__", .str "__doc__" 447, .none⟩].toArray 4 }),
  (199, { cls := .type "type", data := .cls { name := "Cursor", bases := [.type "object"], mro := [.ref 199, .type "object"], ns := 198, qualname := "Cursor" }, slots := #[none, none, some (.str "Cursor" 317), some (.str "Cursor" 325), some (.builtin "object.__new__"), some (.bool true)] }),
  (315, fnO (sd 24) "read_decimal" (.none) (.str "paperhold.decimals" 450) 314),
  (316, { cls := .type "tuple", data := .seq #[.int 91 611, .int 93 612, .int 123 613, .int 125 614] }),
  (323, fnO (sd 34) "hex_worth" (.none) (.str "paperhold.lexer" 595) 322),
  (364, fnO (sd 40) "hex_string" (.none) (.str "paperhold.lexer" 595) 363),
  (371, fnO (sd 41) "run_token" (.none) (.str "paperhold.lexer" 595) 370),
  (378, fnO (sd 42) "delimited_token" (.none) (.str "paperhold.lexer" 595) 377),
  (385, fnO (sd 43) "next_token" (.none) (.str "paperhold.lexer" 595) 384),
  (399, fnO (cd 50 0) "CMap.__init__" (.none) (.str "paperhold.cmaps" 708) 398),
  (408, { cls := .type "dict", data := .dict [⟨PyData.keyHash P "__module__", .str "__module__" 727, .str "paperhold.cmaps" 708⟩, ⟨PyData.keyHash P "__firstlineno__", .str "__firstlineno__" 731, .int 319 730⟩, ⟨PyData.keyHash P "__init__", .str "__init__" 740, .ref 399⟩, ⟨PyData.keyHash P "told", .str "told" 747, .ref 406⟩, ⟨PyData.keyHash P "__static_attributes__", .str "__static_attributes__" 750, .ref 407⟩, ⟨PyData.keyHash P "__dict__", .str "__dict__" 752, .ref 410⟩, ⟨PyData.keyHash P "__weakref__", .str "__weakref__" 754, .ref 411⟩, ⟨PyData.keyHash P "__doc__", .str "__doc__" 755, .none⟩].toArray 4 }),
  (409, { cls := .type "type", data := .cls { name := "CMap", bases := [.type "object"], mro := [.ref 409, .type "object"], ns := 408, qualname := "CMap" }, slots := #[none, none, some (.str "CMap" 720), some (.str "CMap" 728), some (.builtin "object.__new__"), some (.bool true)] }),
  (418, fnO (sd 51) "utf16_units" (.none) (.str "paperhold.cmaps" 708) 417),
  (425, fnO (sd 52) "utf16" (.none) (.str "paperhold.cmaps" 708) 424),
  (432, fnO (sd 53) "code_of" (.none) (.str "paperhold.cmaps" 708) 431),
  (437, fnO (sd 54) "code_octets" (.none) (.str "paperhold.cmaps" 708) 436),
  (444, fnO (sd 55) "string_in" (.none) (.str "paperhold.cmaps" 708) 443),
  (451, fnO (sd 56) "code_in" (.none) (.str "paperhold.cmaps" 708) 450),
  (458, fnO (sd 57) "text_in" (.none) (.str "paperhold.cmaps" 708) 457),
  (465, fnO (sd 58) "is_part_end" (.none) (.str "paperhold.cmaps" 708) 464),
  (477, fnO (sd 60) "read_chars" (.none) (.str "paperhold.cmaps" 708) 476),
  (489, fnO (sd 62) "texts_that_run" (.none) (.str "paperhold.cmaps" 708) 488),
  (496, fnO (sd 63) "read_ranges" (.none) (.str "paperhold.cmaps" 708) 495),
  (503, fnO (sd 64) "read_cmap" (.none) (.str "paperhold.cmaps" 708) 502),
  (510, fnO (sd 65) "hex_text" (.none) (.str "paperhold.cmaps" 708) 509),
  (517, fnO (sd 66) "runs_on" (.none) (.str "paperhold.cmaps" 708) 516),
  (524, fnO (sd 67) "runs_of" (.none) (.str "paperhold.cmaps" 708) 523),
  (531, fnO (sd 69) "_law_draw" (.none) (.str "law_og0190_01" 910) 530),
  (538, fnO (sd 70) "_law_rows" (.none) (.str "law_og0190_01" 910) 537),
  (545, fnO (sd 71) "_law_is_range" (.none) (.str "law_og0190_01" 910) 544),
  (550, fnO (sd 72) "law" (.none) (.str "law_og0190_01" 910) 549)]
def kcodes : List (Addr × Str) := [(81, ("is_white" : Str)), (88, ("is_regular" : Str)), (110, ("Cursor.__init__" : Str)), (117, ("Cursor.is_done" : Str)), (125, ("Cursor.peek" : Str)), (132, ("Cursor.take" : Str)), (139, ("Cursor.starts" : Str)), (146, ("Cursor.skip" : Str)), (153, ("Cursor.skip_white" : Str)), (160, ("Cursor.take_regular" : Str)), (314, ("read_decimal" : Str)), (322, ("hex_worth" : Str)), (363, ("hex_string" : Str)), (370, ("run_token" : Str)), (377, ("delimited_token" : Str)), (384, ("next_token" : Str)), (398, ("CMap.__init__" : Str)), (417, ("utf16_units" : Str)), (424, ("utf16" : Str)), (431, ("code_of" : Str)), (436, ("code_octets" : Str)), (443, ("string_in" : Str)), (450, ("code_in" : Str)), (457, ("text_in" : Str)), (464, ("is_part_end" : Str)), (476, ("read_chars" : Str)), (488, ("texts_that_run" : Str)), (495, ("read_ranges" : Str)), (502, ("read_cmap" : Str)), (509, ("hex_text" : Str)), (516, ("runs_on" : Str)), (523, ("runs_of" : Str)), (530, ("_law_draw" : Str)), (537, ("_law_rows" : Str)), (544, ("_law_is_range" : Str)), (549, ("law" : Str))]
def kglobs : List (Str × Value) := [
  (("WHITE" : Str), (.ref 74 : Value)),
  (("DELIMITERS" : Str), (.ref 75 : Value)),
  (("LINE_FEED" : Str), (.int 10 288 : Value)),
  (("RETURN" : Str), (.int 13 290 : Value)),
  (("COMMENT" : Str), (.int 37 292 : Value)),
  (("is_white" : Str), (.ref 82 : Value)),
  (("is_regular" : Str), (.ref 89 : Value)),
  (("Cursor" : Str), (.ref 199 : Value)),
  (("MOST_FIGURES_decimals" : Str), (.int 40 452 : Value)),
  (("PLUS" : Str), (.int 43 454 : Value)),
  (("MINUS" : Str), (.int 45 456 : Value)),
  (("POINT" : Str), (.int 46 458 : Value)),
  (("ZERO" : Str), (.int 48 460 : Value)),
  (("read_decimal" : Str), (.ref 315 : Value)),
  (("PAREN" : Str), (.int 40 597 : Value)),
  (("CLOSE_PAREN" : Str), (.int 41 599 : Value)),
  (("LESS" : Str), (.int 60 601 : Value)),
  (("GREATER" : Str), (.int 62 603 : Value)),
  (("SLASH" : Str), (.int 47 605 : Value)),
  (("SIGNS" : Str), (.ref 316 : Value)),
  (("hex_worth" : Str), (.ref 323 : Value)),
  (("hex_string" : Str), (.ref 364 : Value)),
  (("run_token" : Str), (.ref 371 : Value)),
  (("delimited_token" : Str), (.ref 378 : Value)),
  (("next_token" : Str), (.ref 385 : Value)),
  (("MOST_LENGTH" : Str), (.int 4 710 : Value)),
  (("HEX_SIGNS" : Str), (.str "0123456789ABCDEF" 712 : Value)),
  (("HIGH_FIRST" : Str), (.int 55296 714 : Value)),
  (("LOW_FIRST" : Str), (.int 56320 716 : Value)),
  (("LOW_LAST" : Str), (.int 57343 718 : Value)),
  (("CMap" : Str), (.ref 409 : Value)),
  (("utf16_units" : Str), (.ref 418 : Value)),
  (("utf16" : Str), (.ref 425 : Value)),
  (("code_of" : Str), (.ref 432 : Value)),
  (("code_octets" : Str), (.ref 437 : Value)),
  (("string_in" : Str), (.ref 444 : Value)),
  (("code_in" : Str), (.ref 451 : Value)),
  (("text_in" : Str), (.ref 458 : Value)),
  (("is_part_end" : Str), (.ref 465 : Value)),
  (("read_chars" : Str), (.ref 477 : Value)),
  (("texts_that_run" : Str), (.ref 489 : Value)),
  (("read_ranges" : Str), (.ref 496 : Value)),
  (("read_cmap" : Str), (.ref 503 : Value)),
  (("hex_text" : Str), (.ref 510 : Value)),
  (("runs_on" : Str), (.ref 517 : Value)),
  (("runs_of" : Str), (.ref 524 : Value)),
  (("_law_draw" : Str), (.ref 531 : Value)),
  (("_law_rows" : Str), (.ref 538 : Value)),
  (("_law_is_range" : Str), (.ref 545 : Value)),
  (("law" : Str), (.ref 550 : Value))]
end Mine
end
section
open PySem PySem.W PyProof.Rows PySem.Calls
namespace Mine
def treeOf : Nat → List Obj → BT → BT
  | _, [], t => t
  | n, o :: l, t => treeOf (n + 1) l (t.ins n o)
def topRunT (tb : String → Option Builtin) (p : Program) (w : World) (n₀ : Nat) (ann : Option Value) : Nat → SharedT → Thread → Option SharedT
  | 0, _, _ => none
  | n + 1, s, t => match through t with
    | true => some s
    | false => match stepOk n₀ ann t with
      | false => none
      | true => match stepT (denote tb) p w s t with
        | some (s', t') => topRunT tb p w n₀ ann n s' t'
        | none => none
theorem topRunT_of {tb : String → Option Builtin} {p : Program} {w : World} {n₀ : Nat} {ann : Option Value} : ∀ {n : Nat} {s r : SharedT} {t : Thread}, topRunT tb p w n₀ ann n s t = some r → topRun tb p w n₀ ann n s.abs t = some r.abs
  | 0, _, _, _, h => by cases h
  | n + 1, s, r, t, h => by
    unfold topRunT at h
    unfold topRun
    cases he : through t with
    | true => rw [he] at h; cases h; rfl
    | false =>
      rw [he] at h
      cases hk : stepOk n₀ ann t with
      | false => rw [hk] at h; cases h
      | true =>
        rw [hk] at h
        cases hs : stepT (denote tb) p w s t with
        | none => rw [hs] at h; cases h
        | some x => obtain ⟨s₂, t₂⟩ := x; rw [hs] at h; rw [stepT_spec hs]; exact topRunT_of h
def q0 : Program := view P0 [72]
def loose0 : List Str := P0.boundNames.filter fun n => n != "law"
def mods0 : List Str := importedModules P0.main.body
noncomputable def S0 (w : World) (os : OsState) : SharedT := ⟨treeOf 0 (boot_heap w.params).objs.toList .nil, (boot_heap w.params).objs.size, (boot_heap w.params).life, #[], boot_drawn, boot_toks, os⟩
def nameAt (vs : Array Value) : Option Str := match vs[1]? with
  | some (Value.str q _) => some q
  | _ => none
def codeName (h : Heap) (c : Addr) : Option Str := match h.get? c with
  | some o => match o.data with
    | .fields vs => nameAt vs
    | _ => none
  | none => none
abbrev KObs := List (Option Obj) × List (Option Str) × List (Option Value) × Bool
def kaddrs : List Nat := [74, 75, 82, 89, 104, 111, 118, 119, 126, 133, 140, 147, 154, 161, 198, 199, 315, 316, 323, 364, 371, 378, 385, 399, 408, 409, 418, 425, 432, 437, 444, 451, 458, 465, 477, 489, 496, 503, 510, 517, 524, 531, 538, 545, 550]
noncomputable def kObs (s : Shared) : KObs := (kaddrs.map fun p => s.heap.get? p, kcodes.map fun p => codeName s.heap p.1, kglobs.map fun p => s.heap.nsMap mainGlobals p.1, (s.heap.get? sysModules).isSome)
noncomputable def kVal (P : Params) : KObs := ((kf P).map fun p => some p.2, kcodes.map fun p => some p.2, kglobs.map fun p => some p.2, true)
noncomputable def lhs0 (P0 : Program) (q0 : Program) (loose0 : List Str) (mods0 : List Str) (kObs : Shared → KObs) (w : World) (os : OsState) (S0 : SharedT) := (topRunT treeTable P0 w (boot_heap w.params).objs.size ((boot_heap w.params).nsMap mainGlobals "__annotations__") 7300 S0 (topStub P0)).map fun t =>
  (staticsOk (importedModules P0.main.body) (boot_heap w.params) t.abs.heap && namesBound P0 t.abs.heap && gensDone t.abs && laidKept (boot_heap w.params) t.abs.heap && (boot_heap w.params).isNs mainGlobals, openSeen q0 loose0 mods0 (fun s => recOk [] s) true t.abs, kObs t.abs)
noncomputable def rhs0 (w : World) := some (true, openGood q0 loose0, kVal w.params)
theorem lhs0_def : lhs0 = lhs0 := rfl
end Mine
name_quick lx190 for Mine.lhs0 by Mine.lhs0_def
noncomputable abbrev Mine.lhsP (w : World) (os : OsState) := Mine.lhs0 Mine.P0 Mine.q0 Mine.loose0 Mine.mods0 Mine.kObs w os (Mine.S0 w os)
set_option maxHeartbeats 0 in
theorem Mine.top_run : ∀ w os, PySem.W.Fast.lx190 Mine.P0 Mine.q0 Mine.loose0 Mine.mods0 Mine.kObs w os (Mine.S0 w os) = Mine.rhs0 w := fun w os => by kernel_rfl
end
section
open PySem PySem.W PyProof.Rows PySem.Calls
namespace Mine
theorem top_runs (w : World) (os : OsState) : lhsP w os = rhs0 w := by
  unfold lhsP
  rw [show lhs0 = PySem.W.Fast.lx190 from PySem.W.Fast.lx190_eq]
  exact top_run w os
theorem S0_abs (w : World) (os : OsState) : (S0 w os).abs = ⟨boot_heap w.params, #[], boot_drawn, boot_toks, os⟩ := by kernel_rfl
theorem boot_fits : opening P0 = plainProg P0.main.scope.names := by rfl
theorem boot_fence : ∀ s, fenceModules? P0 s = some s := by intro s; rfl
theorem left0 : ∀ w : World, (openEnds treeTable P0 w 7300).map (fun s => (openSeen q0 loose0 mods0 (fun s => recOk [] s) true s, (s.heap.isNs mainGlobals, kObs s))) = some (openGood q0 loose0, (true, kVal w.params)) := fun w => by
  obtain ⟨⟨h, gs, d, k, os⟩, e, e'⟩ := Option.map_eq_some_iff.mp (boot_open (p := P0) (N := 7300) boot_fits rfl boot_fence w)
  obtain ⟨rfl, rfl, rfl, rfl⟩ : h = boot_heap w.params ∧ gs = #[] ∧ d = boot_drawn ∧ k = boot_toks := by simpa using e'
  unfold openEnds
  rw [e, Option.bind_some]
  have r := top_runs w os
  unfold lhsP lhs0 rhs0 at r
  obtain ⟨t, r1, r2⟩ := Option.map_eq_some_iff.mp r
  have r3 := topRunT_of r1
  rw [S0_abs] at r3
  simp only [Prod.mk.injEq, Bool.and_eq_true] at r2
  obtain ⟨⟨⟨⟨⟨l1, l2⟩, l3⟩, l4⟩, l5⟩, g, ko⟩ := r2
  unfold topFrom
  dsimp only
  rw [show ((boot_heap w.params).isNs mainGlobals && (#[] : Array GenState).size == 0) = true from by rw [l5]; rfl]
  dsimp only
  rw [r3, Option.bind_some]
  rw [show (staticsOk (importedModules P0.main.body) (boot_heap w.params) t.abs.heap && namesBound P0 t.abs.heap && gensDone t.abs && laidKept (boot_heap w.params) t.abs.heap) = true from by rw [l1, l2, l3, l4]; rfl]
  have hg : t.abs.heap.isNs mainGlobals = true := (Bool.and_eq_true_iff.mp l2).1
  show some _ = some _
  dsimp only
  rw [g, ko, hg]
structure KSays (w : World) (h : Heap) : Prop where
  k : Frag.In (kf w.params) h
  c : ∀ p ∈ kcodes, h.CodeRec (.ref p.1) p.2
  g : ∃ mg, h.Ns mainGlobals mg ∧ ∀ p ∈ kglobs, mg p.1 = some p.2
  sys : ∃ o, h.get? sysModules = some o
theorem codeName_rec {h : Heap} {c : Addr} {q : Str} (e : codeName h c = some q) : h.CodeRec (.ref c) q := by
  unfold codeName at e
  split at e
  · rename_i o ho
    split at e
    · rename_i vs hd
      unfold nameAt at e
      split at e
      · rename_i q' t hv
        cases e
        exact ⟨c, o, vs, t, rfl, ho, hd, hv⟩
      · cases e
    · cases e
  · cases e
theorem map_all {α β γ : Type} {l : List α} {f : α → β} {g : α → β} (e : l.map f = l.map g) : ∀ p ∈ l, f p = g p := by
  induction l with
  | nil => intro p hp; cases hp
  | cons a r ih =>
    simp only [List.map_cons, List.cons.injEq] at e
    intro p hp
    rcases List.mem_cons.mp hp with rfl | hp
    · exact e.1
    · exact ih e.2 p hp
theorem ksays_of {w : World} {s : Shared} (hg : s.heap.isNs mainGlobals = true) (e : kObs s = kVal w.params) : KSays w s.heap := by
  unfold kObs kVal at e
  simp only [Prod.mk.injEq] at e
  obtain ⟨e1, e2, e3, e4⟩ := e
  refine ⟨Frag.in_of (as := kaddrs) rfl e1, fun p hp => codeName_rec (map_all (γ := Unit) e2 p hp), ⟨_, Heap.Ns.of_isNs hg, fun p hp => map_all (γ := Unit) e3 p hp⟩, Option.isSome_iff_exists.mp e4⟩
theorem KSays.keepsW (w : World) (h h' : Heap) (x : KSays w h) (k : ∀ b o, h.get? b = some o → h'.get? b = some o) : KSays w h' :=
  ⟨x.k.keeps k, fun p hp => (x.c p hp).keeps k, let ⟨mg, a, b⟩ := x.g; ⟨mg, a.keeps k, b⟩, let ⟨o, e⟩ := x.sys; ⟨o, k _ _ e⟩⟩
theorem KSays.keeps {w : World} {h h' : Heap} (x : KSays w h) (k : ∀ b o, h.get? b = some o → h'.get? b = some o) : KSays w h' :=
  ⟨x.k.keeps k, fun p hp => (x.c p hp).keeps k, let ⟨mg, a, b⟩ := x.g; ⟨mg, a.keeps k, b⟩, let ⟨o, e⟩ := x.sys; ⟨o, k _ _ e⟩⟩
theorem head0 {d : DefRec} {kwd : List (Str × Expr)} (hd : defOf q0 (Str.ofString "law") = some (d, kwd)) (hp : P0.theDef (Str.ofString "law") = some (d.params, d.body, d.scope)) (hk : kwWritten? d.params.kwonlyargs d.params.kw_defaults = some kwd)
    (said : PySem.Challenge.rw_og0190_01.row.wellSaid = true)
    (call : WalkO q0 loose0 (fun _ _ => True) KSays PySem.Challenge.rw_og0190_01.row.toRowW d kwd fun f vs => PySem.call f vs) : PySem.Challenge.rw_og0190_01.row.Holds := by
  refine holds_open (q := q0) (loose := loose0) (Xt := fun s => recOk [] s) (XP := fun _ _ => True) (Yf := fun s => (s.heap.isNs mainGlobals, kObs s)) (Ya := fun w => (true, kVal w.params)) (YP := KSays) (N := 7300) left0 ?of KSays.keepsW (fun _ _ => trivial) (fun _ _ _ _ _ => trivial) hd hp hk (fun s e => recFacts_of e) (by rfl) said (by decide +kernel) ⟨rfl, rfl, rfl, rfl, rfl, by decide +kernel⟩ ?hw call
  case of => exact fun w s e => ksays_of (congrArg Prod.fst e) (congrArg Prod.snd e)
  case hw => w_witness2
set_option maxHeartbeats 0 in
theorem law_said : PySem.Challenge.rw_og0190_01.wellSaid = true := by
  delta OpenLaw.wellSaid
  (repeat' (with_reducible refine look_both ?_ ?_))
  all_goals (try delta OpenRow.wellSaid)
  (repeat' (with_reducible refine look_both ?_ ?_))
  all_goals (try delta OpenRow.partSaid)
  (repeat' (with_reducible refine look_both ?_ ?_))
  all_goals (try delta looksOpen)
  (repeat' (with_reducible refine look_both ?_ ?_))
  all_goals decide +kernel
set_option maxHeartbeats 0 in
theorem head1 (call : ∀ {d : DefRec} {kwd : List (Str × Expr)}, defOf q0 (Str.ofString "law") = some (d, kwd) → WalkO q0 loose0 (fun _ _ => True) KSays PySem.Challenge.rw_og0190_01.row.toRowW d kwd fun f vs => PySem.call f vs) : PySem.Challenge.rw_og0190_01.Holds := by
  refine holds_law law_said fun said => ?_
  exact head0 (by rfl) (by rfl) (by rfl) said (call (by rfl))
end Mine
end
section
open PySem PySem.W PyProof.Rows PySem.Calls
namespace Mine
def gt : GT := [((Str.ofString "WHITE"), .tup ([0, 9, 10, 12, 13, 32].map V.int)),
  ((Str.ofString "DELIMITERS"), .tup ([40, 41, 60, 62, 91, 93, 123, 125, 47, 37].map V.int)),
  ((Str.ofString "LINE_FEED"), .int 10),
  ((Str.ofString "RETURN"), .int 13),
  ((Str.ofString "COMMENT"), .int 37),
  ((Str.ofString "MOST_FIGURES_decimals"), .int 40),
  ((Str.ofString "PLUS"), .int 43),
  ((Str.ofString "MINUS"), .int 45),
  ((Str.ofString "POINT"), .int 46),
  ((Str.ofString "ZERO"), .int 48),
  ((Str.ofString "PAREN"), .int 40),
  ((Str.ofString "CLOSE_PAREN"), .int 41),
  ((Str.ofString "LESS"), .int 60),
  ((Str.ofString "GREATER"), .int 62),
  ((Str.ofString "SLASH"), .int 47),
  ((Str.ofString "MOST_LENGTH"), .int 4),
  ((Str.ofString "HIGH_FIRST"), .int 55296),
  ((Str.ofString "LOW_FIRST"), .int 56320),
  ((Str.ofString "LOW_LAST"), .int 57343),
  ((Str.ofString "SIGNS"), .tup ([91, 93, 123, 125].map V.int)),
  ((Str.ofString "HEX_SIGNS"), .str (Str.ofString "0123456789ABCDEF")),
  ((Str.ofString "is_white"), .raw (.ref 82)),
  ((Str.ofString "is_regular"), .raw (.ref 89)),
  ((Str.ofString "read_decimal"), .raw (.ref 315)),
  ((Str.ofString "hex_worth"), .raw (.ref 323)),
  ((Str.ofString "hex_string"), .raw (.ref 364)),
  ((Str.ofString "run_token"), .raw (.ref 371)),
  ((Str.ofString "delimited_token"), .raw (.ref 378)),
  ((Str.ofString "next_token"), .raw (.ref 385)),
  ((Str.ofString "utf16_units"), .raw (.ref 418)),
  ((Str.ofString "utf16"), .raw (.ref 425)),
  ((Str.ofString "code_of"), .raw (.ref 432)),
  ((Str.ofString "code_octets"), .raw (.ref 437)),
  ((Str.ofString "string_in"), .raw (.ref 444)),
  ((Str.ofString "code_in"), .raw (.ref 451)),
  ((Str.ofString "text_in"), .raw (.ref 458)),
  ((Str.ofString "is_part_end"), .raw (.ref 465)),
  ((Str.ofString "read_chars"), .raw (.ref 477)),
  ((Str.ofString "texts_that_run"), .raw (.ref 489)),
  ((Str.ofString "read_ranges"), .raw (.ref 496)),
  ((Str.ofString "read_cmap"), .raw (.ref 503)),
  ((Str.ofString "hex_text"), .raw (.ref 510)),
  ((Str.ofString "runs_on"), .raw (.ref 517)),
  ((Str.ofString "runs_of"), .raw (.ref 524)),
  ((Str.ofString "_law_draw"), .raw (.ref 531)),
  ((Str.ofString "_law_rows"), .raw (.ref 538)),
  ((Str.ofString "_law_is_range"), .raw (.ref 545)),
  ((Str.ofString "law"), .raw (.ref 550)),
  ((Str.ofString "Cursor"), .raw (.ref 199)),
  ((Str.ofString "CMap"), .raw (.ref 409)),
  ((Str.ofString "len"), .raw (.builtin "len")),
  ((Str.ofString "abs"), .raw (.builtin "abs")),
  ((Str.ofString "min"), .raw (.builtin "min")),
  ((Str.ofString "ord"), .raw (.builtin "ord")),
  ((Str.ofString "chr"), .raw (.builtin "chr")),
  ((Str.ofString "isinstance"), .raw (.builtin "isinstance")),
  ((Str.ofString "int"), .raw (.type "int")),
  ((Str.ofString "list"), .raw (.type "list")),
  ((Str.ofString "bytes"), .raw (.type "bytes")),
  ((Str.ofString "dict"), .raw (.type "dict")),
  ((Str.ofString "range"), .raw (.type "range"))]
def bodyOf : Stmt → List Stmt
  | .FunctionDef _ _ b _ _ _ _ _ _ _ => b
  | _ => []
def scopeOf : Stmt → Scope
  | .FunctionDef _ _ _ _ _ _ s _ _ _ => s
  | _ => default
structure Is190 (B : Base) : Prop where
  k : B.K = kf B.w.params
  c : B.C = kcodes
  g : GOk B gt
def fdOf (o : Obj) : Option FuncData := match o.data with
  | .func fd => some fd
  | _ => none
def fnOkB (st : Stmt) (pars : List Str) : Bool := match st with
  | .FunctionDef _ _ _ _ _ _ s _ _ _ => !s.isCoroutine && !s.isGenerator && s.kind == .function && namesOkB s.names && pars.all fun x => match s.names.lookup x with
    | some .local => true
    | some .cell => true
    | _ => false
  | _ => false
def noCellB (st : Stmt) (pars : List Str) : Bool := match st with
  | .FunctionDef _ _ _ _ _ _ s _ _ _ => s.names.all (fun x => x.2 != .cell) && pars.all (fun x => s.names.lookup x == some .local) && decide pars.Nodup
  | _ => false
section
variable {B : Base} {n : Nat} {D : Led} {Q : V → Led → Prop}
theorem map_fst_zip {α β : Type} : ∀ (l : List α) (r : List β), ∀ x ∈ (l.zip r).map (·.1), x ∈ l
  | [], _, x, h => by simp at h
  | a :: l, [], x, h => by simp at h
  | a :: l, b :: r, x, h => by
    simp only [List.zip_cons_cons, List.map_cons, List.mem_cons] at h
    exact h.elim (fun e => e ▸ .head _) (fun h => .tail _ (map_fst_zip l r x h))
theorem len0 {α : Type} {l : List α} (h : l.length = 0) : l = [] := List.eq_nil_of_length_eq_zero h
theorem lenS {α : Type} {l : List α} {k : Nat} (h : l.length = k + 1) : ∃ a r, l = a :: r ∧ r.length = k := by
  cases l with
  | nil => cases h
  | cons a r => exact ⟨a, r, rfl, Nat.succ.inj h⟩
theorem len1 {α : Type} {l : List α} (h : l.length = 1) : ∃ a, l = [a] := let ⟨a, _, e, h⟩ := lenS h; ⟨a, by rw [e, len0 h]⟩
theorem len2 {α : Type} {l : List α} (h : l.length = 2) : ∃ a b, l = [a, b] := let ⟨a, _, e, h⟩ := lenS h; let ⟨b, f⟩ := len1 h; ⟨a, b, by rw [e, f]⟩
theorem len3 {α : Type} {l : List α} (h : l.length = 3) : ∃ a b c, l = [a, b, c] := let ⟨a, _, e, h⟩ := lenS h; let ⟨b, c, f⟩ := len2 h; ⟨a, b, c, by rw [e, f]⟩
theorem len4 {α : Type} {l : List α} (h : l.length = 4) : ∃ a b c d, l = [a, b, c, d] := let ⟨a, _, e, h⟩ := lenS h; let ⟨b, c, d, f⟩ := len3 h; ⟨a, b, c, d, by rw [e, f]⟩
theorem len5 {α : Type} {l : List α} (h : l.length = 5) : ∃ a b c d x, l = [a, b, c, d, x] := let ⟨a, _, e, h⟩ := lenS h; let ⟨b, c, d, x, f⟩ := len4 h; ⟨a, b, c, d, x, by rw [e, f]⟩
theorem fn_ok {st : Stmt} {pars : List Str} {qual : Str} {dV pm : Value} {c : Addr} (hok : fnOkB st pars = true) : ∃ o fd, fnO st qual dV pm c = o ∧ o.data = .func fd ∧ FdOk fd (bodyOf st) ∧ fd.code = .ref c ∧ fd.qualname = qual ∧ fd.scope = scopeOf st ∧ fdOf (fnO st qual dV pm c) = some fd ∧
    ∀ x ∈ pars, fd.scope.names.lookup x = some .local ∨ fd.scope.names.lookup x = some .cell := by
  cases st with
  | FunctionDef nm args b d r tp s ts bn p =>
    simp only [fnOkB, Bool.and_eq_true, Bool.not_eq_true', List.all_eq_true] at hok
    obtain ⟨⟨⟨⟨h1, h2⟩, h3⟩, h4⟩, h5⟩ := hok
    refine ⟨_, _, rfl, rfl, ⟨rfl, rfl, rfl, rfl, h1, h2, eq_of_beq h3, h4⟩, rfl, rfl, rfl, rfl, fun x hx => ?_⟩
    have := h5 x hx
    show s.names.lookup x = _ ∨ s.names.lookup x = _
    revert this
    split <;> simp_all
  | _ => simp [fnOkB] at hok
theorem fn_rule (I : Is190 B) {a c : Addr} {st : Stmt} {qual : Str} {dV pm : Value} {args : List V} {pars : List Str} {m₀ : Loc} (hK : (kf B.w.params).lookup a = some (fnO st qual dV pm c)) (hC : (c, qual) ∈ kcodes) (hok : fnOkB st pars = true)
    (hbind : ∀ fd, fdOf (fnO st qual dV pm c) = some fd → ∀ vs : List Value, vs.length = args.length → bindArgs fd ⟨vs, []⟩ = pure (pars.zip vs))
    (hm : loc0 gt (pars.zip args) (scopeOf st).names = m₀) (hn : n < 60)
    (h : ∀ env : Env, env.scope = scopeOf st → EXS B (n + 1) env (bodyOf st) m₀ D (fun _ D' => Q .none D') (KR Q)) : CLC B n (.raw (.ref a)) args D Q := by
  obtain ⟨o, fd, e1, e2, e3, e4, e5, e6, e7, e8⟩ := fn_ok (st := st) (qual := qual) (dV := dV) (pm := pm) (c := c) hok
  exact clc_cells (B := B) (o := o) (fd := fd) (g := gt) (pb := pars.zip args) (c := c) (by rw [I.k, hK, e1]) e2 e3 e4 (by rw [I.c, e5]; exact hC) I.g (fun s vs hv => ⟨_, BR.zip hv, hbind fd e7 vs hv.length.symm⟩)
    (fun x hx => e8 x (map_fst_zip _ _ x hx)) (by rw [e6]; exact hm) hn (fun env he => h env (by rw [he, e6]))
end
section
variable {B : Base} {n : Nat} {D : Led} {Q : V → Led → Prop}
theorem en_is_white (I : Is190 B) (hn : n < 60) {a_code : V} (h : ∀ env : Env, env.scope = scopeOf (sd 12) → EXS B (n + 1) env (bodyOf (sd 12)) [((Str.ofString "code"), .v (a_code)), ((Str.ofString "WHITE"), .g (.tup ([0, 9, 10, 12, 13, 32].map V.int)))] D (fun _ D' => Q .none D') (KR Q)) : CLC B n (.raw (.ref 82)) [a_code] D Q :=
  fn_rule I (c := 81) (qual := (Str.ofString "is_white")) (dV := .none) (pm := .str "paperhold.cursor" 268) (st := sd 12) (pars := [(Str.ofString "code")]) (args := [a_code]) (by kernel_rfl) (by decide +kernel) (by decide +kernel) (fun fd hfd vs hv => by obtain ⟨v0, rfl⟩ := len1 hv; cases hfd; kernel_rfl) (by kernel_rfl) hn h
theorem en_is_regular (I : Is190 B) (hn : n < 60) {a_code : V} (h : ∀ env : Env, env.scope = scopeOf (sd 13) → EXS B (n + 1) env (bodyOf (sd 13)) [((Str.ofString "code"), .v (a_code)), ((Str.ofString "WHITE"), .g (.tup ([0, 9, 10, 12, 13, 32].map V.int))), ((Str.ofString "DELIMITERS"), .g (.tup ([40, 41, 60, 62, 91, 93, 123, 125, 47, 37].map V.int)))] D (fun _ D' => Q .none D') (KR Q)) : CLC B n (.raw (.ref 89)) [a_code] D Q :=
  fn_rule I (c := 88) (qual := (Str.ofString "is_regular")) (dV := .none) (pm := .str "paperhold.cursor" 268) (st := sd 13) (pars := [(Str.ofString "code")]) (args := [a_code]) (by kernel_rfl) (by decide +kernel) (by decide +kernel) (fun fd hfd vs hv => by obtain ⟨v0, rfl⟩ := len1 hv; cases hfd; kernel_rfl) (by kernel_rfl) hn h
theorem en_Cursor_is_done (I : Is190 B) (hn : n < 60) {a_self : V} (h : ∀ env : Env, env.scope = scopeOf (cd 15 1) → EXS B (n + 1) env (bodyOf (cd 15 1)) [((Str.ofString "self"), .v (a_self))] D (fun _ D' => Q .none D') (KR Q)) : CLC B n (.raw (.ref 118)) [a_self] D Q :=
  fn_rule I (c := 117) (qual := (Str.ofString "Cursor.is_done")) (dV := .none) (pm := .str "paperhold.cursor" 268) (st := cd 15 1) (pars := [(Str.ofString "self")]) (args := [a_self]) (by kernel_rfl) (by decide +kernel) (by decide +kernel) (fun fd hfd vs hv => by obtain ⟨v0, rfl⟩ := len1 hv; cases hfd; kernel_rfl) (by kernel_rfl) hn h
theorem en_Cursor_take (I : Is190 B) (hn : n < 60) {a_self : V} (h : ∀ env : Env, env.scope = scopeOf (cd 15 3) → EXS B (n + 1) env (bodyOf (cd 15 3)) [((Str.ofString "self"), .v (a_self)), ((Str.ofString "code"), .v .unb)] D (fun _ D' => Q .none D') (KR Q)) : CLC B n (.raw (.ref 133)) [a_self] D Q :=
  fn_rule I (c := 132) (qual := (Str.ofString "Cursor.take")) (dV := .none) (pm := .str "paperhold.cursor" 268) (st := cd 15 3) (pars := [(Str.ofString "self")]) (args := [a_self]) (by kernel_rfl) (by decide +kernel) (by decide +kernel) (fun fd hfd vs hv => by obtain ⟨v0, rfl⟩ := len1 hv; cases hfd; kernel_rfl) (by kernel_rfl) hn h
theorem en_Cursor_starts (I : Is190 B) (hn : n < 60) {a_self a_word : V} (h : ∀ env : Env, env.scope = scopeOf (cd 15 4) → EXS B (n + 1) env (bodyOf (cd 15 4)) [((Str.ofString "self"), .v (a_self)), ((Str.ofString "word"), .v (a_word)), ((Str.ofString "len"), .g (.raw (.builtin "len")))] D (fun _ D' => Q .none D') (KR Q)) : CLC B n (.raw (.ref 140)) [a_self, a_word] D Q :=
  fn_rule I (c := 139) (qual := (Str.ofString "Cursor.starts")) (dV := .none) (pm := .str "paperhold.cursor" 268) (st := cd 15 4) (pars := [(Str.ofString "self"), (Str.ofString "word")]) (args := [a_self, a_word]) (by kernel_rfl) (by decide +kernel) (by decide +kernel) (fun fd hfd vs hv => by obtain ⟨v0, v1, rfl⟩ := len2 hv; cases hfd; kernel_rfl) (by kernel_rfl) hn h
theorem en_Cursor_skip (I : Is190 B) (hn : n < 60) {a_self a_word : V} (h : ∀ env : Env, env.scope = scopeOf (cd 15 5) → EXS B (n + 1) env (bodyOf (cd 15 5)) [((Str.ofString "self"), .v (a_self)), ((Str.ofString "word"), .v (a_word)), ((Str.ofString "len"), .g (.raw (.builtin "len")))] D (fun _ D' => Q .none D') (KR Q)) : CLC B n (.raw (.ref 147)) [a_self, a_word] D Q :=
  fn_rule I (c := 146) (qual := (Str.ofString "Cursor.skip")) (dV := .none) (pm := .str "paperhold.cursor" 268) (st := cd 15 5) (pars := [(Str.ofString "self"), (Str.ofString "word")]) (args := [a_self, a_word]) (by kernel_rfl) (by decide +kernel) (by decide +kernel) (fun fd hfd vs hv => by obtain ⟨v0, v1, rfl⟩ := len2 hv; cases hfd; kernel_rfl) (by kernel_rfl) hn h
theorem en_Cursor_skip_white (I : Is190 B) (hn : n < 60) {a_self : V} (h : ∀ env : Env, env.scope = scopeOf (cd 15 6) → EXS B (n + 1) env (bodyOf (cd 15 6)) [((Str.ofString "self"), .v (a_self)), ((Str.ofString "code"), .v .unb), ((Str.ofString "COMMENT"), .g (.int 37)), ((Str.ofString "LINE_FEED"), .g (.int 10)), ((Str.ofString "RETURN"), .g (.int 13)), ((Str.ofString "WHITE"), .g (.tup ([0, 9, 10, 12, 13, 32].map V.int)))] D (fun _ D' => Q .none D') (KR Q)) : CLC B n (.raw (.ref 154)) [a_self] D Q :=
  fn_rule I (c := 153) (qual := (Str.ofString "Cursor.skip_white")) (dV := .none) (pm := .str "paperhold.cursor" 268) (st := cd 15 6) (pars := [(Str.ofString "self")]) (args := [a_self]) (by kernel_rfl) (by decide +kernel) (by decide +kernel) (fun fd hfd vs hv => by obtain ⟨v0, rfl⟩ := len1 hv; cases hfd; kernel_rfl) (by kernel_rfl) hn h
theorem en_Cursor_take_regular (I : Is190 B) (hn : n < 60) {a_self : V} (h : ∀ env : Env, env.scope = scopeOf (cd 15 7) → EXS B (n + 1) env (bodyOf (cd 15 7)) [((Str.ofString "self"), .v (a_self)), ((Str.ofString "first"), .v .unb), ((Str.ofString "is_regular"), .g (.raw (.ref 89)))] D (fun _ D' => Q .none D') (KR Q)) : CLC B n (.raw (.ref 161)) [a_self] D Q :=
  fn_rule I (c := 160) (qual := (Str.ofString "Cursor.take_regular")) (dV := .none) (pm := .str "paperhold.cursor" 268) (st := cd 15 7) (pars := [(Str.ofString "self")]) (args := [a_self]) (by kernel_rfl) (by decide +kernel) (by decide +kernel) (fun fd hfd vs hv => by obtain ⟨v0, rfl⟩ := len1 hv; cases hfd; kernel_rfl) (by kernel_rfl) hn h
theorem en_read_decimal (I : Is190 B) (hn : n < 60) {a_octets : V} (h : ∀ env : Env, env.scope = scopeOf (sd 24) → EXS B (n + 1) env (bodyOf (sd 24)) [((Str.ofString "octets"), .v (a_octets)), ((Str.ofString "begun"), .v .unb), ((Str.ofString "top"), .v .unb), ((Str.ofString "numerals"), .v .unb), ((Str.ofString "places"), .v .unb), ((Str.ofString "code"), .v .unb), ((Str.ofString "len"), .g (.raw (.builtin "len"))), ((Str.ofString "PLUS"), .g (.int 43)), ((Str.ofString "MINUS"), .g (.int 45)), ((Str.ofString "POINT"), .g (.int 46)), ((Str.ofString "ZERO"), .g (.int 48)), ((Str.ofString "MOST_FIGURES_decimals"), .g (.int 40))] D (fun _ D' => Q .none D') (KR Q)) : CLC B n (.raw (.ref 315)) [a_octets] D Q :=
  fn_rule I (c := 314) (qual := (Str.ofString "read_decimal")) (dV := .none) (pm := .str "paperhold.decimals" 450) (st := sd 24) (pars := [(Str.ofString "octets")]) (args := [a_octets]) (by kernel_rfl) (by decide +kernel) (by decide +kernel) (fun fd hfd vs hv => by obtain ⟨v0, rfl⟩ := len1 hv; cases hfd; kernel_rfl) (by kernel_rfl) hn h
theorem en_hex_worth (I : Is190 B) (hn : n < 60) {a_code : V} (h : ∀ env : Env, env.scope = scopeOf (sd 34) → EXS B (n + 1) env (bodyOf (sd 34)) [((Str.ofString "code"), .v (a_code))] D (fun _ D' => Q .none D') (KR Q)) : CLC B n (.raw (.ref 323)) [a_code] D Q :=
  fn_rule I (c := 322) (qual := (Str.ofString "hex_worth")) (dV := .none) (pm := .str "paperhold.lexer" 595) (st := sd 34) (pars := [(Str.ofString "code")]) (args := [a_code]) (by kernel_rfl) (by decide +kernel) (by decide +kernel) (fun fd hfd vs hv => by obtain ⟨v0, rfl⟩ := len1 hv; cases hfd; kernel_rfl) (by kernel_rfl) hn h
theorem en_hex_string (I : Is190 B) (hn : n < 60) {a_cursor : V} (h : ∀ env : Env, env.scope = scopeOf (sd 40) → EXS B (n + 1) env (bodyOf (sd 40)) [((Str.ofString "cursor"), .v (a_cursor)), ((Str.ofString "opening"), .v .unb), ((Str.ofString "halves"), .v .unb), ((Str.ofString "code"), .v .unb), ((Str.ofString "worth"), .v .unb), ((Str.ofString "GREATER"), .g (.int 62)), ((Str.ofString "len"), .g (.raw (.builtin "len"))), ((Str.ofString "bytes"), .g (.raw (.type "bytes"))), ((Str.ofString "range"), .g (.raw (.type "range"))), ((Str.ofString "hex_worth"), .g (.raw (.ref 323))), ((Str.ofString "is_white"), .g (.raw (.ref 82)))] D (fun _ D' => Q .none D') (KR Q)) : CLC B n (.raw (.ref 364)) [a_cursor] D Q :=
  fn_rule I (c := 363) (qual := (Str.ofString "hex_string")) (dV := .none) (pm := .str "paperhold.lexer" 595) (st := sd 40) (pars := [(Str.ofString "cursor")]) (args := [a_cursor]) (by kernel_rfl) (by decide +kernel) (by decide +kernel) (fun fd hfd vs hv => by obtain ⟨v0, rfl⟩ := len1 hv; cases hfd; kernel_rfl) (by kernel_rfl) hn h
theorem en_run_token (I : Is190 B) (hn : n < 60) {a_cursor a_at : V} (h : ∀ env : Env, env.scope = scopeOf (sd 41) → EXS B (n + 1) env (bodyOf (sd 41)) [((Str.ofString "cursor"), .v (a_cursor)), ((Str.ofString "at"), .v (a_at)), ((Str.ofString "run"), .v .unb), ((Str.ofString "number"), .v .unb), ((Str.ofString "read_decimal"), .g (.raw (.ref 315))), ((Str.ofString "isinstance"), .g (.raw (.builtin "isinstance"))), ((Str.ofString "int"), .g (.raw (.type "int")))] D (fun _ D' => Q .none D') (KR Q)) : CLC B n (.raw (.ref 371)) [a_cursor, a_at] D Q :=
  fn_rule I (c := 370) (qual := (Str.ofString "run_token")) (dV := .none) (pm := .str "paperhold.lexer" 595) (st := sd 41) (pars := [(Str.ofString "cursor"), (Str.ofString "at")]) (args := [a_cursor, a_at]) (by kernel_rfl) (by decide +kernel) (by decide +kernel) (fun fd hfd vs hv => by obtain ⟨v0, v1, rfl⟩ := len2 hv; cases hfd; kernel_rfl) (by kernel_rfl) hn h
theorem en_delimited_token (I : Is190 B) (hn : n < 60) {a_cursor a_code a_at : V} (h : ∀ env : Env, env.scope = scopeOf (sd 42) → EXS B (n + 1) env (bodyOf (sd 42)) [((Str.ofString "cursor"), .v (a_cursor)), ((Str.ofString "code"), .v (a_code)), ((Str.ofString "at"), .v (a_at)), ((Str.ofString "SLASH"), .g (.int 47)), ((Str.ofString "PAREN"), .g (.int 40)), ((Str.ofString "LESS"), .g (.int 60)), ((Str.ofString "hex_string"), .g (.raw (.ref 364))), ((Str.ofString "SIGNS"), .g (.tup ([91, 93, 123, 125].map V.int))), ((Str.ofString "bytes"), .g (.raw (.type "bytes")))] D (fun _ D' => Q .none D') (KR Q)) : CLC B n (.raw (.ref 378)) [a_cursor, a_code, a_at] D Q :=
  fn_rule I (c := 377) (qual := (Str.ofString "delimited_token")) (dV := .none) (pm := .str "paperhold.lexer" 595) (st := sd 42) (pars := [(Str.ofString "cursor"), (Str.ofString "code"), (Str.ofString "at")]) (args := [a_cursor, a_code, a_at]) (by kernel_rfl) (by decide +kernel) (by decide +kernel) (fun fd hfd vs hv => by obtain ⟨v0, v1, v2, rfl⟩ := len3 hv; cases hfd; kernel_rfl) (by kernel_rfl) hn h
theorem en_next_token (I : Is190 B) (hn : n < 60) {a_cursor : V} (h : ∀ env : Env, env.scope = scopeOf (sd 43) → EXS B (n + 1) env (bodyOf (sd 43)) [((Str.ofString "cursor"), .v (a_cursor)), ((Str.ofString "at"), .v .unb), ((Str.ofString "code"), .v .unb), ((Str.ofString "SLASH"), .g (.int 47)), ((Str.ofString "PAREN"), .g (.int 40)), ((Str.ofString "CLOSE_PAREN"), .g (.int 41)), ((Str.ofString "LESS"), .g (.int 60)), ((Str.ofString "GREATER"), .g (.int 62)), ((Str.ofString "SIGNS"), .g (.tup ([91, 93, 123, 125].map V.int))), ((Str.ofString "delimited_token"), .g (.raw (.ref 378))), ((Str.ofString "run_token"), .g (.raw (.ref 371)))] D (fun _ D' => Q .none D') (KR Q)) : CLC B n (.raw (.ref 385)) [a_cursor] D Q :=
  fn_rule I (c := 384) (qual := (Str.ofString "next_token")) (dV := .none) (pm := .str "paperhold.lexer" 595) (st := sd 43) (pars := [(Str.ofString "cursor")]) (args := [a_cursor]) (by kernel_rfl) (by decide +kernel) (by decide +kernel) (fun fd hfd vs hv => by obtain ⟨v0, rfl⟩ := len1 hv; cases hfd; kernel_rfl) (by kernel_rfl) hn h
theorem en_CMap_init (I : Is190 B) (hn : n < 60) {a_self a_spaces a_chars : V} (h : ∀ env : Env, env.scope = scopeOf (cd 50 0) → EXS B (n + 1) env (bodyOf (cd 50 0)) [((Str.ofString "self"), .v (a_self)), ((Str.ofString "spaces"), .v (a_spaces)), ((Str.ofString "chars"), .v (a_chars))] D (fun _ D' => Q .none D') (KR Q)) : CLC B n (.raw (.ref 399)) [a_self, a_spaces, a_chars] D Q :=
  fn_rule I (c := 398) (qual := (Str.ofString "CMap.__init__")) (dV := .none) (pm := .str "paperhold.cmaps" 708) (st := cd 50 0) (pars := [(Str.ofString "self"), (Str.ofString "spaces"), (Str.ofString "chars")]) (args := [a_self, a_spaces, a_chars]) (by kernel_rfl) (by decide +kernel) (by decide +kernel) (fun fd hfd vs hv => by obtain ⟨v0, v1, v2, rfl⟩ := len3 hv; cases hfd; kernel_rfl) (by kernel_rfl) hn h
theorem en_utf16_units (I : Is190 B) (hn : n < 60) {a_octets : V} (h : ∀ env : Env, env.scope = scopeOf (sd 51) → EXS B (n + 1) env (bodyOf (sd 51)) [((Str.ofString "octets"), .v (a_octets)), ((Str.ofString "len"), .g (.raw (.builtin "len"))), ((Str.ofString "range"), .g (.raw (.type "range")))] D (fun _ D' => Q .none D') (KR Q)) : CLC B n (.raw (.ref 418)) [a_octets] D Q :=
  fn_rule I (c := 417) (qual := (Str.ofString "utf16_units")) (dV := .none) (pm := .str "paperhold.cmaps" 708) (st := sd 51) (pars := [(Str.ofString "octets")]) (args := [a_octets]) (by kernel_rfl) (by decide +kernel) (by decide +kernel) (fun fd hfd vs hv => by obtain ⟨v0, rfl⟩ := len1 hv; cases hfd; kernel_rfl) (by kernel_rfl) hn h
theorem en_utf16 (I : Is190 B) (hn : n < 60) {a_octets : V} (h : ∀ env : Env, env.scope = scopeOf (sd 52) → EXS B (n + 1) env (bodyOf (sd 52)) [((Str.ofString "octets"), .v (a_octets)), ((Str.ofString "units"), .v .unb), ((Str.ofString "signs"), .v .unb), ((Str.ofString "place"), .v .unb), ((Str.ofString "unit"), .v .unb), ((Str.ofString "utf16_units"), .g (.raw (.ref 418))), ((Str.ofString "len"), .g (.raw (.builtin "len"))), ((Str.ofString "HIGH_FIRST"), .g (.int 55296)), ((Str.ofString "LOW_LAST"), .g (.int 57343)), ((Str.ofString "LOW_FIRST"), .g (.int 56320)), ((Str.ofString "chr"), .g (.raw (.builtin "chr")))] D (fun _ D' => Q .none D') (KR Q)) : CLC B n (.raw (.ref 425)) [a_octets] D Q :=
  fn_rule I (c := 424) (qual := (Str.ofString "utf16")) (dV := .none) (pm := .str "paperhold.cmaps" 708) (st := sd 52) (pars := [(Str.ofString "octets")]) (args := [a_octets]) (by kernel_rfl) (by decide +kernel) (by decide +kernel) (fun fd hfd vs hv => by obtain ⟨v0, rfl⟩ := len1 hv; cases hfd; kernel_rfl) (by kernel_rfl) hn h
theorem en_code_of (I : Is190 B) (hn : n < 60) {a_octets : V} (h : ∀ env : Env, env.scope = scopeOf (sd 53) → EXS B (n + 1) env (bodyOf (sd 53)) [((Str.ofString "octets"), .v (a_octets)), ((Str.ofString "code"), .v .unb), ((Str.ofString "octet"), .v .unb)] D (fun _ D' => Q .none D') (KR Q)) : CLC B n (.raw (.ref 432)) [a_octets] D Q :=
  fn_rule I (c := 431) (qual := (Str.ofString "code_of")) (dV := .none) (pm := .str "paperhold.cmaps" 708) (st := sd 53) (pars := [(Str.ofString "octets")]) (args := [a_octets]) (by kernel_rfl) (by decide +kernel) (by decide +kernel) (fun fd hfd vs hv => by obtain ⟨v0, rfl⟩ := len1 hv; cases hfd; kernel_rfl) (by kernel_rfl) hn h
theorem en_code_octets (I : Is190 B) (hn : n < 60) {a_length a_code : V} (h : ∀ env : Env, env.scope = scopeOf (sd 54) → EXS B (n + 1) env (bodyOf (sd 54)) [((Str.ofString "length"), .v (a_length)), ((Str.ofString "code"), .v (a_code)), ((Str.ofString "bytes"), .g (.raw (.type "bytes"))), ((Str.ofString "range"), .g (.raw (.type "range")))] D (fun _ D' => Q .none D') (KR Q)) : CLC B n (.raw (.ref 437)) [a_length, a_code] D Q :=
  fn_rule I (c := 436) (qual := (Str.ofString "code_octets")) (dV := .none) (pm := .str "paperhold.cmaps" 708) (st := sd 54) (pars := [(Str.ofString "length"), (Str.ofString "code")]) (args := [a_length, a_code]) (by kernel_rfl) (by decide +kernel) (by decide +kernel) (fun fd hfd vs hv => by obtain ⟨v0, v1, rfl⟩ := len2 hv; cases hfd; kernel_rfl) (by kernel_rfl) hn h
theorem en_string_in (I : Is190 B) (hn : n < 60) {a_token : V} (h : ∀ env : Env, env.scope = scopeOf (sd 55) → EXS B (n + 1) env (bodyOf (sd 55)) [((Str.ofString "token"), .v (a_token))] D (fun _ D' => Q .none D') (KR Q)) : CLC B n (.raw (.ref 444)) [a_token] D Q :=
  fn_rule I (c := 443) (qual := (Str.ofString "string_in")) (dV := .none) (pm := .str "paperhold.cmaps" 708) (st := sd 55) (pars := [(Str.ofString "token")]) (args := [a_token]) (by kernel_rfl) (by decide +kernel) (by decide +kernel) (fun fd hfd vs hv => by obtain ⟨v0, rfl⟩ := len1 hv; cases hfd; kernel_rfl) (by kernel_rfl) hn h
theorem en_code_in (I : Is190 B) (hn : n < 60) {a_token : V} (h : ∀ env : Env, env.scope = scopeOf (sd 56) → EXS B (n + 1) env (bodyOf (sd 56)) [((Str.ofString "token"), .v (a_token)), ((Str.ofString "octets"), .v .unb), ((Str.ofString "string_in"), .g (.raw (.ref 444))), ((Str.ofString "len"), .g (.raw (.builtin "len"))), ((Str.ofString "MOST_LENGTH"), .g (.int 4))] D (fun _ D' => Q .none D') (KR Q)) : CLC B n (.raw (.ref 451)) [a_token] D Q :=
  fn_rule I (c := 450) (qual := (Str.ofString "code_in")) (dV := .none) (pm := .str "paperhold.cmaps" 708) (st := sd 56) (pars := [(Str.ofString "token")]) (args := [a_token]) (by kernel_rfl) (by decide +kernel) (by decide +kernel) (fun fd hfd vs hv => by obtain ⟨v0, rfl⟩ := len1 hv; cases hfd; kernel_rfl) (by kernel_rfl) hn h
theorem en_text_in (I : Is190 B) (hn : n < 60) {a_token : V} (h : ∀ env : Env, env.scope = scopeOf (sd 57) → EXS B (n + 1) env (bodyOf (sd 57)) [((Str.ofString "token"), .v (a_token)), ((Str.ofString "octets"), .v .unb), ((Str.ofString "fault"), .v .unb), ((Str.ofString "string_in"), .g (.raw (.ref 444))), ((Str.ofString "utf16"), .g (.raw (.ref 425)))] D (fun _ D' => Q .none D') (KR Q)) : CLC B n (.raw (.ref 458)) [a_token] D Q :=
  fn_rule I (c := 457) (qual := (Str.ofString "text_in")) (dV := .none) (pm := .str "paperhold.cmaps" 708) (st := sd 57) (pars := [(Str.ofString "token")]) (args := [a_token]) (by kernel_rfl) (by decide +kernel) (by decide +kernel) (fun fd hfd vs hv => by obtain ⟨v0, rfl⟩ := len1 hv; cases hfd; kernel_rfl) (by kernel_rfl) hn h
theorem en_is_part_end (I : Is190 B) (hn : n < 60) {a_token a_word : V} (h : ∀ env : Env, env.scope = scopeOf (sd 58) → EXS B (n + 1) env (bodyOf (sd 58)) [((Str.ofString "token"), .v (a_token)), ((Str.ofString "word"), .v (a_word))] D (fun _ D' => Q .none D') (KR Q)) : CLC B n (.raw (.ref 465)) [a_token, a_word] D Q :=
  fn_rule I (c := 464) (qual := (Str.ofString "is_part_end")) (dV := .none) (pm := .str "paperhold.cmaps" 708) (st := sd 58) (pars := [(Str.ofString "token"), (Str.ofString "word")]) (args := [a_token, a_word]) (by kernel_rfl) (by decide +kernel) (by decide +kernel) (fun fd hfd vs hv => by obtain ⟨v0, v1, rfl⟩ := len2 hv; cases hfd; kernel_rfl) (by kernel_rfl) hn h
theorem en_read_chars (I : Is190 B) (hn : n < 60) {a_cursor a_chars : V} (h : ∀ env : Env, env.scope = scopeOf (sd 60) → EXS B (n + 1) env (bodyOf (sd 60)) [((Str.ofString "cursor"), .v (a_cursor)), ((Str.ofString "chars"), .v (a_chars)), ((Str.ofString "token"), .v .unb), ((Str.ofString "code"), .v .unb), ((Str.ofString "next_token"), .g (.raw (.ref 385))), ((Str.ofString "is_part_end"), .g (.raw (.ref 465))), ((Str.ofString "code_in"), .g (.raw (.ref 451))), ((Str.ofString "len"), .g (.raw (.builtin "len"))), ((Str.ofString "code_of"), .g (.raw (.ref 432))), ((Str.ofString "text_in"), .g (.raw (.ref 458)))] D (fun _ D' => Q .none D') (KR Q)) : CLC B n (.raw (.ref 477)) [a_cursor, a_chars] D Q :=
  fn_rule I (c := 476) (qual := (Str.ofString "read_chars")) (dV := .none) (pm := .str "paperhold.cmaps" 708) (st := sd 60) (pars := [(Str.ofString "cursor"), (Str.ofString "chars")]) (args := [a_cursor, a_chars]) (by kernel_rfl) (by decide +kernel) (by decide +kernel) (fun fd hfd vs hv => by obtain ⟨v0, v1, rfl⟩ := len2 hv; cases hfd; kernel_rfl) (by kernel_rfl) hn h
theorem en_texts_that_run (I : Is190 B) (hn : n < 60) {a_token a_many : V} (h : ∀ env : Env, env.scope = scopeOf (sd 62) → EXS B (n + 1) env (bodyOf (sd 62)) [((Str.ofString "token"), .v (a_token)), ((Str.ofString "many"), .v (a_many)), ((Str.ofString "octets"), .v .unb), ((Str.ofString "string_in"), .g (.raw (.ref 444))), ((Str.ofString "range"), .g (.raw (.type "range")))] D (fun _ D' => Q .none D') (KR Q)) : CLC B n (.raw (.ref 489)) [a_token, a_many] D Q :=
  fn_rule I (c := 488) (qual := (Str.ofString "texts_that_run")) (dV := .none) (pm := .str "paperhold.cmaps" 708) (st := sd 62) (pars := [(Str.ofString "token"), (Str.ofString "many")]) (args := [a_token, a_many]) (by kernel_rfl) (by decide +kernel) (by decide +kernel) (fun fd hfd vs hv => by obtain ⟨v0, v1, rfl⟩ := len2 hv; cases hfd; kernel_rfl) (by kernel_rfl) hn h
theorem en_read_ranges (I : Is190 B) (hn : n < 60) {a_cursor a_chars : V} (h : ∀ env : Env, env.scope = scopeOf (sd 63) → EXS B (n + 1) env (bodyOf (sd 63)) [((Str.ofString "cursor"), .v (a_cursor)), ((Str.ofString "chars"), .v (a_chars)), ((Str.ofString "token"), .v .unb), ((Str.ofString "low"), .v .unb), ((Str.ofString "high"), .v .unb), ((Str.ofString "many"), .v .unb), ((Str.ofString "target"), .v .unb), ((Str.ofString "texts"), .v .unb), ((Str.ofString "step"), .v .unb), ((Str.ofString "next_token"), .g (.raw (.ref 385))), ((Str.ofString "is_part_end"), .g (.raw (.ref 465))), ((Str.ofString "code_in"), .g (.raw (.ref 451))), ((Str.ofString "len"), .g (.raw (.builtin "len"))), ((Str.ofString "texts_that_run"), .g (.raw (.ref 489))), ((Str.ofString "range"), .g (.raw (.type "range"))), ((Str.ofString "code_of"), .g (.raw (.ref 432)))] D (fun _ D' => Q .none D') (KR Q)) : CLC B n (.raw (.ref 496)) [a_cursor, a_chars] D Q :=
  fn_rule I (c := 495) (qual := (Str.ofString "read_ranges")) (dV := .none) (pm := .str "paperhold.cmaps" 708) (st := sd 63) (pars := [(Str.ofString "cursor"), (Str.ofString "chars")]) (args := [a_cursor, a_chars]) (by kernel_rfl) (by decide +kernel) (by decide +kernel) (fun fd hfd vs hv => by obtain ⟨v0, v1, rfl⟩ := len2 hv; cases hfd; kernel_rfl) (by kernel_rfl) hn h
theorem en_read_cmap (I : Is190 B) (hn : n < 60) {a_data : V} (h : ∀ env : Env, env.scope = scopeOf (sd 64) → EXS B (n + 1) env (bodyOf (sd 64)) [((Str.ofString "data"), .v (a_data)), ((Str.ofString "cursor"), .v .unb), ((Str.ofString "spaces"), .v .unb), ((Str.ofString "chars"), .v .unb), ((Str.ofString "token"), .v .unb), ((Str.ofString "Cursor"), .g (.raw (.ref 199))), ((Str.ofString "next_token"), .g (.raw (.ref 385))), ((Str.ofString "read_chars"), .g (.raw (.ref 477))), ((Str.ofString "read_ranges"), .g (.raw (.ref 496))), ((Str.ofString "CMap"), .g (.raw (.ref 409)))] D (fun _ D' => Q .none D') (KR Q)) : CLC B n (.raw (.ref 503)) [a_data] D Q :=
  fn_rule I (c := 502) (qual := (Str.ofString "read_cmap")) (dV := .none) (pm := .str "paperhold.cmaps" 708) (st := sd 64) (pars := [(Str.ofString "data")]) (args := [a_data]) (by kernel_rfl) (by decide +kernel) (by decide +kernel) (fun fd hfd vs hv => by obtain ⟨v0, rfl⟩ := len1 hv; cases hfd; kernel_rfl) (by kernel_rfl) hn h
theorem en_hex_text (I : Is190 B) (hn : n < 60) {a_octets : V} (h : ∀ env : Env, env.scope = scopeOf (sd 65) → EXS B (n + 1) env (bodyOf (sd 65)) [((Str.ofString "octets"), .v (a_octets)), ((Str.ofString "signs"), .v .unb), ((Str.ofString "octet"), .v .unb), ((Str.ofString "HEX_SIGNS"), .g (.str (Str.ofString "0123456789ABCDEF")))] D (fun _ D' => Q .none D') (KR Q)) : CLC B n (.raw (.ref 510)) [a_octets] D Q :=
  fn_rule I (c := 509) (qual := (Str.ofString "hex_text")) (dV := .none) (pm := .str "paperhold.cmaps" 708) (st := sd 65) (pars := [(Str.ofString "octets")]) (args := [a_octets]) (by kernel_rfl) (by decide +kernel) (by decide +kernel) (fun fd hfd vs hv => by obtain ⟨v0, rfl⟩ := len1 hv; cases hfd; kernel_rfl) (by kernel_rfl) hn h
theorem en_runs_on (I : Is190 B) (hn : n < 60) {a_first_key a_first_target a_key a_target a_step : V} (h : ∀ env : Env, env.scope = scopeOf (sd 66) → EXS B (n + 1) env (bodyOf (sd 66)) [((Str.ofString "first_key"), .v (a_first_key)), ((Str.ofString "first_target"), .v (a_first_target)), ((Str.ofString "key"), .v (a_key)), ((Str.ofString "target"), .v (a_target)), ((Str.ofString "step"), .v (a_step))] D (fun _ D' => Q .none D') (KR Q)) : CLC B n (.raw (.ref 517)) [a_first_key, a_first_target, a_key, a_target, a_step] D Q :=
  fn_rule I (c := 516) (qual := (Str.ofString "runs_on")) (dV := .none) (pm := .str "paperhold.cmaps" 708) (st := sd 66) (pars := [(Str.ofString "first_key"), (Str.ofString "first_target"), (Str.ofString "key"), (Str.ofString "target"), (Str.ofString "step")]) (args := [a_first_key, a_first_target, a_key, a_target, a_step]) (by kernel_rfl) (by decide +kernel) (by decide +kernel) (fun fd hfd vs hv => by obtain ⟨v0, v1, v2, v3, v4, rfl⟩ := len5 hv; cases hfd; kernel_rfl) (by kernel_rfl) hn h
theorem en_runs_of (I : Is190 B) (hn : n < 60) {a_keys a_targets : V} (h : ∀ env : Env, env.scope = scopeOf (sd 67) → EXS B (n + 1) env (bodyOf (sd 67)) [((Str.ofString "keys"), .v (a_keys)), ((Str.ofString "targets"), .v (a_targets)), ((Str.ofString "runs"), .v .unb), ((Str.ofString "first"), .v .unb), ((Str.ofString "end"), .v .unb), ((Str.ofString "len"), .g (.raw (.builtin "len"))), ((Str.ofString "runs_on"), .g (.raw (.ref 517)))] D (fun _ D' => Q .none D') (KR Q)) : CLC B n (.raw (.ref 524)) [a_keys, a_targets] D Q :=
  fn_rule I (c := 523) (qual := (Str.ofString "runs_of")) (dV := .none) (pm := .str "paperhold.cmaps" 708) (st := sd 67) (pars := [(Str.ofString "keys"), (Str.ofString "targets")]) (args := [a_keys, a_targets]) (by kernel_rfl) (by decide +kernel) (by decide +kernel) (fun fd hfd vs hv => by obtain ⟨v0, v1, rfl⟩ := len2 hv; cases hfd; kernel_rfl) (by kernel_rfl) hn h
theorem en_law_draw (I : Is190 B) (hn : n < 60) {a_pen a_many : V} (h : ∀ env : Env, env.scope = scopeOf (sd 69) → EXS B (n + 1) env (bodyOf (sd 69)) [((Str.ofString "pen"), .v (a_pen)), ((Str.ofString "many"), .v (a_many)), ((Str.ofString "digit"), .v .unb), ((Str.ofString "place"), .v .unb), ((Str.ofString "cell"), .v .unb), ((Str.ofString "great"), .v .unb), ((Str.ofString "blend"), .v .unb), ((Str.ofString "len"), .g (.raw (.builtin "len"))), ((Str.ofString "abs"), .g (.raw (.builtin "abs")))] D (fun _ D' => Q .none D') (KR Q)) : CLC B n (.raw (.ref 531)) [a_pen, a_many] D Q :=
  fn_rule I (c := 530) (qual := (Str.ofString "_law_draw")) (dV := .none) (pm := .str "law_og0190_01" 910) (st := sd 69) (pars := [(Str.ofString "pen"), (Str.ofString "many")]) (args := [a_pen, a_many]) (by kernel_rfl) (by decide +kernel) (by decide +kernel) (fun fd hfd vs hv => by obtain ⟨v0, v1, rfl⟩ := len2 hv; cases hfd; kernel_rfl) (by kernel_rfl) hn h
theorem en_law_rows (I : Is190 B) (hn : n < 60) {a_pen : V} (h : ∀ env : Env, env.scope = scopeOf (sd 70) → EXS B (n + 1) env (bodyOf (sd 70)) [((Str.ofString "pen"), .v (a_pen)), ((Str.ofString "keys"), .v .unb), ((Str.ofString "targets"), .v .unb), ((Str.ofString "length"), .v .unb), ((Str.ofString "code"), .v .unb), ((Str.ofString "target"), .v .unb), ((Str.ofString "lap"), .v .unb), ((Str.ofString "way"), .v .unb), ((Str.ofString "_law_draw"), .g (.raw (.ref 531))), ((Str.ofString "range"), .g (.raw (.type "range"))), ((Str.ofString "bytes"), .g (.raw (.type "bytes"))), ((Str.ofString "len"), .g (.raw (.builtin "len"))), ((Str.ofString "list"), .g (.raw (.type "list")))] D (fun _ D' => Q .none D') (KR Q)) : CLC B n (.raw (.ref 538)) [a_pen] D Q :=
  fn_rule I (c := 537) (qual := (Str.ofString "_law_rows")) (dV := .none) (pm := .str "law_og0190_01" 910) (st := sd 70) (pars := [(Str.ofString "pen")]) (args := [a_pen]) (by kernel_rfl) (by decide +kernel) (by decide +kernel) (fun fd hfd vs hv => by obtain ⟨v0, rfl⟩ := len1 hv; cases hfd; kernel_rfl) (by kernel_rfl) hn h
theorem en_law_is_range (I : Is190 B) (hn : n < 60) {a_keys a_targets a_first a_end : V} (h : ∀ env : Env, env.scope = scopeOf (sd 71) → EXS B (n + 1) env (bodyOf (sd 71)) [((Str.ofString "keys"), .v (a_keys)), ((Str.ofString "targets"), .v (a_targets)), ((Str.ofString "first"), .v (a_first)), ((Str.ofString "end"), .v (a_end)), ((Str.ofString "at"), .v .unb), ((Str.ofString "step"), .v .unb), ((Str.ofString "due"), .v .unb), ((Str.ofString "range"), .g (.raw (.type "range"))), ((Str.ofString "list"), .g (.raw (.type "list")))] D (fun _ D' => Q .none D') (KR Q)) : CLC B n (.raw (.ref 545)) [a_keys, a_targets, a_first, a_end] D Q :=
  fn_rule I (c := 544) (qual := (Str.ofString "_law_is_range")) (dV := .none) (pm := .str "law_og0190_01" 910) (st := sd 71) (pars := [(Str.ofString "keys"), (Str.ofString "targets"), (Str.ofString "first"), (Str.ofString "end")]) (args := [a_keys, a_targets, a_first, a_end]) (by kernel_rfl) (by decide +kernel) (by decide +kernel) (fun fd hfd vs hv => by obtain ⟨v0, v1, v2, v3, rfl⟩ := len4 hv; cases hfd; kernel_rfl) (by kernel_rfl) hn h
theorem en_law (I : Is190 B) (hn : n < 60) {a_script : V} (h : ∀ env : Env, env.scope = scopeOf (sd 72) → EXS B (n + 1) env (bodyOf (sd 72)) [((Str.ofString "script"), .v (a_script)), ((Str.ofString "pen"), .v .unb), ((Str.ofString "keys"), .v .unb), ((Str.ofString "targets"), .v .unb), ((Str.ofString "handed"), .v .unb), ((Str.ofString "runs"), .v .unb), ((Str.ofString "first"), .v .unb), ((Str.ofString "end"), .v .unb), ((Str.ofString "at"), .v .unb), ((Str.ofString "fewest"), .v .unb), ((Str.ofString "lines"), .v .unb), ((Str.ofString "word"), .v .unb), ((Str.ofString "low"), .v .unb), ((Str.ofString "high"), .v .unb), ((Str.ofString "heard"), .v .unb), ((Str.ofString "_law_rows"), .g (.raw (.ref 538))), ((Str.ofString "list"), .g (.raw (.type "list"))), ((Str.ofString "runs_of"), .g (.raw (.ref 524))), ((Str.ofString "_law_is_range"), .g (.raw (.ref 545))), ((Str.ofString "len"), .g (.raw (.builtin "len"))), ((Str.ofString "range"), .g (.raw (.type "range"))), ((Str.ofString "min"), .g (.raw (.builtin "min"))), ((Str.ofString "hex_text"), .g (.raw (.ref 510))), ((Str.ofString "code_octets"), .g (.raw (.ref 437))), ((Str.ofString "read_cmap"), .g (.raw (.ref 503))), ((Str.ofString "bytes"), .g (.raw (.type "bytes"))), ((Str.ofString "dict"), .g (.raw (.type "dict")))] D (fun _ D' => Q .none D') (KR Q)) : CLC B n (.raw (.ref 550)) [a_script] D Q :=
  fn_rule I (c := 549) (qual := (Str.ofString "law")) (dV := .none) (pm := .str "law_og0190_01" 910) (st := sd 72) (pars := [(Str.ofString "script")]) (args := [a_script]) (by kernel_rfl) (by decide +kernel) (by decide +kernel) (fun fd hfd vs hv => by obtain ⟨v0, rfl⟩ := len1 hv; cases hfd; kernel_rfl) (by kernel_rfl) hn h
end
end Mine
end
section
open PySem PySem.W PyProof.Rows PySem.Calls
namespace Mine
section
variable {B : Base} {n : Nat} {D : Led} {Q : V → Led → Prop}
theorem en_Cursor_init (I : Is190 B) (hn : n < 60) {a_self a_data : V} (h : ∀ env : Env, env.scope = scopeOf (cd 15 0) → EXS B (n + 1) env (bodyOf (cd 15 0)) [((Str.ofString "self"), .v a_self), ((Str.ofString "data"), .v a_data), ((Str.ofString "at"), .v (.int 0)), ((Str.ofString "end"), .v (.int (-1))), ((Str.ofString "len"), .g (.raw (.builtin "len"))), ((Str.ofString "min"), .g (.raw (.builtin "min")))] D (fun _ D' => Q .none D') (KR Q)) : CLC B n (.raw (.ref 111)) [a_self, a_data] D Q := by
  obtain ⟨o, fd, e1, e2, e3, e4, e5, e6, e7, e8⟩ := fn_ok (st := cd 15 0) (pars := ["self", "data", "at", "end"]) (qual := "Cursor.__init__") (dV := .ref 104) (pm := .str "paperhold.cursor" 268) (c := 110) (by decide +kernel)
  refine clc_dflt (B := B) (o := o) (fd := fd) (g := gt) (pb := [("self", a_self), ("data", a_data), ("at", .int 0), ("end", .int (-1))]) (c := 110) (by rw [I.k, ← e1]; kernel_rfl) e2 e3 e4 (by rw [I.c, e5]; decide +kernel) I.g (fun s vs hk hv => ?_) ?_ ?_ (by simp only [List.map_cons, List.map_nil]; decide +kernel) (by rw [e6]; kernel_rfl) hn (fun env he => h env (by rw [he, e6]))
  · have hT := hk 104 { cls := .type "tuple", data := .seq #[.int 0 329, .int (-1) 331] } (by rw [I.k]; kernel_rfl)
    obtain ⟨_, _, rfl, r1, hv⟩ := hv.inv; obtain ⟨_, _, rfl, r2, hv⟩ := hv.inv; obtain rfl := hv.inv
    refine ⟨_, .cons r1 (.cons r2 (.cons (.int 0 329) (.cons (.int (-1) 331) .nil))), ?_⟩
    cases e7
    exact BindsTo.of_defaults rfl hT rfl rfl rfl
  · rw [e6]; decide +kernel
  · intro x hx; rw [e6]; simp only [List.map_cons, List.map_nil] at hx; revert x; decide +kernel
theorem en_Cursor_peek (I : Is190 B) (hn : n < 60) {a_self : V} (h : ∀ env : Env, env.scope = scopeOf (cd 15 2) → EXS B (n + 1) env (bodyOf (cd 15 2)) [((Str.ofString "self"), .v a_self), ((Str.ofString "ahead"), .v (.int 0)), ((Str.ofString "spot"), .v .unb)] D (fun _ D' => Q .none D') (KR Q)) : CLC B n (.raw (.ref 126)) [a_self] D Q := by
  obtain ⟨o, fd, e1, e2, e3, e4, e5, e6, e7, e8⟩ := fn_ok (st := cd 15 2) (pars := ["self", "ahead"]) (qual := "Cursor.peek") (dV := .ref 119) (pm := .str "paperhold.cursor" 268) (c := 125) (by decide +kernel)
  refine clc_dflt (B := B) (o := o) (fd := fd) (g := gt) (pb := [("self", a_self), ("ahead", .int 0)]) (c := 125) (by rw [I.k, ← e1]; kernel_rfl) e2 e3 e4 (by rw [I.c, e5]; decide +kernel) I.g (fun s vs hk hv => ?_) ?_ ?_ (by simp only [List.map_cons, List.map_nil]; decide +kernel) (by rw [e6]; kernel_rfl) hn (fun env he => h env (by rw [he, e6]))
  · have hT := hk 119 { cls := .type "tuple", data := .seq #[.int 0 349] } (by rw [I.k]; kernel_rfl)
    obtain ⟨_, _, rfl, r1, hv⟩ := hv.inv; obtain rfl := hv.inv
    refine ⟨_, .cons r1 (.cons (.int 0 349) .nil), ?_⟩
    cases e7
    exact BindsTo.of_defaults rfl hT rfl rfl rfl
  · rw [e6]; decide +kernel
  · intro x hx; rw [e6]; simp only [List.map_cons, List.map_nil] at hx; revert x; decide +kernel
theorem ite_dec {p : Prop} [Decidable p] {A C : Prop} (h1 : p → A) (h2 : ¬ p → C) : if decide p = true then A else C := by
  by_cases h : p <;> simp [h, h1, h2]
theorem ite_nec {p : Prop} [Decidable p] {A C : Prop} (h1 : ¬ p → A) (h2 : p → C) : if (!decide p) = true then A else C := by
  by_cases h : p <;> simp [h, h1, h2]
theorem ite_b {b : Bool} {A C : Prop} (h1 : b = true → A) (h2 : b = false → C) : if b = true then A else C := by
  cases b <;> simp_all
theorem ite_nb {b : Bool} {A C : Prop} (h1 : b = false → A) (h2 : b = true → C) : if (!b) = true then A else C := by
  cases b <;> simp_all
theorem ite_t {A C : Prop} (h : A) : if true = true then A else C := by simpa using h
theorem ite_f {A C : Prop} (h : C) : if false = true then A else C := by simpa using h
theorem xs_enter {env : Env} {st : Stmt} {a : Stmt} {l : List Stmt} {m : Loc} {Q : Loc → Led → Prop} {K : KS} (e : bodyOf st = a :: l) (h : EXS B n env (a :: l) m D Q K) : EXS B n env (bodyOf st) m D Q K := e ▸ h
end
theorem ck_all (P : Params) : [82, 89, 199, 315, 323, 364, 371, 378, 385, 409, 418, 425, 432, 437, 444, 451, 458, 465, 477, 489, 496, 503, 510, 517, 524, 531, 538, 545, 111, 118, 126, 133, 140, 147, 154, 161, 399].all (fun a => keepIn (kf P) (.ref a)) = true := by kernel_rfl
theorem ck_at {B : Base} (I : Is190 B) {a : Addr} (h : a ∈ [82, 89, 199, 315, 323, 364, 371, 378, 385, 409, 418, 425, 432, 437, 444, 451, 458, 465, 477, 489, 496, 503, 510, 517, 524, 531, 538, 545, 111, 118, 126, 133, 140, 147, 154, 161, 399]) : CK B (.ref a) :=
  ck_ref (by rw [I.k]; exact List.all_eq_true.mp (ck_all _) a h)
theorem mem_hd {α : Type} {a : α} {l : List α} : a ∈ a :: l := .head _
theorem mem_tl {α : Type} {a b : α} {l : List α} (h : a ∈ l) : a ∈ b :: l := .tail _ h
theorem bcase {Q : V → Led → Prop} {D : Led} {a : Bool} (h : Q (.bool a) D) {b : Bool} (e : b = a) : Q (.bool b) D := e ▸ h
theorem icase {Q : V → Led → Prop} {D : Led} {a : Int} (h : Q (.int a) D) {b : Int} (e : b = a) : Q (.int b) D := e ▸ h
def isReg (c : Int) : Bool := decide (0 ≤ c) && !([0, 9, 10, 12, 13, 32].contains c) && !([40, 41, 60, 62, 91, 93, 123, 125, 47, 37].contains c)
def hexW (c : Int) : Int := if 48 ≤ c ∧ c ≤ 57 then c - 48 else if 65 ≤ c ∧ c ≤ 70 then c - 55 else if 97 ≤ c ∧ c ≤ 102 then c - 87 else -1
end Mine
end
open PySem PySem.W PyProof.Rows PySem.Calls
set_option maxHeartbeats 4000000
namespace Mine
theorem at_nil_and {B : Base} {n : Nat} {env : Env} {m : Loc} {D : Led} {Q : Bool → Led → Prop} (h : Q true D) : AT B n .And [] env m D Q := at_nil h
theorem at_nil_or {B : Base} {n : Nat} {env : Env} {m : Loc} {D : Led} {Q : Bool → Led → Prop} (h : Q false D) : AT B n .Or [] env m D Q := at_nil h
theorem ite_nf {A C : Prop} (h : A) : if (!false) = true then A else C := by simpa using h
theorem ite_nt {A C : Prop} (h : C) : if (!true) = true then A else C := by simpa using h
abbrev insO (d t e : V) (dx : Addr) : O := .inst 199 dx [(Str.ofString "data", d), (Str.ofString "at", t), (Str.ofString "end", e)]
abbrev curO (d : List UInt8) (t : Nat) (dx : Addr) : O := insO (.byt d) (.int t) (.int d.length) dx
section
variable {B : Base} {n : Nat} {env : Env} {m : Loc} {D : Led} {Q : V → Led → Prop} {a dx : Addr} {d t e v : V}
theorem ga_data (I : Is190 B) (hm : (a, insO d t e dx) ∈ D) (hv : handedV d = true) (h : Q d D) : GA B n (.ref a) "data" D Q :=
  ga_inst (attr := none) hm (by kernel_rfl) (by rw [I.k]; kernel_rfl) (by rw [I.k]; kernel_rfl) (by rw [I.k]; kernel_rfl) (by rw [I.k]; kernel_rfl) hv h
theorem ga_at (I : Is190 B) (hm : (a, insO d t e dx) ∈ D) (hv : handedV t = true) (h : Q t D) : GA B n (.ref a) "at" D Q :=
  ga_inst (attr := none) hm (by kernel_rfl) (by rw [I.k]; kernel_rfl) (by rw [I.k]; kernel_rfl) (by rw [I.k]; kernel_rfl) (by rw [I.k]; kernel_rfl) hv h
theorem ga_end (I : Is190 B) (hm : (a, insO d t e dx) ∈ D) (hv : handedV e = true) (h : Q e D) : GA B n (.ref a) "end" D Q :=
  ga_inst (attr := none) hm (by kernel_rfl) (by rw [I.k]; kernel_rfl) (by rw [I.k]; kernel_rfl) (by rw [I.k]; kernel_rfl) (by rw [I.k]; kernel_rfl) hv h
theorem gm_done (I : Is190 B) (hm : (a, insO d t e dx) ∈ D) : GM B n (.ref a) "is_done" D (.ref 118) [.ref a] := gm_inst hm (by kernel_rfl) (by rw [I.k]; kernel_rfl) (by rw [I.k]; kernel_rfl) (by rw [I.k]; kernel_rfl)
theorem gm_peek (I : Is190 B) (hm : (a, insO d t e dx) ∈ D) : GM B n (.ref a) "peek" D (.ref 126) [.ref a] := gm_inst hm (by kernel_rfl) (by rw [I.k]; kernel_rfl) (by rw [I.k]; kernel_rfl) (by rw [I.k]; kernel_rfl)
theorem gm_take (I : Is190 B) (hm : (a, insO d t e dx) ∈ D) : GM B n (.ref a) "take" D (.ref 133) [.ref a] := gm_inst hm (by kernel_rfl) (by rw [I.k]; kernel_rfl) (by rw [I.k]; kernel_rfl) (by rw [I.k]; kernel_rfl)
theorem gm_starts (I : Is190 B) (hm : (a, insO d t e dx) ∈ D) : GM B n (.ref a) "starts" D (.ref 140) [.ref a] := gm_inst hm (by kernel_rfl) (by rw [I.k]; kernel_rfl) (by rw [I.k]; kernel_rfl) (by rw [I.k]; kernel_rfl)
theorem gm_skip (I : Is190 B) (hm : (a, insO d t e dx) ∈ D) : GM B n (.ref a) "skip" D (.ref 147) [.ref a] := gm_inst hm (by kernel_rfl) (by rw [I.k]; kernel_rfl) (by rw [I.k]; kernel_rfl) (by rw [I.k]; kernel_rfl)
theorem gm_white (I : Is190 B) (hm : (a, insO d t e dx) ∈ D) : GM B n (.ref a) "skip_white" D (.ref 154) [.ref a] := gm_inst hm (by kernel_rfl) (by rw [I.k]; kernel_rfl) (by rw [I.k]; kernel_rfl) (by rw [I.k]; kernel_rfl)
theorem gm_reg (I : Is190 B) (hm : (a, insO d t e dx) ∈ D) : GM B n (.ref a) "take_regular" D (.ref 161) [.ref a] := gm_inst hm (by kernel_rfl) (by rw [I.k]; kernel_rfl) (by rw [I.k]; kernel_rfl) (by rw [I.k]; kernel_rfl)
variable {Q : Loc → Led → Prop} {o : Expr} {pos : Pos}
theorem as_at (I : Is190 B) (h : EV B n env o m D fun x D₁ => ∃ a dx d t e D₂, x = .ref a ∧ SetD a (insO d t e dx) (insO d v e dx) D₁ D₂ ∧ Q m D₂) : AS B n env (.Attribute o "at" pos) v m D Q :=
  as_attr (h.mono fun x D' ⟨a, dx, d, t, e, D₂, hx, hs, q⟩ => ⟨a, 199, dx, _, D₂, hx, hs, by simp, by rw [I.k]; kernel_rfl, by rw [I.k]; kernel_rfl, by rw [I.k]; kernel_rfl, by rw [I.k]; kernel_rfl, q⟩)
theorem as_i1 (I : Is190 B) (h : EV B n env o m D fun x D₁ => ∃ a dx D₂, x = .ref a ∧ SetD a (.inst 199 dx []) (.inst 199 dx [(Str.ofString "data", v)]) D₁ D₂ ∧ Q m D₂) : AS B n env (.Attribute o "data" pos) v m D Q :=
  as_attr (h.mono fun x D' ⟨a, dx, D₂, hx, hs, q⟩ => ⟨a, 199, dx, _, D₂, hx, hs, by simp, by rw [I.k]; kernel_rfl, by rw [I.k]; kernel_rfl, by rw [I.k]; kernel_rfl, by rw [I.k]; kernel_rfl, q⟩)
theorem as_i2 (I : Is190 B) (h : EV B n env o m D fun x D₁ => ∃ a dx d D₂, x = .ref a ∧ SetD a (.inst 199 dx [(Str.ofString "data", d)]) (.inst 199 dx [(Str.ofString "data", d), (Str.ofString "at", v)]) D₁ D₂ ∧ Q m D₂) : AS B n env (.Attribute o "at" pos) v m D Q :=
  as_attr (h.mono fun x D' ⟨a, dx, d, D₂, hx, hs, q⟩ => ⟨a, 199, dx, _, D₂, hx, hs, by simp, by rw [I.k]; kernel_rfl, by rw [I.k]; kernel_rfl, by rw [I.k]; kernel_rfl, by rw [I.k]; kernel_rfl, q⟩)
theorem as_i3 (I : Is190 B) (h : EV B n env o m D fun x D₁ => ∃ a dx d t D₂, x = .ref a ∧ SetD a (.inst 199 dx [(Str.ofString "data", d), (Str.ofString "at", t)]) (insO d t v dx) D₁ D₂ ∧ Q m D₂) : AS B n env (.Attribute o "end" pos) v m D Q :=
  as_attr (h.mono fun x D' ⟨a, dx, d, t, D₂, hx, hs, q⟩ => ⟨a, 199, dx, _, D₂, hx, hs, by simp, by rw [I.k]; kernel_rfl, by rw [I.k]; kernel_rfl, by rw [I.k]; kernel_rfl, by rw [I.k]; kernel_rfl, q⟩)
end
section
variable {B : Base} {n : Nat} {env : Env} {m : Loc} {D : Led} {Q : V → Led → Prop}
theorem mem_0 {α : Type} {a : α} {l : List α} : a ∈ a :: l := .head _
theorem mem_1 {α : Type} {a b0 : α} {l : List α} : a ∈ b0 :: a :: l := .tail _ (.head _)
theorem mem_2 {α : Type} {a b0 b1 : α} {l : List α} : a ∈ b0 :: b1 :: a :: l := .tail _ (.tail _ (.head _))
theorem mem_3 {α : Type} {a b0 b1 b2 : α} {l : List α} : a ∈ b0 :: b1 :: b2 :: a :: l := .tail _ (.tail _ (.tail _ (.head _)))
theorem mem_4 {α : Type} {a b0 b1 b2 b3 : α} {l : List α} : a ∈ b0 :: b1 :: b2 :: b3 :: a :: l := .tail _ (.tail _ (.tail _ (.tail _ (.head _))))
theorem mem_5 {α : Type} {a b0 b1 b2 b3 b4 : α} {l : List α} : a ∈ b0 :: b1 :: b2 :: b3 :: b4 :: a :: l := .tail _ (.tail _ (.tail _ (.tail _ (.tail _ (.head _)))))
theorem mem_6 {α : Type} {a b0 b1 b2 b3 b4 b5 : α} {l : List α} : a ∈ b0 :: b1 :: b2 :: b3 :: b4 :: b5 :: a :: l := .tail _ (.tail _ (.tail _ (.tail _ (.tail _ (.tail _ (.head _))))))
theorem mem_7 {α : Type} {a b0 b1 b2 b3 b4 b5 b6 : α} {l : List α} : a ∈ b0 :: b1 :: b2 :: b3 :: b4 :: b5 :: b6 :: a :: l := .tail _ (.tail _ (.tail _ (.tail _ (.tail _ (.tail _ (.tail _ (.head _)))))))
theorem mem_8 {α : Type} {a b0 b1 b2 b3 b4 b5 b6 b7 : α} {l : List α} : a ∈ b0 :: b1 :: b2 :: b3 :: b4 :: b5 :: b6 :: b7 :: a :: l := .tail _ (.tail _ (.tail _ (.tail _ (.tail _ (.tail _ (.tail _ (.tail _ (.head _))))))))
theorem mem_9 {α : Type} {a b0 b1 b2 b3 b4 b5 b6 b7 b8 : α} {l : List α} : a ∈ b0 :: b1 :: b2 :: b3 :: b4 :: b5 :: b6 :: b7 :: b8 :: a :: l := .tail _ (.tail _ (.tail _ (.tail _ (.tail _ (.tail _ (.tail _ (.tail _ (.tail _ (.head _)))))))))
theorem mem_10 {α : Type} {a b0 b1 b2 b3 b4 b5 b6 b7 b8 b9 : α} {l : List α} : a ∈ b0 :: b1 :: b2 :: b3 :: b4 :: b5 :: b6 :: b7 :: b8 :: b9 :: a :: l := .tail _ (.tail _ (.tail _ (.tail _ (.tail _ (.tail _ (.tail _ (.tail _ (.tail _ (.tail _ (.head _))))))))))
theorem mem_11 {α : Type} {a b0 b1 b2 b3 b4 b5 b6 b7 b8 b9 b10 : α} {l : List α} : a ∈ b0 :: b1 :: b2 :: b3 :: b4 :: b5 :: b6 :: b7 :: b8 :: b9 :: b10 :: a :: l := .tail _ (.tail _ (.tail _ (.tail _ (.tail _ (.tail _ (.tail _ (.tail _ (.tail _ (.tail _ (.tail _ (.head _)))))))))))
theorem mem_12 {α : Type} {a b0 b1 b2 b3 b4 b5 b6 b7 b8 b9 b10 b11 : α} {l : List α} : a ∈ b0 :: b1 :: b2 :: b3 :: b4 :: b5 :: b6 :: b7 :: b8 :: b9 :: b10 :: b11 :: a :: l := .tail _ (.tail _ (.tail _ (.tail _ (.tail _ (.tail _ (.tail _ (.tail _ (.tail _ (.tail _ (.tail _ (.tail _ (.head _))))))))))))
theorem mem_13 {α : Type} {a b0 b1 b2 b3 b4 b5 b6 b7 b8 b9 b10 b11 b12 : α} {l : List α} : a ∈ b0 :: b1 :: b2 :: b3 :: b4 :: b5 :: b6 :: b7 :: b8 :: b9 :: b10 :: b11 :: b12 :: a :: l := .tail _ (.tail _ (.tail _ (.tail _ (.tail _ (.tail _ (.tail _ (.tail _ (.tail _ (.tail _ (.tail _ (.tail _ (.tail _ (.head _)))))))))))))
theorem mem_14 {α : Type} {a b0 b1 b2 b3 b4 b5 b6 b7 b8 b9 b10 b11 b12 b13 : α} {l : List α} : a ∈ b0 :: b1 :: b2 :: b3 :: b4 :: b5 :: b6 :: b7 :: b8 :: b9 :: b10 :: b11 :: b12 :: b13 :: a :: l := .tail _ (.tail _ (.tail _ (.tail _ (.tail _ (.tail _ (.tail _ (.tail _ (.tail _ (.tail _ (.tail _ (.tail _ (.tail _ (.tail _ (.head _))))))))))))))
theorem mem_15 {α : Type} {a b0 b1 b2 b3 b4 b5 b6 b7 b8 b9 b10 b11 b12 b13 b14 : α} {l : List α} : a ∈ b0 :: b1 :: b2 :: b3 :: b4 :: b5 :: b6 :: b7 :: b8 :: b9 :: b10 :: b11 :: b12 :: b13 :: b14 :: a :: l := .tail _ (.tail _ (.tail _ (.tail _ (.tail _ (.tail _ (.tail _ (.tail _ (.tail _ (.tail _ (.tail _ (.tail _ (.tail _ (.tail _ (.tail _ (.head _)))))))))))))))
theorem mem_16 {α : Type} {a b0 b1 b2 b3 b4 b5 b6 b7 b8 b9 b10 b11 b12 b13 b14 b15 : α} {l : List α} : a ∈ b0 :: b1 :: b2 :: b3 :: b4 :: b5 :: b6 :: b7 :: b8 :: b9 :: b10 :: b11 :: b12 :: b13 :: b14 :: b15 :: a :: l := .tail _ (.tail _ (.tail _ (.tail _ (.tail _ (.tail _ (.tail _ (.tail _ (.tail _ (.tail _ (.tail _ (.tail _ (.tail _ (.tail _ (.tail _ (.tail _ (.head _))))))))))))))))
theorem mem_17 {α : Type} {a b0 b1 b2 b3 b4 b5 b6 b7 b8 b9 b10 b11 b12 b13 b14 b15 b16 : α} {l : List α} : a ∈ b0 :: b1 :: b2 :: b3 :: b4 :: b5 :: b6 :: b7 :: b8 :: b9 :: b10 :: b11 :: b12 :: b13 :: b14 :: b15 :: b16 :: a :: l := .tail _ (.tail _ (.tail _ (.tail _ (.tail _ (.tail _ (.tail _ (.tail _ (.tail _ (.tail _ (.tail _ (.tail _ (.tail _ (.tail _ (.tail _ (.tail _ (.tail _ (.head _)))))))))))))))))
theorem mem_18 {α : Type} {a b0 b1 b2 b3 b4 b5 b6 b7 b8 b9 b10 b11 b12 b13 b14 b15 b16 b17 : α} {l : List α} : a ∈ b0 :: b1 :: b2 :: b3 :: b4 :: b5 :: b6 :: b7 :: b8 :: b9 :: b10 :: b11 :: b12 :: b13 :: b14 :: b15 :: b16 :: b17 :: a :: l := .tail _ (.tail _ (.tail _ (.tail _ (.tail _ (.tail _ (.tail _ (.tail _ (.tail _ (.tail _ (.tail _ (.tail _ (.tail _ (.tail _ (.tail _ (.tail _ (.tail _ (.tail _ (.head _))))))))))))))))))
theorem mem_19 {α : Type} {a b0 b1 b2 b3 b4 b5 b6 b7 b8 b9 b10 b11 b12 b13 b14 b15 b16 b17 b18 : α} {l : List α} : a ∈ b0 :: b1 :: b2 :: b3 :: b4 :: b5 :: b6 :: b7 :: b8 :: b9 :: b10 :: b11 :: b12 :: b13 :: b14 :: b15 :: b16 :: b17 :: b18 :: a :: l := .tail _ (.tail _ (.tail _ (.tail _ (.tail _ (.tail _ (.tail _ (.tail _ (.tail _ (.tail _ (.tail _ (.tail _ (.tail _ (.tail _ (.tail _ (.tail _ (.tail _ (.tail _ (.tail _ (.head _)))))))))))))))))))
theorem mem_20 {α : Type} {a b0 b1 b2 b3 b4 b5 b6 b7 b8 b9 b10 b11 b12 b13 b14 b15 b16 b17 b18 b19 : α} {l : List α} : a ∈ b0 :: b1 :: b2 :: b3 :: b4 :: b5 :: b6 :: b7 :: b8 :: b9 :: b10 :: b11 :: b12 :: b13 :: b14 :: b15 :: b16 :: b17 :: b18 :: b19 :: a :: l := .tail _ (.tail _ (.tail _ (.tail _ (.tail _ (.tail _ (.tail _ (.tail _ (.tail _ (.tail _ (.tail _ (.tail _ (.tail _ (.tail _ (.tail _ (.tail _ (.tail _ (.tail _ (.tail _ (.tail _ (.head _))))))))))))))))))))
theorem mem_21 {α : Type} {a b0 b1 b2 b3 b4 b5 b6 b7 b8 b9 b10 b11 b12 b13 b14 b15 b16 b17 b18 b19 b20 : α} {l : List α} : a ∈ b0 :: b1 :: b2 :: b3 :: b4 :: b5 :: b6 :: b7 :: b8 :: b9 :: b10 :: b11 :: b12 :: b13 :: b14 :: b15 :: b16 :: b17 :: b18 :: b19 :: b20 :: a :: l := .tail _ (.tail _ (.tail _ (.tail _ (.tail _ (.tail _ (.tail _ (.tail _ (.tail _ (.tail _ (.tail _ (.tail _ (.tail _ (.tail _ (.tail _ (.tail _ (.tail _ (.tail _ (.tail _ (.tail _ (.tail _ (.head _)))))))))))))))))))))
theorem mem_22 {α : Type} {a b0 b1 b2 b3 b4 b5 b6 b7 b8 b9 b10 b11 b12 b13 b14 b15 b16 b17 b18 b19 b20 b21 : α} {l : List α} : a ∈ b0 :: b1 :: b2 :: b3 :: b4 :: b5 :: b6 :: b7 :: b8 :: b9 :: b10 :: b11 :: b12 :: b13 :: b14 :: b15 :: b16 :: b17 :: b18 :: b19 :: b20 :: b21 :: a :: l := .tail _ (.tail _ (.tail _ (.tail _ (.tail _ (.tail _ (.tail _ (.tail _ (.tail _ (.tail _ (.tail _ (.tail _ (.tail _ (.tail _ (.tail _ (.tail _ (.tail _ (.tail _ (.tail _ (.tail _ (.tail _ (.tail _ (.head _))))))))))))))))))))))
theorem mem_23 {α : Type} {a b0 b1 b2 b3 b4 b5 b6 b7 b8 b9 b10 b11 b12 b13 b14 b15 b16 b17 b18 b19 b20 b21 b22 : α} {l : List α} : a ∈ b0 :: b1 :: b2 :: b3 :: b4 :: b5 :: b6 :: b7 :: b8 :: b9 :: b10 :: b11 :: b12 :: b13 :: b14 :: b15 :: b16 :: b17 :: b18 :: b19 :: b20 :: b21 :: b22 :: a :: l := .tail _ (.tail _ (.tail _ (.tail _ (.tail _ (.tail _ (.tail _ (.tail _ (.tail _ (.tail _ (.tail _ (.tail _ (.tail _ (.tail _ (.tail _ (.tail _ (.tail _ (.tail _ (.tail _ (.tail _ (.tail _ (.tail _ (.tail _ (.head _)))))))))))))))))))))))
theorem mem_24 {α : Type} {a b0 b1 b2 b3 b4 b5 b6 b7 b8 b9 b10 b11 b12 b13 b14 b15 b16 b17 b18 b19 b20 b21 b22 b23 : α} {l : List α} : a ∈ b0 :: b1 :: b2 :: b3 :: b4 :: b5 :: b6 :: b7 :: b8 :: b9 :: b10 :: b11 :: b12 :: b13 :: b14 :: b15 :: b16 :: b17 :: b18 :: b19 :: b20 :: b21 :: b22 :: b23 :: a :: l := .tail _ (.tail _ (.tail _ (.tail _ (.tail _ (.tail _ (.tail _ (.tail _ (.tail _ (.tail _ (.tail _ (.tail _ (.tail _ (.tail _ (.tail _ (.tail _ (.tail _ (.tail _ (.tail _ (.tail _ (.tail _ (.tail _ (.tail _ (.tail _ (.head _))))))))))))))))))))))))
theorem mem_25 {α : Type} {a b0 b1 b2 b3 b4 b5 b6 b7 b8 b9 b10 b11 b12 b13 b14 b15 b16 b17 b18 b19 b20 b21 b22 b23 b24 : α} {l : List α} : a ∈ b0 :: b1 :: b2 :: b3 :: b4 :: b5 :: b6 :: b7 :: b8 :: b9 :: b10 :: b11 :: b12 :: b13 :: b14 :: b15 :: b16 :: b17 :: b18 :: b19 :: b20 :: b21 :: b22 :: b23 :: b24 :: a :: l := .tail _ (.tail _ (.tail _ (.tail _ (.tail _ (.tail _ (.tail _ (.tail _ (.tail _ (.tail _ (.tail _ (.tail _ (.tail _ (.tail _ (.tail _ (.tail _ (.tail _ (.tail _ (.tail _ (.tail _ (.tail _ (.tail _ (.tail _ (.tail _ (.tail _ (.head _)))))))))))))))))))))))))
theorem mem_26 {α : Type} {a b0 b1 b2 b3 b4 b5 b6 b7 b8 b9 b10 b11 b12 b13 b14 b15 b16 b17 b18 b19 b20 b21 b22 b23 b24 b25 : α} {l : List α} : a ∈ b0 :: b1 :: b2 :: b3 :: b4 :: b5 :: b6 :: b7 :: b8 :: b9 :: b10 :: b11 :: b12 :: b13 :: b14 :: b15 :: b16 :: b17 :: b18 :: b19 :: b20 :: b21 :: b22 :: b23 :: b24 :: b25 :: a :: l := .tail _ (.tail _ (.tail _ (.tail _ (.tail _ (.tail _ (.tail _ (.tail _ (.tail _ (.tail _ (.tail _ (.tail _ (.tail _ (.tail _ (.tail _ (.tail _ (.tail _ (.tail _ (.tail _ (.tail _ (.tail _ (.tail _ (.tail _ (.tail _ (.tail _ (.tail _ (.head _))))))))))))))))))))))))))
theorem mem_27 {α : Type} {a b0 b1 b2 b3 b4 b5 b6 b7 b8 b9 b10 b11 b12 b13 b14 b15 b16 b17 b18 b19 b20 b21 b22 b23 b24 b25 b26 : α} {l : List α} : a ∈ b0 :: b1 :: b2 :: b3 :: b4 :: b5 :: b6 :: b7 :: b8 :: b9 :: b10 :: b11 :: b12 :: b13 :: b14 :: b15 :: b16 :: b17 :: b18 :: b19 :: b20 :: b21 :: b22 :: b23 :: b24 :: b25 :: b26 :: a :: l := .tail _ (.tail _ (.tail _ (.tail _ (.tail _ (.tail _ (.tail _ (.tail _ (.tail _ (.tail _ (.tail _ (.tail _ (.tail _ (.tail _ (.tail _ (.tail _ (.tail _ (.tail _ (.tail _ (.tail _ (.tail _ (.tail _ (.tail _ (.tail _ (.tail _ (.tail _ (.tail _ (.head _)))))))))))))))))))))))))))
theorem mem_28 {α : Type} {a b0 b1 b2 b3 b4 b5 b6 b7 b8 b9 b10 b11 b12 b13 b14 b15 b16 b17 b18 b19 b20 b21 b22 b23 b24 b25 b26 b27 : α} {l : List α} : a ∈ b0 :: b1 :: b2 :: b3 :: b4 :: b5 :: b6 :: b7 :: b8 :: b9 :: b10 :: b11 :: b12 :: b13 :: b14 :: b15 :: b16 :: b17 :: b18 :: b19 :: b20 :: b21 :: b22 :: b23 :: b24 :: b25 :: b26 :: b27 :: a :: l := .tail _ (.tail _ (.tail _ (.tail _ (.tail _ (.tail _ (.tail _ (.tail _ (.tail _ (.tail _ (.tail _ (.tail _ (.tail _ (.tail _ (.tail _ (.tail _ (.tail _ (.tail _ (.tail _ (.tail _ (.tail _ (.tail _ (.tail _ (.tail _ (.tail _ (.tail _ (.tail _ (.tail _ (.head _))))))))))))))))))))))))))))
theorem mem_29 {α : Type} {a b0 b1 b2 b3 b4 b5 b6 b7 b8 b9 b10 b11 b12 b13 b14 b15 b16 b17 b18 b19 b20 b21 b22 b23 b24 b25 b26 b27 b28 : α} {l : List α} : a ∈ b0 :: b1 :: b2 :: b3 :: b4 :: b5 :: b6 :: b7 :: b8 :: b9 :: b10 :: b11 :: b12 :: b13 :: b14 :: b15 :: b16 :: b17 :: b18 :: b19 :: b20 :: b21 :: b22 :: b23 :: b24 :: b25 :: b26 :: b27 :: b28 :: a :: l := .tail _ (.tail _ (.tail _ (.tail _ (.tail _ (.tail _ (.tail _ (.tail _ (.tail _ (.tail _ (.tail _ (.tail _ (.tail _ (.tail _ (.tail _ (.tail _ (.tail _ (.tail _ (.tail _ (.tail _ (.tail _ (.tail _ (.tail _ (.tail _ (.tail _ (.tail _ (.tail _ (.tail _ (.tail _ (.head _)))))))))))))))))))))))))))))
theorem tl_1 {α : Type} {a b0 : α} {l : List α} (h : a ∈ l) : a ∈ b0 :: l := .tail _ (h)
theorem tl_2 {α : Type} {a b0 b1 : α} {l : List α} (h : a ∈ l) : a ∈ b0 :: b1 :: l := .tail _ (.tail _ (h))
theorem tl_3 {α : Type} {a b0 b1 b2 : α} {l : List α} (h : a ∈ l) : a ∈ b0 :: b1 :: b2 :: l := .tail _ (.tail _ (.tail _ (h)))
theorem tl_4 {α : Type} {a b0 b1 b2 b3 : α} {l : List α} (h : a ∈ l) : a ∈ b0 :: b1 :: b2 :: b3 :: l := .tail _ (.tail _ (.tail _ (.tail _ (h))))
theorem tl_5 {α : Type} {a b0 b1 b2 b3 b4 : α} {l : List α} (h : a ∈ l) : a ∈ b0 :: b1 :: b2 :: b3 :: b4 :: l := .tail _ (.tail _ (.tail _ (.tail _ (.tail _ (h)))))
theorem tl_6 {α : Type} {a b0 b1 b2 b3 b4 b5 : α} {l : List α} (h : a ∈ l) : a ∈ b0 :: b1 :: b2 :: b3 :: b4 :: b5 :: l := .tail _ (.tail _ (.tail _ (.tail _ (.tail _ (.tail _ (h))))))
theorem tl_7 {α : Type} {a b0 b1 b2 b3 b4 b5 b6 : α} {l : List α} (h : a ∈ l) : a ∈ b0 :: b1 :: b2 :: b3 :: b4 :: b5 :: b6 :: l := .tail _ (.tail _ (.tail _ (.tail _ (.tail _ (.tail _ (.tail _ (h)))))))
theorem tl_8 {α : Type} {a b0 b1 b2 b3 b4 b5 b6 b7 : α} {l : List α} (h : a ∈ l) : a ∈ b0 :: b1 :: b2 :: b3 :: b4 :: b5 :: b6 :: b7 :: l := .tail _ (.tail _ (.tail _ (.tail _ (.tail _ (.tail _ (.tail _ (.tail _ (h))))))))
theorem tl_9 {α : Type} {a b0 b1 b2 b3 b4 b5 b6 b7 b8 : α} {l : List α} (h : a ∈ l) : a ∈ b0 :: b1 :: b2 :: b3 :: b4 :: b5 :: b6 :: b7 :: b8 :: l := .tail _ (.tail _ (.tail _ (.tail _ (.tail _ (.tail _ (.tail _ (.tail _ (.tail _ (h)))))))))
theorem setl_0 {x : Str} {u v : V} {r : Loc} : SetL x v ((x, .v u) :: r) ((x, .v v) :: r) := .here
theorem setl_1 {x : Str} {u v : V} {p0 : Str × E} {r : Loc} : SetL x v (p0 :: (x, .v u) :: r) (p0 :: (x, .v v) :: r) := .there (.here)
theorem setl_2 {x : Str} {u v : V} {p0 p1 : Str × E} {r : Loc} : SetL x v (p0 :: p1 :: (x, .v u) :: r) (p0 :: p1 :: (x, .v v) :: r) := .there (.there (.here))
theorem setl_3 {x : Str} {u v : V} {p0 p1 p2 : Str × E} {r : Loc} : SetL x v (p0 :: p1 :: p2 :: (x, .v u) :: r) (p0 :: p1 :: p2 :: (x, .v v) :: r) := .there (.there (.there (.here)))
theorem setl_4 {x : Str} {u v : V} {p0 p1 p2 p3 : Str × E} {r : Loc} : SetL x v (p0 :: p1 :: p2 :: p3 :: (x, .v u) :: r) (p0 :: p1 :: p2 :: p3 :: (x, .v v) :: r) := .there (.there (.there (.there (.here))))
theorem setl_5 {x : Str} {u v : V} {p0 p1 p2 p3 p4 : Str × E} {r : Loc} : SetL x v (p0 :: p1 :: p2 :: p3 :: p4 :: (x, .v u) :: r) (p0 :: p1 :: p2 :: p3 :: p4 :: (x, .v v) :: r) := .there (.there (.there (.there (.there (.here)))))
theorem setl_6 {x : Str} {u v : V} {p0 p1 p2 p3 p4 p5 : Str × E} {r : Loc} : SetL x v (p0 :: p1 :: p2 :: p3 :: p4 :: p5 :: (x, .v u) :: r) (p0 :: p1 :: p2 :: p3 :: p4 :: p5 :: (x, .v v) :: r) := .there (.there (.there (.there (.there (.there (.here))))))
theorem setl_7 {x : Str} {u v : V} {p0 p1 p2 p3 p4 p5 p6 : Str × E} {r : Loc} : SetL x v (p0 :: p1 :: p2 :: p3 :: p4 :: p5 :: p6 :: (x, .v u) :: r) (p0 :: p1 :: p2 :: p3 :: p4 :: p5 :: p6 :: (x, .v v) :: r) := .there (.there (.there (.there (.there (.there (.there (.here)))))))
theorem setl_8 {x : Str} {u v : V} {p0 p1 p2 p3 p4 p5 p6 p7 : Str × E} {r : Loc} : SetL x v (p0 :: p1 :: p2 :: p3 :: p4 :: p5 :: p6 :: p7 :: (x, .v u) :: r) (p0 :: p1 :: p2 :: p3 :: p4 :: p5 :: p6 :: p7 :: (x, .v v) :: r) := .there (.there (.there (.there (.there (.there (.there (.there (.here))))))))
theorem setl_9 {x : Str} {u v : V} {p0 p1 p2 p3 p4 p5 p6 p7 p8 : Str × E} {r : Loc} : SetL x v (p0 :: p1 :: p2 :: p3 :: p4 :: p5 :: p6 :: p7 :: p8 :: (x, .v u) :: r) (p0 :: p1 :: p2 :: p3 :: p4 :: p5 :: p6 :: p7 :: p8 :: (x, .v v) :: r) := .there (.there (.there (.there (.there (.there (.there (.there (.there (.here)))))))))
theorem setl_10 {x : Str} {u v : V} {p0 p1 p2 p3 p4 p5 p6 p7 p8 p9 : Str × E} {r : Loc} : SetL x v (p0 :: p1 :: p2 :: p3 :: p4 :: p5 :: p6 :: p7 :: p8 :: p9 :: (x, .v u) :: r) (p0 :: p1 :: p2 :: p3 :: p4 :: p5 :: p6 :: p7 :: p8 :: p9 :: (x, .v v) :: r) := .there (.there (.there (.there (.there (.there (.there (.there (.there (.there (.here))))))))))
theorem setl_11 {x : Str} {u v : V} {p0 p1 p2 p3 p4 p5 p6 p7 p8 p9 p10 : Str × E} {r : Loc} : SetL x v (p0 :: p1 :: p2 :: p3 :: p4 :: p5 :: p6 :: p7 :: p8 :: p9 :: p10 :: (x, .v u) :: r) (p0 :: p1 :: p2 :: p3 :: p4 :: p5 :: p6 :: p7 :: p8 :: p9 :: p10 :: (x, .v v) :: r) := .there (.there (.there (.there (.there (.there (.there (.there (.there (.there (.there (.here)))))))))))
theorem setl_12 {x : Str} {u v : V} {p0 p1 p2 p3 p4 p5 p6 p7 p8 p9 p10 p11 : Str × E} {r : Loc} : SetL x v (p0 :: p1 :: p2 :: p3 :: p4 :: p5 :: p6 :: p7 :: p8 :: p9 :: p10 :: p11 :: (x, .v u) :: r) (p0 :: p1 :: p2 :: p3 :: p4 :: p5 :: p6 :: p7 :: p8 :: p9 :: p10 :: p11 :: (x, .v v) :: r) := .there (.there (.there (.there (.there (.there (.there (.there (.there (.there (.there (.there (.here))))))))))))
theorem setl_13 {x : Str} {u v : V} {p0 p1 p2 p3 p4 p5 p6 p7 p8 p9 p10 p11 p12 : Str × E} {r : Loc} : SetL x v (p0 :: p1 :: p2 :: p3 :: p4 :: p5 :: p6 :: p7 :: p8 :: p9 :: p10 :: p11 :: p12 :: (x, .v u) :: r) (p0 :: p1 :: p2 :: p3 :: p4 :: p5 :: p6 :: p7 :: p8 :: p9 :: p10 :: p11 :: p12 :: (x, .v v) :: r) := .there (.there (.there (.there (.there (.there (.there (.there (.there (.there (.there (.there (.there (.here)))))))))))))
theorem setl_14 {x : Str} {u v : V} {p0 p1 p2 p3 p4 p5 p6 p7 p8 p9 p10 p11 p12 p13 : Str × E} {r : Loc} : SetL x v (p0 :: p1 :: p2 :: p3 :: p4 :: p5 :: p6 :: p7 :: p8 :: p9 :: p10 :: p11 :: p12 :: p13 :: (x, .v u) :: r) (p0 :: p1 :: p2 :: p3 :: p4 :: p5 :: p6 :: p7 :: p8 :: p9 :: p10 :: p11 :: p12 :: p13 :: (x, .v v) :: r) := .there (.there (.there (.there (.there (.there (.there (.there (.there (.there (.there (.there (.there (.there (.here))))))))))))))
theorem setl_15 {x : Str} {u v : V} {p0 p1 p2 p3 p4 p5 p6 p7 p8 p9 p10 p11 p12 p13 p14 : Str × E} {r : Loc} : SetL x v (p0 :: p1 :: p2 :: p3 :: p4 :: p5 :: p6 :: p7 :: p8 :: p9 :: p10 :: p11 :: p12 :: p13 :: p14 :: (x, .v u) :: r) (p0 :: p1 :: p2 :: p3 :: p4 :: p5 :: p6 :: p7 :: p8 :: p9 :: p10 :: p11 :: p12 :: p13 :: p14 :: (x, .v v) :: r) := .there (.there (.there (.there (.there (.there (.there (.there (.there (.there (.there (.there (.there (.there (.there (.here)))))))))))))))
theorem setl_16 {x : Str} {u v : V} {p0 p1 p2 p3 p4 p5 p6 p7 p8 p9 p10 p11 p12 p13 p14 p15 : Str × E} {r : Loc} : SetL x v (p0 :: p1 :: p2 :: p3 :: p4 :: p5 :: p6 :: p7 :: p8 :: p9 :: p10 :: p11 :: p12 :: p13 :: p14 :: p15 :: (x, .v u) :: r) (p0 :: p1 :: p2 :: p3 :: p4 :: p5 :: p6 :: p7 :: p8 :: p9 :: p10 :: p11 :: p12 :: p13 :: p14 :: p15 :: (x, .v v) :: r) := .there (.there (.there (.there (.there (.there (.there (.there (.there (.there (.there (.there (.there (.there (.there (.there (.here))))))))))))))))
theorem setl_17 {x : Str} {u v : V} {p0 p1 p2 p3 p4 p5 p6 p7 p8 p9 p10 p11 p12 p13 p14 p15 p16 : Str × E} {r : Loc} : SetL x v (p0 :: p1 :: p2 :: p3 :: p4 :: p5 :: p6 :: p7 :: p8 :: p9 :: p10 :: p11 :: p12 :: p13 :: p14 :: p15 :: p16 :: (x, .v u) :: r) (p0 :: p1 :: p2 :: p3 :: p4 :: p5 :: p6 :: p7 :: p8 :: p9 :: p10 :: p11 :: p12 :: p13 :: p14 :: p15 :: p16 :: (x, .v v) :: r) := .there (.there (.there (.there (.there (.there (.there (.there (.there (.there (.there (.there (.there (.there (.there (.there (.there (.here)))))))))))))))))
theorem setl_18 {x : Str} {u v : V} {p0 p1 p2 p3 p4 p5 p6 p7 p8 p9 p10 p11 p12 p13 p14 p15 p16 p17 : Str × E} {r : Loc} : SetL x v (p0 :: p1 :: p2 :: p3 :: p4 :: p5 :: p6 :: p7 :: p8 :: p9 :: p10 :: p11 :: p12 :: p13 :: p14 :: p15 :: p16 :: p17 :: (x, .v u) :: r) (p0 :: p1 :: p2 :: p3 :: p4 :: p5 :: p6 :: p7 :: p8 :: p9 :: p10 :: p11 :: p12 :: p13 :: p14 :: p15 :: p16 :: p17 :: (x, .v v) :: r) := .there (.there (.there (.there (.there (.there (.there (.there (.there (.there (.there (.there (.there (.there (.there (.there (.there (.there (.here))))))))))))))))))
theorem setl_19 {x : Str} {u v : V} {p0 p1 p2 p3 p4 p5 p6 p7 p8 p9 p10 p11 p12 p13 p14 p15 p16 p17 p18 : Str × E} {r : Loc} : SetL x v (p0 :: p1 :: p2 :: p3 :: p4 :: p5 :: p6 :: p7 :: p8 :: p9 :: p10 :: p11 :: p12 :: p13 :: p14 :: p15 :: p16 :: p17 :: p18 :: (x, .v u) :: r) (p0 :: p1 :: p2 :: p3 :: p4 :: p5 :: p6 :: p7 :: p8 :: p9 :: p10 :: p11 :: p12 :: p13 :: p14 :: p15 :: p16 :: p17 :: p18 :: (x, .v v) :: r) := .there (.there (.there (.there (.there (.there (.there (.there (.there (.there (.there (.there (.there (.there (.there (.there (.there (.there (.there (.here)))))))))))))))))))
theorem setl_20 {x : Str} {u v : V} {p0 p1 p2 p3 p4 p5 p6 p7 p8 p9 p10 p11 p12 p13 p14 p15 p16 p17 p18 p19 : Str × E} {r : Loc} : SetL x v (p0 :: p1 :: p2 :: p3 :: p4 :: p5 :: p6 :: p7 :: p8 :: p9 :: p10 :: p11 :: p12 :: p13 :: p14 :: p15 :: p16 :: p17 :: p18 :: p19 :: (x, .v u) :: r) (p0 :: p1 :: p2 :: p3 :: p4 :: p5 :: p6 :: p7 :: p8 :: p9 :: p10 :: p11 :: p12 :: p13 :: p14 :: p15 :: p16 :: p17 :: p18 :: p19 :: (x, .v v) :: r) := .there (.there (.there (.there (.there (.there (.there (.there (.there (.there (.there (.there (.there (.there (.there (.there (.there (.there (.there (.there (.here))))))))))))))))))))
theorem setl_21 {x : Str} {u v : V} {p0 p1 p2 p3 p4 p5 p6 p7 p8 p9 p10 p11 p12 p13 p14 p15 p16 p17 p18 p19 p20 : Str × E} {r : Loc} : SetL x v (p0 :: p1 :: p2 :: p3 :: p4 :: p5 :: p6 :: p7 :: p8 :: p9 :: p10 :: p11 :: p12 :: p13 :: p14 :: p15 :: p16 :: p17 :: p18 :: p19 :: p20 :: (x, .v u) :: r) (p0 :: p1 :: p2 :: p3 :: p4 :: p5 :: p6 :: p7 :: p8 :: p9 :: p10 :: p11 :: p12 :: p13 :: p14 :: p15 :: p16 :: p17 :: p18 :: p19 :: p20 :: (x, .v v) :: r) := .there (.there (.there (.there (.there (.there (.there (.there (.there (.there (.there (.there (.there (.there (.there (.there (.there (.there (.there (.there (.there (.here)))))))))))))))))))))
theorem setl_22 {x : Str} {u v : V} {p0 p1 p2 p3 p4 p5 p6 p7 p8 p9 p10 p11 p12 p13 p14 p15 p16 p17 p18 p19 p20 p21 : Str × E} {r : Loc} : SetL x v (p0 :: p1 :: p2 :: p3 :: p4 :: p5 :: p6 :: p7 :: p8 :: p9 :: p10 :: p11 :: p12 :: p13 :: p14 :: p15 :: p16 :: p17 :: p18 :: p19 :: p20 :: p21 :: (x, .v u) :: r) (p0 :: p1 :: p2 :: p3 :: p4 :: p5 :: p6 :: p7 :: p8 :: p9 :: p10 :: p11 :: p12 :: p13 :: p14 :: p15 :: p16 :: p17 :: p18 :: p19 :: p20 :: p21 :: (x, .v v) :: r) := .there (.there (.there (.there (.there (.there (.there (.there (.there (.there (.there (.there (.there (.there (.there (.there (.there (.there (.there (.there (.there (.there (.here))))))))))))))))))))))
theorem setl_23 {x : Str} {u v : V} {p0 p1 p2 p3 p4 p5 p6 p7 p8 p9 p10 p11 p12 p13 p14 p15 p16 p17 p18 p19 p20 p21 p22 : Str × E} {r : Loc} : SetL x v (p0 :: p1 :: p2 :: p3 :: p4 :: p5 :: p6 :: p7 :: p8 :: p9 :: p10 :: p11 :: p12 :: p13 :: p14 :: p15 :: p16 :: p17 :: p18 :: p19 :: p20 :: p21 :: p22 :: (x, .v u) :: r) (p0 :: p1 :: p2 :: p3 :: p4 :: p5 :: p6 :: p7 :: p8 :: p9 :: p10 :: p11 :: p12 :: p13 :: p14 :: p15 :: p16 :: p17 :: p18 :: p19 :: p20 :: p21 :: p22 :: (x, .v v) :: r) := .there (.there (.there (.there (.there (.there (.there (.there (.there (.there (.there (.there (.there (.there (.there (.there (.there (.there (.there (.there (.there (.there (.there (.here)))))))))))))))))))))))
theorem setl_24 {x : Str} {u v : V} {p0 p1 p2 p3 p4 p5 p6 p7 p8 p9 p10 p11 p12 p13 p14 p15 p16 p17 p18 p19 p20 p21 p22 p23 : Str × E} {r : Loc} : SetL x v (p0 :: p1 :: p2 :: p3 :: p4 :: p5 :: p6 :: p7 :: p8 :: p9 :: p10 :: p11 :: p12 :: p13 :: p14 :: p15 :: p16 :: p17 :: p18 :: p19 :: p20 :: p21 :: p22 :: p23 :: (x, .v u) :: r) (p0 :: p1 :: p2 :: p3 :: p4 :: p5 :: p6 :: p7 :: p8 :: p9 :: p10 :: p11 :: p12 :: p13 :: p14 :: p15 :: p16 :: p17 :: p18 :: p19 :: p20 :: p21 :: p22 :: p23 :: (x, .v v) :: r) := .there (.there (.there (.there (.there (.there (.there (.there (.there (.there (.there (.there (.there (.there (.there (.there (.there (.there (.there (.there (.there (.there (.there (.there (.here))))))))))))))))))))))))
theorem setl_25 {x : Str} {u v : V} {p0 p1 p2 p3 p4 p5 p6 p7 p8 p9 p10 p11 p12 p13 p14 p15 p16 p17 p18 p19 p20 p21 p22 p23 p24 : Str × E} {r : Loc} : SetL x v (p0 :: p1 :: p2 :: p3 :: p4 :: p5 :: p6 :: p7 :: p8 :: p9 :: p10 :: p11 :: p12 :: p13 :: p14 :: p15 :: p16 :: p17 :: p18 :: p19 :: p20 :: p21 :: p22 :: p23 :: p24 :: (x, .v u) :: r) (p0 :: p1 :: p2 :: p3 :: p4 :: p5 :: p6 :: p7 :: p8 :: p9 :: p10 :: p11 :: p12 :: p13 :: p14 :: p15 :: p16 :: p17 :: p18 :: p19 :: p20 :: p21 :: p22 :: p23 :: p24 :: (x, .v v) :: r) := .there (.there (.there (.there (.there (.there (.there (.there (.there (.there (.there (.there (.there (.there (.there (.there (.there (.there (.there (.there (.there (.there (.there (.there (.there (.here)))))))))))))))))))))))))
theorem setl_26 {x : Str} {u v : V} {p0 p1 p2 p3 p4 p5 p6 p7 p8 p9 p10 p11 p12 p13 p14 p15 p16 p17 p18 p19 p20 p21 p22 p23 p24 p25 : Str × E} {r : Loc} : SetL x v (p0 :: p1 :: p2 :: p3 :: p4 :: p5 :: p6 :: p7 :: p8 :: p9 :: p10 :: p11 :: p12 :: p13 :: p14 :: p15 :: p16 :: p17 :: p18 :: p19 :: p20 :: p21 :: p22 :: p23 :: p24 :: p25 :: (x, .v u) :: r) (p0 :: p1 :: p2 :: p3 :: p4 :: p5 :: p6 :: p7 :: p8 :: p9 :: p10 :: p11 :: p12 :: p13 :: p14 :: p15 :: p16 :: p17 :: p18 :: p19 :: p20 :: p21 :: p22 :: p23 :: p24 :: p25 :: (x, .v v) :: r) := .there (.there (.there (.there (.there (.there (.there (.there (.there (.there (.there (.there (.there (.there (.there (.there (.there (.there (.there (.there (.there (.there (.there (.there (.there (.there (.here))))))))))))))))))))))))))
theorem setl_27 {x : Str} {u v : V} {p0 p1 p2 p3 p4 p5 p6 p7 p8 p9 p10 p11 p12 p13 p14 p15 p16 p17 p18 p19 p20 p21 p22 p23 p24 p25 p26 : Str × E} {r : Loc} : SetL x v (p0 :: p1 :: p2 :: p3 :: p4 :: p5 :: p6 :: p7 :: p8 :: p9 :: p10 :: p11 :: p12 :: p13 :: p14 :: p15 :: p16 :: p17 :: p18 :: p19 :: p20 :: p21 :: p22 :: p23 :: p24 :: p25 :: p26 :: (x, .v u) :: r) (p0 :: p1 :: p2 :: p3 :: p4 :: p5 :: p6 :: p7 :: p8 :: p9 :: p10 :: p11 :: p12 :: p13 :: p14 :: p15 :: p16 :: p17 :: p18 :: p19 :: p20 :: p21 :: p22 :: p23 :: p24 :: p25 :: p26 :: (x, .v v) :: r) := .there (.there (.there (.there (.there (.there (.there (.there (.there (.there (.there (.there (.there (.there (.there (.there (.there (.there (.there (.there (.there (.there (.there (.there (.there (.there (.there (.here)))))))))))))))))))))))))))
theorem setl_28 {x : Str} {u v : V} {p0 p1 p2 p3 p4 p5 p6 p7 p8 p9 p10 p11 p12 p13 p14 p15 p16 p17 p18 p19 p20 p21 p22 p23 p24 p25 p26 p27 : Str × E} {r : Loc} : SetL x v (p0 :: p1 :: p2 :: p3 :: p4 :: p5 :: p6 :: p7 :: p8 :: p9 :: p10 :: p11 :: p12 :: p13 :: p14 :: p15 :: p16 :: p17 :: p18 :: p19 :: p20 :: p21 :: p22 :: p23 :: p24 :: p25 :: p26 :: p27 :: (x, .v u) :: r) (p0 :: p1 :: p2 :: p3 :: p4 :: p5 :: p6 :: p7 :: p8 :: p9 :: p10 :: p11 :: p12 :: p13 :: p14 :: p15 :: p16 :: p17 :: p18 :: p19 :: p20 :: p21 :: p22 :: p23 :: p24 :: p25 :: p26 :: p27 :: (x, .v v) :: r) := .there (.there (.there (.there (.there (.there (.there (.there (.there (.there (.there (.there (.there (.there (.there (.there (.there (.there (.there (.there (.there (.there (.there (.there (.there (.there (.there (.there (.here))))))))))))))))))))))))))))
theorem setl_29 {x : Str} {u v : V} {p0 p1 p2 p3 p4 p5 p6 p7 p8 p9 p10 p11 p12 p13 p14 p15 p16 p17 p18 p19 p20 p21 p22 p23 p24 p25 p26 p27 p28 : Str × E} {r : Loc} : SetL x v (p0 :: p1 :: p2 :: p3 :: p4 :: p5 :: p6 :: p7 :: p8 :: p9 :: p10 :: p11 :: p12 :: p13 :: p14 :: p15 :: p16 :: p17 :: p18 :: p19 :: p20 :: p21 :: p22 :: p23 :: p24 :: p25 :: p26 :: p27 :: p28 :: (x, .v u) :: r) (p0 :: p1 :: p2 :: p3 :: p4 :: p5 :: p6 :: p7 :: p8 :: p9 :: p10 :: p11 :: p12 :: p13 :: p14 :: p15 :: p16 :: p17 :: p18 :: p19 :: p20 :: p21 :: p22 :: p23 :: p24 :: p25 :: p26 :: p27 :: p28 :: (x, .v v) :: r) := .there (.there (.there (.there (.there (.there (.there (.there (.there (.there (.there (.there (.there (.there (.there (.there (.there (.there (.there (.there (.there (.there (.there (.there (.there (.there (.there (.there (.there (.here)))))))))))))))))))))))))))))
end
theorem setd_0 {a : Addr} {o o' : O} {r : Led} : SetD a o o' ((a, o) :: r) ((a, o') :: r) := .here
theorem setd_1 {a : Addr} {o o' : O} {p0 : Addr × O} {r : Led} : SetD a o o' (p0 :: (a, o) :: r) (p0 :: (a, o') :: r) := .there (.here)
theorem setd_2 {a : Addr} {o o' : O} {p0 p1 : Addr × O} {r : Led} : SetD a o o' (p0 :: p1 :: (a, o) :: r) (p0 :: p1 :: (a, o') :: r) := .there (.there (.here))
theorem setd_3 {a : Addr} {o o' : O} {p0 p1 p2 : Addr × O} {r : Led} : SetD a o o' (p0 :: p1 :: p2 :: (a, o) :: r) (p0 :: p1 :: p2 :: (a, o') :: r) := .there (.there (.there (.here)))
theorem setd_4 {a : Addr} {o o' : O} {p0 p1 p2 p3 : Addr × O} {r : Led} : SetD a o o' (p0 :: p1 :: p2 :: p3 :: (a, o) :: r) (p0 :: p1 :: p2 :: p3 :: (a, o') :: r) := .there (.there (.there (.there (.here))))
theorem setd_5 {a : Addr} {o o' : O} {p0 p1 p2 p3 p4 : Addr × O} {r : Led} : SetD a o o' (p0 :: p1 :: p2 :: p3 :: p4 :: (a, o) :: r) (p0 :: p1 :: p2 :: p3 :: p4 :: (a, o') :: r) := .there (.there (.there (.there (.there (.here)))))
section
variable {B : Base} {n : Nat} {env : Env} {m : Loc} {D : Led}
/-- a value that changes nothing -/
def PV (B : Base) (n : Nat) (env : Env) (m : Loc) (D : Led) (e : Expr) (x : V) : Prop := ∀ Q : V → Led → Prop, Q x D → EV B n env e m D Q
def PB (B : Base) (n : Nat) (env : Env) (m : Loc) (D : Led) (e : Expr) (b : Bool) : Prop := ∀ Q : Bool → Led → Prop, Q b D → ET B n env e m D Q
def PA (B : Base) (n : Nat) (env : Env) (m : Loc) (D : Led) (es : List Expr) (xs : List V) : Prop := ∀ Q : List V → Led → Prop, Q xs D → AR B n env es m D Q
section
variable {Q : V → Led → Prop}
theorem pv {e : Expr} {x : V} (p : PV B n env m D e x) (h : Q x D) : EV B n env e m D Q := p _ h
theorem pv_name {x : Str} {v : V} {pos : Pos} (hm : (x, .v v) ∈ m) (hv : v ≠ .unb) : PV B n env m D (.Name x pos) v := fun _ h => ev_name hm hv h
theorem pv_glob {x : Str} {v : V} {pos : Pos} (hm : (x, .g v) ∈ m) : PV B n env m D (.Name x pos) v := fun _ h => ev_glob hm h
theorem pv_int {i : Int} {k : Nat} {pos : Pos} : PV B n env m D (.Constant (.int i) k pos) (.int i) := fun _ h => ev_int h
theorem pv_none {k : Nat} {pos : Pos} : PV B n env m D (.Constant .none k pos) .none := fun _ h => ev_none h
theorem pv_bool {b : Bool} {k : Nat} {pos : Pos} : PV B n env m D (.Constant (.bool b) k pos) (.bool b) := fun _ h => ev_bool h
theorem pv_str {x : Str} {k : Nat} {pos : Pos} : PV B n env m D (.Constant (.str x) k pos) (.str x) := fun _ h => ev_str h
theorem pv_byt {x : List UInt8} {k : Nat} {pos : Pos} : PV B n env m D (.Constant (.bytes x) k pos) (.byt x) := fun _ h => ev_byt h
theorem pv_attr {o : Expr} {a : Str} {pos : Pos} {x v : V} (p : PV B n env m D o x) (g : ∀ {Q}, Q v D → GA B n x a D Q) (hb : attributeBase o a env (eval o env) = eval o env := by rfl) : PV B n env m D (.Attribute o a pos) v := fun _ h => ev_attr (p _ (g h)) hb
theorem pv_bin {l r : Expr} {op : Operator} {pos : Pos} {x y z : V} (p : PV B n env m D l x) (q : PV B n env m D r y) (g : ∀ {Q}, Q z D → BIN B n op x y D Q) : PV B n env m D (.BinOp l op r pos) z := fun _ h => ev_bin (p _ (q _ (g h)))
theorem pv_una {l : Expr} {op : UnaryOp} {pos : Pos} {x z : V} (p : PV B n env m D l x) (g : ∀ {Q}, Q z D → UNA B n op x D Q) : PV B n env m D (.UnaryOp op l pos) z := fun _ h => ev_una (p _ (g h))
theorem pv_cmp {l r : Expr} {op : CmpOp} {pos : Pos} {x y z : V} (p : PV B n env m D l x) (q : PV B n env m D r y) (g : ∀ {Q}, Q z D → CMP B n op x y D Q) (hm : behindInMarks op r = false := by with_unfolding_all rfl) : PV B n env m D (.Compare l [op] [r] pos) z := fun _ h => ev_cmp (p _ (q _ (g h))) hm
theorem pv_sub {v i : Expr} {pos : Pos} {x y z : V} (p : PV B n env m D v x) (q : PV B n env m D i y) (g : ∀ {Q}, Q z D → SB B n v i x y D Q) : PV B n env m D (.Subscript v i pos) z := fun _ h => ev_sub (p _ (q _ (g h)))
theorem pv_subt {v i : Expr} {pos : Pos} {xs : List V} {k : Int} {z : V} (p : PV B n env m D v (.tup xs)) (q : PV B n env m D i (.int k)) (h0 : 0 ≤ k) (hx : xs[k.toNat]? = some z) (hf : k < 2 ^ 63) : PV B n env m D (.Subscript v i pos) z := pv_sub p q fun h => sb_tup (gi_tup h0 hx h hf)
theorem pv_subb {v i : Expr} {pos : Pos} {b : List UInt8} {k : Int} (p : PV B n env m D v (.byt b)) (q : PV B n env m D i (.int k)) (hf : b.length ≤ 1099511627776) (h0 : 0 ≤ k) (h1 : k < b.length) : PV B n env m D (.Subscript v i pos) (.int (b.getD k.toNat 0).toNat) := pv_sub p q fun h => sb_byt (gi_byt hf h0 h1 h)
theorem pa_nil : PA B n env m D [] [] := fun _ h => ar_nil h
theorem pa_cons {e : Expr} {es : List Expr} {x : V} {xs : List V} (p : PV B n env m D e x) (q : PA B n env m D es xs) : PA B n env m D (e :: es) (x :: xs) := fun _ h => ar_cons (p _ (q _ h))
theorem ev_callp {x : Str} {p pos : Pos} {es : List Expr} {f : Value} {ys : List V} (hm : (x, .g (.raw f)) ∈ m) (ck : CK B f) (pa : PA B n env m D es ys) (h : CL B n (.raw f) ys D Q) (hn : noStar es = true := by rfl) : EV B n env (.Call (.Name x p) es [] pos) m D Q := ev_call (ev_glob hm ⟨_, rfl, ck, pa _ h⟩) hn
theorem pv_call {x : Str} {p pos : Pos} {es : List Expr} {f : Value} {ys : List V} {z : V} (hm : (x, .g (.raw f)) ∈ m) (ck : CK B f) (pa : PA B n env m D es ys) (g : ∀ {Q}, Q z D → CL B n (.raw f) ys D Q) (hn : noStar es = true := by rfl) : PV B n env m D (.Call (.Name x p) es [] pos) z := fun _ h => ev_callp hm ck pa (g h) hn
theorem pv_len {x : Str} {p pos : Pos} {e : Expr} {b : List UInt8} (hm : (x, .g (.raw (.builtin "len"))) ∈ m) (q : PV B n env m D e (.byt b)) (hf : b.length ≤ 1099511627776) (hn : noStar [e] = true := by rfl) : PV B n env m D (.Call (.Name x p) [e] [] pos) (.int b.length) := pv_call hm (ck_builtin _) (pa_cons q pa_nil) (fun h => cl_len_byt hf h) hn
theorem ev_methp {o : Expr} {name : Str} {apos pos : Pos} {es : List Expr} {x : V} {fv : Value} {first ys : List V} (p : PV B n env m D o x) (gm : GM B n x name D fv first) (ck : CK B fv) (pa : PA B n env m D es ys) (h : CL B n (.raw fv) (first ++ ys) D Q)
    (hn : noStar es = true := by rfl) (hfew : decide (es.length < 30) = true := by rfl) (hline : (apos.endLine == pos.line) = true := by rfl) (hbase : attributeBase o name env (eval o env) = eval o env := by rfl) : EV B n env (.Call (.Attribute o name apos) es [] pos) m D Q :=
  ev_meth (p _ ⟨_, _, gm, ck, pa _ h⟩) hn hfew hline hbase
theorem ev_methe {o : Expr} {name : Str} {apos pos : Pos} {es : List Expr} {x : V} {fv : Value} {first : List V} (p : PV B n env m D o x) (gm : GM B n x name D fv first) (ck : CK B fv) (h : AR B n env es m D fun ys D₂ => CL B n (.raw fv) (first ++ ys) D₂ Q)
    (hn : noStar es = true := by rfl) (hfew : decide (es.length < 30) = true := by rfl) (hline : (apos.endLine == pos.line) = true := by rfl) (hbase : attributeBase o name env (eval o env) = eval o env := by rfl) : EV B n env (.Call (.Attribute o name apos) es [] pos) m D Q :=
  ev_meth (p _ ⟨_, _, gm, ck, h⟩) hn hfew hline hbase
theorem ev_calle {x : Str} {p pos : Pos} {es : List Expr} {f : Value} (hm : (x, .g (.raw f)) ∈ m) (ck : CK B f) (h : AR B n env es m D fun ys D₂ => CL B n (.raw f) ys D₂ Q) (hn : noStar es = true := by rfl) : EV B n env (.Call (.Name x p) es [] pos) m D Q := ev_call (ev_glob hm ⟨_, rfl, ck, h⟩) hn
theorem ev_tuplep {es : List Expr} {k : Nat} {pos : Pos} {xs : List V} (pa : PA B n env m D es xs) (h : xs.length ≤ 16777216 ∧ Q (.tup xs) D) (hn : noStar es = true := by rfl) : EV B n env (.Tuple es k pos) m D Q := ev_tuple (pa _ h) hn
theorem ev_listp {es : List Expr} {pos : Pos} {xs : List V} (pa : PA B n env m D es xs) (h : xs.length ≤ 16777216 ∧ ∀ r, Q (.ref r) ((r, .list xs) :: D)) (hn : noStar es = true := by rfl) : EV B n env (.List es pos) m D Q := ev_list (pa _ h) hn
theorem pv_and {e e' : Expr} {es : List Expr} {Q : V → Led → Prop} {b : Bool} (p : PV B n env m D e (.bool b)) (h : if b = true then BV B n .And (e' :: es) env m D Q else Q (.bool b) D) : BV B n .And (e :: e' :: es) env m D Q := bv_and (p _ (tru_bool h))
end
section
variable {Q : Bool → Led → Prop}
theorem pb {e : Expr} {b : Bool} (p : PB B n env m D e b) (h : Q b D) : ET B n env e m D Q := p _ h
theorem pb_cmp {l r : Expr} {op : CmpOp} {pos : Pos} {x y : V} {b : Bool} (p : PV B n env m D l x) (q : PV B n env m D r y) (g : ∀ {Q}, Q (.bool b) D → CMP B n op x y D Q) (hm : behindInMarks op r = false := by with_unfolding_all rfl) : PB B n env m D (.Compare l [op] [r] pos) b := fun _ h => et_cmp (p _ (q _ (g (tru_bool h)))) hm
theorem pb_chain {l a b : Expr} {o₁ o₂ : CmpOp} {pos : Pos} {x y u : V} {c d : Bool} (p : PV B n env m D l x) (q : PV B n env m D a y) (r : PV B n env m D b u) (g : ∀ {Q}, Q (.bool c) D → CMP B n o₁ x y D Q) (k : ∀ {Q}, Q (.bool d) D → CMP B n o₂ y u D Q) (hm : behindInMarks o₂ b = false := by with_unfolding_all rfl) : PB B n env m D (.Compare l [o₁, o₂] [a, b] pos) (c && d) := fun Q h =>
  et_chain (p _ (q _ (g (tru_bool (by
    cases c
    · exact h
    · exact r _ (k (tru_bool h))))))) hm
theorem ite_and {p q A C : Prop} [Decidable p] [Decidable q] (h1 : p → q → A) (h2 : ¬ (p ∧ q) → C) : if (decide p && decide q) = true then A else C := by
  by_cases a : p
  · by_cases b : q
    · rw [decide_eq_true a, decide_eq_true b]; exact h1 a b
    · rw [decide_eq_true a, decide_eq_false b]; exact h2 fun c => b c.2
  · rw [decide_eq_false a]; exact h2 fun c => a c.1
theorem pb_not {l : Expr} {pos : Pos} {b : Bool} (p : PB B n env m D l b) : PB B n env m D (.UnaryOp .Not l pos) (!b) := fun _ h => et_not (p _ h)
theorem at_orp {e : Expr} {es : List Expr} {b : Bool} (p : PB B n env m D e b) (h : if b = true then Q true D else AT B n .Or es env m D Q) : AT B n .Or (e :: es) env m D Q := at_or (p _ h)
theorem at_andp {e : Expr} {es : List Expr} {b : Bool} (p : PB B n env m D e b) (h : if b = true then AT B n .And es env m D Q else Q false D) : AT B n .And (e :: es) env m D Q := at_and (p _ h)
end
section
variable {Q : Loc → Led → Prop} {K : KS} {rest : List Stmt}
theorem EXS.anyK {l : List Stmt} (h : ∀ K : KS, EXS B n env l m D Q K) : EXS B n env l m D Q K := h K
theorem EXS.hide {l : List Stmt} (h : ∀ Q' : Loc → Led → Prop, (∀ m D, Q m D → Q' m D) → EXS B n env l m D Q' K) : EXS B n env l m D Q K := h Q fun _ _ h => h
theorem xs_asg {e : Expr} {y : Str} {p pos : Pos} {x : V} {m' : Loc} (q : PV B n env m D e x) (hs : SetL y x m m') (h : EXS B n env rest m' D Q K) (hsw : swapsWith e (some (.Name y p)) pos.line env = pure false := by rfl) : EXS B n env (.Assign [.Name y p] e pos :: rest) m D Q K := xs_cons (ex_assign (q _ ⟨_, hs, h⟩) hsw)
theorem xs_asge {e : Expr} {y : Str} {p pos : Pos} (h : EV B n env e m D fun v D₁ => ∃ m', SetL y v m m' ∧ EXS B n env rest m' D₁ Q K) (hsw : swapsWith e (some (.Name y p)) pos.line env = pure false := by rfl) : EXS B n env (.Assign [.Name y p] e pos :: rest) m D Q K := xs_cons (ex_assign h hsw)
theorem xs_expr {e : Expr} {pos : Pos} (h : EV B n env e m D fun v D' => v = .none ∧ EXS B n env rest m D' Q K) (hsw : swapsWith e none pos.line env = pure false := by rfl) : EXS B n env (.Expr e pos :: rest) m D Q K := xs_cons (ex_expr' h hsw)
theorem xs_ret {e : Expr} {pos : Pos} (h : EV B n env e m D K.ret) : EXS B n env (.Return (some e) pos :: rest) m D Q K := xs_cons (ex_ret h)
theorem xs_retp {e : Expr} {pos : Pos} {x : V} (p : PV B n env m D e x) (h : K.ret x D) : EXS B n env (.Return (some e) pos :: rest) m D Q K := xs_cons (ex_ret (p _ h))
theorem xs_if {t : Expr} {b o : List Stmt} {pos : Pos} (h : ET B n env t m D fun c D₁ => if c = true then EXS B n env b m D₁ (fun m' D' => EXS B n env rest m' D' Q K) K else EXS B n env o m D₁ (fun m' D' => EXS B n env rest m' D' Q K) K) : EXS B n env (.If t b o pos :: rest) m D Q K := xs_cons (ex_if h)
theorem xs_ifp {t : Expr} {b o : List Stmt} {pos : Pos} {c : Bool} (p : PB B n env m D t c) (h : if c = true then EXS B n env b m D (fun m' D' => EXS B n env rest m' D' Q K) K else EXS B n env o m D (fun m' D' => EXS B n env rest m' D' Q K) K) : EXS B n env (.If t b o pos :: rest) m D Q K := xs_cons (ex_if (p _ h))
end
end
section
variable {B : Base} {n : Nat} {D : Led} {Q : V → Led → Prop}
theorem c_is_white (I : Is190 B) (hn : n < 59) {c : Int} (h : Q (.bool ([0, 9, 10, 12, 13, 32].contains c)) D) : CLC B n (.raw (.ref 82)) [.int c] D Q := by
  refine en_is_white I (by lia) fun env he => ?_
  show EXS _ _ _ (_ :: _) _ _ _ _
  refine xs_retp (pv_cmp (pv_name mem_0 nofun) (pv_glob mem_1) cmp_in_tup) ?_
  exact h
theorem c_is_regular (I : Is190 B) (hn : n < 59) {c : Int} (h : Q (.bool (isReg c)) D) : CLC B n (.raw (.ref 89)) [.int c] D Q := by
  refine en_is_regular I (by lia) fun env he => ?_
  show EXS _ _ _ (_ :: _) _ _ _ _
  refine xs_ret ?_
  refine ev_words ?_
  refine pv_and (pv_cmp (pv_name mem_0 nofun) pv_int cmp_ge) ?_
  refine ite_dec (fun h1 => ?_) (fun h1 => bcase h ?_)
  · refine pv_and (pv_cmp (pv_name mem_0 nofun) (pv_glob mem_1) cmp_nin_tup) ?_
    refine ite_nb (fun h2 => ?_) (fun h2 => bcase h ?_)
    · refine bv_one ?_
      refine pv (pv_cmp (pv_name mem_0 nofun) (pv_glob mem_2) cmp_nin_tup) ?_
      refine bcase h ?_
      unfold isReg; rw [decide_eq_true h1, h2]; rfl
    · unfold isReg; rw [h2, Bool.not_true, Bool.and_false]; rfl
  · unfold isReg; rw [decide_eq_false h1]; rfl
theorem c_hex_worth (I : Is190 B) (hn : n < 59) {c : Int} (h : Q (.int (hexW c)) D) : CLC B n (.raw (.ref 323)) [.int c] D Q := by
  refine en_hex_worth I (by lia) fun env he => ?_
  show EXS _ _ _ (_ :: _) _ _ _ _
  refine xs_ifp (pb_chain pv_int (pv_name mem_0 nofun) pv_int cmp_le cmp_le) ?_
  refine ite_and (fun h1 h2 => ?_) (fun h1 => xs_nil ?_)
  · refine xs_retp (pv_bin (pv_name mem_0 nofun) pv_int bin_sub) ?_
    exact icase h (if_pos ⟨h1, h2⟩).symm
  refine xs_ifp (pb_chain pv_int (pv_name mem_0 nofun) pv_int cmp_le cmp_le) ?_
  refine ite_and (fun h2 h3 => ?_) (fun h2 => xs_nil ?_)
  · refine xs_retp (pv_bin (pv_name mem_0 nofun) pv_int bin_sub) ?_
    exact icase h ((if_neg h1).trans (if_pos ⟨h2, h3⟩)).symm
  refine xs_ifp (pb_chain pv_int (pv_name mem_0 nofun) pv_int cmp_le cmp_le) ?_
  refine ite_and (fun h3 h4 => ?_) (fun h3 => xs_nil ?_)
  · refine xs_retp (pv_bin (pv_name mem_0 nofun) pv_int bin_sub) ?_
    exact icase h ((if_neg h1).trans ((if_neg h2).trans (if_pos ⟨h3, h4⟩))).symm
  refine xs_retp (pv_una pv_int una_neg) ?_
  exact icase h ((if_neg h1).trans ((if_neg h2).trans (if_neg h3))).symm
end
section
variable {B : Base} {n : Nat} {R D : Led} {Q : V → Led → Prop} {a dx : Addr} {d : List UInt8} {t : Nat}
theorem c_init (I : Is190 B) (hn : n < 59) (hd : d.length ≤ 16777216) (h : Q .none ((a, curO d 0 dx) :: R)) : CLC B n (.raw (.ref 111)) [.ref a, .byt d] ((a, .inst 199 dx []) :: R) Q := by
  refine en_Cursor_init I (by lia) fun env he => ?_
  show EXS _ _ _ (_ :: _) _ _ _ _
  refine xs_cons ?_
  refine ex_assignT ?_
  refine ev_name mem_1 nofun ?_
  refine as_i1 I ?_
  refine ev_name mem_0 nofun ?_
  refine ⟨_, _, _, rfl, .here, ?_⟩
  refine xs_cons ?_
  refine ex_assignT ?_
  refine ev_name mem_2 nofun ?_
  refine as_i2 I ?_
  refine ev_name mem_0 nofun ?_
  refine ⟨_, _, _, _, rfl, .here, ?_⟩
  refine xs_cons ?_
  refine ex_assignT ?_
  refine ev_if ?_
  refine pb (pb_cmp (pv_name mem_3 nofun) (pv_int) cmp_lt) ?_
  · refine ite_dec (fun _ => ?_) (fun h => absurd (by decide) h)
    refine ev_callp mem_4 (ck_builtin _) (pa_cons (pv_name mem_1 nofun) (pa_nil)) ?_
    refine cl_len_byt (by lia) ?_
    refine as_i3 I ?_
    refine ev_name mem_0 nofun ?_
    refine ⟨_, _, _, _, _, rfl, .here, ?_⟩
    refine xs_nil ?_
    exact h
end
section
variable {B : Base} {n : Nat} {R D : Led} {Q : V → Led → Prop} {a dx : Addr} {d : List UInt8} {t : Nat}
def pk (d : List UInt8) (t : Nat) : Int := if t < d.length then (d.getD t 0).toNat else -1
theorem c_done (I : Is190 B) (hn : n < 59) (hm : (a, curO d t dx) ∈ D) (h : Q (.bool (decide (d.length ≤ t))) D) : CLC B n (.raw (.ref 118)) [.ref a] D Q := by
  refine en_Cursor_is_done I (by lia) fun env he => ?_
  show EXS _ _ _ (_ :: _) _ _ _ _
  refine xs_retp (pv_cmp (pv_attr (pv_name mem_0 nofun) (ga_at I hm rfl)) (pv_attr (pv_name mem_0 nofun) (ga_end I hm rfl)) cmp_ge) ?_
  refine bcase h ?_
  simp
theorem c_peek (I : Is190 B) (hn : n < 59) (hd : d.length ≤ 16777216) (hm : (a, curO d t dx) ∈ D) (h : Q (.int (pk d t)) D) : CLC B n (.raw (.ref 126)) [.ref a] D Q := by
  refine en_Cursor_peek I (by lia) fun env he => ?_
  show EXS _ _ _ (_ :: _) _ _ _ _
  refine xs_asg (pv_bin (pv_attr (pv_name mem_0 nofun) (ga_at I hm rfl)) (pv_name mem_1 nofun) bin_add) setl_2 ?_
  refine xs_ret ?_
  refine ev_if ?_
  refine pb (pb_cmp (pv_name mem_2 nofun) (pv_attr (pv_name mem_0 nofun) (ga_end I hm rfl)) cmp_lt) ?_
  refine ite_dec (fun h => ?_) (fun h => ?_)
  · refine pv (pv_subb (pv_attr (pv_name mem_0 nofun) (ga_data I hm rfl)) (pv_name mem_2 nofun) (by lia) (by lia) (by lia)) ?_
    refine icase ‹_› ?_
    unfold pk; rw [if_pos (by lia)]; simp
  · refine pv (pv_una (pv_int) una_neg) ?_
    refine icase ‹_› ?_
    unfold pk; rw [if_neg (by lia)]
theorem c_take (I : Is190 B) (hn : n < 59) (hd : d.length ≤ 16777216) (ht : t < d.length) (h : Q (.int (d.getD t 0).toNat) ((a, curO d (t + 1) dx) :: R)) : CLC B n (.raw (.ref 133)) [.ref a] ((a, curO d t dx) :: R) Q := by
  refine en_Cursor_take I (by lia) fun env he => ?_
  show EXS _ _ _ (_ :: _) _ _ _ _
  refine xs_ifp (pb_cmp (pv_attr (pv_name mem_0 nofun) (ga_at I mem_0 rfl)) (pv_attr (pv_name mem_0 nofun) (ga_end I mem_0 rfl)) cmp_ge) ?_
  refine ite_dec (fun h => by lia) (fun _ => ?_)
  refine xs_nil ?_
  refine xs_asg (pv_subb (pv_attr (pv_name mem_0 nofun) (ga_data I mem_0 rfl)) (pv_attr (pv_name mem_0 nofun) (ga_at I mem_0 rfl)) (by lia) (by lia) (by lia)) setl_1 ?_
  refine xs_cons ?_
  refine ex_assignT ?_
  refine pv (pv_bin (pv_attr (pv_name mem_0 nofun) (ga_at I mem_0 rfl)) (pv_int) bin_add) ?_
  refine as_at I ?_
  refine ev_name mem_0 nofun ?_
  refine ⟨_, _, _, _, _, _, rfl, setd_0, ?_⟩
  refine xs_retp (pv_name mem_1 nofun) ?_
  exact h
end
section
variable {B : Base} {n : Nat} {R D : Led} {Q : V → Led → Prop} {a dx : Addr} {d w s : List UInt8} {t : Nat}
def isW (c : UInt8) : Bool := [0, 9, 10, 12, 13, 32].contains (c.toNat : Int)
theorem drop_getD {α : Type} {d l : List α} {t : Nat} {z : α} (h : d.drop t = l) (i : Nat) : d.getD (t + i) z = l.getD i z := by
  subst h; simp
theorem drop_len {α : Type} {d l : List α} {t : Nat} (h : d.drop t = l) (ht : t ≤ d.length) : d.length = t + l.length := by
  subst h; simp; lia
theorem drop_more {α : Type} {d w s : List α} {t : Nat} (h : d.drop t = w ++ s) : d.drop (t + w.length) = s := by
  rw [← List.drop_drop, h]; simp
def stB (d w : List UInt8) (t : Nat) : Bool := decide (t + w.length ≤ d.length) && ((d.drop t).take w.length == w)
theorem c_starts (I : Is190 B) (hn : n < 58) (hd : d.length ≤ 16777216) (hw : w.length ≤ 1000) (hm : (a, curO d t dx) ∈ D) (h : Q (.bool (stB d w t)) D) : CLC B n (.raw (.ref 140)) [.ref a, .byt w] D Q := by
  refine en_Cursor_starts I (by lia) fun env he => ?_
  show EXS _ _ _ (_ :: _) _ _ _ _
  refine xs_ret ?_
  refine ev_words ?_
  refine pv_and (pv_cmp (pv_bin (pv_attr (pv_name mem_0 nofun) (ga_at I hm rfl)) (pv_len mem_2 (pv_name mem_1 nofun) (by lia)) bin_add) (pv_attr (pv_name mem_0 nofun) (ga_end I hm rfl)) cmp_le) ?_
  refine ite_dec (fun h1 => ?_) (fun h1 => ?_)
  · refine bv_one ?_
    refine ev_cmp ?_
    refine ev_sub ?_
    refine pv (pv_attr (pv_name mem_0 nofun) (ga_data I hm rfl)) ?_
    refine ev_slice ?_
    refine pt_some ?_
    refine pv (pv_attr (pv_name mem_0 nofun) (ga_at I hm rfl)) ?_
    refine ⟨_, rfl, ?_⟩
    refine pt_some ?_
    refine pv (pv_bin (pv_attr (pv_name mem_0 nofun) (ga_at I hm rfl)) (pv_len mem_2 (pv_name mem_1 nofun) (by lia)) bin_add) ?_
    refine ⟨_, rfl, ?_⟩
    refine sb_byt ?_
    refine gi_cut_byt hd ?_
    refine ev_name mem_1 nofun ?_
    refine cmp_eq_byt ?_
    refine bcase ‹_› ?_
    unfold stB
    rw [cut_nat, decide_eq_true (by lia)]; simp
  · refine bcase h ?_
    unfold stB
    rw [decide_eq_false (by lia)]; simp; lia
theorem c_skip (I : Is190 B) (hn : n < 57) (hd : d.length ≤ 16777216) (hw : w.length ≤ 1000) (hm : (a, curO d t dx) ∈ D) (hs : stB d w t = false) (h : Q (.bool false) D) : CLC B n (.raw (.ref 147)) [.ref a, .byt w] D Q := by
  refine en_Cursor_skip I (by lia) fun env he => ?_
  show EXS _ _ _ (_ :: _) _ _ _ _
  refine xs_if ?_
  refine et_not ?_
  refine et_plain (fun _ => rfl) ?_
  refine ev_methp (pv_name mem_0 nofun) (gm_starts I hm) (ck_at I (by decide)) (pa_cons (pv_name mem_1 nofun) (pa_nil)) ?_
  refine CLC.cl (c_starts I (by lia) hd hw hm ?_)
  rw [hs]
  refine tru_bool ?_
  refine ite_nf ?_
  refine xs_retp (pv_bool) ?_
  exact h
theorem getD_app {α : Type} {w s : List α} {z : α} {i : Nat} (h : i < w.length) : (w ++ s).getD i z ∈ w := by
  simp [List.getD, List.getElem?_append_left h, h]
theorem getD_app2 {α : Type} {w : List α} {z x : α} {r : List α} {i : Nat} (h : i = w.length) : (w ++ x :: r).getD i z = x := by
  subst h; simp
abbrev IWhite (a dx : Addr) (d w : List UInt8) (t : Nat) (R : Led) : Nat → Loc → Led → Prop :=
  fun k m D' => ∃ i x, k + i = w.length ∧ D' = (a, curO d (t + i) dx) :: R ∧ m = [((Str.ofString "self"), .v (.ref a)), ((Str.ofString "code"), .v x), ((Str.ofString "COMMENT"), .g (.int 37)), ((Str.ofString "LINE_FEED"), .g (.int 10)), ((Str.ofString "RETURN"), .g (.int 13)), ((Str.ofString "WHITE"), .g (.tup ([0, 9, 10, 12, 13, 32].map V.int)))]
theorem c_skip_white (I : Is190 B) (hn : n < 57) (hd : d.length ≤ 16777216) (ht : t ≤ d.length) (e : d.drop t = w ++ s) (hw : ∀ c ∈ w, isW c = true) (hs : ∀ x r, s = x :: r → isW x = false ∧ x ≠ 37) (h : Q .none ((a, curO d (t + w.length) dx) :: R)) : CLC B n (.raw (.ref 154)) [.ref a] ((a, curO d t dx) :: R) Q := by
  refine en_Cursor_skip_white I (by lia) fun env he => ?_
  show EXS _ _ _ (_ :: _) _ _ _ _
  have hl := drop_len e ht
  rw [List.length_append] at hl
  refine xs_cons (ex_while (IWhite a dx d w t R) w.length ⟨0, _, rfl, rfl, rfl⟩ ?_)
  rintro k m D' ⟨i, x, hk, rfl, rfl⟩
  have hg := drop_getD (z := 0) e i
  by_cases hi : i < w.length
  · have hc := hw _ (getD_app (s := s) (z := 0) hi)
    rw [← hg] at hc
    refine pb (pb_cmp (pv_attr (pv_name mem_0 nofun) (ga_at I mem_0 rfl)) (pv_attr (pv_name mem_0 nofun) (ga_end I mem_0 rfl)) cmp_lt) ?_
    refine ite_dec (fun h1 => ?_) (fun h1 => by lia)
    refine xs_asg (pv_subb (pv_attr (pv_name mem_0 nofun) (ga_data I mem_0 rfl)) (pv_attr (pv_name mem_0 nofun) (ga_at I mem_0 rfl)) (by lia) (by lia) (by lia)) setl_1 ?_
    refine xs_ifp (pb_cmp (pv_name mem_1 nofun) (pv_glob mem_2) cmp_eq) ?_
    have hne : ¬ ((d.getD (t + i) 0).toNat : Int) = 37 := by
      intro q; unfold isW at hc; rw [q] at hc; exact absurd hc (by decide)
    refine ite_dec (fun h2 => absurd h2 hne) (fun _ => ?_)
    refine xs_ifp (pb_cmp (pv_name mem_1 nofun) (pv_glob mem_5) cmp_in_tup) ?_
    refine ite_b (fun _ => ?_) (fun h2 => ?_)
    · refine xs_cons ?_
      refine ex_assignT ?_
      refine pv (pv_bin (pv_attr (pv_name mem_0 nofun) (ga_at I mem_0 rfl)) (pv_int) bin_add) ?_
      refine as_at I ?_
      refine ev_name mem_0 nofun ?_
      refine ⟨_, _, _, _, _, _, rfl, setd_0, ?_⟩
      refine xs_nil ?_
      refine xs_nil ?_
      refine xs_nil ?_
      exact ⟨k - 1, by lia, i + 1, _, by lia, rfl, rfl⟩
    · unfold isW at hc
      exact absurd (hc.symm.trans h2) (by simp)
  · have hi : i = w.length := by lia
    cases s with
    | nil =>
      refine pb (pb_cmp (pv_attr (pv_name mem_0 nofun) (ga_at I mem_0 rfl)) (pv_attr (pv_name mem_0 nofun) (ga_end I mem_0 rfl)) cmp_lt) ?_
      refine ite_dec (fun h1 => by simp at hl; lia) (fun h1 => ?_)
      refine xs_nil ?_
      rw [hi]; exact h
    | cons c r =>
      obtain ⟨h3, h4⟩ := hs c r rfl
      rw [getD_app2 (r := r) hi] at hg
      refine pb (pb_cmp (pv_attr (pv_name mem_0 nofun) (ga_at I mem_0 rfl)) (pv_attr (pv_name mem_0 nofun) (ga_end I mem_0 rfl)) cmp_lt) ?_
      simp only [List.length_cons] at hl
      refine ite_dec (fun h1 => ?_) (fun h1 => by lia)
      refine xs_asg (pv_subb (pv_attr (pv_name mem_0 nofun) (ga_data I mem_0 rfl)) (pv_attr (pv_name mem_0 nofun) (ga_at I mem_0 rfl)) (by lia) (by lia) (by lia)) setl_1 ?_
      refine xs_ifp (pb_cmp (pv_name mem_1 nofun) (pv_glob mem_2) cmp_eq) ?_
      refine ite_dec (fun h2 => ?_) (fun _ => ?_)
      · exfalso; apply h4
        have h2 : ((d.getD (t + i) 0).toNat : Int) = 37 := h2
        rw [hg] at h2
        exact UInt8.toNat_inj.mp (by simpa using Int.ofNat.inj h2)
      refine xs_ifp (pb_cmp (pv_name mem_1 nofun) (pv_glob mem_5) cmp_in_tup) ?_
      refine ite_b (fun h2 => ?_) (fun _ => ?_)
      · exfalso
        have h2 : [0, 9, 10, 12, 13, 32].contains ((d.getD (t + i) 0).toNat : Int) = true := h2
        rw [hg] at h2; unfold isW at h3; rw [h2] at h3; cases h3
      refine xs_cons ?_
      refine ex_ret0 ?_
      rw [hi]; exact h
abbrev IReg (a dx : Addr) (d w : List UInt8) (t : Nat) (R : Led) : Nat → Loc → Led → Prop :=
  fun k m D' => ∃ i, k + i = w.length ∧ D' = (a, curO d (t + i) dx) :: R ∧ m = [((Str.ofString "self"), .v (.ref a)), ((Str.ofString "first"), .v (.int t)), ((Str.ofString "is_regular"), .g (.raw (.ref 89)))]
theorem c_take_regular (I : Is190 B) (hn : n < 57) (hd : d.length ≤ 16777216) (ht : t ≤ d.length) (e : d.drop t = w ++ s) (hw : ∀ c ∈ w, isReg c.toNat = true) (hs : ∀ x r, s = x :: r → isReg x.toNat = false) (h : Q (.byt w) ((a, curO d (t + w.length) dx) :: R)) : CLC B n (.raw (.ref 161)) [.ref a] ((a, curO d t dx) :: R) Q := by
  refine en_Cursor_take_regular I (by lia) fun env he => ?_
  show EXS _ _ _ (_ :: _) _ _ _ _
  have hl := drop_len e ht
  rw [List.length_append] at hl
  refine xs_asg (pv_attr (pv_name mem_0 nofun) (ga_at I mem_0 rfl)) setl_1 ?_
  refine xs_cons ?_
  refine ex_while (IReg a dx d w t R) w.length ⟨0, rfl, rfl, rfl⟩ ?_
  rintro k m D' ⟨i, hk, rfl, rfl⟩
  have hg := drop_getD (z := 0) e i
  by_cases hi : i < w.length
  · have hc := hw _ (getD_app (s := s) (z := 0) hi)
    rw [← hg] at hc
    refine et_bool ?_
    refine at_andp (pb_cmp (pv_attr (pv_name mem_0 nofun) (ga_at I mem_0 rfl)) (pv_attr (pv_name mem_0 nofun) (ga_end I mem_0 rfl)) cmp_lt) ?_
    refine ite_dec (fun h1 => ?_) (fun h1 => by lia)
    refine at_and ?_
    refine et_plain (fun _ => rfl) ?_
    refine ev_callp mem_2 (ck_at I (by decide)) (pa_cons (pv_subb (pv_attr (pv_name mem_0 nofun) (ga_data I mem_0 rfl)) (pv_attr (pv_name mem_0 nofun) (ga_at I mem_0 rfl)) (by lia) (by lia) (by lia)) (pa_nil)) ?_
    refine CLC.cl (c_is_regular (n := n + 1) I (by lia) ?_)
    refine tru_bool ?_
    refine ite_b (fun _ => ?_) (fun h2 => ?_)
    · refine at_nil_and ?_
      refine ite_t ?_
      refine xs_cons ?_
      refine ex_assignT ?_
      refine pv (pv_bin (pv_attr (pv_name mem_0 nofun) (ga_at I mem_0 rfl)) (pv_int) bin_add) ?_
      refine as_at I ?_
      refine ev_name mem_0 nofun ?_
      refine ⟨_, _, _, _, _, _, rfl, setd_0, ?_⟩
      refine xs_nil ?_
      exact ⟨k - 1, by lia, i + 1, by lia, rfl, rfl⟩
    · exact absurd (hc.symm.trans h2) (by simp)
  · have hi : i = w.length := by lia
    have ec : cut (some (t : Int)) (some ((t + i : Nat) : Int)) d = w := by
      rw [cut_natc, e, List.take_left' hi.symm]
    cases s with
    | nil =>
      refine et_bool ?_
      refine at_andp (pb_cmp (pv_attr (pv_name mem_0 nofun) (ga_at I mem_0 rfl)) (pv_attr (pv_name mem_0 nofun) (ga_end I mem_0 rfl)) cmp_lt) ?_
      refine ite_dec (fun h1 => by simp at hl; lia) (fun h1 => ?_)
      refine ite_f ?_
      refine xs_ret ?_
      refine ev_sub ?_
      refine pv (pv_attr (pv_name mem_0 nofun) (ga_data I mem_0 rfl)) ?_
      refine ev_slice ?_
      refine pt_some ?_
      refine ev_name mem_1 nofun ?_
      refine ⟨_, rfl, ?_⟩
      refine pt_some ?_
      refine pv (pv_attr (pv_name mem_0 nofun) (ga_at I mem_0 rfl)) ?_
      refine ⟨_, rfl, ?_⟩
      refine sb_byt ?_
      refine gi_cut_byt hd ?_
      rw [ec, hi]
      exact h
    | cons c r =>
      have h3 := hs c r rfl
      rw [getD_app2 (r := r) hi] at hg
      simp only [List.length_cons] at hl
      refine et_bool ?_
      refine at_andp (pb_cmp (pv_attr (pv_name mem_0 nofun) (ga_at I mem_0 rfl)) (pv_attr (pv_name mem_0 nofun) (ga_end I mem_0 rfl)) cmp_lt) ?_
      refine ite_dec (fun h1 => ?_) (fun h1 => by lia)
      refine at_and ?_
      refine et_plain (fun _ => rfl) ?_
      refine ev_callp mem_2 (ck_at I (by decide)) (pa_cons (pv_subb (pv_attr (pv_name mem_0 nofun) (ga_data I mem_0 rfl)) (pv_attr (pv_name mem_0 nofun) (ga_at I mem_0 rfl)) (by lia) (by lia) (by lia)) (pa_nil)) ?_
      refine CLC.cl (c_is_regular (n := n + 1) I (by lia) ?_)
      refine tru_bool ?_
      refine ite_b (fun h2 => ?_) (fun _ => ?_)
      · exfalso
        have h2 : isReg ((d.getD (t + i) 0).toNat : Int) = true := h2
        rw [hg, h3] at h2; cases h2
      refine xs_ret ?_
      refine ev_sub ?_
      refine pv (pv_attr (pv_name mem_0 nofun) (ga_data I mem_0 rfl)) ?_
      refine ev_slice ?_
      refine pt_some ?_
      refine ev_name mem_1 nofun ?_
      refine ⟨_, rfl, ?_⟩
      refine pt_some ?_
      refine pv (pv_attr (pv_name mem_0 nofun) (ga_at I mem_0 rfl)) ?_
      refine ⟨_, rfl, ?_⟩
      refine sb_byt ?_
      refine gi_cut_byt hd ?_
      rw [ec, hi]
      exact h
end
def hexD (v : Nat) : UInt8 := (if v < 10 then 48 + v else 55 + v).toUInt8
def hexs : List UInt8 → List UInt8
  | [] => []
  | c :: r => hexD (c.toNat / 16) :: hexD (c.toNat % 16) :: hexs r
def hv : List UInt8 → List Int
  | [] => []
  | c :: r => ((c.toNat / 16 : Nat) : Int) :: ((c.toNat % 16 : Nat) : Int) :: hv r
theorem hexW_hexD : ∀ v : Fin 16, hexW ((hexD v).toNat) = (v : Nat) ∧ hexD v ≠ 62 := by decide +kernel
theorem hexs_len : ∀ o : List UInt8, (hexs o).length = 2 * o.length
  | [] => rfl
  | c :: r => by simp only [hexs, List.length_cons, hexs_len r]; lia
theorem hv_hexs : ∀ o : List UInt8, (hexs o).map (fun c => hexW (c.toNat : Int)) = hv o
  | [] => rfl
  | c :: r => by
    have h1 := (hexW_hexD ⟨c.toNat / 16, by have := c.toNat_lt; lia⟩).1
    have h2 := (hexW_hexD ⟨c.toNat % 16, by lia⟩).1
    simp only [hexs, hv, List.map_cons, hv_hexs r] at h1 h2 ⊢
    rw [h1, h2]
theorem hv_len (o : List UInt8) : (hv o).length = 2 * o.length := by rw [← hv_hexs, List.length_map, hexs_len]
theorem hexs_ne : ∀ o : List UInt8, ∀ c ∈ hexs o, c ≠ 62
  | [], _, h => by cases h
  | c :: r, x, h => by
    simp only [hexs, List.mem_cons] at h
    rcases h with rfl | rfl | h
    · exact (hexW_hexD ⟨c.toNat / 16, by have := c.toNat_lt; lia⟩).2
    · exact (hexW_hexD ⟨c.toNat % 16, by lia⟩).2
    · exact hexs_ne r x h
theorem hv_pos : ∀ o : List UInt8, ∀ c ∈ hv o, 0 ≤ c
  | [], _, h => by cases h
  | c :: r, x, h => by
    simp only [hv, List.mem_cons] at h
    rcases h with rfl | rfl | h
    · exact Int.natCast_nonneg _
    · exact Int.natCast_nonneg _
    · exact hv_pos r x h
theorem hv_at : ∀ (o : List UInt8) (j : Nat) (c : UInt8), o[j]? = some c → (hv o)[2 * j]? = some ((c.toNat / 16 : Nat) : Int) ∧ (hv o)[2 * j + 1]? = some ((c.toNat % 16 : Nat) : Int)
  | [], _, _, h => by simp at h
  | x :: r, 0, c, h => by simp at h; subst h; simp [hv]
  | x :: r, j + 1, c, h => by
    have := hv_at r j c (by simpa using h)
    have e : 2 * (j + 1) = 2 * j + 1 + 1 := by lia
    simp only [hv, e, List.getElem?_cons_succ]
    exact this
theorem hexs_at (o : List UInt8) {i : Nat} (h : i < (hexs o).length) {c : UInt8} (e : (hexs o).getD i 0 = c) : c ≠ 62 ∧ 0 ≤ hexW c.toNat ∧ (hv o)[i]? = some (hexW c.toNat) := by
  have h1 : (hexs o)[i]? = some c := by rw [← e]; simp [List.getD, h]
  have h2 : (hv o)[i]? = some (hexW c.toNat) := by rw [← hv_hexs, List.getElem?_map, h1]; rfl
  exact ⟨hexs_ne o c (List.mem_of_getElem? h1), hv_pos o _ (List.mem_of_getElem? h2), h2⟩
theorem byts_back (o : List UInt8) : byts (o.map fun c => (c.toNat : Int)) = o := by
  unfold byts; rw [List.map_map]
  conv => rhs; rw [← List.map_id o]
  exact List.map_congr_left fun c _ => by simp
theorem rs2 (k : Nat) : Builtin.Range.rangeSize 0 ((2 * k : Nat) : Int) 2 = k := by
  unfold Builtin.Range.rangeSize; (repeat' split) <;> lia
theorem rngItems2 (k : Nat) : rngItems 0 ((2 * k : Nat) : Int) 2 = (List.range k).map fun (i : Nat) => V.int ((2 * i : Nat) : Int) := by
  unfold rngItems
  rw [rs2]
  simp
  intro i _; lia
section
variable {B : Base} {n : Nat} {R D : Led} {Q : V → Led → Prop} {a dx : Addr} {d w s : List UInt8} {t : Nat}
def wordC (c : UInt8) : Prop := c ≠ 43 ∧ c ≠ 45 ∧ c ≠ 46 ∧ ¬ (48 ≤ c.toNat ∧ c.toNat ≤ 57)
theorem c_read_decimal (I : Is190 B) (hn : n < 59) {c : UInt8} (hw : w.length ≤ 16777216) (e : w = c :: s) (hc : wordC c) (h : Q .none D) : CLC B n (.raw (.ref 315)) [.byt w] D Q := by
  refine en_read_decimal I (by lia) fun env he => ?_
  show EXS _ _ _ (_ :: _) _ _ _ _
  obtain ⟨h1, h2, h3, h4⟩ := hc
  have g0 : w.getD 0 0 = c := by rw [e]; rfl
  have hl : 0 < w.length := by rw [e]; simp
  have tn : ∀ k : Nat, ∀ x : UInt8, x.toNat = k → c ≠ x → ¬ ((c.toNat : Int) = k) := fun k x hx hne q => hne (UInt8.toNat_inj.mp (by lia))
  refine xs_asg (pv_int) setl_1 ?_
  refine xs_if ?_
  refine et_bool ?_
  refine at_andp (pb_cmp (pv_len mem_6 (pv_name mem_0 nofun) (by lia)) (pv_int) cmp_gt) ?_
  refine ite_dec (fun _ => ?_) (fun h => by lia)
  refine at_and ?_
  refine et_bool ?_
  refine at_orp (pb_cmp (pv_subb (pv_name mem_0 nofun) (pv_int) (by lia) (by lia) (by lia)) (pv_glob mem_7) cmp_eq) ?_
  refine ite_dec (fun q => absurd (g0 ▸ q) (tn 43 43 rfl h1)) (fun _ => ?_)
  refine at_orp (pb_cmp (pv_subb (pv_name mem_0 nofun) (pv_int) (by lia) (by lia) (by lia)) (pv_glob mem_8) cmp_eq) ?_
  refine ite_dec (fun q => absurd (g0 ▸ q) (tn 45 45 rfl h2)) (fun _ => ?_)
  refine at_nil_or ?_
  refine ite_f ?_
  refine ite_f ?_
  refine xs_nil ?_
  refine xs_asg (pv_int) setl_2 ?_
  refine xs_asg (pv_int) setl_3 ?_
  refine xs_asg (pv_una (pv_int) una_neg) setl_4 ?_
  refine xs_cons ?_
  refine ex_for ?_
  refine ev_sub ?_
  refine ev_name mem_0 nofun ?_
  refine ev_slice ?_
  refine pt_some ?_
  refine ev_name mem_1 nofun ?_
  refine ⟨_, rfl, ?_⟩
  refine pt_none ?_
  refine sb_byt ?_
  refine gi_cut_byt hw ?_
  rw [cut_from _ (by decide)]
  refine ⟨_, .byt, fun i m' D' => i = 0 ∧ m' = [((Str.ofString "octets"), .v (.byt w)), ((Str.ofString "begun"), .v (.int 0)), ((Str.ofString "top"), .v (.int 0)), ((Str.ofString "numerals"), .v (.int 0)), ((Str.ofString "places"), .v (.int (-1))), ((Str.ofString "code"), .v .unb), ((Str.ofString "len"), .g (.raw (.builtin "len"))), ((Str.ofString "PLUS"), .g (.int 43)), ((Str.ofString "MINUS"), .g (.int 45)), ((Str.ofString "POINT"), .g (.int 46)), ((Str.ofString "ZERO"), .g (.int 48)), ((Str.ofString "MOST_FIGURES_decimals"), .g (.int 40))] ∧ D' = D, ⟨rfl, rfl, rfl⟩, ?_, ?_⟩
  · rintro i m' D' x hx ⟨rfl, rfl, rfl⟩
    rw [e] at hx
    simp at hx
    subst hx
    refine ⟨.byt, ?_⟩
    refine as_name setl_5 ?_
    refine xs_if ?_
    refine et_bool ?_
    refine at_andp (pb_cmp (pv_name mem_5 nofun) (pv_glob mem_9) cmp_eq) ?_
    refine ite_dec (fun q => absurd q (tn 46 46 rfl h3)) (fun _ => ?_)
    refine ite_f ?_
    refine xs_if ?_
    refine et_chain ?_
    refine ev_glob mem_10 ?_
    refine ev_name mem_5 nofun ?_
    refine cmp_le ?_
    refine tru_bool ?_
    refine ite_dec (fun q1 => ?_) (fun _ => ?_)
    · refine pv (pv_bin (pv_glob mem_10) (pv_int) bin_add) ?_
      refine cmp_le ?_
      refine tru_bool ?_
      refine ite_dec (fun q2 => by exfalso; apply h4; lia) (fun _ => ?_)
      refine xs_retp (pv_none) ?_
      exact h
    · refine ite_f ?_
      refine xs_retp (pv_none) ?_
      exact h
  · rintro m' D' ⟨h0, -, -⟩
    simp [e] at h0
theorem c_run_token (I : Is190 B) (hn : n < 56) {c : UInt8} {r : List UInt8} {p : V} (hp : p ≠ .unb) (hd : d.length ≤ 16777216) (ht : t ≤ d.length) (e : d.drop t = w ++ s) (hw : ∀ c ∈ w, isReg c.toNat = true) (hs : ∀ x r, s = x :: r → isReg x.toNat = false) (e2 : w = c :: r) (hc : wordC c) (h : Q (.tup [.str (Str.ofString "word"), .byt w, p]) ((a, curO d (t + w.length) dx) :: R)) : CLC B n (.raw (.ref 371)) [.ref a, p] ((a, curO d t dx) :: R) Q := by
  refine en_run_token I (by lia) fun env he => ?_
  show EXS _ _ _ (_ :: _) _ _ _ _
  have hl := drop_len e ht
  rw [List.length_append] at hl
  refine xs_asge ?_
  refine ev_methp (pv_name mem_0 nofun) (gm_reg I mem_0) (ck_at I (by decide)) (pa_nil) ?_
  refine CLC.cl (c_take_regular (n := n + 1) I (by lia) hd ht e hw hs ?_)
  refine ⟨_, setl_2, ?_⟩
  refine xs_asge ?_
  refine ev_callp mem_4 (ck_at I (by decide)) (pa_cons (pv_name mem_2 nofun) (pa_nil)) ?_
  refine CLC.cl (c_read_decimal (n := n + 1) I (by lia) (by lia) e2 hc ?_)
  refine ⟨_, setl_3, ?_⟩
  refine xs_ifp (pb_cmp (pv_name mem_3 nofun) (pv_none) cmp_is_none) ?_
  refine ite_t ?_
  refine xs_ret ?_
  refine ev_tuplep (pa_cons (pv_str) (pa_cons (pv_name mem_2 nofun) (pa_cons (pv_name mem_1 (by assumption)) (pa_nil)))) ?_
  exact ⟨by simp, h⟩
end
section
variable {B : Base} {n : Nat} {env : Env} {m : Loc} {D : Led}
theorem EX.pre {st : Stmt} {E : Led} {Q : Loc → Led → Prop} {K : KS} (p : Part E D) (h : EX B n env st m E Q K) : EX B n env st m D Q K := fun s hs A hA =>
  wpAny_mono (h s (hs.part p) A hA) (fun fl s' ⟨m', D', r, h', t⟩ => ⟨m', D', r, h', t.pre p⟩) fun _ _ e => e
theorem CLC.part {f : V} {args : List V} {Q : V → Led → Prop} (h : CLC B n f args D fun x D' => ∃ E, Part E D' ∧ Q x E) : CLC B n f args D Q := fun s a vs l ra rvs A hA =>
  codeAny_mono (h s a vs l ra rvs A hA) fun r s' hr => by
    rcases r with e | (_ | _ | _ | v)
    · exact hr
    · exact hr
    · exact hr
    · exact hr
    · obtain ⟨D', ⟨x, ⟨E, p, q⟩, vx⟩, l', t'⟩ := hr
      exact ⟨E, ⟨x, q, vx⟩, l'.part p, t'.part (B := B) p⟩
theorem small_ok {a b c : Int} (ha : -(2 ^ 60) ≤ a) (ha' : a < 2 ^ 60) (hb : -(2 ^ 60) ≤ b) (hb' : b < 2 ^ 60) (hc : 0 < c) (hc' : c < 2 ^ 60) : Builtin.Range.small a b c = true := by
  have h1 : 0 ≤ Builtin.Range.rangeSize a b c ∧ Builtin.Range.rangeSize a b c ≤ 2 ^ 61 := by
    unfold Builtin.Range.rangeSize
    rw [if_pos hc]
    split
    · have h1 : 0 ≤ (b - a - 1) / c := Int.ediv_nonneg (by lia) (by lia)
      have h2 : (b - a - 1) / c ≤ b - a - 1 := Int.ediv_le_self _ (by lia)
      lia
    · lia
  have h2 : -(2 ^ 62) ≤ Builtin.Range.rangeSize a b c * c := Int.le_trans (by decide) (Int.mul_nonneg h1.1 (by lia))
  have h3 : Builtin.Range.rangeSize a b c * c ≤ 2 ^ 61 + 2 ^ 60 := by
    unfold Builtin.Range.rangeSize
    rw [if_pos hc]
    split
    · have := Int.ediv_mul_le (b - a - 1) (b := c) (by lia)
      rw [Int.add_mul]; lia
    · lia
  unfold Builtin.Range.small Builtin.Range.rangeFitsLong
  simp only [Bool.and_eq_true, decide_eq_true_eq]
  refine ⟨by lia, ?_⟩
  rw [if_pos (show c > 0 from hc)]
  simp only [Bool.or_eq_true, beq_iff_eq, decide_eq_true_eq, Bool.and_eq_true]
  lia
theorem map_range_get {α : Type} {f : Nat → α} {k j : Nat} {e : α} (h : ((List.range k).map f)[j]? = some e) : j < k ∧ e = f j := by
  rw [List.getElem?_map] at h
  obtain ⟨i, h1, rfl⟩ := Option.map_eq_some_iff.mp h
  obtain ⟨h2, h3⟩ := List.getElem?_eq_some_iff.mp h1
  simp at h2 h3
  exact ⟨h2, by rw [← h3]⟩
theorem Part.sub {D E : Led} (h : E.Sublist D) : Part E D := ⟨D, h, .refl _⟩
theorem Part.swap {x y : Addr × O} {D : Led} : Part (y :: x :: D) (x :: y :: D) := .of_perm (.swap ..)
theorem Part.tail2 {x y : Addr × O} {D : Led} : Part (x :: D) (x :: y :: D) := .sub (.cons_cons _ (.cons _ (.refl _)))
end
section
variable {B : Base} {n : Nat} {R D : Led} {Q : V → Led → Prop} {a dx : Addr} {d w s o : List UInt8} {t : Nat}
abbrev mHex (a q : Addr) (p x y : V) : Loc := [((Str.ofString "cursor"), .v (.ref a)), ((Str.ofString "opening"), .v p), ((Str.ofString "halves"), .v (.ref q)), ((Str.ofString "code"), .v x), ((Str.ofString "worth"), .v y), ((Str.ofString "GREATER"), .g (.int 62)), ((Str.ofString "len"), .g (.raw (.builtin "len"))), ((Str.ofString "bytes"), .g (.raw (.type "bytes"))), ((Str.ofString "range"), .g (.raw (.type "range"))), ((Str.ofString "hex_worth"), .g (.raw (.ref 323))), ((Str.ofString "is_white"), .g (.raw (.ref 82)))]
abbrev IHex (a dx q : Addr) (d o : List UInt8) (t : Nat) (R : Led) : Nat → Loc → Led → Prop :=
  fun k m D' => ∃ i x y, k + i = (hexs o).length + 1 ∧ i ≤ (hexs o).length ∧ D' = (a, curO d (t + i) dx) :: (q, .list (((hv o).take i).map V.int)) :: R ∧ m = mHex a q (.int (t - 1)) x y
theorem c_hex_string (I : Is190 B) (hn : n < 55) (hd : d.length ≤ 16777216) (ht : t ≤ d.length) (e : d.drop t = hexs o ++ 62 :: s) (h : Q (.byt o) ((a, curO d (t + 2 * o.length + 1) dx) :: R)) : CLC B n (.raw (.ref 364)) [.ref a] ((a, curO d t dx) :: R) Q := by
  refine CLC.part ?_
  refine en_hex_string I (by lia) fun env he => ?_
  show EXS _ _ _ (_ :: _) _ _ _ _
  have hl := drop_len e ht
  have hh := hexs_len o
  rw [List.length_append, List.length_cons] at hl
  refine xs_asg (pv_bin (pv_attr (pv_name mem_0 nofun) (ga_at I mem_0 rfl)) (pv_int) bin_sub) setl_1 ?_
  refine xs_asge ?_
  refine ev_listp (pa_nil) ?_
  refine ⟨by simp, fun q => ?_⟩
  refine ⟨_, setl_2, ?_⟩
  refine xs_cons ?_
  refine EX.pre Part.swap (ex_while (IHex a dx q d o t R) ((hexs o).length + 1) ⟨0, _, _, rfl, Nat.zero_le _, rfl, rfl⟩ ?_)
  rintro k m D' ⟨i, x, y, hk, hi, rfl, rfl⟩
  have hg := drop_getD (z := 0) e i
  refine et_not ?_
  refine et_plain (fun _ => rfl) ?_
  refine ev_methp (pv_name mem_0 nofun) (gm_done I mem_0) (ck_at I (by decide)) (pa_nil) ?_
  refine CLC.cl (c_done (n := n + 1) I (by lia) mem_hd ?_)
  refine tru_bool ?_
  refine ite_nec (fun hx => ?_) (fun hx => by lia)
  refine xs_asge ?_
  refine ev_methp (pv_name mem_0 nofun) (gm_take I mem_0) (ck_at I (by decide)) (pa_nil) ?_
  refine CLC.cl (c_take (n := n + 1) I (by lia) hd (by lia) ?_)
  refine ⟨_, setl_3, ?_⟩
  refine xs_ifp (pb_cmp (pv_name mem_3 nofun) (pv_glob mem_5) cmp_eq) ?_
  by_cases hi2 : i < (hexs o).length
  · have hgg : (hexs o ++ 62 :: s).getD i 0 = (hexs o).getD i 0 := by simp [List.getD, List.getElem?_append_left hi2]
    rw [hgg] at hg
    obtain ⟨h1, h2, h3⟩ := hexs_at o hi2 hg.symm
    refine ite_dec (fun q1 => ?_) (fun _ => ?_)
    · exact absurd (UInt8.toNat_inj.mp (show (d.getD (t + i) 0).toNat = (62 : UInt8).toNat by exact Int.ofNat.inj q1)) h1
    refine xs_nil ?_
    refine xs_asge ?_
    refine ev_callp mem_9 (ck_at I (by decide)) (pa_cons (pv_name mem_3 nofun) (pa_nil)) ?_
    refine CLC.cl (c_hex_worth (n := n + 1) I (by lia) ?_)
    refine ⟨_, setl_4, ?_⟩
    refine xs_ifp (pb_cmp (pv_name mem_4 nofun) (pv_int) cmp_ge) ?_
    refine ite_dec (fun _ => ?_) (fun q1 => absurd h2 q1)
    refine xs_expr ?_
    refine ev_methp (pv_name mem_2 nofun) (gm_append mem_1) (ck_builtin _) (pa_cons (pv_name mem_4 nofun) (pa_nil)) ?_
    refine cl_append (.there .here) (by simp [hv_len]; lia) ⟨rfl, ?_⟩
    refine xs_nil ?_
    refine xs_nil ?_
    refine ⟨k - 1, by lia, i + 1, _, _, by lia, by lia, ?_, rfl⟩
    rw [List.take_add_one, h3]
    simp
    rfl
  · have hi3 : i = (hexs o).length := by lia
    refine ite_dec (fun _ => ?_) (fun q1 => ?_)
    rotate_left
    · exfalso; apply q1
      rw [hg, getD_app2 (r := s) hi3]; rfl
    have hfull : (hv o).take i = hv o := List.take_of_length_le (by rw [hv_len]; lia)
    rw [hfull]
    refine xs_if ?_
    refine et_cmp ?_
    refine ev_bin ?_
    refine ev_callp mem_6 (ck_builtin _) (pa_cons (pv_name mem_2 nofun) (pa_nil)) ?_
    refine cl_len_list (mem_tl mem_hd) (by simp [hv_len]; lia) ?_
    refine ev_int ?_
    refine bin_mod (by decide) ?_
    refine ev_int ?_
    refine cmp_eq ?_
    refine tru_bool ?_
    refine ite_dec (fun q1 => by exfalso; simp [hv_len] at q1) (fun _ => ?_)
    refine xs_nil ?_
    refine xs_ret ?_
    refine ev_calle mem_7 (ck_type _) ?_
    refine ar_cons ?_
    refine ev_comp (g := gt) I.g (mc := [((Str.ofString ".0"), .v .unb), ((Str.ofString "place"), .v .unb), ((Str.ofString "halves"), .v (.ref q))]) rfl (by rw [he]; rfl) rfl ?_
    refine ev_calle mem_8 (ck_type _) ?_
    refine ar_cons ?_
    refine ev_int ?_
    refine ar_cons ?_
    refine ev_callp mem_6 (ck_builtin _) (pa_cons (pv_name mem_2 nofun) (pa_nil)) ?_
    refine cl_len_list (mem_tl mem_hd) (by simp [hv_len]; lia) ?_
    refine ar_cons ?_
    refine ev_int ?_
    refine ar_nil ?_
    refine cl_range3 (by decide) (by decide) ?_
    have hz : ((((hv o).map V.int).length : Nat) : Int) = ((2 * o.length : Nat) : Int) := by rw [List.length_map, hv_len]
    rw [hz]
    refine ⟨_, .rng (small_ok (by decide) (by decide) (by lia) (by lia) (by decide) (by decide)), ?_⟩
    rw [rngItems2]
    refine ⟨by simp; lia, fun i' ys D' => i' ≤ o.length ∧ ys = ((o.take i').map fun c => (c.toNat : Int)).map V.int ∧ D' = (a, curO d (t + i + 1) dx) :: (q, O.list ((hv o).map V.int)) :: R, ⟨Nat.zero_le _, by simp, rfl⟩, ?_, ?_, ?_⟩
    · rintro i' ys D' ⟨_, _, rfl⟩ _
      exact rngItems2 o.length ▸ .rng (small_ok (by decide) (by decide) (by lia) (by lia) (by decide) (by decide))
    · rintro j v ys D' hj ⟨_, rfl, rfl⟩
      obtain ⟨hj1, rfl⟩ := map_range_get hj
      obtain ⟨g1, g2⟩ := hv_at o j _ (List.getElem?_eq_getElem hj1)
      refine ⟨_, .name (by decide) (.there .here), fun cenv => ?_⟩
      show EV _ _ _ _ _ _ _
      refine ev_bin ?_
      refine ev_bin ?_
      refine ev_int ?_
      refine ev_sub ?_
      refine ev_name mem_2 nofun ?_
      refine ev_name mem_1 nofun ?_
      refine sb_list mem_1 ?_
      refine gi_list (x := .int ((o[j].toNat / 16 : Nat) : Int)) (mem_tl mem_hd) (by lia) (by rw [Int.toNat_natCast, List.getElem?_map, g1]; rfl) ?_ (by lia)
      skip
      refine bin_mul (.of_left (by decide)) ?_
      refine ev_sub ?_
      refine ev_name mem_2 nofun ?_
      refine pv (pv_bin (pv_name mem_1 nofun) (pv_int) bin_add) ?_
      refine sb_list mem_1 ?_
      refine gi_list (x := .int ((o[j].toNat % 16 : Nat) : Int)) (mem_tl mem_hd) (by lia) (by rw [show (((2 * j : Nat) : Int) + 1).toNat = 2 * j + 1 by lia, List.getElem?_map, g2]; rfl) ?_ (by lia)
      refine bin_add ?_
      refine ⟨hj1, ?_, rfl⟩
      rw [← List.take_append_getElem hj1, List.map_append, List.map_append, show (16 * ((o[j].toNat / 16 : Nat) : Int) + ((o[j].toNat % 16 : Nat) : Int)) = (o[j].toNat : Int) by lia]
      rfl
    · rintro ys D' ⟨_, rfl, rfl⟩ r
      simp only [List.length_map, List.length_range, List.take_length]
      refine ar_nil ?_
      refine cl_bytes mem_hd (by simp; lia) ?_ ?_
      · intro x hx
        obtain ⟨c, _, rfl⟩ := List.mem_map.mp hx
        have := c.toNat_lt
        lia
      rw [byts_back]
      exact ⟨_, .sub (.cons _ (.cons_cons _ (.cons _ (.refl _)))), by rw [hi3, hh]; exact h⟩
end
section
variable {B : Base} {n : Nat} {env : Env} {m : Loc} {D : Led}
theorem ex_exprI {Q : Loc → Led → Prop} {K : KS} {e : Expr} {pos : Pos} (h : EV B n env e m D fun v D' => (∃ i, v = .int i) ∧ Q m D') (hsw : swapsWith e none pos.line env = pure false := by rfl) : EX B n env (.Expr e pos) m D Q K := fun s hs =>
  ex_expr (h.mono fun v D' ⟨⟨i, e⟩, q⟩ => by subst e; exact ⟨by simp, by simp, by simp, by simp, by simp, q⟩) (by unfold interactive; rw [hs.kind]; rfl) hsw s hs
end
theorem isReg_ne {c : Int} (h : isReg c = true) : 0 ≤ c ∧ ([0, 9, 10, 12, 13, 32].contains c) = false ∧ c ≠ 40 ∧ c ≠ 41 ∧ c ≠ 60 ∧ c ≠ 62 ∧ c ≠ 91 ∧ c ≠ 93 ∧ c ≠ 123 ∧ c ≠ 125 ∧ c ≠ 47 ∧ c ≠ 37 := by
  unfold isReg at h
  simp only [Bool.and_eq_true, Bool.not_eq_true', decide_eq_true_eq] at h
  obtain ⟨⟨h1, h2⟩, h3⟩ := h
  refine ⟨h1, h2, ?_⟩
  simp at h3
  lia
theorem hexD_ne60 : ∀ v : Fin 16, hexD v ≠ 60 := by decide +kernel
theorem hexs_ne60 : ∀ o : List UInt8, ∀ c ∈ hexs o, c ≠ 60
  | [], _, h => by cases h
  | c :: r, x, h => by
    simp only [hexs, List.mem_cons] at h
    rcases h with rfl | rfl | h
    · exact hexD_ne60 ⟨c.toNat / 16, by have := c.toNat_lt; lia⟩
    · exact hexD_ne60 ⟨c.toNat % 16, by lia⟩
    · exact hexs_ne60 r x h
theorem stB_no {d : List UInt8} {t : Nat} {c c' x y : UInt8} {s : List UInt8} (e : d.drop t = c :: c' :: s) (h : c ≠ x ∨ c' ≠ y) : stB d [x, y] t = false := by
  unfold stB
  rw [e]
  have : ((c :: c' :: s).take [x, y].length == [x, y]) = false := by
    simp
    intro q; rcases h with h | h
    · exact absurd q h
    · exact h
  rw [this, Bool.and_false]
theorem pk_at {d s : List UInt8} {t : Nat} {c : UInt8} (e : d.drop t = c :: s) : pk d t = (c.toNat : Int) := by
  have hl : t < d.length := by
    rcases Nat.lt_or_ge t d.length with h | h
    · exact h
    · rw [List.drop_eq_nil_of_le h] at e; cases e
  unfold pk
  rw [if_pos hl]
  have := drop_getD (z := 0) e 0
  simp at this
  simp [this]
theorem pk_end {d : List UInt8} {t : Nat} (e : d.length ≤ t) : pk d t = -1 := by unfold pk; rw [if_neg (by lia)]
theorem drop_lt {α : Type} {d s : List α} {t : Nat} {c : α} (e : d.drop t = c :: s) : t < d.length := by
  rcases Nat.lt_or_ge t d.length with h | h
  · exact h
  · rw [List.drop_eq_nil_of_le h] at e; cases e
section
variable {B : Base} {n : Nat} {R D : Led} {Q : V → Led → Prop} {a dx : Addr} {d w s o : List UInt8} {t : Nat}
theorem c_delim {p : V} (hp : p ≠ .unb) (I : Is190 B) (hn : n < 53) (hd : d.length ≤ 16777216) (e : d.drop t = 60 :: (hexs o ++ 62 :: s)) (h : Q (.tup [.str (Str.ofString "hex"), .byt o, p]) ((a, curO d (t + 2 * o.length + 2) dx) :: R)) : CLC B n (.raw (.ref 378)) [.ref a, .int 60, p] ((a, curO d t dx) :: R) Q := by
  refine en_delimited_token I (by lia) fun env he => ?_
  show EXS _ _ _ (_ :: _) _ _ _ _
  have ht := drop_lt e
  have e1 : d.drop (t + 1) = hexs o ++ 62 :: s := by rw [← List.drop_drop, e]; rfl
  have s1 : stB d [60, 60] t = false := by
    cases hx : hexs o with
    | nil => rw [hx] at e; exact stB_no e (.inr (by decide))
    | cons x r => rw [hx] at e; exact stB_no e (.inr (hexs_ne60 o x (by rw [hx]; exact .head _)))
  have s2 : stB d [62, 62] t = false := by
    cases hx : hexs o with
    | nil => rw [hx] at e; exact stB_no e (.inl (by decide))
    | cons x r => rw [hx] at e; exact stB_no e (.inl (by decide))
  refine xs_ifp (pb_cmp (pv_name mem_1 nofun) (pv_glob mem_3) cmp_eq) ?_
  refine ite_dec (fun q => absurd q (by decide)) (fun _ => ?_)
  refine xs_nil ?_
  refine xs_ifp (pb_cmp (pv_name mem_1 nofun) (pv_glob mem_4) cmp_eq) ?_
  refine ite_dec (fun q => absurd q (by decide)) (fun _ => ?_)
  refine xs_nil ?_
  refine xs_if ?_
  refine et_plain (fun _ => rfl) ?_
  refine ev_methp (pv_name mem_0 nofun) (gm_skip I mem_0) (ck_at I (by decide)) (pa_cons (pv_byt) (pa_nil)) ?_
  refine CLC.cl (c_skip (n := n + 1) I (by lia) hd (by decide) mem_hd s1 ?_)
  refine tru_bool ?_
  refine ite_f ?_
  refine xs_nil ?_
  refine xs_if ?_
  refine et_plain (fun _ => rfl) ?_
  refine ev_methp (pv_name mem_0 nofun) (gm_skip I mem_0) (ck_at I (by decide)) (pa_cons (pv_byt) (pa_nil)) ?_
  refine CLC.cl (c_skip (n := n + 1) I (by lia) hd (by decide) mem_hd s2 ?_)
  refine tru_bool ?_
  refine ite_f ?_
  refine xs_nil ?_
  refine xs_ifp (pb_cmp (pv_name mem_1 nofun) (pv_glob mem_5) cmp_eq) ?_
  refine ite_dec (fun _ => ?_) (fun q => absurd rfl q)
  refine xs_cons (ex_exprI ?_)
  refine ev_methp (pv_name mem_0 nofun) (gm_take I mem_0) (ck_at I (by decide)) (pa_nil) ?_
  refine CLC.cl (c_take (n := n + 1) I (by lia) hd ht ⟨⟨_, rfl⟩, ?_⟩)
  refine xs_ret ?_
  refine ev_tuple ?_
  refine ar_cons ?_
  refine ev_str ?_
  refine ar_cons ?_
  refine ev_callp mem_6 (ck_at I (by decide)) (pa_cons (pv_name mem_0 nofun) (pa_nil)) ?_
  refine CLC.cl (c_hex_string (n := n + 1) (s := s) I (by lia) hd (by lia) e1 ?_)
  refine ar_cons ?_
  refine ev_name mem_2 (by assumption) ?_
  refine ar_nil ?_
  refine ⟨by simp, ?_⟩
  rw [show t + 1 + 2 * o.length + 1 = t + 2 * o.length + 2 by lia]
  exact h
abbrev tkW (w : List UInt8) (p : Int) : V := .tup [.str (Str.ofString "word"), .byt w, .int p]
abbrev tkH (w : List UInt8) (p : Int) : V := .tup [.str (Str.ofString "hex"), .byt w, .int p]
abbrev tkE (p : Int) : V := .tup [.str (Str.ofString "end"), .byt [], .int p]
theorem nt_end (I : Is190 B) (hn : n < 52) (hd : d.length ≤ 16777216) (ht : t ≤ d.length) (e : d.drop t = w) (hw : ∀ c ∈ w, isW c = true) (h : ∀ p, Q (tkE p) ((a, curO d (t + w.length) dx) :: R)) : CLC B n (.raw (.ref 385)) [.ref a] ((a, curO d t dx) :: R) Q := by
  refine en_next_token I (by lia) fun env he => ?_
  show EXS _ _ _ (_ :: _) _ _ _ _
  have hl := drop_len e ht
  refine xs_expr ?_
  refine ev_methp (pv_name mem_0 nofun) (gm_white I mem_0) (ck_at I (by decide)) (pa_nil) ?_
  refine CLC.cl (c_skip_white (n := n + 1) (w := w) (s := []) I (by lia) hd ht (by rw [e]; simp) hw (by simp) ⟨rfl, ?_⟩)
  refine xs_asg (pv_attr (pv_name mem_0 nofun) (ga_at I mem_0 rfl)) setl_1 ?_
  refine xs_asge ?_
  refine ev_methp (pv_name mem_0 nofun) (gm_peek I mem_0) (ck_at I (by decide)) (pa_nil) ?_
  refine CLC.cl (c_peek (n := n + 1) I (by lia) hd mem_hd ?_)
  rw [pk_end (by lia)]
  refine ⟨_, setl_2, ?_⟩
  refine xs_ifp (pb_cmp (pv_name mem_2 nofun) (pv_una (pv_int) una_neg) cmp_eq) ?_
  refine ite_dec (fun _ => ?_) (fun q => absurd rfl q)
  refine xs_ret ?_
  refine ev_tuplep (pa_cons (pv_str) (pa_cons (pv_byt) (pa_cons (pv_name mem_1 nofun) (pa_nil)))) ?_
  exact ⟨by simp, h _⟩
theorem nt_word {c : UInt8} {ws r : List UInt8} (I : Is190 B) (hn : n < 52) (hd : d.length ≤ 16777216) (ht : t ≤ d.length) (e : d.drop t = ws ++ (w ++ s)) (hws : ∀ c ∈ ws, isW c = true) (hw : ∀ c ∈ w, isReg c.toNat = true) (hs : ∀ x r, s = x :: r → isReg x.toNat = false) (e2 : w = c :: r) (hc : wordC c) (h : ∀ p, Q (tkW w p) ((a, curO d (t + ws.length + w.length) dx) :: R)) : CLC B n (.raw (.ref 385)) [.ref a] ((a, curO d t dx) :: R) Q := by
  refine en_next_token I (by lia) fun env he => ?_
  show EXS _ _ _ (_ :: _) _ _ _ _
  have hl := drop_len e ht
  rw [List.length_append] at hl
  obtain ⟨q0, q1, q2⟩ := isReg_ne (hw c (by rw [e2]; exact .head _))
  have e3 : d.drop (t + ws.length) = w ++ s := drop_more e
  have hp : pk d (t + ws.length) = (c.toNat : Int) := pk_at (s := r ++ s) (by rw [e3, e2]; rfl)
  have hnw : isW c = false ∧ c ≠ 37 := ⟨q1, fun q => q2.2.2.2.2.2.2.2.2.2 (by rw [q]; rfl)⟩
  refine xs_expr ?_
  refine ev_methp (pv_name mem_0 nofun) (gm_white I mem_0) (ck_at I (by decide)) (pa_nil) ?_
  refine CLC.cl (c_skip_white (n := n + 1) (w := ws) (s := w ++ s) I (by lia) hd ht e hws (fun x r' q => by rw [e2] at q; cases q; exact hnw) ⟨rfl, ?_⟩)
  refine xs_asg (pv_attr (pv_name mem_0 nofun) (ga_at I mem_0 rfl)) setl_1 ?_
  refine xs_asge ?_
  refine ev_methp (pv_name mem_0 nofun) (gm_peek I mem_0) (ck_at I (by decide)) (pa_nil) ?_
  refine CLC.cl (c_peek (n := n + 1) I (by lia) hd mem_hd ?_)
  rw [hp]
  refine ⟨_, setl_2, ?_⟩
  refine xs_ifp (pb_cmp (pv_name mem_2 nofun) (pv_una (pv_int) una_neg) cmp_eq) ?_
  refine ite_dec (fun q => by lia) (fun _ => ?_)
  refine xs_nil ?_
  refine xs_if ?_
  refine et_bool ?_
  refine at_orp (pb_cmp (pv_name mem_2 nofun) (pv_glob mem_3) cmp_eq) ?_
  refine ite_dec (fun q => by lia) (fun _ => ?_)
  refine at_orp (pb_cmp (pv_name mem_2 nofun) (pv_glob mem_4) cmp_eq) ?_
  refine ite_dec (fun q => by lia) (fun _ => ?_)
  refine at_orp (pb_cmp (pv_name mem_2 nofun) (pv_glob mem_5) cmp_eq) ?_
  refine ite_dec (fun q => by lia) (fun _ => ?_)
  refine at_orp (pb_cmp (pv_name mem_2 nofun) (pv_glob mem_6) cmp_eq) ?_
  refine ite_dec (fun q => by lia) (fun _ => ?_)
  refine at_orp (pb_cmp (pv_name mem_2 nofun) (pv_glob mem_7) cmp_eq) ?_
  refine ite_dec (fun q => by lia) (fun _ => ?_)
  refine at_orp (pb_cmp (pv_name mem_2 nofun) (pv_glob mem_8) cmp_in_tup) ?_
  refine ite_b (fun q => by exfalso; simp at q; lia) (fun _ => ?_)
  refine at_nil_or ?_
  refine ite_f ?_
  refine xs_nil ?_
  refine xs_ret ?_
  refine ev_callp mem_10 (ck_at I (by decide)) (pa_cons (pv_name mem_0 nofun) (pa_cons (pv_name mem_1 nofun) (pa_nil))) ?_
  exact CLC.cl (c_run_token (n := n + 1) I (by lia) (by nofun) hd (by lia) e3 hw hs e2 hc (h _))
theorem nt_hex {ws : List UInt8} (I : Is190 B) (hn : n < 52) (hd : d.length ≤ 16777216) (ht : t ≤ d.length) (e : d.drop t = ws ++ (60 :: (hexs o ++ 62 :: s))) (hws : ∀ c ∈ ws, isW c = true) (h : ∀ p, Q (tkH o p) ((a, curO d (t + ws.length + 2 * o.length + 2) dx) :: R)) : CLC B n (.raw (.ref 385)) [.ref a] ((a, curO d t dx) :: R) Q := by
  refine en_next_token I (by lia) fun env he => ?_
  show EXS _ _ _ (_ :: _) _ _ _ _
  have hl := drop_len e ht
  rw [List.length_append] at hl
  have e3 : d.drop (t + ws.length) = 60 :: (hexs o ++ 62 :: s) := drop_more e
  have hp : pk d (t + ws.length) = 60 := pk_at e3
  refine xs_expr ?_
  refine ev_methp (pv_name mem_0 nofun) (gm_white I mem_0) (ck_at I (by decide)) (pa_nil) ?_
  refine CLC.cl (c_skip_white (n := n + 1) (w := ws) (s := 60 :: (hexs o ++ 62 :: s)) I (by lia) hd ht e hws (fun x r' q => by cases q; decide) ⟨rfl, ?_⟩)
  refine xs_asg (pv_attr (pv_name mem_0 nofun) (ga_at I mem_0 rfl)) setl_1 ?_
  refine xs_asge ?_
  refine ev_methp (pv_name mem_0 nofun) (gm_peek I mem_0) (ck_at I (by decide)) (pa_nil) ?_
  refine CLC.cl (c_peek (n := n + 1) I (by lia) hd mem_hd ?_)
  rw [hp]
  refine ⟨_, setl_2, ?_⟩
  refine xs_ifp (pb_cmp (pv_name mem_2 nofun) (pv_una (pv_int) una_neg) cmp_eq) ?_
  refine ite_dec (fun q => by lia) (fun _ => ?_)
  refine xs_nil ?_
  refine xs_if ?_
  refine et_bool ?_
  refine at_orp (pb_cmp (pv_name mem_2 nofun) (pv_glob mem_3) cmp_eq) ?_
  refine ite_dec (fun q => by lia) (fun _ => ?_)
  refine at_orp (pb_cmp (pv_name mem_2 nofun) (pv_glob mem_4) cmp_eq) ?_
  refine ite_dec (fun q => by lia) (fun _ => ?_)
  refine at_orp (pb_cmp (pv_name mem_2 nofun) (pv_glob mem_5) cmp_eq) ?_
  refine ite_dec (fun q => by lia) (fun _ => ?_)
  refine at_orp (pb_cmp (pv_name mem_2 nofun) (pv_glob mem_6) cmp_eq) ?_
  refine ite_dec (fun _ => ?_) (fun q => by lia)
  refine ite_t ?_
  refine xs_ret ?_
  refine ev_callp mem_9 (ck_at I (by decide)) (pa_cons (pv_name mem_0 nofun) (pa_cons (pv_name mem_2 nofun) (pa_cons (pv_name mem_1 nofun) (pa_nil)))) ?_
  exact CLC.cl (c_delim (n := n + 1) (by nofun) I (by lia) hd e3 (h _))
end
theorem bitAnd_255 (x : Int) : Builtin.bitAnd x 255 = x % 256 := bitAnd_m8 x
def codeF (c : Int) (x : UInt8) : Int := 256 * c + x.toNat
def codeOf (w : List UInt8) : Int := w.foldl codeF 0
theorem codeOf_snoc (w : List UInt8) {j : Nat} (h : j < w.length) : codeF (codeOf (w.take j)) w[j] = codeOf (w.take (j + 1)) := by
  unfold codeOf
  rw [← List.take_append_getElem h, List.foldl_append]; rfl
theorem map_get {α β : Type} {f : α → β} {l : List α} {j : Nat} {e : β} (h : (l.map f)[j]? = some e) : ∃ hj : j < l.length, e = f l[j] := by
  rw [List.getElem?_map] at h
  obtain ⟨i, h1, rfl⟩ := Option.map_eq_some_iff.mp h
  obtain ⟨h2, h3⟩ := List.getElem?_eq_some_iff.mp h1
  exact ⟨h2, by rw [h3]⟩
section
variable {B : Base} {n : Nat} {R D : Led} {Q : V → Led → Prop} {a dx : Addr} {d w s o : List UInt8} {t : Nat}
theorem c_string_in (I : Is190 B) (hn : n < 59) {p : V} (h : Q (.byt w) D) : CLC B n (.raw (.ref 444)) [.tup [.str (Str.ofString "hex"), .byt w, p]] D Q := by
  refine en_string_in I (by lia) fun env he => ?_
  show EXS _ _ _ (_ :: _) _ _ _ _
  refine xs_if ?_
  refine et_bool ?_
  refine at_andp (pb_cmp (pv_subt (pv_name mem_0 nofun) (pv_int) (by decide) rfl (by decide)) (pv_str) cmp_ne_str) ?_
  refine ite_b (fun q => absurd q (by decide)) (fun _ => ?_)
  refine ite_f ?_
  refine xs_nil ?_
  refine xs_retp (pv_subt (pv_name mem_0 nofun) (pv_int) (by decide) rfl (by decide)) ?_
  exact h
theorem c_code_in (I : Is190 B) (hn : n < 58) {p : V} (h0 : 0 < w.length) (h4 : w.length ≤ 4) (h : Q (.byt w) D) : CLC B n (.raw (.ref 451)) [.tup [.str (Str.ofString "hex"), .byt w, p]] D Q := by
  refine en_code_in I (by lia) fun env he => ?_
  show EXS _ _ _ (_ :: _) _ _ _ _
  refine xs_asge ?_
  refine ev_callp mem_2 (ck_at I (by decide)) (pa_cons (pv_name mem_0 nofun) (pa_nil)) ?_
  refine CLC.cl (c_string_in (n := n + 1) I (by lia) ?_)
  refine ⟨_, setl_1, ?_⟩
  refine xs_if ?_
  refine et_bool ?_
  refine at_orp (pb_cmp (pv_len mem_3 (pv_name mem_1 nofun) (by lia)) (pv_int) cmp_eq) ?_
  refine ite_dec (fun q => by lia) (fun _ => ?_)
  refine at_orp (pb_cmp (pv_len mem_3 (pv_name mem_1 nofun) (by lia)) (pv_glob mem_4) cmp_gt) ?_
  refine ite_dec (fun q => by lia) (fun _ => ?_)
  refine at_nil_or ?_
  refine ite_f ?_
  refine xs_nil ?_
  refine xs_retp (pv_name mem_1 nofun) ?_
  exact h
theorem c_part_word (I : Is190 B) (hn : n < 59) {x : List UInt8} {p : V} (h : Q (.bool (w == x)) D) : CLC B n (.raw (.ref 465)) [.tup [.str (Str.ofString "word"), .byt w, p], .byt x] D Q := by
  refine en_is_part_end I (by lia) fun env he => ?_
  show EXS _ _ _ (_ :: _) _ _ _ _
  refine xs_ifp (pb_cmp (pv_subt (pv_name mem_0 nofun) (pv_int) (by decide) rfl (by decide)) (pv_str) cmp_eq_str) ?_
  refine ite_b (fun q => absurd q (by decide)) (fun _ => ?_)
  refine xs_nil ?_
  refine xs_ret ?_
  refine ev_words ?_
  refine pv_and (pv_cmp (pv_subt (pv_name mem_0 nofun) (pv_int) (by decide) rfl (by decide)) (pv_str) cmp_eq_str) ?_
  refine ite_b (fun _ => ?_) (fun q => absurd q (by decide))
  refine bv_one ?_
  refine pv (pv_cmp (pv_subt (pv_name mem_0 nofun) (pv_int) (by decide) rfl (by decide)) (pv_name mem_1 nofun) cmp_eq_byt) ?_
  exact h
theorem c_part_hex (I : Is190 B) (hn : n < 59) {x : List UInt8} {p : V} (h : Q (.bool false) D) : CLC B n (.raw (.ref 465)) [.tup [.str (Str.ofString "hex"), .byt w, p], .byt x] D Q := by
  refine en_is_part_end I (by lia) fun env he => ?_
  show EXS _ _ _ (_ :: _) _ _ _ _
  refine xs_ifp (pb_cmp (pv_subt (pv_name mem_0 nofun) (pv_int) (by decide) rfl (by decide)) (pv_str) cmp_eq_str) ?_
  refine ite_b (fun q => absurd q (by decide)) (fun _ => ?_)
  refine xs_nil ?_
  refine xs_ret ?_
  refine ev_words ?_
  refine pv_and (pv_cmp (pv_subt (pv_name mem_0 nofun) (pv_int) (by decide) rfl (by decide)) (pv_str) cmp_eq_str) ?_
  refine ite_b (fun q => absurd q (by decide)) (fun _ => ?_)
  exact bcase h (by decide)
abbrev ICode (w : List UInt8) (D : Led) : Nat → Loc → Led → Prop :=
  fun i m' D' => i ≤ w.length ∧ D' = D ∧ ∃ x, m' = [((Str.ofString "octets"), .v (.byt w)), ((Str.ofString "code"), .v (.int (codeOf (w.take i)))), ((Str.ofString "octet"), .v x)]
theorem c_code_of (I : Is190 B) (hn : n < 59) (h : Q (.int (codeOf w)) D) : CLC B n (.raw (.ref 432)) [.byt w] D Q := by
  refine en_code_of I (by lia) fun env he => ?_
  show EXS _ _ _ (_ :: _) _ _ _ _
  refine xs_asg (pv_int) setl_1 ?_
  refine xs_cons ?_
  refine ex_for ?_
  refine ev_name mem_0 nofun ?_
  refine ⟨_, .byt, ICode w D, ⟨Nat.zero_le _, rfl, _, rfl⟩, ?_, ?_⟩
  · rintro i m' D' e hx ⟨hi, rfl, x, rfl⟩
    obtain ⟨hj, rfl⟩ := map_get hx
    refine ⟨.byt, ?_⟩
    refine as_name setl_2 ?_
    refine xs_asge ?_
    refine ev_bin ?_
    refine ev_bin ?_
    refine ev_int ?_
    refine ev_name mem_1 nofun ?_
    refine bin_mul (.of_left (by decide)) ?_
    refine ev_name mem_2 nofun ?_
    refine bin_add ?_
    refine ⟨_, setl_1, ?_⟩
    refine xs_nil ?_
    exact ⟨hj, rfl, _, by rw [← codeOf_snoc w hj]; rfl⟩
  · rintro m' D' ⟨-, rfl, x, rfl⟩
    refine ⟨.byt, ?_⟩
    refine xs_retp (pv_name mem_1 nofun) ?_
    simp only [List.length_map, List.take_length]
    exact h
def octs (L code : Nat) : List UInt8 := (List.range L).map fun p => (code / 2 ^ (8 * (L - 1 - p)) % 256).toUInt8
theorem rs1 (a b : Int) (h : a ≤ b) : Builtin.Range.rangeSize a b 1 = b - a := by
  unfold Builtin.Range.rangeSize; (repeat' split) <;> lia
theorem rngItems1 (k : Nat) : rngItems 0 (k : Int) 1 = (List.range k).map fun (i : Nat) => V.int (i : Int) := by
  unfold rngItems
  rw [rs1 _ _ (by lia)]
  simp
theorem c_code_octets (I : Is190 B) (hn : n < 59) {L code : Nat} (hL : L ≤ 1000) (h : Q (.byt (octs L code)) D) : CLC B n (.raw (.ref 437)) [.int L, .int code] D Q := by
  refine CLC.part ?_
  refine en_code_octets I (by lia) fun env he => ?_
  show EXS _ _ _ (_ :: _) _ _ _ _
  refine xs_ret ?_
  refine ev_calle mem_2 (ck_type _) ?_
  refine ar_cons ?_
  refine ev_comp (g := gt) I.g (mc := [((Str.ofString ".0"), .v .unb), ((Str.ofString "place"), .v .unb), ((Str.ofString "code"), .v (.int code)), ((Str.ofString "length"), .v (.int L))]) rfl (by rw [he]; rfl) rfl ?_
  refine ev_callp mem_3 (ck_type _) (pa_cons (pv_name mem_0 nofun) (pa_nil)) ?_
  refine cl_range1 ?_
  refine ⟨_, .rng (small_ok (by decide) (by decide) (by lia) (by lia) (by decide) (by decide)), ?_⟩
  rw [rngItems1]
  refine ⟨by simp; lia, fun i' ys D' => i' ≤ L ∧ ys = ((List.range i').map fun p => ((code / 2 ^ (8 * (L - 1 - p)) % 256 : Nat) : Int)).map V.int ∧ D' = D, ⟨Nat.zero_le _, by simp, rfl⟩, ?_, ?_, ?_⟩
  · rintro i' ys D' ⟨_, _, rfl⟩ _
    exact rngItems1 L ▸ .rng (small_ok (by decide) (by decide) (by lia) (by lia) (by decide) (by decide))
  · rintro j v ys D' hj ⟨_, rfl, rfl⟩
    obtain ⟨hj1, rfl⟩ := map_range_get hj
    refine ⟨_, .name (by decide) (.there .here), fun cenv => ?_⟩
    show EV _ _ _ _ _ _ _
    refine ev_bin ?_
    refine ev_bin ?_
    refine ev_name mem_2 nofun ?_
    refine ev_bin ?_
    refine ev_int ?_
    refine pv (pv_bin (pv_bin (pv_name mem_3 nofun) (pv_int) bin_sub) (pv_name mem_1 nofun) bin_sub) ?_
    refine bin_mul (.of_left (by decide)) ?_
    refine bin_shr (by lia) ?_
    refine ev_int ?_
    refine bin_and ?_
    refine ⟨hj1, ?_, rfl⟩
    rw [List.range_succ, List.map_append, List.map_append, bitAnd_255, show (8 * ((L : Int) - 1 - (j : Int))).toNat = 8 * (L - 1 - j) by lia]
    simp
  · rintro ys D' ⟨_, rfl, rfl⟩ r
    simp only [List.length_map, List.length_range]
    refine ar_nil ?_
    refine cl_bytes mem_hd (by simp; lia) ?_ ?_
    · intro x hx
      obtain ⟨c, _, rfl⟩ := List.mem_map.mp hx
      lia
    have : byts ((List.range L).map fun p => ((code / 2 ^ (8 * (L - 1 - p)) % 256 : Nat) : Int)) = octs L code := by
      unfold byts octs
      rw [List.map_map]
      exact List.map_congr_left fun x _ => by
        show (((code / 2 ^ (8 * (L - 1 - x)) % 256 : Nat) : Int)).toNat.toUInt8 = _
        rw [Int.toNat_natCast]
    rw [this]
    exact ⟨_, .tail, h⟩
def jn (x : List Nat) : List (List Nat) → List Nat
  | [] => []
  | [a] => a
  | a :: b :: r => a ++ x ++ jn x (b :: r)
theorem txt_join (x : Str) (ys : List Str) : (Txt.join x ys).cps.toList = jn x.cps.toList (ys.map (·.cps.toList)) := by
  show (Builtin.Str.glued x ys).cps.toList = _
  rw [StrLaws.glued_eq_join]
  induction ys with
  | nil => rfl
  | cons a r ih => cases r with
    | nil => rfl
    | cons b r =>
      show (a ++ x ++ Str.join x (b :: r)).cps.toList = _
      simp only [Str.cps_append, Array.toList_append, ih]
      rfl
theorem jn_nil : ∀ l : List (List Nat), jn [] l = l.flatten
  | [] => rfl
  | [a] => by simp [jn]
  | a :: b :: r => by simp [jn, jn_nil (b :: r)]
def hexP (c : UInt8) : Str := ⟨#[(hexD (c.toNat / 16)).toNat, (hexD (c.toNat % 16)).toNat]⟩
def hexT (w : List UInt8) : Str := ⟨(60 :: ((hexs w).map UInt8.toNat ++ [62])).toArray⟩
theorem hexP_flat : ∀ w : List UInt8, (w.map fun c => (hexP c).cps.toList).flatten = (hexs w).map UInt8.toNat
  | [] => rfl
  | c :: r => by
    show (hexP c).cps.toList ++ (r.map fun c => (hexP c).cps.toList).flatten = _
    rw [hexP_flat r]; rfl
theorem hexP_join (w : List UInt8) : (Txt.join (Str.ofString "") (w.map hexP)).length = 2 * w.length := by
  show (Txt.join (Str.ofString "") (w.map hexP)).cps.size = _
  rw [← Array.length_toList, txt_join, List.map_map]
  show (jn [] (w.map fun c => (hexP c).cps.toList)).length = _
  rw [jn_nil, hexP_flat, List.length_map, hexs_len]
theorem hexT_eq (w : List UInt8) : Str.ofString "<" ++ Txt.join (Str.ofString "") (w.map hexP) ++ Str.ofString ">" = hexT w := by
  apply Str.ext
  rw [← Array.toList_inj]
  simp only [Str.cps_append, Array.toList_append, txt_join, List.map_map, Function.comp_def]
  rw [show (Str.ofString "").cps.toList = [] from rfl, jn_nil, hexP_flat]
  rfl
theorem hexSign : ∀ v : Fin 16, (Str.ofString "0123456789ABCDEF").cps[v.val]? = some (hexD v).toNat := by decide +kernel
theorem hexT_len (w : List UInt8) : (hexT w).length = 2 * w.length + 2 := by
  show (hexT w).cps.size = _
  simp [hexT, hexs_len]
abbrev ISign (w : List UInt8) (q : Addr) (D : Led) : Nat → Loc → Led → Prop :=
  fun i m' D' => i ≤ w.length ∧ D' = (q, .list (((w.take i).map hexP).map V.str)) :: D ∧ ∃ x, m' = [((Str.ofString "octets"), .v (.byt w)), ((Str.ofString "signs"), .v (.ref q)), ((Str.ofString "octet"), .v x), ((Str.ofString "HEX_SIGNS"), .g (.str (Str.ofString "0123456789ABCDEF")))]
theorem c_hex_text (I : Is190 B) (hn : n < 59) (hw : w.length ≤ 1000) (h : Q (.str (hexT w)) D) : CLC B n (.raw (.ref 510)) [.byt w] D Q := by
  refine CLC.part ?_
  refine en_hex_text I (by lia) fun env he => ?_
  show EXS _ _ _ (_ :: _) _ _ _ _
  refine xs_asge ?_
  refine ev_listp (pa_nil) ?_
  refine ⟨by simp, fun q => ?_⟩
  refine ⟨_, setl_1, ?_⟩
  refine xs_cons ?_
  refine ex_for ?_
  refine ev_name mem_0 nofun ?_
  refine ⟨_, .byt, ISign w q D, ⟨Nat.zero_le _, by simp, _, rfl⟩, ?_, ?_⟩
  · rintro i m' D' e hx ⟨hi, rfl, x, rfl⟩
    obtain ⟨hj, rfl⟩ := map_get hx
    have hb := w[i].toNat_lt
    have s1 := hexSign ⟨w[i].toNat / 16, by lia⟩
    have s2 := hexSign ⟨w[i].toNat % 16, by lia⟩
    refine ⟨.byt, ?_⟩
    refine as_name setl_2 ?_
    refine xs_expr ?_
    refine ev_methe (pv_name mem_1 nofun) (gm_append mem_0) (ck_builtin _) ?_
    refine ar_cons ?_
    refine ev_bin ?_
    refine ev_sub ?_
    refine ev_glob mem_3 ?_
    refine ev_bin ?_
    refine ev_name mem_2 nofun ?_
    refine ev_int ?_
    refine bin_shr (by decide) ?_
    refine sb_str ?_
    rw [show ((w[i].toNat : Int) / 2 ^ (Int.toNat 4)) = ((w[i].toNat / 16 : Nat) : Int) by rw [show (2 : Int) ^ Int.toNat 4 = 16 by decide]; lia]
    refine gi_str (c := (hexD (w[i].toNat / 16)).toNat) (by lia) (by rw [Int.toNat_natCast, ← s1]) ?_ (by lia)
    refine ev_sub ?_
    refine ev_glob mem_3 ?_
    refine pv (pv_bin (pv_name mem_2 nofun) (pv_int) bin_and) ?_
    refine sb_str ?_
    rw [show Builtin.bitAnd (w[i].toNat : Int) 15 = ((w[i].toNat % 16 : Nat) : Int) by rw [bitAnd_m4]; lia]
    refine gi_str (c := (hexD (w[i].toNat % 16)).toNat) (by lia) (by rw [Int.toNat_natCast, ← s2]) ?_ (by lia)
    skip
    refine bin_add_str (by show 1 + 1 ≤ 16777216; decide) ?_
    refine ar_nil ?_
    refine cl_append .here (by simp; lia) ⟨rfl, ?_⟩
    refine xs_nil ?_
    refine ⟨hj, ?_, _, rfl⟩
    rw [← List.take_append_getElem hj, List.map_append, List.map_append]
    rfl
  · rintro m' D' ⟨-, rfl, x, rfl⟩
    refine ⟨.byt, ?_⟩
    simp only [List.length_map, List.take_length]
    refine xs_ret ?_
    refine ev_bin ?_
    refine ev_bin ?_
    refine ev_str ?_
    refine ev_methp (pv_str) (gm_join) (ck_builtin _) (pa_cons (pv_name mem_1 nofun) (pa_nil)) ?_
    have hs : ((w.map hexP).map (·.length)).sum = 2 * w.length := by
      rw [List.map_map]
      clear h he hw
      induction w with
      | nil => rfl
      | cons c r ih => simp only [List.map_cons, List.sum_cons, ih, List.length_cons]; show 2 + _ = _; lia
    refine cl_join mem_hd (by rw [hs]; simp; show _ + _ * 0 ≤ _; lia) ?_
    refine bin_add_str (by rw [hexP_join]; show 1 + _ ≤ _; lia) ?_
    refine ev_str ?_
    refine bin_add_str (by show ((Str.ofString "<").cps ++ (Txt.join (Str.ofString "") (w.map hexP)).cps).size + 1 ≤ _; rw [Array.size_append]; show 1 + (Txt.join (Str.ofString "") (w.map hexP)).length + 1 ≤ _; rw [hexP_join]; lia) ?_
    rw [hexT_eq]
    exact ⟨_, .tail, h⟩
end
def unitsOf : List UInt8 → List Int
  | a :: b :: r => (256 * (a.toNat : Int) + b.toNat) :: unitsOf r
  | _ => []
inductive U16 : List Int → List Nat → Prop
  | nil : U16 [] []
  | one {u : Int} {r : List Int} {l : List Nat} : 0 ≤ u → u ≤ 65535 → ¬ (55296 ≤ u ∧ u ≤ 57343) → U16 r l → U16 (u :: r) (u.toNat :: l)
  | two {u v : Int} {r : List Int} {l : List Nat} : 55296 ≤ u → u < 56320 → 56320 ≤ v → v ≤ 57343 → U16 r l → U16 (u :: v :: r) ((65536 + (u - 55296) * 1024 + v - 56320).toNat :: l)
def okT (w : List UInt8) : Prop := w.length % 2 = 0 ∧ ∃ l, U16 (unitsOf w) l
def ch (c : Nat) : Str := ⟨#[c]⟩
open Classical in
noncomputable def tx (w : List UInt8) : Str := if h : ∃ l, U16 (unitsOf w) l then Txt.join (Str.ofString "") (h.choose.map ch) else ⟨#[]⟩
theorem tx_eq {w : List UInt8} (h : okT w) : ∃ l, U16 (unitsOf w) l ∧ tx w = Txt.join (Str.ofString "") (l.map ch) :=
  ⟨h.2.choose, h.2.choose_spec, by unfold tx; rw [dif_pos h.2]⟩
theorem unitsOf_len : ∀ (k : Nat) (w : List UInt8), w.length = 2 * k → (unitsOf w).length = k
  | 0, [], _ => rfl
  | k + 1, [], h => by simp at h
  | k + 1, [a], h => by simp at h; lia
  | 0, a :: r, h => by simp at h
  | k + 1, a :: b :: r, h => by
    simp only [unitsOf, List.length_cons]
    rw [unitsOf_len k r (by simp at h; lia)]
theorem unitsOf_at : ∀ (k : Nat) (w : List UInt8) (j : Nat), w.length = 2 * k → j < k → (unitsOf w)[j]? = some (256 * ((w.getD (2 * j) 0).toNat : Int) + (w.getD (2 * j + 1) 0).toNat)
  | 0, _, j, _, h => by lia
  | k + 1, [], _, h, _ => by simp at h
  | k + 1, [a], _, h, _ => by simp at h; lia
  | k + 1, a :: b :: r, 0, h, _ => by simp [unitsOf]
  | k + 1, a :: b :: r, j + 1, h, hj => by
    have := unitsOf_at k r j (by simp at h; lia) (by lia)
    simp only [unitsOf, List.getElem?_cons_succ, this]
    rw [show 2 * (j + 1) = 2 * j + 1 + 1 by lia, show 2 * j + 1 + 1 + 1 = (2 * j + 1) + 1 + 1 by lia]
    simp [List.getD]
section
variable {B : Base} {n : Nat} {R D : Led} {Q : V → Led → Prop} {a dx : Addr} {d w s o : List UInt8} {t : Nat}
theorem c_units {k : Nat} (I : Is190 B) (hn : n < 59) (hk : w.length = 2 * k) (hw : k ≤ 1000) (h : ∀ q, Q (.ref q) ((q, .list ((unitsOf w).map V.int)) :: D)) : CLC B n (.raw (.ref 418)) [.byt w] D Q := by
  refine en_utf16_units I (by lia) fun env he => ?_
  show EXS _ _ _ (_ :: _) _ _ _ _
  refine xs_if ?_
  refine et_cmp ?_
  refine ev_bin ?_
  refine pv (pv_len mem_1 (pv_name mem_0 nofun) (by lia)) ?_
  refine ev_int ?_
  refine bin_mod (by decide) ?_
  refine ev_int ?_
  refine cmp_eq ?_
  refine tru_bool ?_
  refine ite_dec (fun q1 => by lia) (fun _ => ?_)
  refine xs_nil ?_
  refine xs_ret ?_
  refine ev_comp (g := gt) I.g (mc := [((Str.ofString ".0"), .v .unb), ((Str.ofString "place"), .v .unb), ((Str.ofString "octets"), .v (.byt w))]) rfl (by rw [he]; rfl) rfl ?_
  refine ev_callp mem_2 (ck_type _) (pa_cons (pv_int) (pa_cons (pv_len mem_1 (pv_name mem_0 nofun) (by lia)) (pa_cons (pv_int) (pa_nil)))) ?_
  refine cl_range3 (by decide) (by decide) ?_
  rw [hk]
  refine ⟨_, .rng (small_ok (by decide) (by decide) (by lia) (by lia) (by decide) (by decide)), ?_⟩
  rw [rngItems2]
  refine ⟨by simp; lia, fun i' ys D' => i' ≤ k ∧ ys = ((unitsOf w).take i').map V.int ∧ D' = D, ⟨Nat.zero_le _, by simp, rfl⟩, ?_, ?_, ?_⟩
  · rintro i' ys D' ⟨_, _, rfl⟩ _
    exact rngItems2 k ▸ .rng (small_ok (by decide) (by decide) (by lia) (by lia) (by decide) (by decide))
  · rintro j v ys D' hj ⟨_, rfl, rfl⟩
    obtain ⟨hj1, rfl⟩ := map_range_get hj
    have g := unitsOf_at k w j hk hj1
    refine ⟨_, .name (by decide) (.there .here), fun cenv => ?_⟩
    show EV _ _ _ _ _ _ _
    refine ev_bin ?_
    refine ev_bin ?_
    refine ev_int ?_
    refine pv (pv_subb (pv_name mem_2 nofun) (pv_name mem_1 nofun) (by lia) (by lia) (by lia)) ?_
    refine bin_mul (.of_left (by decide)) ?_
    refine pv (pv_subb (pv_name mem_2 nofun) (pv_bin (pv_name mem_1 nofun) (pv_int) bin_add) (by lia) (by lia) (by lia)) ?_
    refine bin_add ?_
    refine ⟨hj1, ?_, rfl⟩
    rw [List.take_add_one, g, List.map_append]
    rfl
  · rintro ys D' ⟨_, rfl, rfl⟩ r
    simp only [List.length_map, List.length_range]
    rw [List.take_of_length_le (by rw [unitsOf_len k w hk]; lia)]
    exact h r
theorem drop_head {α : Type} {l r : List α} {x : α} {i : Nat} (h : l.drop i = x :: r) : l[i]? = some x ∧ l.drop (i + 1) = r ∧ i < l.length ∧ l.length = i + 1 + r.length := by
  have hl := drop_lt h
  have h2 := drop_len h (by lia)
  refine ⟨?_, ?_, hl, by rw [h2, List.length_cons]; lia⟩
  · have : (l.drop i)[0]? = some x := by rw [h]; rfl
    simpa using this
  · rw [← List.drop_drop, h]; rfl
theorem ch_sum : ∀ l : List Nat, ((l.map ch).map (·.length)).sum = l.length
  | [] => rfl
  | a :: r => by simp only [List.map_cons, List.sum_cons, ch_sum r, List.length_cons]; show 1 + _ = _; lia
abbrev mUtf (w : List UInt8) (q q2 : Addr) (i : Nat) (x : V) : Loc := [((Str.ofString "octets"), .v (.byt w)), ((Str.ofString "units"), .v (.ref q)), ((Str.ofString "signs"), .v (.ref q2)), ((Str.ofString "place"), .v (.int (i : Nat))), ((Str.ofString "unit"), .v x), ((Str.ofString "utf16_units"), .g (.raw (.ref 418))), ((Str.ofString "len"), .g (.raw (.builtin "len"))), ((Str.ofString "HIGH_FIRST"), .g (.int 55296)), ((Str.ofString "LOW_LAST"), .g (.int 57343)), ((Str.ofString "LOW_FIRST"), .g (.int 56320)), ((Str.ofString "chr"), .g (.raw (.builtin "chr")))]
abbrev IUtf (w : List UInt8) (U : List Int) (l : List Nat) (q q2 : Addr) (D : Led) : Nat → Loc → Led → Prop :=
  fun k m D' => ∃ i x r l0 l1, U.drop i = r ∧ U16 r l1 ∧ l0 ++ l1 = l ∧ i ≤ U.length ∧ k = r.length ∧ D' = (q2, .list ((l0.map ch).map V.str)) :: (q, .list (U.map V.int)) :: D ∧ m = mUtf w q q2 i x
theorem c_utf16 (I : Is190 B) (hn : n < 58) (ho : okT w) (hw : w.length ≤ 1000) (h : Q (.str (tx w)) D) : CLC B n (.raw (.ref 425)) [.byt w] D Q := by
  refine CLC.part ?_
  refine en_utf16 I (by lia) fun env he => ?_
  show EXS _ _ _ (_ :: _) _ _ _ _
  obtain ⟨l, hu, htx⟩ := tx_eq ho
  obtain ⟨k, hk⟩ : ∃ k, w.length = 2 * k := ⟨w.length / 2, by have := ho.1; lia⟩
  have hU := unitsOf_len k w hk
  obtain ⟨U, hUw⟩ : ∃ U, U = unitsOf w := ⟨_, rfl⟩
  rw [← hUw] at hu hU
  have hlk : l.length ≤ U.length := by
    clear h he htx hU hk hUw
    induction hu with
    | nil => simp
    | one _ _ _ _ ih => simp; lia
    | two _ _ _ _ _ ih => simp; lia
  refine xs_asge ?_
  refine ev_callp mem_5 (ck_at I (by decide)) (pa_cons (pv_name mem_0 nofun) (pa_nil)) ?_
  refine CLC.cl (c_units (n := n + 1) I (by lia) hk (by lia) fun q => ?_)
  rw [← hUw]
  refine ⟨_, setl_1, ?_⟩
  refine xs_asge ?_
  refine ev_listp (pa_nil) ?_
  refine ⟨by simp, fun q2 => ?_⟩
  refine ⟨_, setl_2, ?_⟩
  refine xs_asg (pv_int) setl_3 ?_
  refine xs_cons ?_
  refine ex_while (IUtf w U l q q2 D) U.length ⟨0, _, U, [], l, rfl, hu, rfl, Nat.zero_le _, rfl, rfl, rfl⟩ ?_
  rintro k2 m D' ⟨i, x, r, l0, l1, hr, h1, h2, hi, rfl, rfl, rfl⟩
  have hl := drop_len hr hi
  have hll : l0.length + l1.length = l.length := by rw [← h2, List.length_append]
  refine et_cmp ?_
  refine ev_name mem_3 nofun ?_
  refine ev_callp mem_6 (ck_builtin _) (pa_cons (pv_name mem_1 nofun) (pa_nil)) ?_
  refine cl_len_list (mem_tl mem_hd) (by rw [List.length_map]; lia) ?_
  rw [List.length_map]
  refine cmp_lt ?_
  refine tru_bool ?_
  cases h1 with
  | nil =>
    refine ite_dec (fun q1 => by exfalso; simp at hl; lia) (fun _ => ?_)
    refine xs_ret ?_
    refine ev_methp (pv_str) (gm_join) (ck_builtin _) (pa_cons (pv_name mem_2 nofun) (pa_nil)) ?_
    rw [List.append_nil] at h2
    subst h2
    have hs : ((l0.map ch).map (·.length)).sum ≤ 1000 := by rw [ch_sum]; lia
    refine cl_join mem_hd (by show _ + _ * 0 ≤ _; lia) ?_
    rw [← htx]
    exact ⟨_, .sub (.cons _ (.cons _ (.refl _))), h⟩
  | @one u r l g0 g1 g2 g3 =>
    obtain ⟨hx, hr2, hlt, hl2⟩ := drop_head hr
    refine ite_dec (fun _ => ?_) (fun q1 => by exfalso; lia)
    refine xs_asge ?_
    refine ev_sub ?_
    refine ev_name mem_1 nofun ?_
    refine ev_name mem_3 nofun ?_
    refine sb_list mem_1 ?_
    refine gi_list (x := .int u) (mem_tl mem_hd) (by lia) (by rw [Int.toNat_natCast, List.getElem?_map, hx]; rfl) ?_ (by lia)
    refine ⟨_, setl_4, ?_⟩
    refine xs_asg (pv_bin (pv_name mem_3 nofun) (pv_int) bin_add) setl_3 ?_
    refine xs_if ?_
    refine et_chain ?_
    refine ev_glob mem_7 ?_
    refine ev_name mem_4 nofun ?_
    refine cmp_le ?_
    refine tru_bool ?_
    refine ite_dec (fun q1 => ?_) (fun q1 => ?_)
    · refine ev_glob mem_8 ?_
      refine cmp_le ?_
      refine tru_bool ?_
      refine ite_dec (fun q2 => by exfalso; lia) (fun q2 => ?_)
      refine xs_nil ?_
      refine xs_expr ?_
      refine ev_methe (pv_name mem_2 nofun) (gm_append mem_0) (ck_builtin _) ?_
      refine ar_cons ?_
      refine ev_callp mem_10 (ck_builtin _) (pa_cons (pv_name mem_4 nofun) (pa_nil)) ?_
      refine cl_chr (by lia) (by lia) ?_
      refine ar_nil ?_
      refine cl_append .here (by simp; simp at hll; lia) ⟨rfl, ?_⟩
      refine xs_nil ?_
      refine ⟨r.length, by simp, i + 1, _, r, l0 ++ [u.toNat], l, hr2, g3, by simp [← h2], by lia, rfl, ?_, rfl⟩
      rw [List.map_append, List.map_append]; rfl
    · refine ite_f ?_
      refine xs_nil ?_
      refine xs_expr ?_
      refine ev_methe (pv_name mem_2 nofun) (gm_append mem_0) (ck_builtin _) ?_
      refine ar_cons ?_
      refine ev_callp mem_10 (ck_builtin _) (pa_cons (pv_name mem_4 nofun) (pa_nil)) ?_
      refine cl_chr (by lia) (by lia) ?_
      refine ar_nil ?_
      refine cl_append .here (by simp; simp at hll; lia) ⟨rfl, ?_⟩
      refine xs_nil ?_
      refine ⟨r.length, by simp, i + 1, _, r, l0 ++ [u.toNat], l, hr2, g3, by simp [← h2], by lia, rfl, ?_, rfl⟩
      rw [List.map_append, List.map_append]; rfl
  | @two u v r l g0 g1 g2 g3 g4 =>
    obtain ⟨hx, hr2, hlt, hl2⟩ := drop_head hr
    obtain ⟨hx2, hr3, hlt2, hl3⟩ := drop_head hr2
    simp only [List.length_cons] at hl hl2 hl3 hll
    refine ite_dec (fun _ => ?_) (fun q1 => by exfalso; lia)
    refine xs_asge ?_
    refine ev_sub ?_
    refine ev_name mem_1 nofun ?_
    refine ev_name mem_3 nofun ?_
    refine sb_list mem_1 ?_
    refine gi_list (x := .int u) (mem_tl mem_hd) (by lia) (by rw [Int.toNat_natCast, List.getElem?_map, hx]; rfl) ?_ (by lia)
    refine ⟨_, setl_4, ?_⟩
    refine xs_asg (pv_bin (pv_name mem_3 nofun) (pv_int) bin_add) setl_3 ?_
    refine xs_if ?_
    refine et_chain ?_
    refine ev_glob mem_7 ?_
    refine ev_name mem_4 nofun ?_
    refine cmp_le ?_
    refine tru_bool ?_
    refine ite_dec (fun _ => ?_) (fun q1 => by exfalso; lia)
    refine ev_glob mem_8 ?_
    refine cmp_le ?_
    refine tru_bool ?_
    refine ite_dec (fun _ => ?_) (fun q1 => by exfalso; lia)
    refine xs_if ?_
    refine et_bool ?_
    refine at_orp (pb_cmp (pv_name mem_4 nofun) (pv_glob mem_9) cmp_ge) ?_
    refine ite_dec (fun q1 => by exfalso; lia) (fun _ => ?_)
    refine at_or ?_
    refine et_cmp ?_
    refine ev_name mem_3 nofun ?_
    refine ev_callp mem_6 (ck_builtin _) (pa_cons (pv_name mem_1 nofun) (pa_nil)) ?_
    refine cl_len_list (mem_tl mem_hd) (by rw [List.length_map]; lia) ?_
    rw [List.length_map]
    refine cmp_eq ?_
    refine tru_bool ?_
    refine ite_dec (fun q1 => by exfalso; lia) (fun _ => ?_)
    refine at_or ?_
    refine et_not ?_
    refine et_chain ?_
    refine ev_glob mem_9 ?_
    refine ev_sub ?_
    refine ev_name mem_1 nofun ?_
    refine ev_name mem_3 nofun ?_
    refine sb_list mem_1 ?_
    refine gi_list (x := .int v) (mem_tl mem_hd) (by lia) (by rw [show ((i : Int) + 1).toNat = i + 1 by lia, List.getElem?_map, hx2]; rfl) ?_ (by lia)
    refine cmp_le ?_
    refine tru_bool ?_
    refine ite_dec (fun _ => ?_) (fun q1 => by exfalso; lia)
    refine ev_glob mem_8 ?_
    refine cmp_le ?_
    refine tru_bool ?_
    refine ite_nec (fun q1 => by exfalso; lia) (fun _ => ?_)
    refine at_nil_or ?_
    refine ite_f ?_
    refine xs_nil ?_
    refine xs_asge ?_
    refine ev_bin ?_
    refine ev_bin ?_
    refine ev_bin ?_
    refine ev_int ?_
    refine ev_bin ?_
    refine pv (pv_bin (pv_name mem_4 nofun) (pv_glob mem_7) bin_sub) ?_
    refine ev_int ?_
    refine bin_shl (by decide) (by decide) (by lia) ?_
    refine bin_add ?_
    refine ev_sub ?_
    refine ev_name mem_1 nofun ?_
    refine ev_name mem_3 nofun ?_
    refine sb_list mem_1 ?_
    refine gi_list (x := .int v) (mem_tl mem_hd) (by lia) (by rw [show ((i : Int) + 1).toNat = i + 1 by lia, List.getElem?_map, hx2]; rfl) ?_ (by lia)
    refine bin_add ?_
    refine ev_glob mem_9 ?_
    refine bin_sub ?_
    refine ⟨_, setl_4, ?_⟩
    refine xs_asg (pv_bin (pv_name mem_3 nofun) (pv_int) bin_add) setl_3 ?_
    refine xs_nil ?_
    refine xs_expr ?_
    refine ev_methe (pv_name mem_2 nofun) (gm_append mem_0) (ck_builtin _) ?_
    refine ar_cons ?_
    refine ev_callp mem_10 (ck_builtin _) (pa_cons (pv_name mem_4 nofun) (pa_nil)) ?_
    rw [show (2 : Int) ^ (10 : Int).toNat = 1024 by decide]
    refine cl_chr (by lia) (by lia) ?_
    refine ar_nil ?_
    refine cl_append .here (by simp; lia) ⟨rfl, ?_⟩
    refine xs_nil ?_
    refine ⟨r.length, by simp; lia, i + 1 + 1, _, r, l0 ++ [_], l, hr3, g4, by rw [List.append_assoc]; exact h2, by lia, rfl, ?_, rfl⟩
    rw [List.map_append, List.map_append]; rfl
theorem c_text_in (I : Is190 B) (hn : n < 57) {p : V} (ho : okT w) (hw : w.length ≤ 1000) (h : Q (.str (tx w)) D) : CLC B n (.raw (.ref 458)) [.tup [.str (Str.ofString "hex"), .byt w, p]] D Q := by
  refine en_text_in I (by lia) fun env he => ?_
  show EXS _ _ _ (_ :: _) _ _ _ _
  refine xs_asge ?_
  refine ev_callp mem_3 (ck_at I (by decide)) (pa_cons (pv_name mem_0 nofun) (pa_nil)) ?_
  refine CLC.cl (c_string_in (n := n + 1) I (by lia) ?_)
  refine ⟨_, setl_1, ?_⟩
  refine xs_cons ?_
  refine ex_try ?_
  refine xs_ret ?_
  refine ev_callp mem_4 (ck_at I (by decide)) (pa_cons (pv_name mem_1 nofun) (pa_nil)) ?_
  refine CLC.cl (c_utf16 (n := n + 1) I (by lia) ho hw ?_)
  skip
  exact h
end
abbrev keyV (p : Nat × Nat) : V := .tup [.int p.1, .int p.2]
def runsOn (fk : Nat × Nat) (ft : List UInt8) (k : Nat × Nat) (t : List UInt8) (step : Nat) : Prop :=
  k.1 = fk.1 ∧ k.2 = fk.2 + step ∧ k.2 / 256 = fk.2 / 256 ∧ t ≠ [] ∧ t.dropLast = ft.dropLast ∧ (t.getLastD 0).toNat = (ft.getLastD 0).toNat + step
theorem last_getD : ∀ (w : List UInt8), w ≠ [] → w.getD (w.length - 1) 0 = w.getLastD 0
  | w, h => by
    rw [List.getLastD_eq_getLast?, List.getLast?_eq_getElem?, List.getD_eq_getElem?_getD]
section
variable {B : Base} {n : Nat} {R D : Led} {Q : V → Led → Prop} {a dx : Addr} {d w s o : List UInt8} {t : Nat}
open Classical in
theorem c_runs_on (I : Is190 B) (hn : n < 59) {fk k : Nat × Nat} {ft tt : List UInt8} {step : Nat} (h1 : ft.length ≤ 1000) (h2 : tt.length ≤ 1000) (h3 : tt.length ≠ 1) (h : Q (.bool (decide (runsOn fk ft k tt step))) D) : CLC B n (.raw (.ref 517)) [keyV fk, .byt ft, keyV k, .byt tt, .int step] D Q := by
  refine en_runs_on I (by lia) fun env he => ?_
  show EXS _ _ _ (_ :: _) _ _ _ _
  refine xs_if ?_
  refine et_bool ?_
  refine at_or ?_
  refine et_cmp ?_
  refine ev_name mem_2 nofun ?_
  refine ev_tuplep (pa_cons (pv_subt (pv_name mem_0 nofun) (pv_int) (by decide) rfl (by decide)) (pa_cons (pv_bin (pv_subt (pv_name mem_0 nofun) (pv_int) (by decide) rfl (by decide)) (pv_name mem_4 nofun) bin_add) (pa_nil))) ?_
  refine ⟨by simp, ?_⟩
  refine cmp_ne_tup (.tup (.cons (.int 0 _ _) (.cons (.int 0 _ _) .nil))) (by decide) ?_
  refine tru_bool ?_
  have e8 : (2 : Int) ^ (8 : Int).toNat = 256 := by decide
  refine ite_nb (fun q => ?_) (fun q => ?_)
  · refine ite_t ?_
    refine xs_retp (pv_bool) ?_
    refine bcase h ?_
    symm; rw [decide_eq_false_iff_not]
    rintro ⟨q1, q2, -⟩
    simp [q1, q2] at q
  simp only [Bool.and_true, Bool.and_eq_true, decide_eq_true_eq] at q
  refine at_or ?_
  refine et_cmp ?_
  refine ev_bin ?_
  refine pv (pv_subt (pv_name mem_2 nofun) (pv_int) (by decide) rfl (by decide)) ?_
  refine ev_int ?_
  refine bin_shr (by decide) ?_
  refine ev_bin ?_
  refine pv (pv_subt (pv_name mem_0 nofun) (pv_int) (by decide) rfl (by decide)) ?_
  refine ev_int ?_
  refine bin_shr (by decide) ?_
  rw [e8]
  refine cmp_ne ?_
  refine tru_bool ?_
  refine ite_dec (fun q3 => ?_) (fun q3 => ?_)
  · refine ite_t ?_
    refine xs_retp (pv_bool) ?_
    refine bcase h ?_
    symm; rw [decide_eq_false_iff_not]
    rintro ⟨q1, q2, q4, -⟩
    lia
  refine at_orp (pb_cmp (pv_name mem_3 nofun) (pv_byt) cmp_eq_byt) ?_
  refine ite_b (fun q4 => ?_) (fun q4 => ?_)
  · refine ite_t ?_
    refine xs_retp (pv_bool) ?_
    refine bcase h ?_
    symm; rw [decide_eq_false_iff_not]
    rintro ⟨q1, q2, _, q5, -⟩
    exact q5 (eq_of_beq q4)
  have hne : tt ≠ [] := by intro q5; rw [q5] at q4; exact absurd q4 (by decide)
  have hpos : 0 < tt.length := List.length_pos_iff.mpr hne
  refine at_nil_or ?_
  refine ite_f ?_
  refine xs_nil ?_
  refine xs_ret ?_
  refine ev_words ?_
  refine bv_and ?_
  refine ev_cmp ?_
  refine ev_sub ?_
  refine ev_name mem_3 nofun ?_
  refine ev_slice ?_
  refine pt_none ?_
  refine pt_some ?_
  refine pv (pv_una (pv_int) una_neg) ?_
  refine ⟨_, rfl, ?_⟩
  refine sb_byt ?_
  refine gi_cut_byt (by lia) ?_
  rw [cut_last]
  refine ev_sub ?_
  refine ev_name mem_1 nofun ?_
  refine ev_slice ?_
  refine pt_none ?_
  refine pt_some ?_
  refine pv (pv_una (pv_int) una_neg) ?_
  refine ⟨_, rfl, ?_⟩
  refine sb_byt ?_
  refine gi_cut_byt (by lia) ?_
  rw [cut_last]
  refine cmp_eq_byt ?_
  refine tru_bool ?_
  refine ite_b (fun q5 => ?_) (fun q5 => ?_)
  · have q5 := eq_of_beq q5
    have hf : ft ≠ [] := by
      intro q6; rw [q6] at q5
      have := congrArg List.length q5
      simp at this; lia
    have hfp : 0 < ft.length := List.length_pos_iff.mpr hf
    refine bv_one ?_
    refine ev_cmp ?_
    refine ev_sub ?_
    refine ev_name mem_3 nofun ?_
    refine pv (pv_una (pv_int) una_neg) ?_
    refine sb_byt ?_
    refine gi_byt_neg (by lia) (by lia) (by lia) ?_
    refine ev_bin ?_
    refine ev_sub ?_
    refine ev_name mem_1 nofun ?_
    refine pv (pv_una (pv_int) una_neg) ?_
    refine sb_byt ?_
    refine gi_byt_neg (by lia) (by lia) (by lia) ?_
    refine ev_name mem_4 nofun ?_
    refine bin_add ?_
    refine cmp_eq ?_
    refine bcase h ?_
    rw [show ((-1 : Int) + tt.length).toNat = tt.length - 1 by lia, show ((-1 : Int) + ft.length).toNat = ft.length - 1 by lia, last_getD _ hne, last_getD _ hf]
    refine decide_eq_decide.mpr ⟨fun q6 => ⟨by lia, by lia, by lia, hne, q5, by lia⟩, fun ⟨_, _, _, _, _, q6⟩ => by lia⟩
  · refine bcase h ?_
    rw [q5]
    symm; rw [decide_eq_false_iff_not]
    rintro ⟨-, -, -, -, q6, -⟩
    rw [q6] at q5
    simp at q5
/-- the greedy runs of an index on -/
inductive Runs (P : Nat → Nat → Prop) (N : Nat) : Nat → List (Nat × Nat) → Prop
  | done : Runs P N N []
  | step {i j : Nat} {rs : List (Nat × Nat)} : i < j → j ≤ N → (∀ e, i < e → e < j → P i e) → (j < N → ¬ P i j) → Runs P N j rs → Runs P N i ((i, j) :: rs)
def onAt (ks : List (Nat × Nat)) (ts : List (List UInt8)) (i e : Nat) : Prop := runsOn (ks.getD i (0, 0)) (ts.getD i []) (ks.getD e (0, 0)) (ts.getD e []) (e - i)
theorem getD_get {α : Type} {l : List α} {i : Nat} {z : α} (h : i < l.length) : l[i]? = some (l.getD i z) := by
  simp [List.getD, h]
abbrev IRuns (ks : List (Nat × Nat)) (ts : List (List UInt8)) (kr tr q : Addr) (D : Led) : Nat → Loc → Led → Prop :=
  fun k m D' => ∃ i acc x, k + i = ks.length ∧ acc.length ≤ i ∧ (∀ rest, Runs (onAt ks ts) ks.length i rest → Runs (onAt ks ts) ks.length 0 (acc ++ rest)) ∧ D' = (q, .list (acc.map keyV)) :: D ∧ m = [((Str.ofString "keys"), .v (.ref kr)), ((Str.ofString "targets"), .v (.ref tr)), ((Str.ofString "runs"), .v (.ref q)), ((Str.ofString "first"), .v (.int (i : Nat))), ((Str.ofString "end"), .v x), ((Str.ofString "len"), .g (.raw (.builtin "len"))), ((Str.ofString "runs_on"), .g (.raw (.ref 517)))]
abbrev IRun (ks : List (Nat × Nat)) (ts : List (List UInt8)) (kr tr q : Addr) (i : Nat) (acc : List (Nat × Nat)) (D : Led) : Nat → Loc → Led → Prop :=
  fun k2 m D' => ∃ e, k2 + e = ks.length ∧ i < e ∧ (∀ j, i < j → j < e → onAt ks ts i j) ∧ D' = (q, .list (acc.map keyV)) :: D ∧ m = [((Str.ofString "keys"), .v (.ref kr)), ((Str.ofString "targets"), .v (.ref tr)), ((Str.ofString "runs"), .v (.ref q)), ((Str.ofString "first"), .v (.int (i : Nat))), ((Str.ofString "end"), .v (.int (e : Nat))), ((Str.ofString "len"), .g (.raw (.builtin "len"))), ((Str.ofString "runs_on"), .g (.raw (.ref 517)))]
open Classical in
theorem c_runs_of (I : Is190 B) (hn : n < 58) {kr tr : Addr} {ks : List (Nat × Nat)} {ts : List (List UInt8)} (mk : (kr, O.list (ks.map keyV)) ∈ D) (mt : (tr, O.list (ts.map V.byt)) ∈ D) (hl : ts.length = ks.length) (hz : ks.length ≤ 1000) (hts : ∀ w ∈ ts, w.length ≤ 1000 ∧ w.length ≠ 1)
    (h : ∀ r rs, Runs (onAt ks ts) ks.length 0 rs → Q (.ref r) ((r, .list (rs.map keyV)) :: D)) : CLC B n (.raw (.ref 524)) [.ref kr, .ref tr] D Q := by
  refine en_runs_of I (by lia) fun env he => ?_
  show EXS _ _ _ (_ :: _) _ _ _ _
  refine xs_asge ?_
  refine ev_listp (pa_nil) ?_
  refine ⟨by simp, fun q => ?_⟩
  refine ⟨_, setl_2, ?_⟩
  refine xs_asg (pv_int) setl_3 ?_
  refine xs_cons ?_
  refine ex_while (IRuns ks ts kr tr q D) ks.length ⟨0, [], _, by lia, Nat.le_refl _, fun _ h => h, rfl, rfl⟩ ?_
  rintro k m D' ⟨i, acc, x, hk, hacc, hA, rfl, rfl⟩
  refine et_cmp ?_
  refine ev_name mem_3 nofun ?_
  refine ev_callp mem_5 (ck_builtin _) (pa_cons (pv_name mem_0 nofun) (pa_nil)) ?_
  refine cl_len_list (mem_tl mk) (by rw [List.length_map]; lia) ?_
  rw [List.length_map]
  refine cmp_lt ?_
  refine tru_bool ?_
  refine ite_dec (fun q1 => ?_) (fun q1 => ?_)
  rotate_left
  · refine xs_retp (pv_name mem_2 nofun) ?_
    have : i = ks.length := by lia
    subst this
    have := hA [] .done
    rw [List.append_nil] at this
    exact h _ _ this
  refine xs_asg (pv_bin (pv_name mem_3 nofun) (pv_int) bin_add) setl_4 ?_
  refine xs_cons ?_
  refine ex_while (IRun ks ts kr tr q i acc D) (ks.length - (i + 1)) ⟨i + 1, by lia, by lia, fun j h1 h2 => by lia, rfl, rfl⟩ ?_
  rintro k2 m D' ⟨e, hk2, hie, hon, rfl, rfl⟩
  have fin : e ≤ ks.length → (e < ks.length → ¬ onAt ks ts i e) → ∀ rest, Runs (onAt ks ts) ks.length e rest → Runs (onAt ks ts) ks.length 0 ((acc ++ [(i, e)]) ++ rest) := fun h1 h2 rest hr => by
    rw [List.append_assoc]
    exact hA _ (.step hie h1 hon h2 hr)
  refine et_bool ?_
  refine at_and ?_
  refine et_cmp ?_
  refine ev_name mem_4 nofun ?_
  refine ev_callp mem_5 (ck_builtin _) (pa_cons (pv_name mem_0 nofun) (pa_nil)) ?_
  refine cl_len_list (mem_tl mk) (by rw [List.length_map]; lia) ?_
  rw [List.length_map]
  refine cmp_lt ?_
  refine tru_bool ?_
  refine ite_dec (fun q2 => ?_) (fun q2 => ?_)
  · refine at_and ?_
    refine et_plain (fun _ => rfl) ?_
    refine ev_calle mem_6 (ck_at I (by decide)) ?_
    refine ar_cons ?_
    refine ev_sub ?_
    refine ev_name mem_0 nofun ?_
    refine ev_name mem_3 nofun ?_
    refine sb_list (tl_1 mk) ?_
    refine gi_list (x := keyV (ks.getD i (0, 0))) (mem_tl mk) (by lia) (by rw [Int.toNat_natCast, List.getElem?_map, getD_get (z := (0, 0)) (by lia)]; rfl) ?_ (by lia)
    refine ar_cons ?_
    refine ev_sub ?_
    refine ev_name mem_1 nofun ?_
    refine ev_name mem_3 nofun ?_
    refine sb_list (tl_1 mt) ?_
    refine gi_list (x := V.byt (ts.getD i [])) (mem_tl mt) (by lia) (by rw [Int.toNat_natCast, List.getElem?_map, getD_get (z := []) (by lia)]; rfl) ?_ (by lia)
    refine ar_cons ?_
    refine ev_sub ?_
    refine ev_name mem_0 nofun ?_
    refine ev_name mem_4 nofun ?_
    refine sb_list (tl_1 mk) ?_
    refine gi_list (x := keyV (ks.getD e (0, 0))) (mem_tl mk) (by lia) (by rw [Int.toNat_natCast, List.getElem?_map, getD_get (z := (0, 0)) (by lia)]; rfl) ?_ (by lia)
    refine ar_cons ?_
    refine ev_sub ?_
    refine ev_name mem_1 nofun ?_
    refine ev_name mem_4 nofun ?_
    refine sb_list (tl_1 mt) ?_
    refine gi_list (x := V.byt (ts.getD e [])) (mem_tl mt) (by lia) (by rw [Int.toNat_natCast, List.getElem?_map, getD_get (z := []) (by lia)]; rfl) ?_ (by lia)
    refine ar_cons ?_
    refine pv (pv_bin (pv_name mem_4 nofun) (pv_name mem_3 nofun) bin_sub) ?_
    refine ar_nil ?_
    have hsub : ((e : Int) - (i : Int)) = ((e - i : Nat) : Int) := by lia
    rw [hsub]
    have m1 := hts _ (List.mem_of_getElem? (getD_get (l := ts) (z := []) (i := i) (by lia)))
    have m2 := hts _ (List.mem_of_getElem? (getD_get (l := ts) (z := []) (i := e) (by lia)))
    refine CLC.cl (c_runs_on (n := n + 1) I (by lia) m1.1 m2.1 m2.2 ?_)
    refine tru_bool ?_
    refine ite_dec (fun q3 => ?_) (fun q3 => ?_)
    · refine at_nil_and ?_
      refine ite_t ?_
      refine xs_asg (pv_bin (pv_name mem_4 nofun) (pv_int) bin_add) setl_4 ?_
      refine xs_nil ?_
      refine ⟨k2 - 1, by lia, e + 1, by lia, by lia, fun j h1 h2 => ?_, rfl, rfl⟩
      rcases Nat.lt_or_ge j e with h3 | h3
      · exact hon j h1 h3
      · have : j = e := by lia
        subst this; exact q3
    · refine ite_f ?_
      refine xs_expr ?_
      refine ev_methe (pv_name mem_2 nofun) (gm_append mem_0) (ck_builtin _) ?_
      refine ar_cons ?_
      refine ev_tuplep (pa_cons (pv_name mem_3 nofun) (pa_cons (pv_name mem_4 nofun) (pa_nil))) ?_
      refine ⟨by simp, ?_⟩
      refine ar_nil ?_
      refine cl_append .here (by rw [List.length_map]; lia) ⟨rfl, ?_⟩
      refine xs_asg (pv_name mem_4 nofun) setl_3 ?_
      refine xs_nil ?_
      refine ⟨ks.length - e, by lia, e, acc ++ [(i, e)], _, by lia, by simp; lia, fin (by lia) (fun _ => q3), ?_, rfl⟩
      rw [List.map_append]; rfl
  · refine ite_f ?_
    refine xs_expr ?_
    refine ev_methe (pv_name mem_2 nofun) (gm_append mem_0) (ck_builtin _) ?_
    refine ar_cons ?_
    refine ev_tuplep (pa_cons (pv_name mem_3 nofun) (pa_cons (pv_name mem_4 nofun) (pa_nil))) ?_
    refine ⟨by simp, ?_⟩
    refine ar_nil ?_
    refine cl_append .here (by rw [List.length_map]; lia) ⟨rfl, ?_⟩
    refine xs_asg (pv_name mem_4 nofun) setl_3 ?_
    refine xs_nil ?_
    refine ⟨ks.length - e, by lia, e, acc ++ [(i, e)], _, by lia, by simp; lia, fin (by lia) (fun _ => by lia), ?_, rfl⟩
    rw [List.map_append]; rfl
end
section
variable {B : Base} {n : Nat} {R D : Led} {Q : V → Led → Prop} {a dx c : Addr} {d w s o : List UInt8} {t : Nat}
/-- a place of the text: what is left -/
def Left (d : List UInt8) (t : Nat) (s : List UInt8) : Prop := d.drop t = s ∧ t ≤ d.length
theorem Left.more {d w s : List UInt8} {t : Nat} (h : Left d t (w ++ s)) : Left d (t + w.length) s := by
  refine ⟨drop_more h.1, ?_⟩
  have := drop_len h.1 h.2
  rw [List.length_append] at this; lia
theorem nx_end {ws : List UInt8} (I : Is190 B) (hn : n < 52) (hd : d.length ≤ 16777216) (e : Left d t ws) (hws : ∀ c ∈ ws, isW c = true) (h : ∀ p t', Q (tkE p) ((a, curO d t' dx) :: R)) : CLC B n (.raw (.ref 385)) [.ref a] ((a, curO d t dx) :: R) Q :=
  nt_end I hn hd e.2 e.1 hws fun p => h p _
theorem nx_word {x : UInt8} {ws r : List UInt8} (I : Is190 B) (hn : n < 52) (hd : d.length ≤ 16777216) (e : Left d t (ws ++ (w ++ s))) (hws : ∀ c ∈ ws, isW c = true) (hw : ∀ c ∈ w, isReg c.toNat = true) (hs : ∀ x r, s = x :: r → isReg x.toNat = false) (e2 : w = x :: r) (hc : wordC x) (h : ∀ p t', Left d t' s → Q (tkW w p) ((a, curO d t' dx) :: R)) : CLC B n (.raw (.ref 385)) [.ref a] ((a, curO d t dx) :: R) Q :=
  nt_word I hn hd e.2 e.1 hws hw hs e2 hc fun p => h p _ e.more.more
theorem nx_hex {ws : List UInt8} (I : Is190 B) (hn : n < 52) (hd : d.length ≤ 16777216) (e : Left d t (ws ++ (60 :: (hexs o ++ 62 :: s)))) (hws : ∀ c ∈ ws, isW c = true) (h : ∀ p t', Left d t' s → Q (tkH o p) ((a, curO d t' dx) :: R)) : CLC B n (.raw (.ref 385)) [.ref a] ((a, curO d t dx) :: R) Q :=
  nt_hex I hn hd e.2 e.1 hws fun p => h p _ (by
    have e1 : Left d (t + ws.length) ((60 :: (hexs o ++ [62])) ++ s) := by simpa using e.more
    have e2 := e1.more
    simp only [List.length_cons, List.length_append, hexs_len, List.length_nil] at e2
    rw [show t + ws.length + 2 * o.length + 2 = t + ws.length + (2 * o.length + (0 + 1) + 1) by lia]
    exact e2)
def wBeginChar : List UInt8 := [98, 101, 103, 105, 110, 98, 102, 99, 104, 97, 114]
def wBeginRange : List UInt8 := [98, 101, 103, 105, 110, 98, 102, 114, 97, 110, 103, 101]
def wEndChar : List UInt8 := [101, 110, 100, 98, 102, 99, 104, 97, 114]
def wEndRange : List UInt8 := [101, 110, 100, 98, 102, 114, 97, 110, 103, 101]
theorem word_reg : (∀ c ∈ wBeginChar, isReg c.toNat = true) ∧ (∀ c ∈ wBeginRange, isReg c.toNat = true) ∧ (∀ c ∈ wEndChar, isReg c.toNat = true) ∧ (∀ c ∈ wEndRange, isReg c.toNat = true) := by decide +kernel
theorem wordC_b : wordC 98 := ⟨by decide, by decide, by decide, by decide⟩
theorem wordC_e : wordC 101 := ⟨by decide, by decide, by decide, by decide⟩
theorem white1 : ∀ c ∈ ([32] : List UInt8), isW c = true := by decide
theorem white2 : ∀ c ∈ ([32, 32] : List UInt8), isW c = true := by decide
/-- what may follow a word -/
def After (s : List UInt8) : Prop := ∀ x r, s = x :: r → isReg x.toNat = false
theorem After.sp {s : List UInt8} : After (32 :: s) := fun x r h => by cases h; decide
noncomputable abbrev ent (low tg : List UInt8) : List Int × V := ([(low.length : Int), codeOf low], .str (tx tg))
abbrev mChars (a c : Addr) (tk x : V) : Loc := [((Str.ofString "cursor"), .v (.ref a)), ((Str.ofString "chars"), .v (.ref c)), ((Str.ofString "token"), .v tk), ((Str.ofString "code"), .v x), ((Str.ofString "next_token"), .g (.raw (.ref 385))), ((Str.ofString "is_part_end"), .g (.raw (.ref 465))), ((Str.ofString "code_in"), .g (.raw (.ref 451))), ((Str.ofString "len"), .g (.raw (.builtin "len"))), ((Str.ofString "code_of"), .g (.raw (.ref 432))), ((Str.ofString "text_in"), .g (.raw (.ref 458)))]
abbrev IChars (a dx c : Addr) (d s : List UInt8) (t1 : Nat) (p : Int) (low tg : List UInt8) (es : List (List Int × V)) (R : Led) : Nat → Loc → Led → Prop :=
  fun k m D' => ∃ x tk, (D' = (a, curO d t1 dx) :: (c, .dict es) :: R ∧ tk = tkH low p ∧ k = 1 ∨ ∃ p' t2, Left d t2 s ∧ tk = tkW wEndChar p' ∧ k = 0 ∧ D' = (a, curO d t2 dx) :: (c, .dict (es ++ [ent low tg])) :: R) ∧ m = mChars a c tk x
theorem c_read_chars {low tg : List UInt8} {es : List (List Int × V)} (I : Is190 B) (hn : n < 50) (hd : d.length ≤ 16777216) (h0 : 0 < low.length) (h4 : low.length ≤ 4) (ho : okT tg) (ht : tg.length ≤ 1000)
    (e : Left d t ([32] ++ (60 :: (hexs low ++ 62 :: ([32, 32] ++ (60 :: (hexs tg ++ 62 :: ([32] ++ (wEndChar ++ s)))))))))
    (hs : After s) (hk : [(low.length : Int), codeOf low] ∉ es.map (·.1)) (hz : es.length ≤ 1000)
    (h : ∀ t', Left d t' s → Q .none ((a, curO d t' dx) :: (c, .dict (es ++ [ent low tg])) :: R)) : CLC B n (.raw (.ref 477)) [.ref a, .ref c] ((a, curO d t dx) :: (c, .dict es) :: R) Q := by
  refine en_read_chars I (by lia) fun env he => ?_
  show EXS _ _ _ (_ :: _) _ _ _ _
  refine xs_asge ?_
  refine ev_callp mem_4 (ck_at I (by decide)) (pa_cons (pv_name mem_0 nofun) (pa_nil)) ?_
  refine CLC.cl (nx_hex (n := n + 1) I (by lia) hd e white1 fun p t1 e1 => ?_)
  refine ⟨_, setl_2, ?_⟩
  refine xs_cons ?_
  refine ex_while (IChars a dx c d s t1 p low tg es R) 1 ⟨_, _, .inl ⟨rfl, rfl, rfl⟩, rfl⟩ ?_
  rintro k m D' ⟨x, tk, ⟨rfl, rfl, rfl⟩ | ⟨p', t2, e2, rfl, rfl, rfl⟩, rfl⟩
  · refine et_not ?_
    refine et_plain (fun _ => rfl) ?_
    refine ev_callp mem_5 (ck_at I (by decide)) (pa_cons (pv_name mem_2 nofun) (pa_cons (pv_byt) (pa_nil))) ?_
    refine CLC.cl (c_part_hex (n := n + 1) I (by lia) ?_)
    refine tru_bool ?_
    refine ite_nf ?_
    refine xs_asge ?_
    refine ev_callp mem_6 (ck_at I (by decide)) (pa_cons (pv_name mem_2 nofun) (pa_nil)) ?_
    refine CLC.cl (c_code_in (n := n + 1) I (by lia) h0 h4 ?_)
    refine ⟨_, setl_3, ?_⟩
    refine xs_cons ?_
    refine ex_assignT ?_
    refine ev_calle mem_9 (ck_at I (by decide)) ?_
    refine ar_cons ?_
    refine ev_callp mem_4 (ck_at I (by decide)) (pa_cons (pv_name mem_0 nofun) (pa_nil)) ?_
    refine CLC.cl (nx_hex (n := n + 1) I (by lia) hd e1 white2 fun p2 t2 e2 => ?_)
    refine ar_nil ?_
    refine CLC.cl (c_text_in (n := n + 1) I (by lia) ho ht ?_)
    refine as_sub ?_
    refine ev_name mem_1 nofun ?_
    refine ev_tuple ?_
    refine ar_cons ?_
    refine pv (pv_len mem_7 (pv_name mem_3 nofun) (by lia)) ?_
    refine ar_cons ?_
    refine ev_callp mem_8 (ck_at I (by decide)) (pa_cons (pv_name mem_3 nofun) (pa_nil)) ?_
    refine CLC.cl (c_code_of (n := n + 1) I (by lia) ?_)
    refine ar_nil ?_
    refine ⟨by simp, ?_⟩
    refine st_dict (k := [(low.length : Int), codeOf low]) (.there .here) hk (by lia) ?_
    refine xs_asge ?_
    refine ev_callp mem_4 (ck_at I (by decide)) (pa_cons (pv_name mem_0 nofun) (pa_nil)) ?_
    refine CLC.cl (nx_word (n := n + 1) (x := 101) I (by lia) hd e2 white1 word_reg.2.2.1 hs rfl wordC_e fun p3 t3 e3 => ?_)
    refine ⟨_, setl_2, ?_⟩
    refine xs_nil ?_
    exact ⟨0, by lia, _, _, .inr ⟨p3, t3, e3, rfl, rfl, rfl⟩, rfl⟩
  · refine et_not ?_
    refine et_plain (fun _ => rfl) ?_
    refine ev_callp mem_5 (ck_at I (by decide)) (pa_cons (pv_name mem_2 nofun) (pa_cons (pv_byt) (pa_nil))) ?_
    refine CLC.cl (c_part_word (n := n + 1) I (by lia) ?_)
    rw [show (wEndChar == [101, 110, 100, 98, 102, 99, 104, 97, 114]) = true by decide]
    refine tru_bool ?_
    refine ite_nt ?_
    refine xs_nil ?_
    exact h _ e2
end
def stp (pre : List UInt8) (lo : UInt8) (s : Nat) : List UInt8 := pre ++ [(lo.toNat + s).toUInt8]
theorem last_at (pre : List UInt8) (lo : UInt8) : (pre ++ [lo]).getD ((-1 : Int) + (pre ++ [lo]).length).toNat 0 = lo := by
  rw [show ((-1 : Int) + (pre ++ [lo]).length).toNat = pre.length by simp; lia]
  simp [List.getD]
section
variable {B : Base} {n : Nat} {R D : Led} {Q : V → Led → Prop} {a dx c : Addr} {d w s o : List UInt8} {t : Nat}
theorem c_texts {pre : List UInt8} {lo : UInt8} {many : Nat} {p : Int} (I : Is190 B) (hn : n < 55) (hm : 2 ≤ many) (hb : lo.toNat + many ≤ 256) (hp : pre.length ≤ 900) (hok : ∀ s, s < many → okT (stp pre lo s))
    (h : ∀ q, Q (.ref q) ((q, .list ((List.range many).map fun s => V.str (tx (stp pre lo s)))) :: D)) : CLC B n (.raw (.ref 489)) [tkH (pre ++ [lo]) p, .int many] D Q := by
  refine en_texts_that_run I (by lia) fun env he => ?_
  show EXS _ _ _ (_ :: _) _ _ _ _
  have hl : (pre ++ [lo]).length = pre.length + 1 := by simp
  have hne : ((pre ++ [lo]) == []) = false := by cases pre <;> rfl
  refine xs_asge ?_
  refine ev_callp mem_3 (ck_at I (by decide)) (pa_cons (pv_name mem_0 nofun) (pa_nil)) ?_
  refine CLC.cl (c_string_in (n := n + 1) I (by lia) ?_)
  refine ⟨_, setl_2, ?_⟩
  refine xs_if ?_
  refine et_bool ?_
  refine at_andp (pb_cmp (pv_name mem_1 nofun) (pv_int) cmp_gt) ?_
  refine ite_dec (fun q1 => ?_) (fun q1 => ?_)
  · refine at_and ?_
    refine et_bool ?_
    refine at_orp (pb_cmp (pv_name mem_2 nofun) (pv_byt) cmp_eq_byt) ?_
    rw [hne]
    refine ite_f ?_
    refine at_or ?_
    refine et_cmp ?_
    refine ev_bin ?_
    refine ev_bin ?_
    refine ev_sub ?_
    refine ev_name mem_2 nofun ?_
    refine pv (pv_una (pv_int) una_neg) ?_
    refine sb_byt ?_
    refine gi_byt_neg (by lia) (by lia) (by lia) ?_
    rw [last_at]
    refine ev_name mem_1 nofun ?_
    refine bin_add ?_
    refine ev_int ?_
    refine bin_sub ?_
    refine ev_int ?_
    refine cmp_gt ?_
    refine tru_bool ?_
    refine ite_dec (fun q2 => by exfalso; lia) (fun _ => ?_)
    refine at_nil_or ?_
    refine ite_f ?_
    refine ite_f ?_
    refine xs_nil ?_
    refine xs_ifp (pb_cmp (pv_name mem_2 nofun) (pv_byt) cmp_eq_byt) ?_
    rw [hne]
    refine ite_f ?_
    refine xs_nil ?_
    refine xs_ret ?_
    refine ev_comp (g := gt) I.g (mc := [((Str.ofString ".0"), .v .unb), ((Str.ofString "step"), .v .unb), ((Str.ofString "text_in"), .g (.raw (.ref 458))), ((Str.ofString "bytes"), .g (.raw (.type "bytes"))), ((Str.ofString "octets"), .v (.byt (pre ++ [lo]))), ((Str.ofString "token"), .v (tkH (pre ++ [lo]) p))]) rfl (by rw [he]; rfl) rfl ?_
    refine ev_callp mem_4 (ck_type _) (pa_cons (pv_name mem_1 nofun) (pa_nil)) ?_
    refine cl_range1 ?_
    refine ⟨_, .rng (small_ok (by decide) (by decide) (by lia) (by lia) (by decide) (by decide)), ?_⟩
    rw [rngItems1]
    refine ⟨by simp; lia, fun i' ys D' => i' ≤ many ∧ ys = (List.range i').map (fun s => V.str (tx (stp pre lo s))) ∧ D' = D, ⟨Nat.zero_le _, by simp, rfl⟩, ?_, ?_, ?_⟩
    · rintro i' ys D' ⟨_, _, rfl⟩ _
      exact rngItems1 many ▸ .rng (small_ok (by decide) (by decide) (by lia) (by lia) (by decide) (by decide))
    · rintro j v ys D' hj ⟨_, rfl, rfl⟩
      obtain ⟨hj1, rfl⟩ := map_range_get hj
      refine ⟨_, .name (by decide) (.there .here), fun cenv => ?_⟩
      show EV _ _ _ _ _ _ _
      refine EV.part ?_
      refine ev_calle mem_2 (ck_at I (by decide)) ?_
      refine ar_cons ?_
      refine ev_tuple ?_
      refine ar_cons ?_
      refine ev_str ?_
      refine ar_cons ?_
      refine ev_bin ?_
      refine ev_sub ?_
      refine ev_name mem_4 nofun ?_
      refine ev_slice ?_
      refine pt_none ?_
      refine pt_some ?_
      refine pv (pv_una (pv_int) una_neg) ?_
      refine ⟨_, rfl, ?_⟩
      refine sb_byt ?_
      refine gi_cut_byt (by lia) ?_
      rw [cut_last, List.dropLast_concat]
      refine ev_calle mem_3 (ck_type _) ?_
      refine ar_cons ?_
      refine ev_list ?_
      refine ar_cons ?_
      refine ev_bin ?_
      refine ev_sub ?_
      refine ev_name mem_4 nofun ?_
      refine pv (pv_una (pv_int) una_neg) ?_
      refine sb_byt ?_
      refine gi_byt_neg (by lia) (by lia) (by lia) ?_
      rw [last_at]
      refine ev_name mem_1 nofun ?_
      refine bin_add ?_
      refine ar_nil ?_
      refine ⟨by simp, fun q => ?_⟩
      refine ar_nil ?_
      have hlo := lo.toNat_lt
      refine cl_bytes (ns := [(lo.toNat : Int) + j]) mem_hd (by simp) (by simp; lia) ?_
      refine bin_add_byt (by simp [byts]; lia) ?_
      refine ar_cons ?_
      refine pv (pv_subt (pv_name mem_5 nofun) (pv_int) (by decide) rfl (by decide)) ?_
      refine ar_nil ?_
      refine ⟨by simp, ?_⟩
      refine ar_nil ?_
      have e0 : pre ++ byts [(lo.toNat : Int) + j] = stp pre lo j := by
        unfold byts stp
        show pre ++ [((lo.toNat : Int) + j).toNat.toUInt8] = _
        rw [show ((lo.toNat : Int) + j).toNat = lo.toNat + j by lia]
      rw [e0]
      refine CLC.cl (c_text_in (n := n + 1) I (by lia) (hok j hj1) (by unfold stp; simp; lia) ?_)
      refine ⟨_, .tail, hj1, ?_, rfl⟩
      rw [List.range_succ, List.map_append]; rfl
    · rintro ys D' ⟨_, rfl, rfl⟩ r
      simp only [List.length_map, List.length_range]
      exact h r
  · exfalso; lia
end
noncomputable def entR (pre : List UInt8) (lo : UInt8) (tp : List UInt8) (tl : UInt8) (s : Nat) : List Int × V := ([((pre ++ [lo]).length : Int), codeOf (pre ++ [lo]) + (s : Int)], V.str (tx (stp tp tl s)))
section
variable {B : Base} {n : Nat} {R D : Led} {Q : V → Led → Prop} {a dx c : Addr} {d w s o : List UInt8} {t : Nat}
abbrev mRng (a c : Addr) (tk x1 x2 x3 x4 x5 x6 : V) : Loc := [((Str.ofString "cursor"), .v (.ref a)), ((Str.ofString "chars"), .v (.ref c)), ((Str.ofString "token"), .v tk), ((Str.ofString "low"), .v x1), ((Str.ofString "high"), .v x2), ((Str.ofString "many"), .v x3), ((Str.ofString "target"), .v x4), ((Str.ofString "texts"), .v x5), ((Str.ofString "step"), .v x6), ((Str.ofString "next_token"), .g (.raw (.ref 385))), ((Str.ofString "is_part_end"), .g (.raw (.ref 465))), ((Str.ofString "code_in"), .g (.raw (.ref 451))), ((Str.ofString "len"), .g (.raw (.builtin "len"))), ((Str.ofString "texts_that_run"), .g (.raw (.ref 489))), ((Str.ofString "range"), .g (.raw (.type "range"))), ((Str.ofString "code_of"), .g (.raw (.ref 432)))]
abbrev IRng (a dx c : Addr) (d s : List UInt8) (t1 : Nat) (p : Int) (pre : List UInt8) (lo : UInt8) (tp : List UInt8) (tl : UInt8) (many : Nat) (es : List (List Int × V)) (R : Led) : Nat → Loc → Led → Prop :=
  fun k m D' => ∃ x1 x2 x3 x4 x5 x6 tk, (D' = (a, curO d t1 dx) :: (c, .dict es) :: R ∧ tk = tkH (pre ++ [lo]) p ∧ k = 1 ∨ ∃ p' t2, Left d t2 s ∧ tk = tkW wEndRange p' ∧ k = 0 ∧ D' = (a, curO d t2 dx) :: (c, .dict (es ++ (List.range many).map (entR pre lo tp tl))) :: R) ∧ m = mRng a c tk x1 x2 x3 x4 x5 x6
abbrev IStep (a dx c q : Addr) (d : List UInt8) (t3 : Nat) (p p3 : Int) (pre : List UInt8) (lo hi : UInt8) (tp : List UInt8) (tl : UInt8) (many : Nat) (es : List (List Int × V)) (R : Led) : Nat → Loc → Led → Prop :=
  fun i m' D' => i ≤ many ∧ D' = (q, O.list ((List.range many).map fun s => V.str (tx (stp tp tl s)))) :: (a, curO d t3 dx) :: (c, .dict (es ++ (List.range i).map (entR pre lo tp tl))) :: R ∧ ∃ y, m' = mRng a c (tkH (pre ++ [lo]) p) (.byt (pre ++ [lo])) (.byt (pre ++ [hi])) (.int many) (tkH (tp ++ [tl]) p3) (.ref q) y
theorem c_read_ranges {pre tp : List UInt8} {lo hi tl : UInt8} {es : List (List Int × V)} {many : Nat} (I : Is190 B) (hn : n < 50) (hd : d.length ≤ 16777216) (h4 : pre.length < 4) (hm : 2 ≤ many) (hlo : hi.toNat + 1 = lo.toNat + many) (htl : tl.toNat + many ≤ 256) (htp : tp.length ≤ 900) (hok : ∀ s, s < many → okT (stp tp tl s))
    (e : Left d t ([32] ++ (60 :: (hexs (pre ++ [lo]) ++ 62 :: ([32] ++ (60 :: (hexs (pre ++ [hi]) ++ 62 :: ([32] ++ (60 :: (hexs (tp ++ [tl]) ++ 62 :: ([32] ++ (wEndRange ++ s))))))))))))
    (hs : After s) (hk : ∀ s, s < many → [((pre ++ [lo]).length : Int), codeOf (pre ++ [lo]) + (s : Int)] ∉ es.map (·.1)) (hz : es.length ≤ 1000)
    (h : ∀ t', Left d t' s → Q .none ((a, curO d t' dx) :: (c, .dict (es ++ (List.range many).map (entR pre lo tp tl))) :: R)) : CLC B n (.raw (.ref 496)) [.ref a, .ref c] ((a, curO d t dx) :: (c, .dict es) :: R) Q := by
  refine en_read_ranges I (by lia) fun env he => ?_
  show EXS _ _ _ (_ :: _) _ _ _ _
  have hl1 : (pre ++ [lo]).length = pre.length + 1 := by simp
  have hl2 : (pre ++ [hi]).length = pre.length + 1 := by simp
  have b1 := lo.toNat_lt
  have b2 := hi.toNat_lt
  refine xs_asge ?_
  refine ev_callp mem_9 (ck_at I (by decide)) (pa_cons (pv_name mem_0 nofun) (pa_nil)) ?_
  refine CLC.cl (nx_hex (n := n + 1) I (by lia) hd e white1 fun p t1 e1 => ?_)
  refine ⟨_, setl_2, ?_⟩
  refine xs_cons ?_
  refine ex_while (IRng a dx c d s t1 p pre lo tp tl many es R) 1 ⟨_, _, _, _, _, _, _, .inl ⟨rfl, rfl, rfl⟩, rfl⟩ ?_
  rintro k m D' ⟨x1, x2, x3, x4, x5, x6, tk, ⟨rfl, rfl, rfl⟩ | ⟨p', t2, e2, rfl, rfl, rfl⟩, rfl⟩
  · refine et_not ?_
    refine et_plain (fun _ => rfl) ?_
    refine ev_callp mem_10 (ck_at I (by decide)) (pa_cons (pv_name mem_2 nofun) (pa_cons (pv_byt) (pa_nil))) ?_
    refine CLC.cl (c_part_hex (n := n + 1) I (by lia) ?_)
    refine tru_bool ?_
    refine ite_nf ?_
    refine xs_asge ?_
    refine ev_callp mem_11 (ck_at I (by decide)) (pa_cons (pv_name mem_2 nofun) (pa_nil)) ?_
    refine CLC.cl (c_code_in (n := n + 1) I (by lia) (by lia) (by lia) ?_)
    refine ⟨_, setl_3, ?_⟩
    refine xs_asge ?_
    refine ev_calle mem_11 (ck_at I (by decide)) ?_
    refine ar_cons ?_
    refine ev_callp mem_9 (ck_at I (by decide)) (pa_cons (pv_name mem_0 nofun) (pa_nil)) ?_
    refine CLC.cl (nx_hex (n := n + 1) I (by lia) hd e1 white1 fun p2 t2 e2 => ?_)
    refine ar_nil ?_
    refine CLC.cl (c_code_in (n := n + 1) I (by lia) (by lia) (by lia) ?_)
    refine ⟨_, setl_4, ?_⟩
    refine xs_if ?_
    refine et_bool ?_
    refine at_orp (pb_cmp (pv_len mem_12 (pv_name mem_3 nofun) (by lia)) (pv_len mem_12 (pv_name mem_4 nofun) (by lia)) cmp_ne) ?_
    refine ite_dec (fun q => by exfalso; lia) (fun _ => ?_)
    refine at_or ?_
    refine et_cmp ?_
    refine ev_sub ?_
    refine ev_name mem_3 nofun ?_
    refine ev_slice ?_
    refine pt_none ?_
    refine pt_some ?_
    refine pv (pv_una (pv_int) una_neg) ?_
    refine ⟨_, rfl, ?_⟩
    refine sb_byt ?_
    refine gi_cut_byt (by lia) ?_
    rw [cut_last, List.dropLast_concat]
    refine ev_sub ?_
    refine ev_name mem_4 nofun ?_
    refine ev_slice ?_
    refine pt_none ?_
    refine pt_some ?_
    refine pv (pv_una (pv_int) una_neg) ?_
    refine ⟨_, rfl, ?_⟩
    refine sb_byt ?_
    refine gi_cut_byt (by lia) ?_
    rw [cut_last, List.dropLast_concat]
    refine cmp_ne_byt ?_
    refine tru_bool ?_
    refine ite_b (fun q => by simp at q) (fun _ => ?_)
    refine at_or ?_
    refine et_cmp ?_
    refine ev_sub ?_
    refine ev_name mem_3 nofun ?_
    refine pv (pv_una (pv_int) una_neg) ?_
    refine sb_byt ?_
    refine gi_byt_neg (by lia) (by lia) (by lia) ?_
    rw [last_at]
    refine ev_sub ?_
    refine ev_name mem_4 nofun ?_
    refine pv (pv_una (pv_int) una_neg) ?_
    refine sb_byt ?_
    refine gi_byt_neg (by lia) (by lia) (by lia) ?_
    rw [last_at]
    refine cmp_gt ?_
    refine tru_bool ?_
    refine ite_dec (fun q => by exfalso; lia) (fun _ => ?_)
    refine at_nil_or ?_
    refine ite_f ?_
    refine xs_nil ?_
    refine xs_asge ?_
    refine ev_bin ?_
    refine ev_bin ?_
    refine ev_sub ?_
    refine ev_name mem_4 nofun ?_
    refine pv (pv_una (pv_int) una_neg) ?_
    refine sb_byt ?_
    refine gi_byt_neg (by lia) (by lia) (by lia) ?_
    rw [last_at]
    refine ev_sub ?_
    refine ev_name mem_3 nofun ?_
    refine pv (pv_una (pv_int) una_neg) ?_
    refine sb_byt ?_
    refine gi_byt_neg (by lia) (by lia) (by lia) ?_
    rw [last_at]
    refine bin_sub ?_
    refine ev_int ?_
    refine bin_add ?_
    refine ⟨_, setl_5, ?_⟩
    refine xs_asge ?_
    refine ev_callp mem_9 (ck_at I (by decide)) (pa_cons (pv_name mem_0 nofun) (pa_nil)) ?_
    rw [show ((hi.toNat : Int) - (lo.toNat : Int) + 1) = (many : Int) by lia]
    skip
    refine CLC.cl (nx_hex (n := n + 1) I (by lia) hd e2 white1 fun p3 t3 e3 => ?_)
    refine ⟨_, setl_6, ?_⟩
    refine xs_if ?_
    refine et_bool ?_
    refine at_andp (pb_cmp (pv_subt (pv_name mem_6 nofun) (pv_int) (by decide) rfl (by decide)) (pv_str) cmp_eq_str) ?_
    refine ite_b (fun q => absurd q (by decide)) (fun _ => ?_)
    refine ite_f ?_
    refine xs_asge ?_
    refine ev_callp mem_13 (ck_at I (by decide)) (pa_cons (pv_name mem_6 nofun) (pa_cons (pv_name mem_5 nofun) (pa_nil))) ?_
    refine CLC.cl (c_texts (n := n + 1) I (by lia) hm htl htp hok fun q => ?_)
    refine ⟨_, setl_7, ?_⟩
    refine xs_nil ?_
    refine xs_cons ?_
    refine ex_for ?_
    refine ev_callp mem_14 (ck_type _) (pa_cons (pv_name mem_5 nofun) (pa_nil)) ?_
    refine cl_range1 ?_
    refine ⟨_, .rng (small_ok (by decide) (by decide) (by lia) (by lia) (by decide) (by decide)), ?_⟩
    rw [rngItems1]
    refine ⟨IStep a dx c q d t3 p p3 pre lo hi tp tl many es R, ⟨Nat.zero_le _, by simp, _, rfl⟩, ?_, ?_⟩
    · rintro i m' D' e hx ⟨hi2, rfl, y, rfl⟩
      obtain ⟨hj1, rfl⟩ := map_range_get hx
      refine ⟨rngItems1 many ▸ .rng (small_ok (by decide) (by decide) (by lia) (by lia) (by decide) (by decide)), ?_⟩
      refine as_name setl_8 ?_
      refine xs_cons ?_
      refine ex_assignT ?_
      refine ev_sub ?_
      refine ev_name mem_7 nofun ?_
      refine ev_name mem_8 nofun ?_
      refine sb_list mem_0 ?_
      refine gi_list (x := .str (tx (stp tp tl i))) mem_hd (by lia) (by rw [Int.toNat_natCast, List.getElem?_map, List.getElem?_range hj1]; rfl) ?_ (by lia)
      refine as_sub ?_
      refine ev_name mem_1 nofun ?_
      refine ev_tuple ?_
      refine ar_cons ?_
      refine pv (pv_len mem_12 (pv_name mem_3 nofun) (by lia)) ?_
      refine ar_cons ?_
      refine ev_bin ?_
      refine ev_callp mem_15 (ck_at I (by decide)) (pa_cons (pv_name mem_3 nofun) (pa_nil)) ?_
      refine CLC.cl (c_code_of (n := n + 1) I (by lia) ?_)
      refine ev_name mem_8 nofun ?_
      refine bin_add ?_
      refine ar_nil ?_
      refine ⟨by simp, ?_⟩
      refine st_dict (k := [((pre ++ [lo]).length : Int), codeOf (pre ++ [lo]) + (i : Int)]) (.there (.there .here)) ?_ (by simp; lia) ?_
      · intro hmem
        rw [List.map_append, List.mem_append] at hmem
        rcases hmem with hmem | hmem
        · exact hk i hj1 hmem
        · rw [List.map_map] at hmem
          obtain ⟨j, hj, hje⟩ := List.mem_map.mp hmem
          rw [List.mem_range] at hj
          simp [entR] at hje
          lia
      refine xs_nil ?_
      refine ⟨hj1, ?_, _, rfl⟩
      rw [List.range_succ, List.map_append, List.append_assoc]; rfl
    · rintro m' D' ⟨_, rfl, y, rfl⟩
      refine ⟨rngItems1 many ▸ .rng (small_ok (by decide) (by decide) (by lia) (by lia) (by decide) (by decide)), ?_⟩
      simp only [List.length_map, List.length_range]
      refine EXS.pre Part.tail ?_
      refine xs_asge ?_
      refine ev_callp mem_9 (ck_at I (by decide)) (pa_cons (pv_name mem_0 nofun) (pa_nil)) ?_
      refine CLC.cl (nx_word (n := n + 1) (x := 101) I (by lia) hd e3 white1 word_reg.2.2.2 hs rfl wordC_e fun p4 t4 e4 => ?_)
      refine ⟨_, setl_2, ?_⟩
      refine xs_nil ?_
      exact ⟨0, by lia, _, _, _, _, _, _, _, .inr ⟨p4, t4, e4, rfl, rfl, rfl⟩, rfl⟩
  · refine et_not ?_
    refine et_plain (fun _ => rfl) ?_
    refine ev_callp mem_10 (ck_at I (by decide)) (pa_cons (pv_name mem_2 nofun) (pa_cons (pv_byt) (pa_nil))) ?_
    refine CLC.cl (c_part_word (n := n + 1) I (by lia) ?_)
    rw [show (wEndRange == [101, 110, 100, 98, 102, 114, 97, 110, 103, 101]) = true by decide]
    refine tru_bool ?_
    refine ite_nt ?_
    refine xs_nil ?_
    exact h _ e2
end
inductive Row where
  | one (low tg : List UInt8)
  | run (pre : List UInt8) (lo hi : UInt8) (tp : List UInt8) (tl : UInt8) (many : Nat)
def Row.ok : Row → Prop
  | .one low tg => 0 < low.length ∧ low.length ≤ 4 ∧ okT tg ∧ tg.length ≤ 1000
  | .run pre lo hi tp tl many => pre.length < 4 ∧ 2 ≤ many ∧ hi.toNat + 1 = lo.toNat + many ∧ tl.toNat + many ≤ 256 ∧ tp.length ≤ 900 ∧ ∀ s, s < many → okT (stp tp tl s)
noncomputable def Row.ents : Row → List (List Int × V)
  | .one low tg => [ent low tg]
  | .run pre lo _ tp tl many => (List.range many).map (entR pre lo tp tl)
def Row.beg : Row → List UInt8
  | .one .. => wBeginChar
  | .run .. => wBeginRange
def Row.body : Row → List UInt8 → List UInt8
  | .one low tg, s => [32] ++ (60 :: (hexs low ++ 62 :: ([32, 32] ++ (60 :: (hexs tg ++ 62 :: ([32] ++ (wEndChar ++ s)))))))
  | .run pre lo hi tp tl _, s => [32] ++ (60 :: (hexs (pre ++ [lo]) ++ 62 :: ([32] ++ (60 :: (hexs (pre ++ [hi]) ++ 62 :: ([32] ++ (60 :: (hexs (tp ++ [tl]) ++ 62 :: ([32] ++ (wEndRange ++ s)))))))))) 
def aft : List Row → List UInt8
  | [] => []
  | r :: rs => 32 :: (r.beg ++ r.body (aft rs))
def txt : List Row → List UInt8
  | [] => []
  | r :: rs => r.beg ++ r.body (aft rs)
def aftW : List Row → List UInt8
  | [] => []
  | _ :: _ => [32]
theorem aft_eq : ∀ rs : List Row, aft rs = aftW rs ++ txt rs
  | [] => rfl
  | _ :: _ => rfl
theorem aftW_white : ∀ rs : List Row, ∀ c ∈ aftW rs, isW c = true
  | [], _, h => by cases h
  | _ :: _, c, h => white1 c h
theorem aft_After : ∀ rs : List Row, After (aft rs)
  | [] => fun _ _ h => by cases h
  | _ :: _ => .sp
theorem body_After (r : Row) (s : List UInt8) : After (r.body s) := by cases r <;> exact .sp
theorem beg_ok (r : Row) : (∀ c ∈ r.beg, isReg c.toNat = true) ∧ ∃ x, r.beg = 98 :: x := by
  cases r
  · exact ⟨word_reg.1, _, rfl⟩
  · exact ⟨word_reg.2.1, _, rfl⟩
section
variable {B : Base} {n : Nat} {R D : Led} {Q : V → Led → Prop} {a dx c : Addr} {d w s o : List UInt8} {t : Nat}
/-- the token at a row's begin -/
def TokAt (d : List UInt8) (rs : List Row) (tok : V) (t : Nat) : Prop := match rs with
  | [] => ∃ p, tok = tkE p
  | r :: rs => ∃ p, tok = tkW r.beg p ∧ Left d t (r.body (aft rs))
theorem nx_rows {ws : List UInt8} {rs : List Row} (I : Is190 B) (hn : n < 52) (hd : d.length ≤ 16777216) (e : Left d t (ws ++ txt rs)) (hws : ∀ c ∈ ws, isW c = true) (h : ∀ tok t', TokAt d rs tok t' → Q tok ((a, curO d t' dx) :: R)) : CLC B n (.raw (.ref 385)) [.ref a] ((a, curO d t dx) :: R) Q := by
  cases rs with
  | nil => exact nx_end I hn hd (by simpa [txt] using e) hws fun p t' => h _ _ ⟨p, rfl⟩
  | cons r rs =>
    obtain ⟨x, hx⟩ := (beg_ok r).2
    exact nx_word I hn hd e hws (beg_ok r).1 (body_After r _) hx wordC_b fun p t' e' => h _ _ ⟨p, rfl, e'⟩
noncomputable def entsOf (rs : List Row) : List (List Int × V) := rs.flatMap Row.ents
theorem Part.rot3 {x y z : Addr × O} {R : Led} : Part (x :: y :: z :: R) (y :: z :: x :: R) := .of_perm (((List.Perm.swap x z R).cons y).trans (List.Perm.swap x y (z :: R)))
theorem as_c1 {env : Env} {m : Loc} {Q : Loc → Led → Prop} {o : Expr} {pos : Pos} {v : V} (I : Is190 B) (h : EV B n env o m D fun x D₁ => ∃ a dx D₂, x = .ref a ∧ SetD a (.inst 409 dx []) (.inst 409 dx [(Str.ofString "spaces", v)]) D₁ D₂ ∧ Q m D₂) : AS B n env (.Attribute o "spaces" pos) v m D Q :=
  as_attr (h.mono fun x D' ⟨a, dx, D₂, hx, hs, q⟩ => ⟨a, 409, dx, _, D₂, hx, hs, by simp, by rw [I.k]; kernel_rfl, by rw [I.k]; kernel_rfl, by rw [I.k]; kernel_rfl, by rw [I.k]; kernel_rfl, q⟩)
theorem as_c2 {env : Env} {m : Loc} {Q : Loc → Led → Prop} {o : Expr} {pos : Pos} {v : V} (I : Is190 B) (h : EV B n env o m D fun x D₁ => ∃ a dx u D₂, x = .ref a ∧ SetD a (.inst 409 dx [(Str.ofString "spaces", u)]) (.inst 409 dx [(Str.ofString "spaces", u), (Str.ofString "chars", v)]) D₁ D₂ ∧ Q m D₂) : AS B n env (.Attribute o "chars" pos) v m D Q :=
  as_attr (h.mono fun x D' ⟨a, dx, u, D₂, hx, hs, q⟩ => ⟨a, 409, dx, _, D₂, hx, hs, by simp, by rw [I.k]; kernel_rfl, by rw [I.k]; kernel_rfl, by rw [I.k]; kernel_rfl, by rw [I.k]; kernel_rfl, q⟩)
theorem ga_chars {d v : V} (I : Is190 B) (hm : (a, .inst 409 dx [(Str.ofString "spaces", d), (Str.ofString "chars", v)]) ∈ D) (hv : handedV v = true) (h : Q v D) : GA B n (.ref a) "chars" D Q :=
  ga_inst (attr := none) hm (by kernel_rfl) (by rw [I.k]; kernel_rfl) (by rw [I.k]; kernel_rfl) (by rw [I.k]; kernel_rfl) (by rw [I.k]; kernel_rfl) hv h
theorem c_CMap_init {sp : Addr} (I : Is190 B) (hn : n < 59) (h : Q .none ((a, .inst 409 dx [(Str.ofString "spaces", .ref sp), (Str.ofString "chars", .ref c)]) :: R)) : CLC B n (.raw (.ref 399)) [.ref a, .ref sp, .ref c] ((a, .inst 409 dx []) :: R) Q := by
  refine en_CMap_init I (by lia) fun env he => ?_
  show EXS _ _ _ (_ :: _) _ _ _ _
  refine xs_cons ?_
  refine ex_assignT ?_
  refine ev_name mem_1 nofun ?_
  refine as_c1 I ?_
  refine ev_name mem_0 nofun ?_
  refine ⟨_, _, _, rfl, .here, ?_⟩
  refine xs_cons ?_
  refine ex_assignT ?_
  refine ev_name mem_2 nofun ?_
  refine as_c2 I ?_
  refine ev_name mem_0 nofun ?_
  refine ⟨_, _, _, _, rfl, .here, ?_⟩
  refine xs_nil ?_
  exact h
theorem cl_Cursor (I : Is190 B) (hn : n < 57) (hd : d.length ≤ 16777216) (h : ∀ x dx, Q (.ref x) ((x, curO d 0 dx) :: D)) : CL B n (.raw (.ref 199)) [.byt d] D Q :=
  cl_class (fI := 111) (by rw [I.k]; kernel_rfl) (by rw [I.k]; kernel_rfl) (by rw [I.k]; kernel_rfl) (by lia) fun x dx => c_init I (by lia) hd ⟨rfl, h x dx⟩
theorem cl_CMap {sp : Addr} (I : Is190 B) (hn : n < 57) (h : ∀ x dx, Q (.ref x) ((x, .inst 409 dx [(Str.ofString "spaces", .ref sp), (Str.ofString "chars", .ref c)]) :: D)) : CL B n (.raw (.ref 409)) [.ref sp, .ref c] D Q :=
  cl_class (fI := 399) (by rw [I.k]; kernel_rfl) (by rw [I.k]; kernel_rfl) (by rw [I.k]; kernel_rfl) (by lia) fun x dx => c_CMap_init I (by lia) ⟨rfl, h x dx⟩
abbrev mMap (x sp c : Addr) (d : List UInt8) (tok : V) : Loc := [((Str.ofString "data"), .v (.byt d)), ((Str.ofString "cursor"), .v (.ref x)), ((Str.ofString "spaces"), .v (.ref sp)), ((Str.ofString "chars"), .v (.ref c)), ((Str.ofString "token"), .v tok), ((Str.ofString "Cursor"), .g (.raw (.ref 199))), ((Str.ofString "next_token"), .g (.raw (.ref 385))), ((Str.ofString "read_chars"), .g (.raw (.ref 477))), ((Str.ofString "read_ranges"), .g (.raw (.ref 496))), ((Str.ofString "CMap"), .g (.raw (.ref 409)))]
abbrev IMap (x dx sp c : Addr) (d : List UInt8) (rows : List Row) (D : Led) : Nat → Loc → Led → Prop :=
  fun k m D' => ∃ rs done tok t, k = rs.length ∧ done ++ rs = rows ∧ TokAt d rs tok t ∧ D' = (x, curO d t dx) :: (c, .dict (entsOf done)) :: (sp, .list []) :: D ∧ m = mMap x sp c d tok
theorem c_read_cmap {rows : List Row} (I : Is190 B) (hn : n < 48) (hd : d.length ≤ 16777216) (hr : d = txt rows) (hok : ∀ r ∈ rows, r.ok) (hnd : ((entsOf rows).map (·.1)).Nodup) (hz : (entsOf rows).length ≤ 1000)
    (h : ∀ x dx sp c, Q (.ref x) ((x, .inst 409 dx [(Str.ofString "spaces", .ref sp), (Str.ofString "chars", .ref c)]) :: (c, .dict (entsOf rows)) :: D)) : CLC B n (.raw (.ref 503)) [.byt d] D Q := by
  refine CLC.part ?_
  refine en_read_cmap I (by lia) fun env he => ?_
  show EXS _ _ _ (_ :: _) _ _ _ _
  refine xs_asge ?_
  refine ev_callp mem_5 (ck_at I (by decide)) (pa_cons (pv_name mem_0 nofun) (pa_nil)) ?_
  refine cl_Cursor I (by lia) hd fun x dx => ?_
  refine ⟨_, setl_1, ?_⟩
  refine xs_asge ?_
  refine ev_listp (pa_nil) ?_
  refine ⟨by simp, fun sp => ?_⟩
  refine ⟨_, setl_2, ?_⟩
  refine xs_asge ?_
  refine ev_dict0 ?_
  intro c
  refine ⟨_, setl_3, ?_⟩
  refine xs_asge ?_
  refine ev_callp mem_6 (ck_at I (by decide)) (pa_cons (pv_name mem_1 nofun) (pa_nil)) ?_
  refine CL.pre Part.rot3 ?_
  refine CLC.cl (nx_rows (n := n + 1) (rs := rows) (ws := []) I (by lia) hd ⟨by rw [hr]; rfl, Nat.zero_le _⟩ (by simp) fun tok t' ht => ?_)
  refine ⟨_, setl_4, ?_⟩
  refine xs_cons ?_
  refine ex_while (IMap x dx sp c d rows D) rows.length ⟨rows, [], tok, t', rfl, rfl, ht, rfl, rfl⟩ ?_
  rintro k m D' ⟨rs, done, tok, t, rfl, hrs, htk, rfl, rfl⟩
  cases rs with
  | nil =>
    obtain ⟨p, rfl⟩ := htk
    refine pb (pb_cmp (pv_subt (pv_name mem_4 nofun) (pv_int) (by decide) rfl (by decide)) (pv_str) cmp_ne_str) ?_
    refine ite_b (fun q => absurd q (by decide)) (fun _ => ?_)
    refine xs_ret ?_
    refine ev_callp mem_9 (ck_at I (by decide)) (pa_cons (pv_name mem_2 nofun) (pa_cons (pv_name mem_3 nofun) (pa_nil))) ?_
    refine cl_CMap I (by lia) fun x2 dx2 => ?_
    rw [List.append_nil] at hrs
    subst hrs
    exact ⟨_, .sub (.cons_cons _ (.cons _ (.cons_cons _ (.cons _ (.refl _))))), h _ _ _ _⟩
  | cons r rs =>
    have hr1 := hok r (by rw [← hrs]; simp)
    have hE : entsOf rows = entsOf done ++ (r.ents ++ entsOf rs) := by rw [← hrs]; simp [entsOf]
    have hE2 : entsOf (done ++ [r]) = entsOf done ++ r.ents := by simp [entsOf]
    have hk : ∀ p ∈ r.ents, p.1 ∉ (entsOf done).map (·.1) := by
      intro p hp hm
      rw [hE, List.map_append, List.map_append] at hnd
      exact (List.nodup_append.mp hnd).2.2 _ hm _ (List.mem_append_left _ (List.mem_map_of_mem hp)) rfl
    have hz2 : (entsOf done).length ≤ 1000 := by rw [hE, List.length_append] at hz; lia
    have hrs2 : (done ++ [r]) ++ rs = rows := by rw [← hrs]; simp
    cases r with
    | one low tg =>
      obtain ⟨p, rfl, e⟩ : ∃ p, tok = tkW wBeginChar p ∧ Left d t ((Row.one low tg).body (aft rs)) := htk
      obtain ⟨o1, o2, o3, o4⟩ := hr1
      refine pb (pb_cmp (pv_subt (pv_name mem_4 nofun) (pv_int) (by decide) rfl (by decide)) (pv_str) cmp_ne_str) ?_
      refine ite_b (fun _ => ?_) (fun q => absurd q (by decide))
      refine xs_if ?_
      refine et_bool ?_
      refine at_andp (pb_cmp (pv_subt (pv_name mem_4 nofun) (pv_int) (by decide) rfl (by decide)) (pv_str) cmp_eq_str) ?_
      refine ite_b (fun _ => ?_) (fun q => absurd q (by decide))
      refine at_andp (pb_cmp (pv_subt (pv_name mem_4 nofun) (pv_int) (by decide) rfl (by decide)) (pv_byt) cmp_eq_byt) ?_
      refine ite_b (fun q => absurd q (by decide)) (fun _ => ?_)
      refine ite_f ?_
      refine xs_if ?_
      refine et_bool ?_
      refine at_andp (pb_cmp (pv_subt (pv_name mem_4 nofun) (pv_int) (by decide) rfl (by decide)) (pv_str) cmp_eq_str) ?_
      refine ite_b (fun _ => ?_) (fun q => absurd q (by decide))
      refine at_andp (pb_cmp (pv_subt (pv_name mem_4 nofun) (pv_int) (by decide) rfl (by decide)) (pv_byt) cmp_eq_byt) ?_
      refine ite_b (fun _ => ?_) (fun q => absurd q (by decide))
      refine at_nil_and ?_
      refine ite_t ?_
      refine xs_expr ?_
      refine ev_callp mem_7 (ck_at I (by decide)) (pa_cons (pv_name mem_1 nofun) (pa_cons (pv_name mem_3 nofun) (pa_nil))) ?_
      refine CLC.cl (c_read_chars (n := n + 1) I (by lia) hd o1 o2 o3 o4 e (aft_After rs) (hk _ (.head _)) hz2 fun t2 e2 => ⟨rfl, ?_⟩)
      refine xs_nil ?_
      refine xs_nil ?_
      refine xs_asge ?_
      refine ev_callp mem_6 (ck_at I (by decide)) (pa_cons (pv_name mem_1 nofun) (pa_nil)) ?_
      rw [aft_eq] at e2
      refine CLC.cl (nx_rows (n := n + 1) I (by lia) hd e2 (aftW_white rs) fun tok2 t3 ht3 => ?_)
      refine ⟨_, setl_4, ?_⟩
      refine xs_nil ?_
      exact ⟨rs.length, by simp, rs, done ++ [.one low tg], tok2, t3, rfl, hrs2, ht3, by rw [hE2]; rfl, rfl⟩
    | run pre lo hi tp tl many =>
      obtain ⟨p, rfl, e⟩ : ∃ p, tok = tkW wBeginRange p ∧ Left d t ((Row.run pre lo hi tp tl many).body (aft rs)) := htk
      obtain ⟨o1, o2, o3, o4, o5, o6⟩ := hr1
      refine pb (pb_cmp (pv_subt (pv_name mem_4 nofun) (pv_int) (by decide) rfl (by decide)) (pv_str) cmp_ne_str) ?_
      refine ite_b (fun _ => ?_) (fun q => absurd q (by decide))
      refine xs_if ?_
      refine et_bool ?_
      refine at_andp (pb_cmp (pv_subt (pv_name mem_4 nofun) (pv_int) (by decide) rfl (by decide)) (pv_str) cmp_eq_str) ?_
      refine ite_b (fun _ => ?_) (fun q => absurd q (by decide))
      refine at_andp (pb_cmp (pv_subt (pv_name mem_4 nofun) (pv_int) (by decide) rfl (by decide)) (pv_byt) cmp_eq_byt) ?_
      refine ite_b (fun q => absurd q (by decide)) (fun _ => ?_)
      refine ite_f ?_
      refine xs_if ?_
      refine et_bool ?_
      refine at_andp (pb_cmp (pv_subt (pv_name mem_4 nofun) (pv_int) (by decide) rfl (by decide)) (pv_str) cmp_eq_str) ?_
      refine ite_b (fun _ => ?_) (fun q => absurd q (by decide))
      refine at_andp (pb_cmp (pv_subt (pv_name mem_4 nofun) (pv_int) (by decide) rfl (by decide)) (pv_byt) cmp_eq_byt) ?_
      refine ite_b (fun q => absurd q (by decide)) (fun _ => ?_)
      refine ite_f ?_
      refine xs_if ?_
      refine et_bool ?_
      refine at_andp (pb_cmp (pv_subt (pv_name mem_4 nofun) (pv_int) (by decide) rfl (by decide)) (pv_str) cmp_eq_str) ?_
      refine ite_b (fun _ => ?_) (fun q => absurd q (by decide))
      refine at_andp (pb_cmp (pv_subt (pv_name mem_4 nofun) (pv_int) (by decide) rfl (by decide)) (pv_byt) cmp_eq_byt) ?_
      refine ite_b (fun _ => ?_) (fun q => absurd q (by decide))
      refine at_nil_and ?_
      refine ite_t ?_
      refine xs_expr ?_
      refine ev_callp mem_8 (ck_at I (by decide)) (pa_cons (pv_name mem_1 nofun) (pa_cons (pv_name mem_3 nofun) (pa_nil))) ?_
      refine CLC.cl (c_read_ranges (n := n + 1) I (by lia) hd o1 o2 o3 o4 o5 o6 e (aft_After rs) (fun s hs => hk (entR pre lo tp tl s) (List.mem_map.mpr ⟨s, List.mem_range.mpr hs, rfl⟩)) hz2 fun t2 e2 => ⟨rfl, ?_⟩)
      refine xs_nil ?_
      refine xs_nil ?_
      refine xs_nil ?_
      refine xs_asge ?_
      refine ev_callp mem_6 (ck_at I (by decide)) (pa_cons (pv_name mem_1 nofun) (pa_nil)) ?_
      rw [aft_eq] at e2
      refine CLC.cl (nx_rows (n := n + 1) I (by lia) hd e2 (aftW_white rs) fun tok2 t3 ht3 => ?_)
      refine ⟨_, setl_4, ?_⟩
      refine xs_nil ?_
      exact ⟨rs.length, by simp, rs, done ++ [.run pre lo hi tp tl many], tok2, t3, rfl, hrs2, ht3, by rw [hE2]; rfl, rfl⟩
end
section
variable {B : Base} {n : Nat} {env : Env} {m : Loc} {D : Led}
theorem ET.mono {e : Expr} {Q Q' : Bool → Led → Prop} (h : ET B n env e m D Q) (k : ∀ x D', Q x D' → Q' x D') : ET B n env e m D Q' := fun s hs => (h s hs).mono fun b D' _ r _ _ => k b D' r
theorem ite_ev {c : Bool} {e1 e2 : Expr} {F Q : V → Led → Prop} (h1 : c = true → EV B n env e1 m D F) (h2 : c = false → EV B n env e2 m D F) (k : ∀ v D', F v D' → Q v D') : if c = true then EV B n env e1 m D Q else EV B n env e2 m D Q := by
  cases c
  · exact (h2 rfl).mono k
  · exact (h1 rfl).mono k
end
section
variable {B : Base} {n : Nat} {R D : Led} {Q : V → Led → Prop} {p c : Addr} {cells : List Int} {pl many : Nat} {b : Int}
theorem c_draw (I : Is190 B) (hn : n < 59) (hm : 0 < many) (hm2 : many ≤ 1000) (mc : (c, O.list (cells.map V.int)) ∈ R) (hz : cells.length ≤ 1000) (hp : pl ≤ 10000)
    (h : ∀ (dg pl' : Nat) (b' : Int), dg < many → pl' ≤ pl + 1 → Q (.int dg) ((p, .list [.ref c, .int pl', .int b']) :: R)) : CLC B n (.raw (.ref 531)) [.ref p, .int many] ((p, .list [.ref c, .int pl, .int b]) :: R) Q := by
  refine en_law_draw I (by lia) fun env he => ?_
  show EXS _ _ _ (_ :: _) _ _ _ _
  refine xs_if ?_
  refine et_cmp ?_
  refine ev_sub ?_
  refine ev_name mem_0 nofun ?_
  refine ev_int ?_
  refine sb_list mem_0 ?_
  refine gi_list (x := .int b) mem_hd (by decide) rfl ?_ (by decide)
  refine ev_int ?_
  refine cmp_gt ?_
  refine tru_bool ?_
  refine ite_dec (fun q => ?_) (fun q => ?_)
  · refine xs_asge ?_
    refine ev_bin ?_
    refine ev_sub ?_
    refine ev_name mem_0 nofun ?_
    refine ev_int ?_
    refine sb_list mem_0 ?_
    refine gi_list (x := .int b) mem_hd (by decide) rfl ?_ (by decide)
    refine ev_name mem_1 nofun ?_
    refine bin_mod (by lia) ?_
    refine ⟨_, setl_2, ?_⟩
    refine xs_cons ?_
    refine ex_assignT ?_
    refine ev_bin ?_
    refine ev_sub ?_
    refine ev_name mem_0 nofun ?_
    refine ev_int ?_
    refine sb_list mem_0 ?_
    refine gi_list (x := .int b) mem_hd (by decide) rfl ?_ (by decide)
    refine ev_name mem_1 nofun ?_
    refine bin_div (by lia) (by lia) ?_
    refine as_sub ?_
    refine ev_name mem_0 nofun ?_
    refine ev_int ?_
    refine st_list (i := 2) .here (by decide) (by simp) ?_ (by decide)
    refine xs_retp (pv_name mem_2 nofun) ?_
    have := h (b % many).toNat pl (b / many) (by have := Int.emod_lt_of_pos b (show (0 : Int) < many by lia); have := Int.emod_nonneg b (show (many : Int) ≠ 0 by lia); lia) (by lia)
    rw [Int.toNat_of_nonneg (Int.emod_nonneg b (show (many : Int) ≠ 0 by lia))] at this
    exact this
  · refine xs_nil ?_
    refine xs_asge ?_
    refine ev_sub ?_
    refine ev_name mem_0 nofun ?_
    refine ev_int ?_
    refine sb_list mem_0 ?_
    refine gi_list (x := .int pl) mem_hd (by decide) rfl ?_ (by decide)
    refine ⟨_, setl_3, ?_⟩
    refine xs_cons ?_
    refine ex_assignT ?_
    refine pv (pv_bin (pv_name mem_3 nofun) (pv_int) bin_add) ?_
    refine as_sub ?_
    refine ev_name mem_0 nofun ?_
    refine ev_int ?_
    refine st_list (i := 1) .here (by decide) (by simp) ?_ (by decide)
    refine xs_asge ?_
    refine ev_if ?_
    refine et_plain (fun _ => rfl) ?_
    refine ev_sub ?_
    refine ev_name mem_0 nofun ?_
    refine ev_int ?_
    refine sb_list mem_0 ?_
    refine gi_list (x := .ref c) mem_hd (by decide) rfl ?_ (by decide)
    have mc2 : ∀ x : O, (c, O.list (cells.map V.int)) ∈ (p, x) :: R := fun x => .tail _ mc
    have hpos : (0 : Int) < many := by lia
    refine tru_list (mc2 _) (by rw [List.length_map]; lia) ?_
    refine ite_ev (F := fun v D' => (∃ x : Int, v = .int x) ∧ D' = (p, O.list [.ref c, .int (pl + 1 : Nat), .int b]) :: R) (fun hc => ?_) (fun hc => ?_) ?_
    · have hne : 0 < cells.length := by
        rw [decide_eq_true_eq] at hc
        exact List.length_pos_iff.mpr fun q => hc (by rw [q]; rfl)
      refine ev_sub ?_
      refine ev_sub ?_
      refine ev_name mem_0 nofun ?_
      refine ev_int ?_
      refine sb_list mem_0 ?_
      refine gi_list (x := .ref c) mem_hd (by decide) rfl ?_ (by decide)
      refine ev_bin ?_
      refine ev_name mem_3 nofun ?_
      refine ev_calle mem_7 (ck_builtin _) ?_
      refine ar_cons ?_
      refine ev_sub ?_
      refine ev_name mem_0 nofun ?_
      refine ev_int ?_
      refine sb_list mem_0 ?_
      refine gi_list (x := .ref c) mem_hd (by decide) rfl ?_ (by decide)
      refine ar_nil ?_
      refine cl_len_list (mc2 _) (by rw [List.length_map]; lia) ?_
      rw [List.length_map]
      refine bin_mod (by lia) ?_
      refine sb_list (tl_1 mc) ?_
      have h1 : (pl : Int) % (cells.length : Int) = ((pl % cells.length : Nat) : Int) := by lia
      rw [h1]
      have h2 : pl % cells.length < cells.length := Nat.mod_lt _ hne
      refine gi_list (x := .int cells[pl % cells.length]) (mc2 _) (by lia) (by rw [Int.toNat_natCast, List.getElem?_map, List.getElem?_eq_getElem h2]; rfl) ?_ (by lia)
      exact ⟨⟨_, rfl⟩, rfl⟩
    · refine ev_int ?_
      exact ⟨⟨_, rfl⟩, rfl⟩
    rintro v D' ⟨⟨x, rfl⟩, rfl⟩
    refine ⟨_, .there (.there (.there (.there .here))), ?_⟩
    refine xs_cons (ex_if (ET.mono (Q := fun _ D' => D' = (p, O.list [.ref c, .int (pl + 1 : Nat), .int b]) :: R) ?_ ?_))
    · refine et_bool ?_
      refine at_and ?_
      refine et_cmp ?_
      refine ev_name mem_3 nofun ?_
      refine ev_calle mem_7 (ck_builtin _) ?_
      refine ar_cons ?_
      refine ev_sub ?_
      refine ev_name mem_0 nofun ?_
      refine ev_int ?_
      refine sb_list mem_0 ?_
      refine gi_list (x := .ref c) mem_hd (by decide) rfl ?_ (by decide)
      refine ar_nil ?_
      refine cl_len_list (mc2 _) (by rw [List.length_map]; lia) ?_
      rw [List.length_map]
      refine cmp_lt ?_
      refine tru_bool ?_
      refine ite_dec (fun q2 => ?_) (fun q2 => rfl)
      refine at_and ?_
      refine et_cmp ?_
      refine ev_callp mem_8 (ck_builtin _) (pa_cons (pv_name mem_4 nofun) (pa_nil)) ?_
      refine cl_abs ?_
      refine ev_bin ?_
      refine ev_int ?_
      refine ev_int ?_
      refine bin_pow (by decide) (by decide) (by decide) ?_
      refine cmp_ge ?_
      refine tru_bool ?_
      exact ite_dec (fun _ => at_nil_and rfl) (fun _ => rfl)
    rintro b2 D' rfl
    have bound : ∀ y : Int, ∃ dg : Nat, dg < many ∧ y % (many : Int) = dg := fun y => ⟨(y % many).toNat, by have := Int.emod_lt_of_pos y hpos; have := Int.emod_nonneg y (show (many : Int) ≠ 0 by lia); lia, by have := Int.emod_nonneg y (show (many : Int) ≠ 0 by lia); lia⟩
    cases b2
    · refine ite_f ?_
      refine xs_nil ?_
      refine xs_asge ?_
      refine ev_bin ?_
      refine ev_bin ?_
      refine ev_bin ?_
      refine ev_bin ?_
      refine ev_bin ?_
      refine ev_name mem_4 nofun ?_
      refine ev_int ?_
      refine bin_mod (by decide) ?_
      obtain ⟨y, hy⟩ : ∃ y, x % 2147483629 = y := ⟨_, rfl⟩
      have y1 := Int.emod_nonneg x (show (2147483629 : Int) ≠ 0 by decide)
      have y2 := Int.emod_lt_of_pos x (show (0 : Int) < 2147483629 by decide)
      rw [hy] at y1 y2 ⊢
      refine ev_bin ?_
      refine ev_int ?_
      refine ev_name mem_3 nofun ?_
      refine bin_mul (.of_left (by decide)) ?_
      refine bin_add ?_
      refine ev_int ?_
      refine bin_add ?_
      refine ev_int ?_
      refine bin_pow (by decide) (by decide) (by lia) ?_
      refine ev_int ?_
      refine bin_mod (by decide) ?_
      generalize (y + 40503 * (pl : Int) + 977) ^ (3 : Int).toNat = z
      obtain ⟨u, hu⟩ : ∃ u, z % 2147483587 = u := ⟨_, rfl⟩
      have u1 := Int.emod_nonneg z (show (2147483587 : Int) ≠ 0 by decide)
      have u2 := Int.emod_lt_of_pos z (show (0 : Int) < 2147483587 by decide)
      rw [hu] at u1 u2 ⊢
      refine ⟨_, setl_6, ?_⟩
      refine xs_asge ?_
      refine ev_bin ?_
      refine ev_bin ?_
      refine ev_bin ?_
      refine ev_bin ?_
      refine ev_bin ?_
      refine ev_name mem_6 nofun ?_
      refine ev_bin ?_
      refine ev_bin ?_
      refine ev_int ?_
      refine ev_name mem_3 nofun ?_
      refine bin_mul (.of_left (by decide)) ?_
      refine ev_int ?_
      refine bin_add ?_
      refine bin_mul (.of_left (intBits_le_64 (by lia) (by lia))) ?_
      refine ev_bin ?_
      refine ev_name mem_3 nofun ?_
      refine ev_name mem_3 nofun ?_
      refine bin_mul (.of_left (intBits_le_64 (by lia) (by lia))) ?_
      refine bin_add ?_
      refine ev_int ?_
      refine bin_add ?_
      refine ev_int ?_
      have hp2 : (0 : Int) ≤ pl := by lia
      have hp3 : (pl : Int) ≤ 10000 := by lia
      have m1 : 0 ≤ u * (2 * (pl : Int) + 5003) := Int.mul_nonneg u1 (by lia)
      have m2 : u * (2 * (pl : Int) + 5003) ≤ 2147483587 * 25003 := Int.mul_le_mul (by lia) (by lia) (by lia) (by decide)
      have m3 : 0 ≤ (pl : Int) * pl := Int.mul_nonneg hp2 hp2
      have m4 : (pl : Int) * pl ≤ 10000 * 10000 := Int.mul_le_mul hp3 hp3 hp2 (by decide)
      refine bin_pow (by decide) (by decide) (by lia) ?_
      refine ev_int ?_
      refine bin_mod (by decide) ?_
      refine ⟨_, setl_6, ?_⟩
      refine xs_ret ?_
      refine ev_bin ?_
      refine ev_bin ?_
      refine ev_name mem_6 nofun ?_
      refine ev_int ?_
      refine bin_div (by decide) (by decide) ?_
      refine ev_name mem_1 nofun ?_
      refine bin_mod (by lia) ?_
      obtain ⟨dg, h1, h2⟩ := bound ((u * (2 * (pl : Int) + 5003) + (pl : Int) * pl + 11) ^ (3 : Int).toNat % 2147483579 / 64)
      rw [h2]
      exact h dg (pl + 1) _ h1 (by lia)
    · refine ite_t ?_
      refine xs_asge ?_
      refine ev_bin ?_
      refine ev_callp mem_8 (ck_builtin _) (pa_cons (pv_name mem_4 nofun) (pa_nil)) ?_
      refine cl_abs ?_
      refine ev_bin ?_
      refine ev_int ?_
      refine ev_int ?_
      refine bin_pow (by decide) (by decide) (by decide) ?_
      refine bin_sub ?_
      refine ⟨_, setl_5, ?_⟩
      refine xs_cons ?_
      refine ex_assignT ?_
      refine ev_bin ?_
      refine ev_name mem_5 nofun ?_
      refine ev_name mem_1 nofun ?_
      refine bin_div (by lia) (by lia) ?_
      refine as_sub ?_
      refine ev_name mem_0 nofun ?_
      refine ev_int ?_
      refine st_list (i := 2) .here (by decide) (by simp) ?_ (by decide)
      refine xs_ret ?_
      refine ev_bin ?_
      refine ev_name mem_5 nofun ?_
      refine ev_name mem_1 nofun ?_
      refine bin_mod (by lia) ?_
      obtain ⟨dg, h1, h2⟩ := bound ((if x < 0 then -x else x) - 10 ^ (18 : Int).toNat)
      rw [h2]
      exact h dg (pl + 1) _ h1 (by lia)
end
theorem eqs_ints {D : Led} {k : Nat} : ∀ l l' : List Int, EQs D k (l.map V.int) (l'.map V.int) (decide (l = l'))
  | [], [] => .nil
  | [], y :: ys => by rw [decide_eq_false (by simp)]; exact .short
  | x :: xs, [] => by rw [decide_eq_false (by simp)]; exact .long
  | x :: xs, y :: ys => by
    have : decide (x :: xs = y :: ys) = (decide (x = y) && decide (xs = ys)) := by
      rw [Bool.eq_iff_iff]; simp
    rw [this]
    exact .cons (.int k x y) (eqs_ints xs ys)
def bi (w : List UInt8) : List Int := w.map fun c => (c.toNat : Int)
def dueOf (w : List UInt8) (s : Nat) : List Int := bi w.dropLast ++ [((w.getLastD 0).toNat : Int) + s]
/-- one row of a range -/
def InR (ks : List (Nat × Nat)) (ts : List (List UInt8)) (i e : Nat) : Prop :=
  (ks.getD e (0, 0)).1 = (ks.getD i (0, 0)).1 ∧ (ks.getD e (0, 0)).2 = (ks.getD i (0, 0)).2 + (e - i) ∧ (ks.getD e (0, 0)).2 / 256 = (ks.getD i (0, 0)).2 / 256 ∧ bi (ts.getD e []) = dueOf (ts.getD i []) (e - i)
def RG (ks : List (Nat × Nat)) (ts : List (List UInt8)) (i j : Nat) : Prop :=
  j - i < 2 ∨ (ts.getD i [] ≠ [] ∧ ∀ e, i < e → e < j → InR ks ts i e)
section
variable {B : Base} {n : Nat} {R D : Led} {Q : V → Led → Prop} {p c : Addr}
abbrev mIsR (kr tr : Addr) (i j : Nat) (x y z : V) : Loc := [((Str.ofString "keys"), .v (.ref kr)), ((Str.ofString "targets"), .v (.ref tr)), ((Str.ofString "first"), .v (.int i)), ((Str.ofString "end"), .v (.int j)), ((Str.ofString "at"), .v x), ((Str.ofString "step"), .v y), ((Str.ofString "due"), .v z), ((Str.ofString "range"), .g (.raw (.type "range"))), ((Str.ofString "list"), .g (.raw (.type "list")))]
abbrev IIsR (ks : List (Nat × Nat)) (ts : List (List UInt8)) (kr tr : Addr) (i j : Nat) (D : Led) : Nat → Loc → Led → Prop :=
  fun k m' D' => Part D D' ∧ (∀ e, i < e → e < i + 1 + k → InR ks ts i e) ∧ ∃ x y z, m' = mIsR kr tr i j x y z
open Classical in
theorem c_is_range (I : Is190 B) (hn : n < 59) {kr tr : Addr} {ks : List (Nat × Nat)} {ts : List (List UInt8)} (mk : (kr, O.list (ks.map keyV)) ∈ D) (mt : (tr, O.list (ts.map V.byt)) ∈ D) (hl : ts.length = ks.length) (hz : ks.length ≤ 1000) (hts : ∀ w ∈ ts, w.length ≤ 1000) {i j : Nat} (hij : i < j) (hj : j ≤ ks.length)
    (h : Q (.bool (decide (RG ks ts i j))) D) : CLC B n (.raw (.ref 545)) [.ref kr, .ref tr, .int i, .int j] D Q := by
  refine CLC.part ?_
  refine en_law_is_range I (by lia) fun env he => ?_
  show EXS _ _ _ (_ :: _) _ _ _ _
  have gk : ∀ e : Nat, e < ks.length → ((ks.map keyV)[((e : Int)).toNat]? = some (keyV (ks.getD e (0, 0)))) := fun e he => by
    rw [Int.toNat_natCast, List.getElem?_map, getD_get (z := (0, 0)) he]; rfl
  have gt' : ∀ e : Nat, e < ks.length → ((ts.map V.byt)[((e : Int)).toNat]? = some (.byt (ts.getD e []))) := fun e he => by
    rw [Int.toNat_natCast, List.getElem?_map, getD_get (z := []) (by lia)]; rfl
  have tl : ∀ e : Nat, e < ks.length → (ts.getD e []).length ≤ 1000 := fun e he => hts _ (List.mem_of_getElem? (getD_get (l := ts) (z := []) (by lia)))
  have fin : ∀ b : Bool, (b = true ↔ RG ks ts i j) → ∀ E, Part D E → ∃ E', Part E' E ∧ Q (.bool b) E' := fun b hb E pE => ⟨D, pE, bcase h (by cases b <;> simp_all)⟩
  refine xs_ifp (pb_cmp (pv_bin (pv_name mem_3 nofun) (pv_name mem_2 nofun) bin_sub) (pv_int) cmp_lt) ?_
  refine ite_dec (fun q1 => ?_) (fun q1 => ?_)
  · refine xs_retp (pv_bool) ?_
    exact fin true ⟨fun _ => .inl (by lia), fun _ => rfl⟩ _ (.refl _)
  refine xs_nil ?_
  refine xs_if ?_
  refine et_cmp ?_
  refine ev_sub ?_
  refine ev_name mem_1 nofun ?_
  refine ev_name mem_2 nofun ?_
  refine sb_list mt ?_
  refine gi_list mt (by lia) (gt' i (by lia)) ?_ (by lia)
  refine ev_byt ?_
  refine cmp_eq_byt ?_
  refine tru_bool ?_
  refine ite_b (fun q2 => ?_) (fun q2 => ?_)
  · refine xs_retp (pv_bool) ?_
    refine fin false ⟨fun q => (nomatch q), fun q => ?_⟩ _ (.refl _)
    rcases q with q | ⟨q, -⟩
    · lia
    · exact absurd (eq_of_beq q2) q
  have hne : ts.getD i [] ≠ [] := fun q => by rw [q] at q2; cases q2
  refine xs_nil ?_
  refine xs_cons ?_
  refine ex_for ?_
  refine ev_callp mem_7 (ck_type _) (pa_cons (pv_bin (pv_name mem_2 nofun) (pv_int) bin_add) (pa_cons (pv_name mem_3 nofun) (pa_nil))) ?_
  refine cl_range2 ?_
  have hsm : Builtin.Range.small ((i : Int) + 1) (j : Int) 1 = true := small_ok (by lia) (by lia) (by lia) (by lia) (by decide) (by decide)
  refine ⟨_, .rng hsm, IIsR ks ts kr tr i j D, ⟨.refl _, fun e h1 h2 => by lia, _, _, _, rfl⟩, ?_, ?_⟩
  · rintro k m' D' e hx ⟨hp, hI, x, y, z, rfl⟩
    obtain ⟨rfl, hk⟩ := rngItems_get hx
    rw [rs1 _ _ (by lia)] at hk
    obtain ⟨e, hee⟩ : ∃ e : Nat, e = i + 1 + k := ⟨_, rfl⟩
    rw [show ((i : Int) + 1 + (k : Int) * 1) = (e : Int) by lia]
    refine ⟨.rng hsm, as_name (.there (.there (.there (.there .here)))) ?_⟩
    refine EXS.pre hp ?_
    refine xs_asg (pv_bin (pv_name mem_4 nofun) (pv_name mem_2 nofun) bin_sub) setl_5 ?_
    refine xs_if ?_
    refine et_bool ?_
    refine at_or ?_
    refine et_cmp ?_
    refine ev_sub ?_
    refine ev_sub ?_
    refine ev_name mem_0 nofun ?_
    refine ev_name mem_4 nofun ?_
    refine sb_list mk ?_
    have no : ¬ InR ks ts i e → (false = true ↔ RG ks ts i j) := fun q => ⟨fun q => (nomatch q), fun q' => by
      rcases q' with q' | ⟨-, q'⟩
      · lia
      · exact absurd (q' e (by lia) (by lia)) q⟩
    refine gi_list mk (by lia) (gk e (by lia)) ?_ (by lia)
    refine ev_int ?_
    refine sb_tup ?_
    refine gi_tup (by decide) rfl ?_ (by decide)
    refine ev_sub ?_
    refine ev_sub ?_
    refine ev_name mem_0 nofun ?_
    refine ev_name mem_2 nofun ?_
    refine sb_list mk ?_
    refine gi_list mk (by lia) (gk i (by lia)) ?_ (by lia)
    refine ev_int ?_
    refine sb_tup ?_
    refine gi_tup (by decide) rfl ?_ (by decide)
    refine cmp_ne ?_
    refine tru_bool ?_
    refine ite_dec (fun q3 => ?_) (fun q3 => ?_)
    · refine ite_t ?_
      refine xs_retp (pv_bool) ?_
      exact fin false (no fun ⟨r1, _⟩ => by lia) _ (.refl _)
    refine at_or ?_
    refine et_cmp ?_
    refine ev_bin ?_
    refine ev_sub ?_
    refine ev_sub ?_
    refine ev_name mem_0 nofun ?_
    refine ev_name mem_4 nofun ?_
    refine sb_list mk ?_
    refine gi_list mk (by lia) (gk e (by lia)) ?_ (by lia)
    refine ev_int ?_
    refine sb_tup ?_
    refine gi_tup (by decide) rfl ?_ (by decide)
    refine ev_sub ?_
    refine ev_sub ?_
    refine ev_name mem_0 nofun ?_
    refine ev_name mem_2 nofun ?_
    refine sb_list mk ?_
    refine gi_list mk (by lia) (gk i (by lia)) ?_ (by lia)
    refine ev_int ?_
    refine sb_tup ?_
    refine gi_tup (by decide) rfl ?_ (by decide)
    refine bin_sub ?_
    refine ev_name mem_5 nofun ?_
    refine cmp_ne ?_
    refine tru_bool ?_
    refine ite_dec (fun q4 => ?_) (fun q4 => ?_)
    · refine ite_t ?_
      refine xs_retp (pv_bool) ?_
      exact fin false (no fun ⟨_, r1, _⟩ => by lia) _ (.refl _)
    refine at_or ?_
    refine et_cmp ?_
    refine ev_bin ?_
    refine ev_sub ?_
    refine ev_sub ?_
    refine ev_name mem_0 nofun ?_
    refine ev_name mem_4 nofun ?_
    refine sb_list mk ?_
    refine gi_list mk (by lia) (gk e (by lia)) ?_ (by lia)
    refine ev_int ?_
    refine sb_tup ?_
    refine gi_tup (by decide) rfl ?_ (by decide)
    refine ev_int ?_
    refine bin_div (by decide) (by decide) ?_
    refine ev_bin ?_
    refine ev_sub ?_
    refine ev_sub ?_
    refine ev_name mem_0 nofun ?_
    refine ev_name mem_2 nofun ?_
    refine sb_list mk ?_
    refine gi_list mk (by lia) (gk i (by lia)) ?_ (by lia)
    refine ev_int ?_
    refine sb_tup ?_
    refine gi_tup (by decide) rfl ?_ (by decide)
    refine ev_int ?_
    refine bin_div (by decide) (by decide) ?_
    refine cmp_ne ?_
    refine tru_bool ?_
    refine ite_dec (fun q5 => ?_) (fun q5 => ?_)
    · refine ite_t ?_
      refine xs_retp (pv_bool) ?_
      exact fin false (no fun ⟨_, _, r1, _⟩ => by lia) _ (.refl _)
    have te := tl e (by lia)
    have ti := tl i (by lia)
    have tip : 0 < (ts.getD i []).length := List.length_pos_iff.mpr hne
    refine at_nil_or ?_
    refine ite_f ?_
    refine xs_nil ?_
    refine xs_asge ?_
    refine ev_bin ?_
    refine ev_calle mem_8 (ck_type _) ?_
    refine ar_cons ?_
    refine ev_sub ?_
    refine ev_sub ?_
    refine ev_name mem_1 nofun ?_
    refine ev_name mem_2 nofun ?_
    refine sb_list mt ?_
    refine gi_list mt (by lia) (gt' i (by lia)) ?_ (by lia)
    refine ev_slice ?_
    refine pt_none ?_
    refine pt_some ?_
    refine pv (pv_una (pv_int) una_neg) ?_
    refine ⟨_, rfl, ?_⟩
    refine sb_byt ?_
    refine gi_cut_byt (by lia) ?_
    rw [cut_last]
    refine ar_nil ?_
    refine cl_list_byt (by rw [List.length_dropLast]; lia) fun a1 => ?_
    refine ev_list ?_
    refine ar_cons ?_
    refine ev_bin ?_
    refine ev_sub ?_
    refine ev_sub ?_
    refine ev_name mem_1 nofun ?_
    refine ev_name mem_2 nofun ?_
    refine sb_list (tl_1 mt) ?_
    refine gi_list (mem_tl mt) (by lia) (gt' i (by lia)) ?_ (by lia)
    refine pv (pv_una (pv_int) una_neg) ?_
    refine sb_byt ?_
    refine gi_byt_neg (by lia) (by lia) (by lia) ?_
    rw [show ((-1 : Int) + (ts.getD i []).length).toNat = (ts.getD i []).length - 1 by lia, last_getD _ hne]
    refine ev_name mem_5 nofun ?_
    refine bin_add ?_
    refine ar_nil ?_
    refine ⟨by simp, fun a2 => ?_⟩
    skip
    refine bin_add_list (mem_tl mem_hd) mem_hd (by rw [List.length_map, List.length_dropLast]; show _ + 1 ≤ _; lia) fun a3 => ?_
    refine ⟨_, setl_6, ?_⟩
    refine xs_if ?_
    refine et_cmp ?_
    refine ev_calle mem_8 (ck_type _) ?_
    refine ar_cons ?_
    refine ev_sub ?_
    refine ev_name mem_1 nofun ?_
    refine ev_name mem_4 nofun ?_
    refine sb_list (tl_3 mt) ?_
    refine gi_list (mem_tl (mem_tl (mem_tl mt))) (by lia) (gt' e (by lia)) ?_ (by lia)
    refine ar_nil ?_
    refine cl_list_byt (by lia) fun a4 => ?_
    refine ev_name mem_6 nofun ?_
    have hdue : ((ts.getD i []).dropLast.map fun c => V.int c.toNat) ++ [V.int (((ts.getD i []).getLastD 0).toNat + ((e : Int) - (i : Int)))] = (dueOf (ts.getD i []) (e - i)).map V.int := by
      unfold dueOf bi
      rw [List.map_append, List.map_map, show ((e : Int) - (i : Int)) = ((e - i : Nat) : Int) by lia]
      rfl
    have hbi : ((ts.getD e []).map fun c => V.int c.toNat) = (bi (ts.getD e [])).map V.int := by
      unfold bi; rw [List.map_map]; rfl
    rw [hdue, hbi]
    refine cmp_ne_list (.lst (k := 1) mem_hd (mem_tl mem_hd) (eqs_ints _ _)) (by decide) ?_
    refine tru_bool ?_
    refine ite_nec (fun q6 => ?_) (fun q6 => ?_)
    · refine xs_retp (pv_bool) ?_
      exact fin false (no fun ⟨_, _, _, r1⟩ => q6 r1) _ (.sub (.cons _ (.cons _ (.cons _ (.cons _ (.refl _))))))
    refine xs_nil ?_
    refine xs_nil ?_
    refine ⟨.sub (.cons _ (.cons _ (.cons _ (.cons _ (.refl _))))), fun e' h1 h2 => ?_, _, _, _, rfl⟩
    rcases Nat.lt_or_ge e' e with h3 | h3
    · exact hI e' h1 (by lia)
    · have : e' = e := by lia
      subst this
      exact ⟨by lia, by lia, by lia, q6⟩
  · rintro m' D' ⟨hp, hI, x, y, z, rfl⟩
    refine ⟨.rng hsm, ?_⟩
    have hlen : (rngItems ((i : Int) + 1) (j : Int) 1).length = j - (i + 1) := by
      unfold rngItems; rw [List.length_map, List.length_range, rs1 _ _ (by lia)]; lia
    rw [hlen] at hI
    refine xs_retp (pv_bool) ?_
    exact fin true ⟨fun _ => .inr ⟨hne, fun e h1 h2 => hI e h1 (by lia)⟩, fun _ => rfl⟩ _ hp
end
section
variable {B : Base} {n : Nat} {env : Env} {m : Loc} {D : Led} {K : KS}
theorem EX.mono {st : Stmt} {Q Q' : Loc → Led → Prop} (h : EX B n env st m D Q' K) (k : ∀ m' D', Q' m' D' → Q m' D') : EX B n env st m D Q K := fun s hs A hA =>
  wpAny_mono (h s hs A hA) (fun fl s' ⟨m', D', r, rest⟩ => ⟨m', D', by cases fl <;> first | exact k _ _ r | exact r, rest⟩) fun _ _ e => e
end
theorem Part.mem {D E : Led} (h : Part E D) {x : Addr × O} (hx : x ∈ E) : x ∈ D := by
  obtain ⟨F, h1, h2⟩ := h
  exact h2.mem_iff.mpr (h1.mem hx)
/-- a target that the rows may hold -/
def Tw (w : List UInt8) : Prop := w = [] ∨ (∃ a b : UInt8, a.toNat < 216 ∧ w = [a, b]) ∨ (∃ y, w = [216, 61, 222, y]) ∨ ∃ y, w = [0, 66, 0, y]
theorem Tw.len {w : List UInt8} (h : Tw w) : w.length ≤ 4 ∧ w.length ≠ 1 := by
  rcases h with rfl | ⟨_, _, _, rfl⟩ | ⟨_, rfl⟩ | ⟨_, rfl⟩ <;> simp
theorem Tw.okT {w : List UInt8} (h : Tw w) : okT w := by
  rcases h with rfl | ⟨a, b, ha, rfl⟩ | ⟨y, rfl⟩ | ⟨y, rfl⟩
  · exact ⟨rfl, _, .nil⟩
  · have := b.toNat_lt
    exact ⟨by simp, _, .one (by lia) (by lia) (by lia) .nil⟩
  · have := y.toNat_lt
    exact ⟨by simp, _, .two (by decide) (by decide) (by show (56320 : Int) ≤ 256 * 222 + y.toNat; lia) (by show (256 * 222 + y.toNat : Int) ≤ 57343; lia) .nil⟩
  · have := y.toNat_lt
    exact ⟨by simp, _, .one (by decide) (by decide) (by decide) (.one (by show (0 : Int) ≤ 256 * 0 + y.toNat; lia) (by show (256 * 0 + y.toNat : Int) ≤ 65535; lia) (by show ¬ ((55296 : Int) ≤ 256 * 0 + y.toNat ∧ (256 * 0 + y.toNat : Int) ≤ 57343); lia) .nil)⟩
theorem toU8_toNat {x : Nat} (h : x < 256) : x.toUInt8.toNat = x := by simp; lia
theorem Tw.up {w : List UInt8} (h : Tw w) (hl : (w.getLastD 0).toNat < 255) (hne : w ≠ []) : Tw (w.dropLast ++ [((w.getLastD 0).toNat + 1).toUInt8]) := by
  rcases h with rfl | ⟨a, b, ha, rfl⟩ | ⟨y, rfl⟩ | ⟨y, rfl⟩
  · exact absurd rfl hne
  · exact .inr (.inl ⟨a, _, ha, rfl⟩)
  · exact .inr (.inr (.inl ⟨_, rfl⟩))
  · exact .inr (.inr (.inr ⟨_, rfl⟩))
theorem bi_up (w : List UInt8) (hl : (w.getLastD 0).toNat < 255) : ((bi w).map V.int).dropLast ++ [V.int (((w.getLastD 0).toNat : Int) + 1)] = (bi (w.dropLast ++ [((w.getLastD 0).toNat + 1).toUInt8])).map V.int := by
  unfold bi
  rw [← List.map_dropLast, ← List.map_dropLast, List.map_append, List.map_append, List.map_cons, List.map_nil, toU8_toNat (by lia)]
  rfl
def ltK (a b : Nat × Nat) : Prop := a.1 < b.1 ∨ (a.1 = b.1 ∧ a.2 < b.2)
structure Good (ks : List (Nat × Nat)) (ts : List (List UInt8)) : Prop where
  len : ts.length = ks.length
  asc : ks.Pairwise ltK
  key : ∀ k ∈ ks, (k.1 = 1 ∧ k.2 < 256) ∨ (k.1 = 2 ∧ k.2 < 65536)
  tg : ∀ w ∈ ts, Tw w
theorem Good.snoc {ks : List (Nat × Nat)} {ts : List (List UInt8)} (h : Good ks ts) {k : Nat × Nat} {w : List UInt8} (hk : ∀ a ∈ ks, ltK a k) (hr : (k.1 = 1 ∧ k.2 < 256) ∨ (k.1 = 2 ∧ k.2 < 65536)) (hw : Tw w) : Good (ks ++ [k]) (ts ++ [w]) where
  len := by simp [h.len]
  asc := List.pairwise_append.mpr ⟨h.asc, List.pairwise_singleton _ _, fun a ha b hb => by rw [List.mem_singleton] at hb; subst hb; exact hk a ha⟩
  key := fun a ha => by
    rcases List.mem_append.mp ha with ha | ha
    · exact h.key a ha
    · rw [List.mem_singleton] at ha; subst ha; exact hr
  tg := fun a ha => by
    rcases List.mem_append.mp ha with ha | ha
    · exact h.tg a ha
    · rw [List.mem_singleton] at ha; subst ha; exact hw
section
variable {B : Base} {n : Nat} {R D : Led} {Q : V → Led → Prop} {p c kl tl it tg : Addr} {cells : List Int} {pl many : Nat} {b : Int}
abbrev penO (c : Addr) (pl : Nat) (b : Int) : O := .list [.ref c, .int pl, .int b]
abbrev coreO (p c kl tl it : Addr) (pl : Nat) (b : Int) (ks : List (Nat × Nat)) (ts : List (List UInt8)) (R : Led) : Led :=
  (p, penO c pl b) :: (kl, .list (ks.map keyV)) :: (tl, .list (ts.map V.byt)) :: (it, .list [.int 1, .int 2]) :: R
abbrev coreI (p c kl tl it tg : Addr) (pl : Nat) (b : Int) (ks : List (Nat × Nat)) (ts : List (List UInt8)) (w : List UInt8) (R : Led) : Led :=
  (p, penO c pl b) :: (tg, .list ((bi w).map V.int)) :: (kl, .list (ks.map keyV)) :: (tl, .list (ts.map V.byt)) :: (it, .list [.int 1, .int 2]) :: R
abbrev mRows (p kl tl : Addr) (x1 x2 x3 x4 x5 : V) : Loc := [((Str.ofString "pen"), .v (.ref p)), ((Str.ofString "keys"), .v (.ref kl)), ((Str.ofString "targets"), .v (.ref tl)), ((Str.ofString "length"), .v x1), ((Str.ofString "code"), .v x2), ((Str.ofString "target"), .v x3), ((Str.ofString "lap"), .v x4), ((Str.ofString "way"), .v x5), ((Str.ofString "_law_draw"), .g (.raw (.ref 531))), ((Str.ofString "range"), .g (.raw (.type "range"))), ((Str.ofString "bytes"), .g (.raw (.type "bytes"))), ((Str.ofString "len"), .g (.raw (.builtin "len"))), ((Str.ofString "list"), .g (.raw (.type "list")))]
/-- behind k lengths -/
abbrev IRows (p c kl tl it : Addr) (R : Led) (k : Nat) (m' : Loc) (D' : Led) : Prop :=
  k ≤ 2 ∧ ∃ pl b ks ts x1 x2 x3 x4 x5, Part (coreO p c kl tl it pl b ks ts R) D' ∧ pl ≤ 100 * k ∧ Good ks ts ∧ (∀ a ∈ ks, a.1 ≤ k) ∧ ks.length ≤ 6 * k ∧ m' = mRows p kl tl x1 x2 x3 x4 x5
/-- behind i laps -/
abbrev IRow (p c kl tl it : Addr) (R : Led) (laps pl2 k L : Nat) (i : Nat) (m' : Loc) (D' : Led) : Prop :=
  i ≤ laps ∧ ∃ pl' b' ks' ts' w tg' code' x4 x5, Part (coreI p c kl tl it tg' pl' b' ks' ts' w R) D' ∧ pl' ≤ pl2 + 1 + 4 * i ∧ Good ks' ts' ∧ (∀ a ∈ ks', a.1 < L ∨ a.1 = L ∧ a.2 < code') ∧ ks'.length ≤ 6 * k + i ∧ Tw w ∧ m' = mRows p kl tl (.int L) (.int (code' : Nat)) (.ref tg') x4 x5
abbrev QKey (p c kl tl it tg' : Addr) (R : Led) (pl' : Nat) (b' : Int) (w : List UInt8) (k i L code' : Nat) (x5 : V) (m' : Loc) (D' : Led) : Prop :=
  m' = mRows p kl tl (.int L) (.int (code' : Nat)) (.ref tg') (.int i) x5 ∧ ∃ ks2 ts2, D' = coreI p c kl tl it tg' pl' b' ks2 ts2 w R ∧ Good ks2 ts2 ∧ (∀ a ∈ ks2, a.1 < L ∨ a.1 = L ∧ a.2 < code' + 1) ∧ ks2.length ≤ 6 * k + i + 1
abbrev FCode (p c kl tl it l1 : Addr) (R : Led) (pl1 : Nat) (ks : List (Nat × Nat)) (ts : List (List UInt8)) (v : V) (D' : Led) : Prop :=
  ∃ (x pl2 : Nat) (b2 : Int), v = .int x ∧ pl2 ≤ pl1 + 1 ∧ D' = (p, penO c pl2 b2) :: (l1, .list [.int 0, .int 65, .int 250, .int 253]) :: (kl, .list (ks.map keyV)) :: (tl, .list (ts.map V.byt)) :: (it, .list [.int 1, .int 2]) :: R
abbrev QLast (p c kl tl it tg' : Addr) (R : Led) (pl5 : Nat) (b5 : Int) (ks2 : List (Nat × Nat)) (ts2 : List (List UInt8)) (w : List UInt8) (b : Bool) (D' : Led) : Prop :=
  (b = true → w ≠ [] ∧ (w.getLastD 0).toNat < 255) ∧ D' = coreI p c kl tl it tg' pl5 b5 ks2 ts2 w R
theorem c_law_rows (I : Is190 B) (hn : n < 57) (mc : (c, O.list (cells.map V.int)) ∈ R) (hz : cells.length ≤ 1000)
    (h : ∀ kl tl ks ts, Good ks ts → ks.length ≤ 12 → Q (.tup [.ref kl, .ref tl]) ((kl, .list (ks.map keyV)) :: (tl, .list (ts.map V.byt)) :: R)) : CLC B n (.raw (.ref 538)) [.ref p] ((p, penO c 0 0) :: R) Q := by
  refine CLC.part ?_
  refine en_law_rows I (by lia) fun env he => ?_
  show EXS _ _ _ (_ :: _) _ _ _ _
  refine xs_asge ?_
  refine ev_listp (pa_nil) ?_
  refine ⟨by simp, fun kl => ?_⟩
  refine ⟨_, setl_1, ?_⟩
  refine xs_asge ?_
  refine ev_listp (pa_nil) ?_
  refine ⟨by simp, fun tl => ?_⟩
  refine ⟨_, setl_2, ?_⟩
  refine xs_cons ?_
  refine ex_for ?_
  refine ev_listp (pa_cons (pv_int) (pa_cons (pv_int) (pa_nil))) ?_
  refine ⟨by simp, fun it => ?_⟩
  refine ⟨_, .list mem_hd, IRows p c kl tl it R, ?_, ?_, ?_⟩
  · refine ⟨by lia, 0, 0, [], [], _, _, _, _, _, ?_, by lia, ⟨rfl, .nil, by simp, by simp⟩, by simp, by simp, rfl⟩
    exact .of_perm (List.reverse_perm [(p, penO c 0 0), (kl, .list []), (tl, .list []), (it, .list [.int 1, .int 2])] |>.append_right R)
  · rintro k m' D' e hx ⟨hk2, pl, b, ks, ts, x1, x2, x3, x4, x5, hp, hpl, hg, hks, hkl, rfl⟩
    refine ⟨.list (hp.mem (.tail _ (.tail _ (.tail _ (.head _))))), ?_⟩
    obtain ⟨L, hL, rfl, hL2⟩ : ∃ L : Nat, L = k + 1 ∧ e = .int L ∧ k < 2 := by
      match k, hx with
      | 0, hx => cases hx; exact ⟨1, rfl, rfl, by lia⟩
      | 1, hx => cases hx; exact ⟨2, rfl, rfl, by lia⟩
      | k + 2, hx => cases hx
    refine as_name (.there (.there (.there .here))) ?_
    refine EXS.anyK fun K1 => EXS.hide fun Q1 hQ1 => ?_
    refine EXS.pre hp ?_
    refine xs_asge ?_
    refine ev_bin ?_
    refine ev_sub ?_
    refine ev_listp (pa_cons (pv_int) (pa_cons (pv_int) (pa_cons (pv_int) (pa_cons (pv_int) (pa_nil))))) ?_
    refine ⟨by simp, fun l1 => ?_⟩
    refine ev_callp mem_8 (ck_at I (by decide)) (pa_cons (pv_name mem_0 nofun) (pa_cons (pv_int) (pa_nil))) ?_
    refine CL.pre Part.swap ?_
    refine CLC.cl (c_draw (n := n + 1) (many := 4) I (by lia) (by decide) (by decide) (mem_tl (mem_tl (mem_tl (mem_tl mc)))) hz (by lia) fun dg pl1 b1 hdg hpl1 => ?_)
    refine sb_list mem_1 ?_
    obtain ⟨v0, hv0⟩ : ∃ v0 : Nat, ([.int 0, .int 65, .int 250, .int 253] : List V)[((dg : Nat) : Int).toNat]? = some (.int v0) := by
      rw [Int.toNat_natCast]
      match dg, hdg with
      | 0, _ => exact ⟨0, rfl⟩
      | 1, _ => exact ⟨65, rfl⟩
      | 2, _ => exact ⟨250, rfl⟩
      | 3, _ => exact ⟨253, rfl⟩
    refine gi_list (mem_tl mem_hd) (by lia) hv0 ?_ (by lia)
    refine ev_if ?_
    refine pb (pb_cmp (pv_name mem_3 nofun) (pv_int) cmp_eq) ?_
    refine ite_ev (F := FCode p c kl tl it l1 R pl1 ks ts) (fun hc => ?_) (fun hc => ?_) ?_
    · refine ev_bin ?_
      refine ev_int ?_
      refine ev_callp mem_8 (ck_at I (by decide)) (pa_cons (pv_name mem_0 nofun) (pa_cons (pv_int) (pa_nil))) ?_
      refine CLC.cl (c_draw (n := n + 1) (many := 3) I (by lia) (by decide) (by decide) (mem_tl (mem_tl (mem_tl (mem_tl mc)))) hz (by lia) fun dg2 pl2 b2 hdg2 hpl2 => ?_)
      refine bin_mul (.of_left (by decide)) ?_
      exact ⟨256 * dg2, pl2, b2, rfl, hpl2, rfl⟩
    · refine ev_int ?_
      exact ⟨0, pl1, b1, rfl, by lia, rfl⟩
    rintro v D1 ⟨x, pl2, b2, rfl, hpl2, rfl⟩
    refine bin_add ?_
    refine ⟨_, setl_4, ?_⟩
    refine xs_asge ?_
    refine ev_listp (pa_cons (pv_int) (pa_cons (pv_int) (pa_nil))) ?_
    refine ⟨by simp, fun tg => ?_⟩
    refine ⟨_, setl_5, ?_⟩
    refine xs_cons ?_
    obtain ⟨code, hcode⟩ : ∃ code : Nat, code = v0 + x := ⟨_, rfl⟩
    rw [show ((v0 : Int) + (x : Int)) = (code : Int) by lia]
    refine EX.pre (E := coreI p c kl tl it tg pl2 b2 ks ts [0, 65] R) ⟨_, .cons_cons _ (.cons_cons _ (.cons _ (.refl _))), .swap ..⟩ ?_
    refine ex_for ?_
    refine ev_calle mem_9 (ck_type _) ?_
    refine ar_cons ?_
    refine ev_callp mem_8 (ck_at I (by decide)) (pa_cons (pv_name mem_0 nofun) (pa_cons (pv_int) (pa_nil))) ?_
    refine CLC.cl (c_draw (n := n + 1) (many := 7) I (by lia) (by decide) (by decide) (mem_tl (mem_tl (mem_tl (mem_tl mc)))) hz (by lia) fun laps pl3 b3 hlaps hpl3 => ?_)
    refine ar_nil ?_
    refine cl_range1 ?_
    refine ⟨_, .rng (small_ok (by decide) (by decide) (by lia) (by lia) (by decide) (by decide)), ?_⟩
    rw [rngItems1]
    refine ⟨IRow p c kl tl it R laps pl2 k L,
      ⟨Nat.zero_le _, pl3, b3, ks, ts, [0, 65], tg, code, _, _, .refl _, by lia, hg, fun a ha => .inl (by have := hks a ha; lia), by lia, .inr (.inl ⟨0, 65, by decide, rfl⟩), rfl⟩, ?_, ?_⟩
    · rintro i m' D' e hx2 ⟨hi, pl', b', ks', ts', w, tg', code', x4, x5, hp', hpl', hg', hks', hkl', hw, rfl⟩
      obtain ⟨hi2, rfl⟩ := map_range_get hx2
      refine ⟨rngItems1 laps ▸ .rng (small_ok (by decide) (by decide) (by lia) (by lia) (by decide) (by decide)), ?_⟩
      refine as_name (.there (.there (.there (.there (.there (.there .here)))))) ?_
      refine EXS.anyK fun K2 => EXS.hide fun Q2 hQ2 => ?_
      refine EXS.pre hp' ?_
      have hwl := hw.len
      refine xs_cons (EX.mono (Q' := QKey p c kl tl it tg' R pl' b' w k i L code' x5) ?_ ?_)
      · refine ex_if ?_
        refine et_cmp ?_
        refine ev_name mem_4 nofun ?_
        refine ev_bin ?_
        refine ev_int ?_
        refine ev_name mem_3 nofun ?_
        refine bin_pow (by lia) (by lia) (by decide) ?_
        refine cmp_lt ?_
        refine tru_bool ?_
        refine ite_dec (fun hlt => ?_) (fun hlt => ?_)
        · have hkr : (L = 1 ∧ code' < 256) ∨ (L = 2 ∧ code' < 65536) := by
            rw [Int.toNat_natCast] at hlt
            have : L = 1 ∨ L = 2 := by lia
            rcases this with rfl | rfl
            · left; refine ⟨rfl, ?_⟩; have : (code' : Int) < 256 := hlt; lia
            · right; refine ⟨rfl, ?_⟩; have : (code' : Int) < 65536 := hlt; lia
          refine xs_expr ?_
          refine ev_methe (pv_name mem_1 nofun) (gm_append mem_2) (ck_builtin _) ?_
          refine ar_cons ?_
          refine ev_tuplep (pa_cons (pv_name mem_3 nofun) (pa_cons (pv_name mem_4 nofun) (pa_nil))) ?_
          refine ⟨by simp, ?_⟩
          refine ar_nil ?_
          refine cl_append (.there (.there .here)) (by rw [List.length_map]; lia) ⟨rfl, ?_⟩
          refine xs_expr ?_
          refine ev_methe (pv_name mem_2 nofun) (gm_append mem_3) (ck_builtin _) ?_
          refine ar_cons ?_
          refine ev_callp mem_10 (ck_type _) (pa_cons (pv_name mem_5 nofun) (pa_nil)) ?_
          refine cl_bytes (ns := bi w) (mem_tl mem_hd) (by unfold bi; rw [List.length_map]; lia) (fun x hx => by
            obtain ⟨y, _, rfl⟩ := List.mem_map.mp hx
            have := y.toNat_lt; lia) ?_
          rw [show byts (bi w) = w from byts_back w]
          refine ar_nil ?_
          refine cl_append (.there (.there (.there .here))) (by rw [List.length_map, hg'.len]; lia) ⟨rfl, ?_⟩
          refine xs_nil ?_
          refine ⟨rfl, ks' ++ [(L, code')], ts' ++ [w], ?_, hg'.snoc (fun a ha => (hks' a ha).elim .inl .inr) hkr hw, ?_, by simp; lia⟩
          · simp only [coreI, List.map_append, List.map_cons, List.map_nil]
          · intro a ha
            rcases List.mem_append.mp ha with ha | ha
            · rcases hks' a ha with h1 | ⟨h1, h2⟩
              · exact .inl h1
              · exact .inr ⟨h1, by lia⟩
            · rw [List.mem_singleton] at ha; subst ha; exact .inr ⟨rfl, by show code' < code' + 1; lia⟩
        · refine xs_nil ?_
          exact ⟨rfl, ks', ts', rfl, hg', fun a ha => (hks' a ha).imp id fun ⟨h1, h2⟩ => ⟨h1, by lia⟩, by lia⟩
      rintro m' D' ⟨rfl, ks2, ts2, rfl, hg2, hks2, hkl2⟩
      refine xs_asge ?_
      refine ev_bin ?_
      refine ev_name mem_4 nofun ?_
      refine ev_sub ?_
      refine ev_listp (pa_cons (pv_int) (pa_cons (pv_int) (pa_cons (pv_int) (pa_cons (pv_int) (pa_nil))))) ?_
      refine ⟨by simp, fun l2 => ?_⟩
      refine ev_callp mem_8 (ck_at I (by decide)) (pa_cons (pv_name mem_0 nofun) (pa_cons (pv_int) (pa_nil))) ?_
      refine CL.pre Part.swap ?_
      refine CLC.cl (c_draw (n := n + 1) (many := 4) I (by lia) (by decide) (by decide) (mem_tl (mem_tl (mem_tl (mem_tl (mem_tl mc))))) hz (by lia) fun dg4 pl4 b4 hdg4 hpl4 => ?_)
      refine sb_list mem_1 ?_
      obtain ⟨v1, hv1, hv1p⟩ : ∃ v1 : Nat, ([.int 1, .int 1, .int 1, .int 2] : List V)[((dg4 : Nat) : Int).toNat]? = some (.int v1) ∧ 1 ≤ v1 := by
        rw [Int.toNat_natCast]
        match dg4, hdg4 with
        | 0, _ => exact ⟨1, rfl, by decide⟩
        | 1, _ => exact ⟨1, rfl, by decide⟩
        | 2, _ => exact ⟨1, rfl, by decide⟩
        | 3, _ => exact ⟨2, rfl, by decide⟩
      refine gi_list (mem_tl mem_hd) (by lia) hv1 ?_ (by lia)
      refine bin_add ?_
      refine ⟨_, setl_4, ?_⟩
      refine xs_asge ?_
      refine ev_callp mem_8 (ck_at I (by decide)) (pa_cons (pv_name mem_0 nofun) (pa_cons (pv_int) (pa_nil))) ?_
      obtain ⟨code2, hcode2⟩ : ∃ code2 : Nat, code2 = code' + v1 := ⟨_, rfl⟩
      rw [show ((code' : Int) + (v1 : Int)) = (code2 : Int) by lia]
      have hks3 : ∀ a ∈ ks2, a.1 < L ∨ a.1 = L ∧ a.2 < code2 := fun a ha => (hks2 a ha).imp id fun ⟨h1, h2⟩ => ⟨h1, by lia⟩
      refine CL.pre (E := coreI p c kl tl it tg' pl4 b4 ks2 ts2 w R) (.sub (.cons_cons _ (.cons _ (.refl _)))) ?_
      refine CLC.cl (c_draw (n := n + 1) (many := 6) I (by lia) (by decide) (by decide) (mem_tl (mem_tl (mem_tl (mem_tl mc)))) hz (by lia) fun way pl5 b5 hway hpl5 => ?_)
      refine ⟨_, .there (.there (.there (.there (.there (.there (.there .here)))))), ?_⟩
      refine xs_cons (ex_if (ET.mono (Q := QLast p c kl tl it tg' R pl5 b5 ks2 ts2 w) ?_ ?_))
      · refine et_bool ?_
        refine at_andp (pb_cmp (pv_name mem_7 nofun) (pv_int) cmp_lt) ?_
        refine ite_dec (fun q1 => ?_) (fun q1 => ⟨fun q => (nomatch q), rfl⟩)
        refine at_and ?_
        refine et_cmp ?_
        refine ev_callp mem_11 (ck_builtin _) (pa_cons (pv_name mem_5 nofun) (pa_nil)) ?_
        refine cl_len_list (mem_tl mem_hd) (by unfold bi; rw [List.length_map, List.length_map]; lia) ?_
        refine ev_int ?_
        refine cmp_gt ?_
        refine tru_bool ?_
        refine ite_dec (fun q2 => ?_) (fun q2 => ⟨fun q => (nomatch q), rfl⟩)
        have hbl : (bi w).length = w.length := by unfold bi; rw [List.length_map]
        rw [List.length_map, hbl] at q2
        have hne : w ≠ [] := fun q => by rw [q] at q2; exact absurd q2 (by decide)
        refine at_and ?_
        refine et_cmp ?_
        refine ev_sub ?_
        refine ev_name mem_5 nofun ?_
        refine pv (pv_una (pv_int) una_neg) ?_
        refine sb_list mem_1 ?_
        refine gi_list_neg (x := .int ((w.getLastD 0).toNat : Int)) (mem_tl mem_hd) (by decide) (by rw [List.length_map, hbl]; lia) ?_ ?_ (by decide)
        · rw [List.length_map, hbl, show ((-1 : Int) + w.length).toNat = w.length - 1 by lia, ← last_getD _ hne]
          unfold bi
          rw [List.getElem?_map, List.getElem?_map, getD_get (z := 0) (by lia)]; rfl
        refine ev_int ?_
        refine cmp_lt ?_
        refine tru_bool ?_
        refine ite_dec (fun q3 => at_nil_and ⟨fun _ => ⟨hne, by lia⟩, rfl⟩) (fun q3 => ⟨fun q => (nomatch q), rfl⟩)
      rintro b2 D' ⟨hb2, rfl⟩
      have fin : ∀ (tg2 : Addr) (w2 : List UInt8) (pl6 : Nat) (b6 : Int) (D2 : Led), Part (coreI p c kl tl it tg2 pl6 b6 ks2 ts2 w2 R) D2 → pl6 ≤ pl5 + 1 → Tw w2 → Q2 (mRows p kl tl (.int L) (.int (code2 : Nat)) (.ref tg2) (.int i) (.int way)) D2 :=
        fun tg2 w2 pl6 b6 D2 h1 h2 h3 => hQ2 _ _ ⟨hi2, pl6, b6, ks2, ts2, w2, tg2, code2, _, _, h1, by lia, hg2, hks3, by lia, h3, rfl⟩
      cases b2
      · refine ite_f ?_
        refine xs_ifp (pb_cmp (pv_name mem_7 nofun) (pv_int) cmp_eq) ?_
        refine ite_dec (fun q3 => ?_) (fun q3 => ?_)
        · refine xs_asge ?_
          refine ev_sub ?_
          refine ev_list ?_
          refine ar_cons ?_
          refine ev_listp (pa_cons (pv_int) (pa_cons (pv_int) (pa_nil))) ?_
          refine ⟨by simp, fun a1 => ?_⟩
          refine ar_cons ?_
          refine ev_listp (pa_cons (pv_int) (pa_cons (pv_int) (pa_nil))) ?_
          refine ⟨by simp, fun a2 => ?_⟩
          refine ar_cons ?_
          refine ev_listp (pa_cons (pv_int) (pa_cons (pv_int) (pa_nil))) ?_
          refine ⟨by simp, fun a3 => ?_⟩
          refine ar_cons ?_
          refine ev_listp (pa_cons (pv_int) (pa_cons (pv_int) (pa_cons (pv_int) (pa_cons (pv_int) (pa_nil))))) ?_
          refine ⟨by simp, fun a4 => ?_⟩
          refine ar_cons ?_
          refine ev_listp (pa_nil) ?_
          refine ⟨by simp, fun a5 => ?_⟩
          refine ar_nil ?_
          refine ⟨by simp, fun a6 => ?_⟩
          refine ev_callp mem_8 (ck_at I (by decide)) (pa_cons (pv_name mem_0 nofun) (pa_cons (pv_int) (pa_nil))) ?_
          refine CL.pre (.of_perm (List.perm_middle (l₁ := [_, _, _, _, _, _]))) ?_
          refine CLC.cl (c_draw (n := n + 1) (many := 5) I (by lia) (by decide) (by decide) (by repeat (first | exact mc | refine mem_tl ?_)) hz (by lia) fun dg6 pl6 b6 hdg6 hpl6 => ?_)
          skip
          obtain ⟨x, w2, hx3, hw2, hP⟩ : ∃ (x : Addr) (w2 : List UInt8), ([.ref a1, .ref a2, .ref a3, .ref a4, .ref a5] : List V)[((dg6 : Nat) : Int).toNat]? = some (.ref x) ∧ Tw w2 ∧ ∀ RR : Led, Part ((p, penO c pl6 b6) :: (x, .list ((bi w2).map V.int)) :: RR) ((p, penO c pl6 b6) :: (a6, .list [.ref a1, .ref a2, .ref a3, .ref a4, .ref a5]) :: (a5, .list []) :: (a4, .list [.int 216, .int 61, .int 222, .int 0]) :: (a3, .list [.int 1, .int 0]) :: (a2, .list [.int 0, .int 255]) :: (a1, .list [.int 0, .int 254]) :: (tg', .list ((bi w).map V.int)) :: RR) := by
            rw [Int.toNat_natCast]
            match dg6, hdg6 with
            | 0, _ => exact ⟨a1, [0, 254], rfl, .inr (.inl ⟨0, 254, by decide, rfl⟩), fun RR => .sub (.cons_cons _ (.cons _ (.cons _ (.cons _ (.cons _ (.cons _ (.cons_cons _ (.cons _ (.refl _)))))))))⟩
            | 1, _ => exact ⟨a2, [0, 255], rfl, .inr (.inl ⟨0, 255, by decide, rfl⟩), fun RR => .sub (.cons_cons _ (.cons _ (.cons _ (.cons _ (.cons _ (.cons_cons _ (.cons _ (.cons _ (.refl _)))))))))⟩
            | 2, _ => exact ⟨a3, [1, 0], rfl, .inr (.inl ⟨1, 0, by decide, rfl⟩), fun RR => .sub (.cons_cons _ (.cons _ (.cons _ (.cons _ (.cons_cons _ (.cons _ (.cons _ (.cons _ (.refl _)))))))))⟩
            | 3, _ => exact ⟨a4, [216, 61, 222, 0], rfl, .inr (.inr (.inl ⟨0, rfl⟩)), fun RR => .sub (.cons_cons _ (.cons _ (.cons _ (.cons_cons _ (.cons _ (.cons _ (.cons _ (.cons _ (.refl _)))))))))⟩
            | 4, _ => exact ⟨a5, [], rfl, .inl rfl, fun RR => .sub (.cons_cons _ (.cons _ (.cons_cons _ (.cons _ (.cons _ (.cons _ (.cons _ (.cons _ (.refl _)))))))))⟩
          refine sb_list (mem_tl mem_hd) (gi_list (mem_tl mem_hd) (by lia) hx3 ?_ (by lia))
          refine ⟨_, setl_5, ?_⟩
          refine xs_nil ?_
          refine xs_nil ?_
          refine xs_nil ?_
          exact fin x w2 pl6 b6 _ (hP _) (by lia) hw2
        refine xs_ifp (pb_cmp (pv_name mem_7 nofun) (pv_int) cmp_eq) ?_
        refine ite_dec (fun q4 => ?_) (fun q4 => ?_)
        · refine xs_asge ?_
          refine ev_callp mem_12 (ck_type _) (pa_cons (pv_name mem_5 nofun) (pa_nil)) ?_
          refine cl_list_list (mem_tl mem_hd) (by unfold bi; rw [List.length_map, List.length_map]; lia) fun a1 => ?_
          refine ⟨_, setl_5, ?_⟩
          refine xs_nil ?_
          refine xs_nil ?_
          refine xs_nil ?_
          refine xs_nil ?_
          exact fin a1 w pl5 b5 _ ⟨_, .cons_cons _ (.cons_cons _ (.cons _ (.refl _))), List.perm_middle (l₁ := [_])⟩ (by lia) hw
        · refine xs_asge ?_
          refine ev_list ?_
          refine ar_cons ?_
          refine ev_int ?_
          refine ar_cons ?_
          refine ev_int ?_
          refine ar_cons ?_
          refine ev_int ?_
          refine ar_cons ?_
          refine ev_callp mem_8 (ck_at I (by decide)) (pa_cons (pv_name mem_0 nofun) (pa_cons (pv_int) (pa_nil))) ?_
          refine CLC.cl (c_draw (n := n + 1) (many := 256) I (by lia) (by decide) (by decide) (by repeat (first | exact mc | refine mem_tl ?_)) hz (by lia) fun dg6 pl6 b6 hdg6 hpl6 => ?_)
          refine ar_nil ?_
          refine ⟨by simp, fun a1 => ?_⟩
          refine ⟨_, setl_5, ?_⟩
          refine xs_nil ?_
          refine xs_nil ?_
          refine xs_nil ?_
          refine xs_nil ?_
          refine fin a1 [0, 66, 0, dg6.toUInt8] pl6 b6 _ ?_ (by lia) (.inr (.inr (.inr ⟨_, rfl⟩)))
          unfold coreI
          rw [show ((bi [0, 66, 0, dg6.toUInt8]).map V.int) = [.int 0, .int 66, .int 0, .int dg6] by
            show [V.int 0, V.int 66, V.int 0, V.int (dg6.toUInt8.toNat : Nat)] = _
            rw [toU8_toNat hdg6]]
          exact ⟨_, .cons_cons _ (.cons_cons _ (.cons _ (.refl _))), List.perm_middle (l₁ := [_])⟩
      · obtain ⟨hne, hlast⟩ := hb2 rfl
        have hpos : 0 < w.length := List.length_pos_iff.mpr hne
        have hbl : (bi w).length = w.length := by unfold bi; rw [List.length_map]
        refine ite_t ?_
        refine xs_asge ?_
        refine ev_bin ?_
        refine ev_sub ?_
        refine ev_name mem_5 nofun ?_
        refine ev_slice ?_
        refine pt_none ?_
        refine pt_some ?_
        refine pv (pv_una (pv_int) una_neg) ?_
        refine ⟨_, rfl, ?_⟩
        refine sb_list mem_1 ?_
        refine gi_cut_list (mem_tl mem_hd) (by rw [List.length_map, hbl]; lia) fun a1 => ?_
        rw [cut_last]
        refine ev_list ?_
        refine ar_cons ?_
        refine ev_bin ?_
        refine ev_sub ?_
        refine ev_name mem_5 nofun ?_
        refine pv (pv_una (pv_int) una_neg) ?_
        refine sb_list mem_2 ?_
        refine gi_list_neg (x := .int ((w.getLastD 0).toNat : Int)) (mem_tl (mem_tl mem_hd)) (by decide) (by rw [List.length_map, hbl]; lia) ?_ ?_ (by decide)
        · rw [List.length_map, hbl, show ((-1 : Int) + w.length).toNat = w.length - 1 by lia, ← last_getD _ hne]
          unfold bi
          rw [List.getElem?_map, List.getElem?_map, getD_get (z := 0) (by lia)]; rfl
        refine ev_int ?_
        refine bin_add ?_
        refine ar_nil ?_
        refine ⟨by simp, fun a2 => ?_⟩
        refine bin_add_list (mem_tl mem_hd) mem_hd (by rw [List.length_dropLast, List.length_map, hbl]; show _ + 1 ≤ _; lia) fun a3 => ?_
        refine ⟨_, setl_5, ?_⟩
        refine xs_nil ?_
        refine xs_nil ?_
        refine fin a3 (w.dropLast ++ [((w.getLastD 0).toNat + 1).toUInt8]) pl5 b5 _ ?_ (by lia) (hw.up hlast hne)
        rw [bi_up w hlast]
        exact ⟨_, .cons_cons _ (.cons_cons _ (.cons _ (.cons _ (.cons _ (.refl _))))), List.perm_middle (l₁ := [_, _, _])⟩
    · rintro m' D' ⟨hi, pl', b', ks', ts', w, tg', code', x4, x5, hp', hpl', hg', hks', hkl', hw, rfl⟩
      refine ⟨rngItems1 laps ▸ .rng (small_ok (by decide) (by decide) (by lia) (by lia) (by decide) (by decide)), ?_⟩
      simp only [List.length_map, List.length_range] at hpl' hkl'
      refine xs_nil ?_
      refine hQ1 _ _ ⟨by lia, pl', b', ks', ts', _, _, _, _, _, ?_, by lia, hg', fun a ha => ?_, by lia, rfl⟩
      · obtain ⟨F, h1, h2⟩ := hp'
        exact ⟨F, List.Sublist.trans (.cons_cons _ (.cons _ (.refl _))) h1, h2⟩
      · rcases hks' a ha with h1 | ⟨h1, _⟩ <;> lia
  · rintro m' D' ⟨_, pl, b, ks, ts, x1, x2, x3, x4, x5, hp, hpl, hg, hks, hkl, rfl⟩
    refine ⟨.list (hp.mem (.tail _ (.tail _ (.tail _ (.head _))))), ?_⟩
    refine xs_ret ?_
    refine ev_tuplep (pa_cons (pv_name mem_1 nofun) (pa_cons (pv_name mem_2 nofun) (pa_nil))) ?_
    refine ⟨by simp, ?_⟩
    refine ⟨_, ?_, h kl tl ks ts hg hkl⟩
    obtain ⟨F, h1, h2⟩ := hp
    exact ⟨F, List.Sublist.trans (.cons _ (.cons_cons _ (.cons_cons _ (.cons _ (.refl _))))) h1, h2⟩
end
section
variable {ks : List (Nat × Nat)} {ts : List (List UInt8)} {P : Nat → Nat → Prop} {N : Nat}
theorem bi_inj {v w : List UInt8} (h : bi v = bi w) : v = w := by
  have := congrArg byts h
  rwa [show byts (bi v) = v from byts_back v, show byts (bi w) = w from byts_back w] at this
theorem split_last {w : List UInt8} (h : w ≠ []) : w = w.dropLast ++ [w.getLastD 0] := by
  rw [List.getLastD_eq_getLast?, List.getLast?_eq_some_getLast h]
  exact (List.dropLast_concat_getLast h).symm
theorem bi_due {t ft : List UInt8} {s : Nat} (h : t ≠ []) : bi t = dueOf ft s ↔ t.dropLast = ft.dropLast ∧ (t.getLastD 0).toNat = (ft.getLastD 0).toNat + s := by
  have e : bi t = bi t.dropLast ++ [((t.getLastD 0).toNat : Int)] := by
    conv => lhs; rw [split_last h]
    unfold bi; rw [List.map_append]; rfl
  rw [e]
  unfold dueOf
  constructor
  · intro q
    obtain ⟨q1, q2⟩ := List.append_inj' q rfl
    refine ⟨bi_inj q1, ?_⟩
    simp only [List.cons.injEq, and_true] at q2
    lia
  · rintro ⟨q1, q2⟩
    rw [q1, q2]; rfl
theorem due_ne {ft : List UInt8} {s : Nat} : dueOf ft s ≠ [] := by unfold dueOf; simp
theorem bi_ne {t : List UInt8} (h : bi t ≠ []) : t ≠ [] := fun q => h (by rw [q]; rfl)
theorem on_in {i e : Nat} (h1 : (ts.getD e []).length ≠ 1) (h : onAt ks ts i e) : ts.getD i [] ≠ [] ∧ InR ks ts i e := by
  obtain ⟨a, b, c, d, f, g⟩ := h
  refine ⟨fun q => ?_, a, b, c, (bi_due d).mpr ⟨f, g⟩⟩
  rw [q] at f
  have := congrArg List.length f
  rw [List.length_dropLast] at this
  have := List.length_pos_iff.mpr d
  simp at *
  lia
theorem in_on {i e : Nat} (h : InR ks ts i e) : onAt ks ts i e := by
  obtain ⟨a, b, c, d⟩ := h
  have hne : ts.getD e [] ≠ [] := bi_ne (d ▸ due_ne)
  have := (bi_due hne).mp d
  exact ⟨a, b, c, hne, this.1, this.2⟩
theorem in_self {f : Nat} (h : ts.getD f [] ≠ []) : InR ks ts f f := ⟨rfl, by lia, rfl, (bi_due h).mpr ⟨rfl, by lia⟩⟩
theorem in_sub {f a b : Nat} (h1 : f ≤ a) (h2 : a < b) (ha : InR ks ts f a) (hb : InR ks ts f b) : onAt ks ts a b := by
  obtain ⟨a1, a2, a3, a4⟩ := ha
  obtain ⟨b1, b2, b3, b4⟩ := hb
  have na : ts.getD a [] ≠ [] := bi_ne (a4 ▸ due_ne)
  have nb : ts.getD b [] ≠ [] := bi_ne (b4 ▸ due_ne)
  obtain ⟨c1, c2⟩ := (bi_due na).mp a4
  obtain ⟨d1, d2⟩ := (bi_due nb).mp b4
  exact ⟨by lia, by lia, by lia, nb, d1.trans c1.symm, by lia⟩
theorem rg_sub {f a b e : Nat} (h : RG ks ts f e) (h1 : f ≤ a) (h2 : a < b) (h3 : b < e) : onAt ks ts a b := by
  rcases h with h | ⟨hne, h⟩
  · lia
  · rcases Nat.lt_or_ge f a with q | q
    · exact in_sub h1 h2 (h a q (by lia)) (h b (by lia) h3)
    · have : f = a := by lia
      subst this
      exact in_on (h b h2 h3)
theorem rg_run {i j : Nat} (hij : i < j) (h : ∀ e, i < e → e < j → onAt ks ts i e) (h1 : ∀ e, e < j → (ts.getD e []).length ≠ 1) : RG ks ts i j := by
  rcases Nat.lt_or_ge (j - i) 2 with q | q
  · exact .inl q
  · exact .inr ⟨(on_in (h1 (i + 1) (by lia)) (h (i + 1) (by lia) (by lia))).1, fun e a b => (on_in (h1 e b) (h e a b)).2⟩
def cnt (rs : List (Nat × Nat)) (e : Nat) : Nat := rs.countP fun p => decide (p.1 < e)
theorem cnt_cons (p : Nat × Nat) (rs : List (Nat × Nat)) (e : Nat) : cnt (p :: rs) e = cnt rs e + if p.1 < e then 1 else 0 := by
  unfold cnt; rw [List.countP_cons]; simp
theorem cnt_mono {rs : List (Nat × Nat)} {e f : Nat} (h : e ≤ f) : cnt rs e ≤ cnt rs f :=
  List.countP_mono_left fun p _ q => by simp at q ⊢; lia
theorem Runs.low {s : Nat} {rs : List (Nat × Nat)} (h : Runs P N s rs) : ∀ p ∈ rs, s ≤ p.1 ∧ p.1 < p.2 ∧ p.2 ≤ N := by
  induction h with
  | done => simp
  | step h1 h2 _ _ _ ih =>
    intro p hp
    rcases List.mem_cons.mp hp with rfl | hp
    · exact ⟨Nat.le_refl _, h1, h2⟩
    · have := ih p hp; lia
theorem Runs.cnt0 {s : Nat} {rs : List (Nat × Nat)} (h : Runs P N s rs) {e : Nat} (he : e ≤ s) : cnt rs e = 0 := by
  unfold cnt
  rw [List.countP_eq_zero]
  intro p hp
  have := h.low p hp
  simp; lia
theorem Runs.cntN {s : Nat} {rs : List (Nat × Nat)} (h : Runs P N s rs) : cnt rs N = rs.length := by
  unfold cnt
  rw [List.countP_eq_length]
  intro p hp
  have := h.low p hp
  simp; lia
theorem Runs.fact {s : Nat} {rs : List (Nat × Nat)} (h : Runs P N s rs) : ∀ e, s < e → e ≤ N → ∃ i, s ≤ i ∧ i < e ∧ (∀ x, i < x → x < e → P i x) ∧ cnt rs e = cnt rs i + 1 ∧ (i = s ∨ ∃ i', s ≤ i' ∧ i' < i ∧ ¬ P i' i ∧ ∀ f, i' < f → cnt rs i ≤ cnt rs f) := by
  induction h with
  | done => intro e h1 h2; lia
  | @step s j rs h1 h2 h3 h4 h5 ih =>
    intro e he heN
    rcases Nat.lt_or_ge j e with q | q
    · obtain ⟨i, g1, g2, g3, g4, g5⟩ := ih e q heN
      refine ⟨i, by lia, g2, g3, ?_, .inr ?_⟩
      · rw [cnt_cons, cnt_cons, if_pos (by show s < e; lia), if_pos (by show s < i; lia), g4]
      rcases g5 with rfl | ⟨i', k1, k2, k3, k4⟩
      · refine ⟨s, Nat.le_refl _, h1, h4 (by lia), fun f hf => ?_⟩
        rw [cnt_cons, cnt_cons, if_pos (by show s < i; lia), if_pos (by show s < f; lia), h5.cnt0 (Nat.le_refl _)]
        lia
      · refine ⟨i', by lia, k2, k3, fun f hf => ?_⟩
        have := k4 f hf
        rw [cnt_cons, cnt_cons, if_pos (by show s < i; lia), if_pos (by show s < f; lia)]
        lia
    · refine ⟨s, Nat.le_refl _, he, fun x a b => h3 x a (by lia), ?_, .inl rfl⟩
      rw [cnt_cons, cnt_cons, h5.cnt0 q, h5.cnt0 (by lia), if_pos (by show s < e; lia), if_neg (by show ¬ s < s; lia)]
theorem fewest_eq {rs : List (Nat × Nat)} (h : Runs (onAt ks ts) N 0 rs) (h1 : ∀ e, e < N → (ts.getD e []).length ≠ 1) {e : Nat} (he : 0 < e) (heN : e ≤ N) {M : Nat} (hm : ∃ f, f < e ∧ RG ks ts f e ∧ M = cnt rs f + 1) (hl : ∀ f, f < e → RG ks ts f e → M ≤ cnt rs f + 1) : M = cnt rs e := by
  obtain ⟨i, _, g2, g3, g4, g5⟩ := h.fact e he heN
  have l1 := hl i g2 (rg_run g2 g3 fun x hx => h1 x (by lia))
  obtain ⟨f, f1, f2, f3⟩ := hm
  have : cnt rs i ≤ cnt rs f := by
    rcases Nat.lt_or_ge f i with q | q
    · rcases g5 with rfl | ⟨i', k1, k2, k3, k4⟩
      · lia
      · rcases Nat.lt_or_ge i' f with q2 | q2
        · exact k4 f q2
        · exact absurd (rg_sub f2 q2 k2 g2) k3
    · exact cnt_mono q
  lia
theorem has_min {rs : List (Nat × Nat)} (h : Runs (onAt ks ts) N 0 rs) (h1 : ∀ e, e < N → (ts.getD e []).length ≠ 1) {e : Nat} (he : 0 < e) (heN : e ≤ N) : ∃ f, f < e ∧ RG ks ts f e := by
  obtain ⟨i, _, g2, g3, _⟩ := h.fact e he heN
  exact ⟨i, g2, rg_run g2 g3 fun x hx => h1 x (by lia)⟩
end
theorem octs1 (c : Nat) : octs 1 c = [(c % 256).toUInt8] := by
  unfold octs; simp [List.range_succ]
theorem octs2 (c : Nat) : octs 2 c = [(c / 256 % 256).toUInt8, (c % 256).toUInt8] := by
  unfold octs; simp [List.range_succ]
def keyOk (k : Nat × Nat) : Prop := (k.1 = 1 ∧ k.2 < 256) ∨ (k.1 = 2 ∧ k.2 < 65536)
theorem octs_len (L c : Nat) : (octs L c).length = L := by unfold octs; simp
theorem codeOf_octs {k : Nat × Nat} (h : keyOk k) : codeOf (octs k.1 k.2) = k.2 := by
  obtain ⟨L, c⟩ := k
  rcases h with ⟨h1, h2⟩ | ⟨h1, h2⟩ <;> simp only at h1 h2 <;> subst h1
  · show codeOf (octs 1 c) = c
    rw [octs1]
    show 256 * 0 + ((c % 256).toUInt8.toNat : Int) = c
    rw [toU8_toNat (by lia)]; lia
  · show codeOf (octs 2 c) = c
    rw [octs2]
    show 256 * (256 * 0 + ((c / 256 % 256).toUInt8.toNat : Int)) + ((c % 256).toUInt8.toNat : Int) = c
    rw [toU8_toNat (by lia), toU8_toNat (by lia)]; lia
def preOf (k : Nat × Nat) : List UInt8 := (octs k.1 k.2).dropLast
def lastOf (k : Nat × Nat) : UInt8 := (octs k.1 k.2).getLastD 0
theorem octs_split {k : Nat × Nat} (h : keyOk k) : octs k.1 k.2 = preOf k ++ [lastOf k] := by
  refine split_last fun q => ?_
  have := congrArg List.length q
  rw [octs_len] at this
  rcases h with ⟨h1, _⟩ | ⟨h1, _⟩ <;> simp [h1] at this
theorem lastOf_nat {k : Nat × Nat} (h : keyOk k) : (lastOf k).toNat = k.2 % 256 := by
  obtain ⟨L, c⟩ := k
  unfold lastOf
  rcases h with ⟨h1, h2⟩ | ⟨h1, h2⟩ <;> simp only at h1 h2 <;> subst h1
  · show ((octs 1 c).getLastD 0).toNat = _
    rw [octs1]
    exact toU8_toNat (by lia)
  · show ((octs 2 c).getLastD 0).toNat = _
    rw [octs2]
    exact toU8_toNat (by lia)
theorem preOf_eq {k k' : Nat × Nat} (h : keyOk k) (h1 : k'.1 = k.1) (h2 : k'.2 / 256 = k.2 / 256) : preOf k' = preOf k := by
  obtain ⟨L, c⟩ := k
  obtain ⟨L', c'⟩ := k'
  simp only at h1 h2
  subst h1
  unfold preOf
  rcases h with ⟨h1, _⟩ | ⟨h1, _⟩ <;> simp only at h1 <;> subst h1
  · show (octs 1 c').dropLast = (octs 1 c).dropLast
    rw [octs1, octs1]; rfl
  · show (octs 2 c').dropLast = (octs 2 c).dropLast
    rw [octs2, octs2, h2]; rfl
section
variable {ks : List (Nat × Nat)} {ts : List (List UInt8)} {N : Nat}
abbrev kAt (ks : List (Nat × Nat)) (i : Nat) : Nat × Nat := ks.getD i (0, 0)
abbrev tAt (ts : List (List UInt8)) (i : Nat) : List UInt8 := ts.getD i []
def rowOf (ks : List (Nat × Nat)) (ts : List (List UInt8)) (p : Nat × Nat) : Row :=
  if p.2 = p.1 + 1 then .one (octs (kAt ks p.1).1 (kAt ks p.1).2) (tAt ts p.1)
  else .run (preOf (kAt ks p.1)) (lastOf (kAt ks p.1)) (lastOf (kAt ks (p.2 - 1))) (tAt ts p.1).dropLast ((tAt ts p.1).getLastD 0) (p.2 - p.1)
noncomputable def eAt (ks : List (Nat × Nat)) (ts : List (List UInt8)) (i : Nat) : List Int × V := ([((kAt ks i).1 : Int), ((kAt ks i).2 : Int)], .str (tx (tAt ts i)))
theorem Good.kOk (h : Good ks ts) {i : Nat} (hi : i < ks.length) : keyOk (kAt ks i) := h.key _ (List.mem_of_getElem? (getD_get hi))
theorem Good.tOk (h : Good ks ts) {i : Nat} (hi : i < ks.length) : Tw (tAt ts i) := h.tg _ (List.mem_of_getElem? (getD_get (by rw [h.len]; exact hi)))
theorem step_tg {i e : Nat} (hi : tAt ts i ≠ []) (h : InR ks ts i e) : tAt ts e = stp (tAt ts i).dropLast ((tAt ts i).getLastD 0) (e - i) ∧ ((tAt ts i).getLastD 0).toNat + (e - i) < 256 := by
  obtain ⟨_, _, _, h4⟩ := h
  have hne : tAt ts e ≠ [] := bi_ne (h4 ▸ due_ne)
  obtain ⟨a, b⟩ := (bi_due hne).mp h4
  have hb := ((tAt ts e).getLastD 0).toNat_lt
  have b : ((tAt ts e).getLastD 0).toNat = ((tAt ts i).getLastD 0).toNat + (e - i) := b
  refine ⟨?_, by lia⟩
  conv => lhs; rw [split_last hne]
  unfold stp
  rw [a, ← b]
  simp
theorem row_ok (g : Good ks ts) {i j : Nat} (hij : i < j) (hj : j ≤ ks.length) (h : ∀ e, i < e → e < j → onAt ks ts i e) : (rowOf ks ts (i, j)).ok := by
  have ki := g.kOk (i := i) (by lia)
  have ti := g.tOk (i := i) (by lia)
  have hin : ∀ e, i < e → e < j → tAt ts i ≠ [] ∧ InR ks ts i e := fun e a b => on_in (g.tOk (i := e) (by lia)).len.2 (h e a b)
  have kL : (kAt ks i).1 = 1 ∨ (kAt ks i).1 = 2 := ki.imp (·.1) (·.1)
  have tl := ti.len
  show Row.ok (if j = i + 1 then .one (octs (kAt ks i).1 (kAt ks i).2) (tAt ts i) else .run (preOf (kAt ks i)) (lastOf (kAt ks i)) (lastOf (kAt ks (j - 1))) (tAt ts i).dropLast ((tAt ts i).getLastD 0) (j - i))
  split
  · refine ⟨?_, ?_, ti.okT, by lia⟩ <;> rw [octs_len] <;> lia
  · rename_i hne
    obtain ⟨t0, r1⟩ := hin (j - 1) (by lia) (by lia)
    have kj := g.kOk (i := j - 1) (by lia)
    obtain ⟨r2, r3, r4, r5⟩ := r1
    have s1 := step_tg t0 ⟨r2, r3, r4, r5⟩
    refine ⟨?_, by lia, ?_, by lia, by rw [List.length_dropLast]; lia, fun s hs => ?_⟩
    · have := octs_len (kAt ks i).1 (kAt ks i).2
      rw [octs_split ki, List.length_append] at this
      have : (preOf (kAt ks i)).length + 1 = (kAt ks i).1 := this
      lia
    · show (lastOf (kAt ks (j - 1))).toNat + 1 = (lastOf (kAt ks i)).toNat + (j - i)
      rw [lastOf_nat ki, lastOf_nat kj]
      have r3 : (kAt ks (j - 1)).2 = (kAt ks i).2 + (j - 1 - i) := r3
      have r4 : (kAt ks (j - 1)).2 / 256 = (kAt ks i).2 / 256 := r4
      lia
    · have hs : s < j - i := hs
      rcases Nat.eq_zero_or_pos s with q | q
      · subst q
        have : stp (tAt ts i).dropLast ((tAt ts i).getLastD 0) 0 = tAt ts i := by
          conv => rhs; rw [split_last t0]
          unfold stp; simp
        show okT (stp (tAt ts i).dropLast ((tAt ts i).getLastD 0) 0)
        rw [this]; exact ti.okT
      · obtain ⟨_, r1⟩ := hin (i + s) (by lia) (by lia)
        have s2 := (step_tg t0 r1).1
        rw [show i + s - i = s by lia] at s2
        show okT (stp (tAt ts i).dropLast ((tAt ts i).getLastD 0) s)
        rw [← s2]; exact (g.tOk (i := i + s) (by lia)).okT
theorem row_ents (g : Good ks ts) {i j : Nat} (hij : i < j) (hj : j ≤ ks.length) (h : ∀ e, i < e → e < j → onAt ks ts i e) : (rowOf ks ts (i, j)).ents = (List.range (j - i)).map fun s => eAt ks ts (i + s) := by
  have ki := g.kOk (i := i) (by lia)
  have hin : ∀ e, i < e → e < j → tAt ts i ≠ [] ∧ InR ks ts i e := fun e a b => on_in (g.tOk (i := e) (by lia)).len.2 (h e a b)
  unfold rowOf
  split
  · rename_i he
    have he : j = i + 1 := he
    subst he
    rw [show i + 1 - i = 1 by lia]
    show [ent (octs (kAt ks i).1 (kAt ks i).2) (tAt ts i)] = [eAt ks ts (i + 0)]
    unfold ent eAt
    rw [octs_len, codeOf_octs ki]; rfl
  · rename_i hne
    have hne : j ≠ i + 1 := hne
    obtain ⟨t0, _⟩ := hin (j - 1) (by lia) (by lia)
    show (List.range (j - i)).map (entR _ _ _ _) = _
    refine List.map_congr_left fun s hs => ?_
    rw [List.mem_range] at hs
    unfold entR eAt
    rw [← octs_split ki, octs_len, codeOf_octs ki]
    have hr : InR ks ts i (i + s) := by
      rcases Nat.eq_zero_or_pos s with q | q
      · subst q; exact in_self t0
      · exact (hin (i + s) (by lia) (by lia)).2
    obtain ⟨s1, _⟩ := step_tg t0 hr
    obtain ⟨r1, r2, _, _⟩ := hr
    have r1 : (kAt ks (i + s)).1 = (kAt ks i).1 := r1
    have r2 : (kAt ks (i + s)).2 = (kAt ks i).2 + (i + s - i) := r2
    rw [show i + s - i = s by lia] at r2 s1
    rw [r1, r2, ← s1]
    simp
theorem ents_all (g : Good ks ts) {s : Nat} {rs : List (Nat × Nat)} (h : Runs (onAt ks ts) ks.length s rs) : entsOf (rs.map (rowOf ks ts)) = (List.range (ks.length - s)).map fun k => eAt ks ts (s + k) := by
  induction h with
  | done => simp [entsOf]
  | @step i j rs h1 h2 h3 _ _ ih =>
    have : entsOf ((rowOf ks ts (i, j)) :: rs.map (rowOf ks ts)) = (rowOf ks ts (i, j)).ents ++ entsOf (rs.map (rowOf ks ts)) := by simp [entsOf]
    rw [List.map_cons, this, ih, row_ents g h1 h2 h3, show ks.length - i = (j - i) + (ks.length - j) by lia, List.range_add, List.map_append, List.map_map]
    congr 1
    refine List.map_congr_left fun k _ => ?_
    show eAt ks ts (j + k) = eAt ks ts (i + (j - i + k))
    congr 1; lia
theorem rows_ok (g : Good ks ts) {s : Nat} {rs : List (Nat × Nat)} (h : Runs (onAt ks ts) ks.length s rs) : ∀ r ∈ rs.map (rowOf ks ts), r.ok := by
  induction h with
  | done => simp
  | @step i j rs h1 h2 h3 _ _ ih =>
    intro r hr
    rcases List.mem_cons.mp hr with rfl | hr
    · exact row_ok g h1 h2 h3
    · exact ih r hr
theorem keys_nodup (g : Good ks ts) : (((List.range ks.length).map (eAt ks ts)).map (·.1)).Nodup := by
  rw [List.map_map]
  refine List.pairwise_map.mpr ?_
  refine List.Pairwise.imp_of_mem ?_ List.pairwise_lt_range
  intro a b ha hb hab q
  rw [List.mem_range] at ha hb
  have h1 := List.pairwise_iff_getElem.mp g.asc a b ha hb hab
  have e1 : kAt ks a = ks[a] := by simp [List.getD, ha]
  have e2 : kAt ks b = ks[b] := by simp [List.getD, hb]
  have q : [((kAt ks a).1 : Int), ((kAt ks a).2 : Int)] = [((kAt ks b).1 : Int), ((kAt ks b).2 : Int)] := q
  rw [e1, e2] at q
  simp only [List.cons.injEq, and_true] at q
  rcases h1 with h1 | ⟨h1, h2⟩ <;> lia
end
def sB : Str := Str.ofString "begin"
def sE : Str := Str.ofString "end"
def sC : Str := Str.ofString "bfchar"
def sR : Str := Str.ofString "bfrange"
def lineOf : Row → List Str
  | .one low tg => [Str.ofString "begin" ++ Str.ofString "bfchar", hexT low, Str.ofString "", hexT tg, Str.ofString "end" ++ Str.ofString "bfchar"]
  | .run pre lo hi tp tl _ => [Str.ofString "begin" ++ Str.ofString "bfrange", hexT (pre ++ [lo]), hexT (pre ++ [hi]), hexT (tp ++ [tl]), Str.ofString "end" ++ Str.ofString "bfrange"]
theorem jn5 (x a b c d e : List Nat) : ∀ rest : List (List Nat), jn x (a :: b :: c :: d :: e :: rest) = a ++ x ++ (b ++ x ++ (c ++ x ++ (d ++ x ++ (match rest with | [] => e | _ :: _ => e ++ x ++ jn x rest))))
  | [] => rfl
  | _ :: _ => rfl
theorem hexT_l (w : List UInt8) : (hexT w).cps.toList = 60 :: ((hexs w).map UInt8.toNat ++ [62]) := rfl
theorem word_txt : (Str.ofString "begin" ++ Str.ofString "bfchar").cps.toList = wBeginChar.map UInt8.toNat ∧ (Str.ofString "begin" ++ Str.ofString "bfrange").cps.toList = wBeginRange.map UInt8.toNat ∧ (Str.ofString "end" ++ Str.ofString "bfchar").cps.toList = wEndChar.map UInt8.toNat ∧ (Str.ofString "end" ++ Str.ofString "bfrange").cps.toList = wEndRange.map UInt8.toNat := by
  refine ⟨?_, ?_, ?_, ?_⟩ <;> decide +kernel
theorem text_eq (rows : List Row) : (Txt.join (Str.ofString " ") (rows.flatMap lineOf)).cps.toList = (txt rows).map UInt8.toNat := by
  obtain ⟨w1, w2, w3, w4⟩ := word_txt
  rw [txt_join]
  induction rows with
  | nil => rfl
  | cons r rs ih =>
    have key : ∀ e : List Nat, (match (rs.flatMap lineOf).map (·.cps.toList) with | [] => e | _ :: _ => e ++ (Str.ofString " ").cps.toList ++ jn (Str.ofString " ").cps.toList ((rs.flatMap lineOf).map (·.cps.toList))) = e ++ (aft rs).map UInt8.toNat := by
      intro e
      rw [ih]
      cases rs with
      | nil => simp [aft]
      | cons r' rs' =>
        have : ∃ y ys, ((r' :: rs').flatMap lineOf).map (fun s => s.cps.toList) = y :: ys := by cases r' <;> exact ⟨_, _, rfl⟩
        obtain ⟨y, ys, hy⟩ := this
        rw [hy]
        show e ++ [32] ++ _ = e ++ (32 :: _)
        simp [txt]
    rw [List.flatMap_cons, List.map_append]
    cases r with
    | one low tg =>
      show jn _ (_ :: _ :: _ :: _ :: _ :: ((rs.flatMap lineOf).map (·.cps.toList))) = _
      rw [jn5, key]
      simp only [hexT_l, w1, w3]
      show _ ++ [32] ++ (_ ++ [32] ++ ([] ++ [32] ++ (_ ++ [32] ++ _))) = ((wBeginChar) ++ ([32] ++ (60 :: (hexs low ++ 62 :: ([32, 32] ++ (60 :: (hexs tg ++ 62 :: ([32] ++ (wEndChar ++ aft rs))))))))).map UInt8.toNat
      simp only [List.map_append, List.map_cons, List.map_nil, List.append_assoc, List.cons_append, List.nil_append]
      rfl
    | run pre lo hi tp tl many =>
      show jn _ (_ :: _ :: _ :: _ :: _ :: ((rs.flatMap lineOf).map (·.cps.toList))) = _
      rw [jn5, key]
      simp only [hexT_l, w2, w4]
      show _ ++ [32] ++ (_ ++ [32] ++ (_ ++ [32] ++ (_ ++ [32] ++ _))) = ((wBeginRange) ++ ([32] ++ (60 :: (hexs (pre ++ [lo]) ++ 62 :: ([32] ++ (60 :: (hexs (pre ++ [hi]) ++ 62 :: ([32] ++ (60 :: (hexs (tp ++ [tl]) ++ 62 :: ([32] ++ (wEndRange ++ aft rs)))))))))))).map UInt8.toNat
      simp only [List.map_append, List.map_cons, List.map_nil, List.append_assoc, List.cons_append, List.nil_append]
      rfl
def A128 (l : List UInt8) : Prop := ∀ c ∈ l, c.toNat < 128
theorem A128.app {l r : List UInt8} (h : A128 l) (h' : A128 r) : A128 (l ++ r) := fun c hc => (List.mem_append.mp hc).elim (h c) (h' c)
theorem A128.cons {x : UInt8} {r : List UInt8} (h : x.toNat < 128) (h' : A128 r) : A128 (x :: r) := fun c hc => (List.mem_cons.mp hc).elim (fun e => e ▸ h) (h' c)
theorem hexD_lt : ∀ v : Fin 16, (hexD v).toNat < 128 := by decide +kernel
theorem A128.hexs : ∀ w : List UInt8, A128 (hexs w)
  | [] => fun c hc => by cases hc
  | c :: r => .cons (hexD_lt ⟨c.toNat / 16, by have := c.toNat_lt; lia⟩) (.cons (hexD_lt ⟨c.toNat % 16, by lia⟩) (A128.hexs r))
theorem words128 : A128 wBeginChar ∧ A128 wBeginRange ∧ A128 wEndChar ∧ A128 wEndRange ∧ A128 [32] ∧ A128 [32, 32] := by unfold A128; decide +kernel
theorem row128 (r : Row) {s : List UInt8} (h : A128 s) : A128 (r.beg ++ r.body s) := by
  obtain ⟨w1, w2, w3, w4, w5, w6⟩ := words128
  cases r with
  | one low tg => exact w1.app (w5.app (.cons (by decide) ((A128.hexs _).app (.cons (by decide) (w6.app (.cons (by decide) ((A128.hexs _).app (.cons (by decide) (w5.app (w3.app h))))))))))
  | run pre lo hi tp tl many => exact w2.app (w5.app (.cons (by decide) ((A128.hexs _).app (.cons (by decide) (w5.app (.cons (by decide) ((A128.hexs _).app (.cons (by decide) (w5.app (.cons (by decide) ((A128.hexs _).app (.cons (by decide) (w5.app (w4.app h))))))))))))))
theorem aft128 : ∀ rs : List Row, A128 (aft rs)
  | [] => fun c hc => by cases hc
  | r :: rs => .cons (by decide) (row128 r (aft128 rs))
theorem txt128 : ∀ rs : List Row, A128 (txt rs)
  | [] => fun c hc => by cases hc
  | r :: rs => row128 r (aft128 rs)
theorem row_len {r : Row} (h : r.ok) (s : List UInt8) : (r.beg ++ r.body s).length ≤ 5000 + s.length := by
  cases r with
  | one low tg =>
    obtain ⟨_, h1, _, h2⟩ := h
    show (wBeginChar ++ ([32] ++ (60 :: (hexs low ++ 62 :: ([32, 32] ++ (60 :: (hexs tg ++ 62 :: ([32] ++ (wEndChar ++ s))))))))).length ≤ _
    simp only [List.length_append, List.length_cons, hexs_len, wBeginChar, wEndChar, List.length_nil]
    lia
  | run pre lo hi tp tl many =>
    obtain ⟨h1, _, _, _, h2, _⟩ := h
    show (wBeginRange ++ ([32] ++ (60 :: (hexs (pre ++ [lo]) ++ 62 :: ([32] ++ (60 :: (hexs (pre ++ [hi]) ++ 62 :: ([32] ++ (60 :: (hexs (tp ++ [tl]) ++ 62 :: ([32] ++ (wEndRange ++ s)))))))))))).length ≤ _
    simp only [List.length_append, List.length_cons, hexs_len, wBeginRange, wEndRange, List.length_nil]
    lia
theorem aft_len : ∀ {rs : List Row}, (∀ r ∈ rs, r.ok) → (aft rs).length ≤ 5001 * rs.length
  | [], _ => by simp [aft]
  | r :: rs, h => by
    have h1 := row_len (h r (.head _)) (aft rs)
    have h2 := aft_len (rs := rs) fun x hx => h x (.tail _ hx)
    simp only [aft, List.length_cons] at *
    lia
theorem txt_len {rs : List Row} (h : ∀ r ∈ rs, r.ok) : (txt rs).length ≤ 5001 * rs.length := by
  have := aft_len h
  cases rs with
  | nil => simp [txt]
  | cons r rs => simp only [aft, txt, List.length_cons] at *; lia
theorem jn_sum (x : List Nat) : ∀ l : List (List Nat), (l.map (·.length)).sum ≤ (jn x l).length
  | [] => by simp
  | [a] => by simp [jn]
  | a :: b :: r => by
    have := jn_sum x (b :: r)
    simp only [jn, List.map_cons, List.sum_cons, List.length_append] at *
    lia
theorem lines_fit {rs : List Row} (h : ∀ r ∈ rs, r.ok) (hz : rs.length ≤ 100) : ((rs.flatMap lineOf).map (·.length)).sum + (rs.flatMap lineOf).length * (Str.ofString " ").length ≤ 16777216 := by
  have h1 := jn_sum (Str.ofString " ").cps.toList ((rs.flatMap lineOf).map (·.cps.toList))
  rw [← txt_join, text_eq, List.length_map, List.map_map] at h1
  have h2 := txt_len h
  have h3 : ((rs.flatMap lineOf).map (·.length)) = (rs.flatMap lineOf).map ((fun l => l.length) ∘ fun s : Str => s.cps.toList) := List.map_congr_left fun s _ => by
    show s.cps.size = s.cps.toList.length
    simp
  have h4 : (rs.flatMap lineOf).length = 5 * rs.length := by
    clear h h1 h2 h3 hz
    induction rs with
    | nil => rfl
    | cons r rs ih => rw [List.flatMap_cons, List.length_append, ih]; cases r <;> simp [lineOf] <;> lia
  rw [h3, h4, show (Str.ofString " ").length = 1 from rfl]
  have h1 : ((rs.flatMap lineOf).map ((fun l => l.length) ∘ fun s : Str => s.cps.toList)).sum ≤ (txt rs).length := h1
  lia
section
variable {B : Base} {n : Nat} {env : Env} {m : Loc} {D R : Led} {Q : V → Led → Prop}
theorem gi_cut_base {r : Addr} {vs : Array Value} {xs : List V} {lo hi : Option Int} (hb : B.h₀.IsList r vs) (hv : VRs B.h₀ xs vs.toList) (hz : xs.length ≤ 16777216) (h : ∀ q, Q (.ref q) ((q, .list (cut lo hi xs)) :: D)) : GI B n (.raw (.ref r)) (.slc lo hi) D Q := fun s a b l ra rb A hA => by
  have hl : s.heap.IsList r vs := let ⟨o, e, k⟩ := hb; ⟨o, l.base _ _ e, k⟩
  have q := hv.mono l.baseTup
  have hs : vs.size = xs.length := by rw [← Array.length_toList]; exact q.length.symm
  cases ra; cases rb with | slc sl pl pu =>
  refine wpAny_getItem_list_slice hl sl (part_of pl) (part_of pu) .none (by simp) ?_ (by rw [hs]; exact hz)
  rw [kms_pick_eq]
  exact l.newList' (vs := (kms_pick vs.toList lo hi).toArray) (by simpa using q.cut lo hi) fun s' r => ⟨_, h _, r⟩
theorem sb_base {value slice : Expr} {r : Addr} {vs : Array Value} {i : V} (hb : B.h₀.IsList r vs) (h : GI B n (.raw (.ref r)) i D Q) : SB B n value slice (.raw (.ref r)) i D Q :=
  sb_of (fun s a l ra => by
    have hl : s.heap.IsList r vs := let ⟨o, e, k⟩ := hb; ⟨o, l.base _ _ e, k⟩
    cases ra; exact hl.typeIs) PySem.F.slot_list_getitem.lookup h
theorem eqs_keys {k : Nat} : ∀ ks : List (Nat × Nat), EQs D (k + 1) (ks.map keyV) (ks.map keyV) true
  | [] => .nil
  | p :: r => by
    have h1 : EQ D k (V.int p.1) (V.int p.1) true := by have := EQ.int (D := D) k p.1 p.1; rwa [decide_eq_true rfl] at this
    have h2 : EQ D k (V.int p.2) (V.int p.2) true := by have := EQ.int (D := D) k p.2 p.2; rwa [decide_eq_true rfl] at this
    have : EQ D (k + 1) (keyV p) (keyV p) true := EQ.tup (EQs.cons h1 (EQs.cons h2 .nil))
    exact EQs.cons this (eqs_keys r)
theorem eqs_byts {k : Nat} : ∀ ts : List (List UInt8), EQs D k (ts.map V.byt) (ts.map V.byt) true
  | [] => .nil
  | w :: r => by
    have h1 : EQ D k (V.byt w) (V.byt w) true := by have := EQ.byt (D := D) k w w; rwa [decide_eq_true rfl] at this
    exact EQs.cons h1 (eqs_byts r)
def stL (i : Nat) : Stmt := ((bodyOf (sd 72))[i]?).getD (.Pass ⟨0, 0, 0, 0⟩)
abbrev mLaw (v0 v1 v2 v3 v4 v5 v6 v7 v8 v9 v10 v11 v12 v13 v14 : V) : Loc := [((Str.ofString "script"), .v v0), ((Str.ofString "pen"), .v v1), ((Str.ofString "keys"), .v v2), ((Str.ofString "targets"), .v v3), ((Str.ofString "handed"), .v v4), ((Str.ofString "runs"), .v v5), ((Str.ofString "first"), .v v6), ((Str.ofString "end"), .v v7), ((Str.ofString "at"), .v v8), ((Str.ofString "fewest"), .v v9), ((Str.ofString "lines"), .v v10), ((Str.ofString "word"), .v v11), ((Str.ofString "low"), .v v12), ((Str.ofString "high"), .v v13), ((Str.ofString "heard"), .v v14), ((Str.ofString "_law_rows"), .g (.raw (.ref 538))), ((Str.ofString "list"), .g (.raw (.type "list"))), ((Str.ofString "runs_of"), .g (.raw (.ref 524))), ((Str.ofString "_law_is_range"), .g (.raw (.ref 545))), ((Str.ofString "len"), .g (.raw (.builtin "len"))), ((Str.ofString "range"), .g (.raw (.type "range"))), ((Str.ofString "min"), .g (.raw (.builtin "min"))), ((Str.ofString "hex_text"), .g (.raw (.ref 510))), ((Str.ofString "code_octets"), .g (.raw (.ref 437))), ((Str.ofString "read_cmap"), .g (.raw (.ref 503))), ((Str.ofString "bytes"), .g (.raw (.type "bytes"))), ((Str.ofString "dict"), .g (.raw (.type "dict")))]
variable {kl tl rl : Addr} {ks : List (Nat × Nat)} {ts : List (List UInt8)} {rs : List (Nat × Nat)} {K : KS} {v0 v1 v4 v6 v7 v8 v9 v10 v11 v12 v13 v14 : V}
open Classical in
theorem law6 (I : Is190 B) (hn : n < 50) (mk : (kl, O.list (ks.map keyV)) ∈ D) (mt : (tl, O.list (ts.map V.byt)) ∈ D) (mr : (rl, O.list (rs.map keyV)) ∈ D) (g : Good ks ts) (hz : ks.length ≤ 12) (hR : Runs (onAt ks ts) ks.length 0 rs) {Q : Loc → Led → Prop}
    (h : ∀ x y, Q (mLaw v0 v1 (.ref kl) (.ref tl) v4 (.ref rl) x y (.int (ks.length : Nat)) v9 v10 v11 v12 v13 v14) D) : EX B n env (stL 6) (mLaw v0 v1 (.ref kl) (.ref tl) v4 (.ref rl) v6 v7 (.int 0) v9 v10 v11 v12 v13 v14) D Q K := by
  show EX _ _ _ (.For _ _ _ _ _) _ _ _ _
  have tne : ∀ e, e < ks.length → (ts.getD e []).length ≠ 1 := fun e he => (g.tOk he).len.2
  refine ex_for ?_
  refine ev_name mem_5 nofun ?_
  refine ⟨_, .list mr, fun k m' D' => D' = D ∧ ∃ at_ x y, Runs (onAt ks ts) ks.length at_ (rs.drop k) ∧ m' = mLaw v0 v1 (.ref kl) (.ref tl) v4 (.ref rl) x y (.int (at_ : Nat)) v9 v10 v11 v12 v13 v14, ⟨rfl, 0, _, _, hR, rfl⟩, ?_, ?_⟩
  · rintro k m' D' e hx ⟨rfl, at_, x, y, hr, rfl⟩
    obtain ⟨hk, rfl⟩ := map_get hx
    refine ⟨.list mr, ?_⟩
    rw [List.drop_eq_getElem_cons hk] at hr
    obtain ⟨⟨i, j⟩, hij⟩ : ∃ p, p = rs[k] := ⟨_, rfl⟩
    rw [← hij] at hr ⊢
    cases hr with
    | step h1 h2 h3 h4 h5 =>
      refine as_pair (.there (.there (.there (.there (.there (.there .here)))))) (.there (.there (.there (.there (.there (.there (.there .here))))))) ?_
      refine xs_if ?_
      refine et_bool ?_
      refine at_orp (pb_cmp (pv_name mem_6 nofun) (pv_name mem_8 nofun) cmp_ne) ?_
      refine ite_dec (fun q => absurd rfl q) (fun _ => ?_)
      refine at_or ?_
      refine et_not ?_
      refine et_plain (fun _ => rfl) ?_
      refine ev_callp mem_18 (ck_at I (by decide)) (pa_cons (pv_name mem_2 nofun) (pa_cons (pv_name mem_3 nofun) (pa_cons (pv_name mem_6 nofun) (pa_cons (pv_name mem_7 nofun) (pa_nil))))) ?_
      refine CLC.cl (c_is_range (n := n) I (by lia) mk mt g.len (by lia) (fun w hw => by have := (g.tg w hw).len; lia) h1 h2 ?_)
      rw [decide_eq_true (rg_run h1 h3 fun e he => tne e (by lia))]
      refine tru_bool ?_
      refine ite_nt ?_
      refine at_nil_or ?_
      refine ite_f ?_
      refine xs_nil ?_
      refine xs_asg (pv_name mem_7 nofun) setl_8 ?_
      refine xs_nil ?_
      exact ⟨rfl, j, _, _, h5, rfl⟩
  · rintro m' D' ⟨rfl, at_, x, y, hr, rfl⟩
    refine ⟨.list mr, ?_⟩
    rw [List.length_map, List.drop_length] at hr
    cases hr
    exact h _ _
abbrev fwL (rs : List (Nat × Nat)) (e : Nat) : List V := (List.range e).map fun x => V.int ((cnt rs x : Nat) : Int)
open Classical in
theorem law9 {fl : Addr} (I : Is190 B) (hn : n < 50) (he : env.scope = scopeOf (sd 72)) (mk : (kl, O.list (ks.map keyV)) ∈ R) (mt : (tl, O.list (ts.map V.byt)) ∈ R) (g : Good ks ts) (hz : ks.length ≤ 12) (hR : Runs (onAt ks ts) ks.length 0 rs) {Q : Loc → Led → Prop} {v5 : V}
    (h : ∀ y, Q (mLaw v0 v1 (.ref kl) (.ref tl) v4 v5 v6 y v8 (.ref fl) v10 v11 v12 v13 v14) ((fl, .list (fwL rs (ks.length + 1))) :: R)) : EX B n env (stL 9) (mLaw v0 v1 (.ref kl) (.ref tl) v4 v5 v6 v7 v8 (.ref fl) v10 v11 v12 v13 v14) ((fl, .list [.int 0]) :: R) (fun m' D' => ∃ E, Part E D' ∧ Q m' E) K := by
  show EX _ _ _ (.For _ _ _ _ _) _ _ _ _
  have tne : ∀ e, e < ks.length → (ts.getD e []).length ≠ 1 := fun e he => (g.tOk he).len.2
  have tl4 : ∀ w ∈ ts, w.length ≤ 1000 := fun w hw => by have := (g.tg w hw).len; lia
  refine ex_for ?_
  refine ev_calle mem_20 (ck_type _) ?_
  refine ar_cons ?_
  refine ev_int ?_
  refine ar_cons ?_
  refine ev_bin ?_
  refine ev_callp mem_19 (ck_builtin _) (pa_cons (pv_name mem_2 nofun) (pa_nil)) ?_
  refine cl_len_list (mem_tl mk) (by rw [List.length_map]; lia) ?_
  rw [List.length_map]
  refine ev_int ?_
  refine bin_add ?_
  refine ar_nil ?_
  refine cl_range2 ?_
  have hsm : Builtin.Range.small 1 ((ks.length : Int) + 1) 1 = true := small_ok (by decide) (by decide) (by lia) (by lia) (by decide) (by decide)
  have hlen : (rngItems 1 ((ks.length : Int) + 1) 1).length = ks.length := by
    unfold rngItems; rw [List.length_map, List.length_range, rs1 _ _ (by lia)]; lia
  refine ⟨_, .rng hsm, fun k m' D' => Part ((fl, .list (fwL rs (k + 1))) :: R) D' ∧ ∃ y, m' = mLaw v0 v1 (.ref kl) (.ref tl) v4 v5 v6 y v8 (.ref fl) v10 v11 v12 v13 v14, ⟨?_, _, rfl⟩, ?_, ?_⟩
  · have : fwL rs (0 + 1) = [.int 0] := by
      show [V.int ((cnt rs 0 : Nat) : Int)] = _
      rw [hR.cnt0 (Nat.le_refl _)]; rfl
    rw [this]; exact .refl _
  · rintro k m' D' e hx ⟨hp, y, rfl⟩
    obtain ⟨rfl, hk⟩ := rngItems_get hx
    rw [rs1 _ _ (by lia)] at hk
    have hke : k < ks.length := by lia
    obtain ⟨e, hee⟩ : ∃ e : Nat, e = k + 1 := ⟨_, rfl⟩
    rw [show ((1 : Int) + (k : Int) * 1) = (e : Int) by lia]
    rw [← hee] at hp
    have heN : e ≤ ks.length := by lia
    refine ⟨.rng hsm, as_name (.there (.there (.there (.there (.there (.there (.there .here))))))) ?_⟩
    refine EXS.pre hp ?_
    refine xs_expr ?_
    refine ev_methe (pv_name mem_9 nofun) (gm_append mem_0) (ck_builtin _) ?_
    refine ar_cons ?_
    refine ev_calle mem_21 (ck_builtin _) ?_
    refine ar_cons ?_
    refine ev_comp (g := gt) I.g (mc := [((Str.ofString ".0"), .v .unb), ((Str.ofString "first"), .v .unb), ((Str.ofString "_law_is_range"), .g (.raw (.ref 545))), ((Str.ofString "end"), .v (.int e)), ((Str.ofString "fewest"), .v (.ref fl)), ((Str.ofString "keys"), .v (.ref kl)), ((Str.ofString "targets"), .v (.ref tl))]) rfl (by rw [he]; rfl) rfl ?_
    refine ev_callp mem_20 (ck_type _) (pa_cons (pv_name mem_7 nofun) (pa_nil)) ?_
    refine cl_range1 ?_
    refine ⟨_, .rng (small_ok (by decide) (by decide) (by lia) (by lia) (by decide) (by decide)), ?_⟩
    rw [rngItems1]
    refine ⟨by simp; lia, fun i ys D' => i ≤ e ∧ ys = (((List.range i).filter fun f => decide (RG ks ts f e)).map fun f => ((cnt rs f + 1 : Nat) : Int)).map V.int ∧ D' = (fl, .list (fwL rs e)) :: R, ⟨Nat.zero_le _, by simp, rfl⟩, ?_, ?_, ?_⟩
    · rintro i ys D' ⟨_, _, rfl⟩ _
      exact rngItems1 e ▸ .rng (small_ok (by decide) (by decide) (by lia) (by lia) (by decide) (by decide))
    · rintro j v ys D' hj ⟨_, rfl, rfl⟩
      obtain ⟨hj1, rfl⟩ := map_range_get hj
      refine ⟨_, .name (by decide) (.there .here), fun cenv => ?_⟩
      show ET _ _ _ _ _ _ _
      refine et_plain (fun _ => rfl) ?_
      refine ev_callp mem_2 (ck_at I (by decide)) (pa_cons (pv_name mem_5 nofun) (pa_cons (pv_name mem_6 nofun) (pa_cons (pv_name mem_1 nofun) (pa_cons (pv_name mem_3 nofun) (pa_nil))))) ?_
      refine CLC.cl (c_is_range (n := n) I (by lia) (mem_tl mk) (mem_tl mt) g.len (by lia) tl4 hj1 heN ?_)
      refine tru_bool ?_
      refine ite_dec (fun q => ?_) (fun q => ?_)
      · refine ev_bin ?_
        refine ev_sub ?_
        refine ev_name mem_4 nofun ?_
        refine ev_name mem_1 nofun ?_
        refine sb_list mem_0 ?_
        refine gi_list (x := .int ((cnt rs j : Nat) : Int)) mem_hd (by lia) (by rw [Int.toNat_natCast, List.getElem?_map, List.getElem?_range hj1]; rfl) ?_ (by lia)
        refine ev_int ?_
        refine bin_add ?_
        refine ⟨hj1, ?_, rfl⟩
        rw [List.range_succ, List.filter_append, List.map_append, List.map_append, List.filter_cons, if_pos (decide_eq_true q)]
        rfl
      · refine ⟨hj1, ?_, rfl⟩
        rw [List.range_succ, List.filter_append, List.map_append, List.map_append, List.filter_cons, if_neg (by rw [decide_eq_true_eq]; exact q)]
        simp
    · rintro ys D' ⟨_, rfl, rfl⟩ r
      simp only [List.length_map, List.length_range]
      obtain ⟨f, hf, hrg⟩ := has_min hR tne (e := e) (by lia) heN
      refine ar_nil ?_
      refine cl_min mem_hd (by
        rw [List.length_map]
        exact List.length_pos_of_mem (List.mem_filter.mpr ⟨List.mem_range.mpr hf, decide_eq_true hrg⟩)) fun M hM hl => ?_
      have hMe : M = ((cnt rs e : Nat) : Int) := by
        obtain ⟨f2, hf2, rfl⟩ := List.mem_map.mp hM
        obtain ⟨a1, a2⟩ := List.mem_filter.mp hf2
        have := fewest_eq hR tne (e := e) (by lia) heN (M := cnt rs f2 + 1) ⟨f2, List.mem_range.mp a1, of_decide_eq_true a2, rfl⟩ (fun f3 h3 h4 => by
          have := hl _ (List.mem_map.mpr ⟨f3, List.mem_filter.mpr ⟨List.mem_range.mpr h3, decide_eq_true h4⟩, rfl⟩)
          lia)
        rw [this]
      rw [hMe]
      refine ar_nil ?_
      refine cl_append (.there .here) (by simp; lia) ⟨rfl, ?_⟩
      refine xs_nil ?_
      refine ⟨?_, _, rfl⟩
      have : fwL rs (e + 1) = fwL rs e ++ [V.int ((cnt rs e : Nat) : Int)] := by
        show ((List.range (e + 1)).map _) = _
        rw [List.range_succ, List.map_append]; rfl
      rw [← hee, this]
      exact .tail
  · rintro m' D' ⟨hp, y, rfl⟩
    rw [hlen] at hp
    exact ⟨.rng hsm, _, hp, h _⟩
end
theorem Runs.each {P : Nat → Nat → Prop} {N s : Nat} {rs : List (Nat × Nat)} (h : Runs P N s rs) : ∀ p ∈ rs, p.1 < p.2 ∧ p.2 ≤ N ∧ ∀ e, p.1 < e → e < p.2 → P p.1 e := by
  induction h with
  | done => simp
  | step h1 h2 h3 _ _ ih =>
    intro p hp
    rcases List.mem_cons.mp hp with rfl | hp
    · exact ⟨h1, h2, h3⟩
    · exact ih p hp
theorem Runs.len {P : Nat → Nat → Prop} {N s : Nat} {rs : List (Nat × Nat)} (h : Runs P N s rs) : rs.length + s ≤ N := by
  induction h with
  | done => simp
  | step h1 h2 _ _ _ ih => simp only [List.length_cons]; lia
section
variable {ks : List (Nat × Nat)} {ts : List (List UInt8)}
theorem line_eq (g : Good ks ts) {i j : Nat} (hij : i < j) (hj : j ≤ ks.length) (h : ∀ e, i < e → e < j → onAt ks ts i e) : lineOf (rowOf ks ts (i, j)) =
    if j = i + 1 then [Str.ofString "begin" ++ Str.ofString "bfchar", hexT (octs (kAt ks i).1 (kAt ks i).2), Str.ofString "", hexT (tAt ts i), Str.ofString "end" ++ Str.ofString "bfchar"]
    else [Str.ofString "begin" ++ Str.ofString "bfrange", hexT (octs (kAt ks i).1 (kAt ks i).2), hexT (octs (kAt ks (j - 1)).1 (kAt ks (j - 1)).2), hexT (tAt ts i), Str.ofString "end" ++ Str.ofString "bfrange"] := by
  have e0 : rowOf ks ts (i, j) = if j = i + 1 then .one (octs (kAt ks i).1 (kAt ks i).2) (tAt ts i) else .run (preOf (kAt ks i)) (lastOf (kAt ks i)) (lastOf (kAt ks (j - 1))) (tAt ts i).dropLast ((tAt ts i).getLastD 0) (j - i) := rfl
  rw [e0]
  by_cases q : j = i + 1
  · rw [if_pos q, if_pos q]; rfl
  · rw [if_neg q, if_neg q]
    have ki := g.kOk (i := i) (by lia)
    have kj := g.kOk (i := j - 1) (by lia)
    obtain ⟨t0, r1, r2, r3, r4⟩ := on_in (g.tOk (i := j - 1) (by lia)).len.2 (h (j - 1) (by lia) (by lia))
    have := preOf_eq ki (k' := kAt ks (j - 1)) r1 r3
    show [_, hexT (preOf (kAt ks i) ++ [lastOf (kAt ks i)]), hexT (preOf (kAt ks i) ++ [lastOf (kAt ks (j - 1))]), hexT ((tAt ts i).dropLast ++ [(tAt ts i).getLastD 0]), _] = _
    rw [← octs_split ki, ← this, ← octs_split kj, ← split_last t0]
end
section
variable {B : Base} {n : Nat} {env : Env} {m : Loc} {D R : Led} {Q : V → Led → Prop}
variable {kl tl rl ln : Addr} {ks : List (Nat × Nat)} {ts : List (List UInt8)} {rs : List (Nat × Nat)} {K : KS} {v0 v1 v4 v6 v7 v8 v9 v10 v11 v12 v13 v14 : V}
theorem lines_len (ks : List (Nat × Nat)) (ts : List (List UInt8)) : ∀ rs : List (Nat × Nat), ((rs.map (rowOf ks ts)).flatMap lineOf).length = 5 * rs.length
  | [] => rfl
  | r :: rs => by
    rw [List.map_cons, List.flatMap_cons, List.length_append, lines_len ks ts rs]
    cases rowOf ks ts r <;> simp [lineOf] <;> lia
theorem law11 (I : Is190 B) (hn : n < 50) (mk : (kl, O.list (ks.map keyV)) ∈ R) (mt : (tl, O.list (ts.map V.byt)) ∈ R) (mr : (rl, O.list (rs.map keyV)) ∈ R) (g : Good ks ts) (hz : ks.length ≤ 12) (hR : Runs (onAt ks ts) ks.length 0 rs) {Q : Loc → Led → Prop}
    (h : ∀ x y w1 w2 w3, Q (mLaw v0 v1 (.ref kl) (.ref tl) v4 (.ref rl) x y v8 v9 (.ref ln) w1 w2 w3 v14) ((ln, .list (((rs.map (rowOf ks ts)).flatMap lineOf).map V.str)) :: R)) : EX B n env (stL 11) (mLaw v0 v1 (.ref kl) (.ref tl) v4 (.ref rl) v6 v7 v8 v9 (.ref ln) v11 v12 v13 v14) ((ln, .list []) :: R) (fun m' D' => ∃ E, Part E D' ∧ Q m' E) K := by
  show EX _ _ _ (.For _ _ _ _ _) _ _ _ _
  have hrl := hR.len
  refine ex_for ?_
  refine ev_name mem_5 nofun ?_
  refine ⟨_, .list (mem_tl mr), fun k m' D' => Part ((ln, .list ((((rs.take k).map (rowOf ks ts)).flatMap lineOf).map V.str)) :: R) D' ∧ ∃ x y w1 w2 w3, m' = mLaw v0 v1 (.ref kl) (.ref tl) v4 (.ref rl) x y v8 v9 (.ref ln) w1 w2 w3 v14, ⟨.refl _, _, _, _, _, _, rfl⟩, ?_, ?_⟩
  · rintro k m' D' e hx ⟨hp, x, y, w1, w2, w3, rfl⟩
    obtain ⟨hk, rfl⟩ := map_get hx
    refine ⟨.list (hp.mem (mem_tl mr)), ?_⟩
    obtain ⟨⟨i, j⟩, hij⟩ : ∃ p, p = rs[k] := ⟨_, rfl⟩
    obtain ⟨h1, h2, h3⟩ : i < j ∧ j ≤ ks.length ∧ ∀ e, i < e → e < j → onAt ks ts i e := by
      have := hR.each (i, j) (hij ▸ List.getElem_mem hk); exact this
    have hle := line_eq g h1 h2 h3
    have hll : ((((rs.take k).map (rowOf ks ts)).flatMap lineOf).map V.str).length ≤ 1000 := by
      rw [List.length_map, lines_len, List.length_take]; lia
    have hnext : ∀ l, lineOf (rowOf ks ts (i, j)) = l → ((((rs.take (k + 1)).map (rowOf ks ts)).flatMap lineOf).map V.str) = ((((rs.take k).map (rowOf ks ts)).flatMap lineOf).map V.str) ++ l.map V.str := by
      intro l hl
      rw [← List.take_append_getElem hk, ← hij, List.map_append, List.flatMap_append, List.map_append, ← hl]
      simp
    have gk : ∀ e : Nat, e < ks.length → ((ks.map keyV)[((e : Int)).toNat]? = some (keyV (kAt ks e))) := fun e he => by
      rw [Int.toNat_natCast, List.getElem?_map, getD_get (z := (0, 0)) he]; rfl
    have gt' : ∀ e : Nat, e < ks.length → ((ts.map V.byt)[((e : Int)).toNat]? = some (.byt (tAt ts e))) := fun e he => by
      rw [Int.toNat_natCast, List.getElem?_map, getD_get (z := []) (by have := g.len; lia)]; rfl
    have ok4 : ∀ e : Nat, e < ks.length → (kAt ks e).1 ≤ 2 := fun e he => by rcases g.kOk he with ⟨q, _⟩ | ⟨q, _⟩ <;> lia
    have ki := ok4 i (by lia)
    have kj := ok4 (j - 1) (by lia)
    have ti := (g.tOk (i := i) (by lia)).len
    refine as_pair (.there (.there (.there (.there (.there (.there .here)))))) (.there (.there (.there (.there (.there (.there (.there .here))))))) ?_
    refine EXS.pre hp ?_
    rw [← hij]
    by_cases hj : j = i + 1
    · rw [if_pos hj] at hle
      refine xs_asge ?_
      refine ev_if ?_
      refine pb (pb_cmp (pv_name mem_7 nofun) (pv_bin (pv_name mem_6 nofun) (pv_int) bin_add) cmp_eq) ?_
      refine ite_dec (fun _ => ?_) (fun q => by exfalso; lia)
      refine ev_str ?_
      refine ⟨_, setl_11, ?_⟩
      refine xs_asge ?_
      refine ev_calle mem_22 (ck_at I (by decide)) ?_
      refine ar_cons ?_
      refine ev_calle mem_23 (ck_at I (by decide)) ?_
      refine ar_cons ?_
      refine ev_sub ?_
      refine ev_sub ?_
      refine ev_name mem_2 nofun ?_
      refine ev_name mem_6 nofun ?_
      refine sb_list (tl_1 mk) ?_
      refine gi_list (mem_tl mk) (by lia) (gk i (by lia)) ?_ (by lia)
      refine ev_int ?_
      refine sb_tup ?_
      refine gi_tup (by decide) rfl ?_ (by decide)
      refine ar_cons ?_
      refine ev_sub ?_
      refine ev_sub ?_
      refine ev_name mem_2 nofun ?_
      refine ev_name mem_6 nofun ?_
      refine sb_list (tl_1 mk) ?_
      refine gi_list (mem_tl mk) (by lia) (gk i (by lia)) ?_ (by lia)
      refine ev_int ?_
      refine sb_tup ?_
      refine gi_tup (by decide) rfl ?_ (by decide)
      refine ar_nil ?_
      refine CLC.cl (c_code_octets (n := n) I (by lia) (by lia) ?_)
      refine ar_nil ?_
      refine CLC.cl (c_hex_text (n := n) I (by lia) (by rw [octs_len]; lia) ?_)
      refine ⟨_, setl_12, ?_⟩
      refine xs_asge ?_
      refine ev_if ?_
      refine pb (pb_cmp (pv_name mem_7 nofun) (pv_bin (pv_name mem_6 nofun) (pv_int) bin_add) cmp_gt) ?_
      refine ite_dec (fun q => by exfalso; lia) (fun _ => ?_)
      refine ev_str ?_
      refine ⟨_, setl_13, ?_⟩
      refine xs_expr ?_
      refine ev_methe (pv_name mem_10 nofun) (gm_extend mem_0) (ck_builtin _) ?_
      refine ar_cons ?_
      refine ev_list ?_
      refine ar_cons ?_
      refine ev_bin ?_
      refine ev_str ?_
      refine ev_name mem_11 nofun ?_
      refine bin_add_str (by decide +kernel) ?_
      refine ar_cons ?_
      refine ev_name mem_12 nofun ?_
      refine ar_cons ?_
      refine ev_name mem_13 nofun ?_
      refine ar_cons ?_
      refine ev_calle mem_22 (ck_at I (by decide)) ?_
      refine ar_cons ?_
      refine ev_sub ?_
      refine ev_name mem_3 nofun ?_
      refine ev_name mem_6 nofun ?_
      refine sb_list (tl_1 mt) ?_
      refine gi_list (mem_tl mt) (by lia) (gt' i (by lia)) ?_ (by lia)
      refine ar_nil ?_
      refine CLC.cl (c_hex_text (n := n) I (by lia) (by lia) ?_)
      refine ar_cons ?_
      refine ev_bin ?_
      refine ev_str ?_
      refine ev_name mem_11 nofun ?_
      refine bin_add_str (by decide +kernel) ?_
      refine ar_nil ?_
      refine ⟨by simp, fun l5 => ?_⟩
      refine ar_nil ?_
      refine cl_extend mem_hd (.there .here) (by simp only [List.length_cons, List.length_nil]; lia) ⟨rfl, ?_⟩
      refine xs_nil ?_
      refine ⟨?_, _, _, _, _, _, rfl⟩
      rw [hnext _ hle]
      exact .tail
    · rw [if_neg hj] at hle
      refine xs_asge ?_
      refine ev_if ?_
      refine pb (pb_cmp (pv_name mem_7 nofun) (pv_bin (pv_name mem_6 nofun) (pv_int) bin_add) cmp_eq) ?_
      refine ite_dec (fun q => by exfalso; lia) (fun _ => ?_)
      refine ev_str ?_
      refine ⟨_, setl_11, ?_⟩
      refine xs_asge ?_
      refine ev_calle mem_22 (ck_at I (by decide)) ?_
      refine ar_cons ?_
      refine ev_calle mem_23 (ck_at I (by decide)) ?_
      refine ar_cons ?_
      refine ev_sub ?_
      refine ev_sub ?_
      refine ev_name mem_2 nofun ?_
      refine ev_name mem_6 nofun ?_
      refine sb_list (tl_1 mk) ?_
      refine gi_list (mem_tl mk) (by lia) (gk i (by lia)) ?_ (by lia)
      refine ev_int ?_
      refine sb_tup ?_
      refine gi_tup (by decide) rfl ?_ (by decide)
      refine ar_cons ?_
      refine ev_sub ?_
      refine ev_sub ?_
      refine ev_name mem_2 nofun ?_
      refine ev_name mem_6 nofun ?_
      refine sb_list (tl_1 mk) ?_
      refine gi_list (mem_tl mk) (by lia) (gk i (by lia)) ?_ (by lia)
      refine ev_int ?_
      refine sb_tup ?_
      refine gi_tup (by decide) rfl ?_ (by decide)
      refine ar_nil ?_
      refine CLC.cl (c_code_octets (n := n) I (by lia) (by lia) ?_)
      refine ar_nil ?_
      refine CLC.cl (c_hex_text (n := n) I (by lia) (by rw [octs_len]; lia) ?_)
      refine ⟨_, setl_12, ?_⟩
      refine xs_asge ?_
      refine ev_if ?_
      refine pb (pb_cmp (pv_name mem_7 nofun) (pv_bin (pv_name mem_6 nofun) (pv_int) bin_add) cmp_gt) ?_
      refine ite_dec (fun _ => ?_) (fun q => by exfalso; lia)
      refine ev_calle mem_22 (ck_at I (by decide)) ?_
      refine ar_cons ?_
      refine ev_calle mem_23 (ck_at I (by decide)) ?_
      refine ar_cons ?_
      refine ev_sub ?_
      refine ev_sub ?_
      refine ev_name mem_2 nofun ?_
      refine pv (pv_bin (pv_name mem_7 nofun) (pv_int) bin_sub) ?_
      refine sb_list (tl_1 mk) ?_
      rw [show ((((i, j) : Nat × Nat).2 : Nat) : Int) - 1 = ((j - 1 : Nat) : Int) by show (j : Int) - 1 = _; lia]
      refine gi_list (mem_tl mk) (by lia) (gk (j - 1) (by lia)) ?_ (by lia)
      refine ev_int ?_
      refine sb_tup ?_
      refine gi_tup (by decide) rfl ?_ (by decide)
      refine ar_cons ?_
      refine ev_sub ?_
      refine ev_sub ?_
      refine ev_name mem_2 nofun ?_
      refine pv (pv_bin (pv_name mem_7 nofun) (pv_int) bin_sub) ?_
      refine sb_list (tl_1 mk) ?_
      rw [show ((((i, j) : Nat × Nat).2 : Nat) : Int) - 1 = ((j - 1 : Nat) : Int) by show (j : Int) - 1 = _; lia]
      refine gi_list (mem_tl mk) (by lia) (gk (j - 1) (by lia)) ?_ (by lia)
      refine ev_int ?_
      refine sb_tup ?_
      refine gi_tup (by decide) rfl ?_ (by decide)
      refine ar_nil ?_
      refine CLC.cl (c_code_octets (n := n) I (by lia) (by lia) ?_)
      refine ar_nil ?_
      refine CLC.cl (c_hex_text (n := n) I (by lia) (by rw [octs_len]; lia) ?_)
      refine ⟨_, setl_13, ?_⟩
      refine xs_expr ?_
      refine ev_methe (pv_name mem_10 nofun) (gm_extend mem_0) (ck_builtin _) ?_
      refine ar_cons ?_
      refine ev_list ?_
      refine ar_cons ?_
      refine ev_bin ?_
      refine ev_str ?_
      refine ev_name mem_11 nofun ?_
      refine bin_add_str (by decide +kernel) ?_
      refine ar_cons ?_
      refine ev_name mem_12 nofun ?_
      refine ar_cons ?_
      refine ev_name mem_13 nofun ?_
      refine ar_cons ?_
      refine ev_calle mem_22 (ck_at I (by decide)) ?_
      refine ar_cons ?_
      refine ev_sub ?_
      refine ev_name mem_3 nofun ?_
      refine ev_name mem_6 nofun ?_
      refine sb_list (tl_1 mt) ?_
      refine gi_list (mem_tl mt) (by lia) (gt' i (by lia)) ?_ (by lia)
      refine ar_nil ?_
      refine CLC.cl (c_hex_text (n := n) I (by lia) (by lia) ?_)
      refine ar_cons ?_
      refine ev_bin ?_
      refine ev_str ?_
      refine ev_name mem_11 nofun ?_
      refine bin_add_str (by decide +kernel) ?_
      refine ar_nil ?_
      refine ⟨by simp, fun l5 => ?_⟩
      refine ar_nil ?_
      refine cl_extend mem_hd (.there .here) (by simp only [List.length_cons, List.length_nil]; lia) ⟨rfl, ?_⟩
      refine xs_nil ?_
      refine ⟨?_, _, _, _, _, _, rfl⟩
      rw [hnext _ hle]
      exact .tail
  · rintro m' D' ⟨hp, x, y, w1, w2, w3, rfl⟩
    rw [List.length_map, List.take_length] at hp
    exact ⟨.list (hp.mem (mem_tl mr)), _, hp, h _ _ _ _ _⟩
end
section
variable {B : Base} {n : Nat} {env : Env}
theorem c_law (I : Is190 B) (hn : n < 40) {sc : Addr} {vs : Array Value} {cells : List Int} (hb : B.h₀.IsList sc vs) (hv : VRs B.h₀ (cells.map V.int) vs.toList) (hz : cells.length ≤ 1000) : CLC B n (.raw (.ref 550)) [.raw (.ref sc)] [] (fun x D' => x = .bool true) := by
  refine en_law I (by lia) fun env he => ?_
  show EXS _ _ _ (_ :: _) _ _ _ _
  refine xs_asge ?_
  refine ev_list ?_
  refine ar_cons ?_
  refine ev_comp (g := gt) I.g (mc := [((Str.ofString ".0"), .v .unb), ((Str.ofString "cell"), .v .unb), ((Str.ofString "int"), .g (.raw (.type "int")))]) rfl (by rw [he]; rfl) rfl ?_
  refine ev_sub ?_
  refine ev_name mem_0 nofun ?_
  refine ev_slice ?_
  refine pt_none ?_
  refine pt_some ?_
  refine ev_int ?_
  refine ⟨_, rfl, ?_⟩
  refine sb_base hb (gi_cut_base hb hv (by rw [List.length_map]; lia) fun q => ?_)
  have hcut : cut none (some 40) (cells.map V.int) = (cells.take 40).map V.int := by
    rw [cut_upto _ (by decide), ← List.map_take]; rfl
  rw [hcut]
  obtain ⟨cs, hcs⟩ : ∃ cs, cs = cells.take 40 := ⟨_, rfl⟩
  have hcl : cs.length ≤ 40 := by rw [hcs, List.length_take]; lia
  rw [← hcs]
  refine ⟨_, .list mem_hd, by rw [List.length_map]; lia, fun i ys D' => i ≤ cs.length ∧ ys = (cs.take i).map V.int ∧ D' = [(q, .list (cs.map V.int))], ⟨Nat.zero_le _, rfl, rfl⟩, ?_, ?_, ?_⟩
  · rintro i ys D' ⟨_, _, rfl⟩ _
    exact .list mem_hd
  · rintro j v ys D' hj ⟨_, rfl, rfl⟩
    obtain ⟨hj1, rfl⟩ := map_get hj
    refine ⟨_, .name (by decide) (.there .here), fun cenv => ?_⟩
    show EV _ _ _ _ _ _ _
    refine ev_callp mem_2 (ck_type _) (pa_cons (pv_name mem_1 nofun) (pa_nil)) ?_
    refine cl_int ?_
    refine ⟨hj1, ?_, rfl⟩
    rw [← List.take_append_getElem hj1, List.map_append]; rfl
  rintro ys D' ⟨_, rfl, rfl⟩ r
  rw [List.length_map, List.take_length]
  refine ar_cons ?_
  refine ev_int ?_
  refine ar_cons ?_
  refine ev_int ?_
  refine ar_nil ?_
  refine ⟨by simp, fun p => ?_⟩
  refine ⟨_, setl_1, ?_⟩
  refine xs_cons ?_
  refine ex_assignT ?_
  refine ev_callp mem_15 (ck_at I (by decide)) (pa_cons (pv_name mem_1 nofun) (pa_nil)) ?_
  refine CLC.cl (c_law_rows (n := n + 1) (c := r) (cells := cs) I (by lia) mem_hd (by lia) fun kl tl ks ts g hks => ?_)
  refine as_pair (.there (.there .here)) (.there (.there (.there .here))) ?_
  have gl := g.len
  have tl4 : ∀ w ∈ ts, w.length ≤ 1000 ∧ w.length ≠ 1 := fun w hw => ⟨by have := (g.tg w hw).len; lia, (g.tg w hw).len.2⟩
  refine xs_asge ?_
  refine ev_tuple ?_
  refine ar_cons ?_
  refine ev_callp mem_16 (ck_type _) (pa_cons (pv_name mem_2 nofun) (pa_nil)) ?_
  refine cl_list_list mem_hd (by rw [List.length_map]; lia) fun k2 => ?_
  refine ar_cons ?_
  refine ev_callp mem_16 (ck_type _) (pa_cons (pv_name mem_3 nofun) (pa_nil)) ?_
  refine cl_list_list (mem_tl (mem_tl mem_hd)) (by rw [List.length_map]; lia) fun t2 => ?_
  refine ar_nil ?_
  refine ⟨by simp, ?_⟩
  refine ⟨_, setl_4, ?_⟩
  refine xs_asge ?_
  refine ev_callp mem_17 (ck_at I (by decide)) (pa_cons (pv_name mem_2 nofun) (pa_cons (pv_name mem_3 nofun) (pa_nil))) ?_
  refine CLC.cl (c_runs_of (n := n + 1) I (by lia) (mem_tl (mem_tl mem_hd)) (mem_tl (mem_tl (mem_tl mem_hd))) gl (by lia) tl4 fun rl rs hR => ?_)
  refine ⟨_, setl_5, ?_⟩
  refine xs_if ?_
  refine et_bool ?_
  refine at_or ?_
  refine et_cmp ?_
  refine ev_tuplep (pa_cons (pv_name mem_2 nofun) (pa_cons (pv_name mem_3 nofun) (pa_nil))) ?_
  refine ⟨by simp, ?_⟩
  refine ev_name mem_4 nofun ?_
  have ek : ∀ D, (kl, O.list (ks.map keyV)) ∈ D → (k2, O.list (ks.map keyV)) ∈ D → EQ D 3 (.ref kl) (.ref k2) true := fun D h1 h2 => .lst h1 h2 (eqs_keys ks)
  have et : ∀ D, (tl, O.list (ts.map V.byt)) ∈ D → (t2, O.list (ts.map V.byt)) ∈ D → EQ D 3 (.ref tl) (.ref t2) true := fun D h1 h2 => .lst h1 h2 (eqs_byts ts)
  refine cmp_ne_tup (b := true) (k := 4) (.tup (.cons (a := true) (b := true) (ek _ (mem_tl (mem_tl (mem_tl mem_hd))) (mem_tl (mem_tl mem_hd))) (.cons (a := true) (b := true) (et _ (mem_tl (mem_tl (mem_tl (mem_tl mem_hd)))) (mem_tl mem_hd)) .nil))) (by decide) ?_
  refine tru_bool ?_
  refine ite_nt ?_
  refine at_or ?_
  refine et_cmp ?_
  have hrl := hR.len
  refine ev_comp (g := gt) I.g (mc := [((Str.ofString ".0"), .v .unb), ((Str.ofString "first"), .v .unb), ((Str.ofString "end"), .v .unb)]) rfl (by rw [he]; rfl) rfl ?_
  refine ev_name mem_5 nofun ?_
  refine ⟨_, .list mem_hd, by rw [List.length_map]; lia, fun i ys D' => ys = [] ∧ D' = [(rl, O.list (rs.map keyV)), (t2, O.list (ts.map V.byt)), (k2, O.list (ks.map keyV)), (kl, O.list (ks.map keyV)), (tl, O.list (ts.map V.byt)), (r, O.list (cs.map V.int)), (q, O.list (cs.map V.int))], ⟨rfl, rfl⟩, ?_, ?_, ?_⟩
  · rintro i ys D' ⟨_, rfl⟩ _
    exact .list mem_hd
  · rintro j v ys D' hj ⟨rfl, rfl⟩
    obtain ⟨hj1, rfl⟩ := map_get hj
    have h1 := (hR.each _ (List.getElem_mem hj1)).1
    refine ⟨_, .pair (by decide) (by decide) (.there .here) (.there (.there .here)), fun cenv => ?_⟩
    show ET _ _ _ _ _ _ _
    refine pb (pb_cmp (pv_name mem_2 nofun) (pv_name mem_1 nofun) cmp_le) ?_
    refine ite_dec (fun q => by exfalso; lia) (fun _ => ⟨rfl, rfl⟩)
  rintro ys D' ⟨rfl, rfl⟩ e1
  refine ev_listp (pa_nil) ?_
  refine ⟨by simp, fun e2 => ?_⟩
  refine cmp_ne_list (k := 1) (b := true) (.lst (k := 0) (mem_tl mem_hd) mem_hd .nil) (by decide) ?_
  refine tru_bool ?_
  refine ite_nt ?_
  refine at_nil_or ?_
  refine ite_f ?_
  refine xs_nil ?_
  refine xs_asg (pv_int) setl_8 ?_
  refine xs_cons ?_
  refine EX.pre (E := [(rl, O.list (rs.map keyV)), (kl, O.list (ks.map keyV)), (tl, O.list (ts.map V.byt))]) (.sub (.cons _ (.cons _ (.cons_cons _ (.cons _ (.cons _ (.cons_cons _ (.cons_cons _ (.cons _ (.cons _ (.refl _))))))))))) ?_
  refine EX.mono (law6 I (by lia) (mem_tl mem_hd) (mem_tl (mem_tl mem_hd)) mem_hd g hks hR (Q := fun m' D' => D' = [(rl, O.list (rs.map keyV)), (kl, O.list (ks.map keyV)), (tl, O.list (ts.map V.byt))] ∧ ∃ x y, m' = mLaw (.raw (.ref sc)) (.ref p) (.ref kl) (.ref tl) (.tup [.ref k2, .ref t2]) (.ref rl) x y (.int (ks.length : Nat)) .unb .unb .unb .unb .unb .unb) fun x y => ⟨rfl, _, _, rfl⟩) ?_
  rintro m' D' ⟨rfl, x, y, rfl⟩
  refine xs_if ?_
  refine et_cmp ?_
  refine ev_name mem_8 nofun ?_
  refine ev_callp mem_19 (ck_builtin _) (pa_cons (pv_name mem_2 nofun) (pa_nil)) ?_
  refine cl_len_list (mem_tl mem_hd) (by rw [List.length_map]; lia) ?_
  rw [List.length_map]
  refine cmp_ne ?_
  refine tru_bool ?_
  refine ite_dec (fun q => absurd rfl q) (fun _ => ?_)
  refine xs_nil ?_
  refine xs_asge ?_
  refine ev_listp (pa_cons (pv_int) (pa_nil)) ?_
  refine ⟨by simp, fun fl => ?_⟩
  refine ⟨_, setl_9, ?_⟩
  refine xs_cons ?_
  refine EX.mono (law9 I (by lia) he (mem_tl mem_hd) (mem_tl (mem_tl mem_hd)) g hks hR (Q := fun m' D' => D' = [(fl, O.list (fwL rs (ks.length + 1))), (rl, O.list (rs.map keyV)), (kl, O.list (ks.map keyV)), (tl, O.list (ts.map V.byt))] ∧ ∃ y, m' = mLaw (.raw (.ref sc)) (.ref p) (.ref kl) (.ref tl) (.tup [.ref k2, .ref t2]) (.ref rl) x y (.int (ks.length : Nat)) (.ref fl) .unb .unb .unb .unb .unb) fun y => ⟨rfl, _, rfl⟩) ?_
  rintro m' D' ⟨E, hE, rfl, y, rfl⟩
  refine EXS.pre hE ?_
  refine xs_asge ?_
  refine ev_listp (pa_nil) ?_
  refine ⟨by simp, fun ln => ?_⟩
  refine ⟨_, setl_10, ?_⟩
  refine xs_cons ?_
  refine EX.mono (law11 I (by lia) (mem_tl (mem_tl mem_hd)) (mem_tl (mem_tl (mem_tl mem_hd))) (mem_tl mem_hd) g hks hR (Q := fun m' D' => D' = [(ln, O.list (((rs.map (rowOf ks ts)).flatMap lineOf).map V.str)), (fl, O.list (fwL rs (ks.length + 1))), (rl, O.list (rs.map keyV)), (kl, O.list (ks.map keyV)), (tl, O.list (ts.map V.byt))] ∧ ∃ x y w1 w2 w3, m' = mLaw (.raw (.ref sc)) (.ref p) (.ref kl) (.ref tl) (.tup [.ref k2, .ref t2]) (.ref rl) x y (.int (ks.length : Nat)) (.ref fl) (.ref ln) w1 w2 w3 .unb) fun x y w1 w2 w3 => ⟨rfl, _, _, _, _, _, rfl⟩) ?_
  rintro m' D' ⟨E2, hE2, rfl, x, y, w1, w2, w3, rfl⟩
  refine EXS.pre hE2 ?_
  obtain ⟨rows, hrows⟩ : ∃ rows, rows = rs.map (rowOf ks ts) := ⟨_, rfl⟩
  have hrok : ∀ r ∈ rows, r.ok := hrows ▸ rows_ok g hR
  have hrlen : rows.length ≤ 12 := by rw [hrows, List.length_map]; lia
  have hents : entsOf rows = (List.range ks.length).map (eAt ks ts) := by
    rw [hrows, ents_all g hR, Nat.sub_zero]
    exact List.map_congr_left fun k _ => by rw [Nat.zero_add]
  have htl := txt_len hrok
  have htx := text_eq rows
  have hall : (Txt.join (Str.ofString " ") (rows.flatMap lineOf)).cps.all (· < 128) = true := by
    rw [← Array.all_toList, htx, List.all_eq_true]
    intro c hc
    obtain ⟨b, hb, rfl⟩ := List.mem_map.mp hc
    simpa using txt128 _ b hb
  rw [← hrows]
  clear hE hE2
  refine xs_asge ?_
  refine ev_calle mem_24 (ck_at I (by decide)) ?_
  refine ar_cons ?_
  refine ev_calle mem_25 (ck_type _) ?_
  refine ar_cons ?_
  refine ev_comp (g := gt) I.g (mc := [((Str.ofString ".0"), .v .unb), ((Str.ofString "sign"), .v .unb), ((Str.ofString "ord"), .g (.raw (.builtin "ord")))]) rfl (by rw [he]; rfl) rfl ?_
  refine ev_methp (pv_str) (gm_join) (ck_builtin _) (pa_cons (pv_name mem_10 nofun) (pa_nil)) ?_
  refine cl_join mem_hd (lines_fit hrok (by lia)) ?_
  refine ⟨_, .str hall, ?_⟩
  rw [htx]
  refine ⟨by simp; lia, fun i ys D' => i ≤ (txt rows).length ∧ ys = (((txt rows).take i).map fun c => (c.toNat : Int)).map V.int ∧ D' = [(ln, O.list ((rows.flatMap lineOf).map V.str)), (fl, O.list (fwL rs (ks.length + 1))), (rl, O.list (rs.map keyV)), (kl, O.list (ks.map keyV)), (tl, O.list (ts.map V.byt))], ⟨Nat.zero_le _, rfl, rfl⟩, ?_, ?_, ?_⟩
  · rintro i ys D' ⟨_, _, rfl⟩ _
    exact htx ▸ .str hall
  · rintro j v ys D' hj ⟨_, rfl, rfl⟩
    rw [List.map_map] at hj
    obtain ⟨hj1, rfl⟩ := map_get hj
    refine ⟨_, .name (by decide) (.there .here), fun cenv => ?_⟩
    show EV _ _ _ _ _ _ _
    refine ev_callp mem_2 (ck_builtin _) (pa_cons (pv_name mem_1 nofun) (pa_nil)) ?_
    refine cl_ord ?_
    refine ⟨hj1, ?_, rfl⟩
    rw [← List.take_append_getElem hj1, List.map_append, List.map_append]; rfl
  rintro ys D' ⟨_, rfl, rfl⟩ b1
  simp only [List.length_map, List.take_length]
  refine ar_nil ?_
  refine cl_bytes mem_hd (by simp; lia) (fun x hx => by
    obtain ⟨y, _, rfl⟩ := List.mem_map.mp hx
    have := y.toNat_lt; lia) ?_
  rw [byts_back]
  refine ar_nil ?_
  refine CLC.cl (c_read_cmap (n := n + 1) (rows := rows) I (by lia) (by lia) rfl hrok (by rw [hents]; exact keys_nodup g) (by rw [hents]; simp; lia) fun hx hdx sp ch => ?_)
  rw [hents]
  refine ⟨_, setl_14, ?_⟩
  refine xs_ret ?_
  refine ev_words ?_
  refine bv_and ?_
  refine ev_cmp ?_
  refine ev_callp mem_19 (ck_builtin _) (pa_cons (pv_name mem_5 nofun) (pa_nil)) ?_
  refine cl_len_list (mem_tl (mem_tl (mem_tl (mem_tl (mem_tl mem_hd))))) (by rw [List.length_map]; lia) ?_
  rw [List.length_map]
  refine ev_sub ?_
  refine ev_name mem_9 nofun ?_
  refine pv (pv_una (pv_int) una_neg) ?_
  refine sb_list mem_4 ?_
  refine gi_list_neg (x := .int ((cnt rs ks.length : Nat) : Int)) (mem_tl (mem_tl (mem_tl (mem_tl mem_hd)))) (by decide) (by simp; lia) ?_ ?_ (by decide)
  · rw [List.length_map, List.length_range, show ((-1 : Int) + ((ks.length + 1 : Nat) : Int)).toNat = ks.length by lia, List.getElem?_map, List.getElem?_range (by lia)]; rfl
  rw [hR.cntN]
  refine cmp_eq ?_
  refine tru_bool ?_
  refine ite_dec (fun _ => ?_) (fun q => absurd rfl q)
  refine bv_one ?_
  refine ev_cmp ?_
  refine ev_attr ?_
  refine ev_name mem_14 nofun ?_
  refine ga_chars I (mem_hd) rfl ?_
  refine ev_calle mem_26 (ck_type _) ?_
  refine ar_cons ?_
  obtain ⟨DD, hDD⟩ : ∃ DD : Led, DD = [(hx, O.inst 409 hdx [(Str.ofString "spaces", .ref sp), (Str.ofString "chars", .ref ch)]), (ch, O.dict ((List.range ks.length).map (eAt ks ts))), (b1, O.list (((txt rows).map fun c => (c.toNat : Int)).map V.int)), (ln, O.list ((rows.flatMap lineOf).map V.str)), (fl, O.list (fwL rs (ks.length + 1))), (rl, O.list (rs.map keyV)), (kl, O.list (ks.map keyV)), (tl, O.list (ts.map V.byt))] := ⟨_, rfl⟩
  have mk : (kl, O.list (ks.map keyV)) ∈ DD := by rw [hDD]; exact mem_tl (mem_tl (mem_tl (mem_tl (mem_tl (mem_tl mem_hd)))))
  have mt : (tl, O.list (ts.map V.byt)) ∈ DD := by rw [hDD]; exact mem_tl (mem_tl (mem_tl (mem_tl (mem_tl (mem_tl (mem_tl mem_hd))))))
  have md : (ch, O.dict ((List.range ks.length).map (eAt ks ts))) ∈ DD := by rw [hDD]; exact mem_tl mem_hd
  rw [← hDD]
  refine ev_comp (g := gt) I.g (mc := [((Str.ofString ".0"), .v .unb), ((Str.ofString "at"), .v .unb), ((Str.ofString "utf16"), .g (.raw (.ref 425))), ((Str.ofString "keys"), .v (.ref kl)), ((Str.ofString "targets"), .v (.ref tl))]) rfl (by rw [he]; rfl) rfl ?_
  refine ev_calle mem_20 (ck_type _) ?_
  refine ar_cons ?_
  refine ev_callp mem_19 (ck_builtin _) (pa_cons (pv_name mem_2 nofun) (pa_nil)) ?_
  refine cl_len_list mk (by rw [List.length_map]; lia) ?_
  rw [List.length_map]
  refine ar_nil ?_
  refine cl_range1 ?_
  refine ⟨_, .rng (small_ok (by decide) (by decide) (by lia) (by lia) (by decide) (by decide)), ?_⟩
  rw [rngItems1]
  refine ⟨by simp; lia, fun i ys D' => i ≤ ks.length ∧ ys = ((List.range i).map (eAt ks ts)).map pairV ∧ D' = DD, ⟨Nat.zero_le _, rfl, rfl⟩, ?_, ?_, ?_⟩
  · rintro i ys D' ⟨_, _, rfl⟩ _
    exact rngItems1 ks.length ▸ .rng (small_ok (by decide) (by decide) (by lia) (by lia) (by decide) (by decide))
  · rintro j v ys D' hj ⟨_, rfl, rfl⟩
    obtain ⟨hj1, rfl⟩ := map_range_get hj
    refine ⟨_, .name (by decide) (.there .here), fun cenv => ?_⟩
    show EV _ _ _ _ _ _ _
    refine ev_tuple ?_
    refine ar_cons ?_
    refine ev_sub ?_
    refine ev_name mem_3 nofun ?_
    refine ev_name mem_1 nofun ?_
    refine sb_list mk ?_
    refine gi_list (x := keyV (kAt ks j)) mk (by lia) (by rw [Int.toNat_natCast, List.getElem?_map, getD_get (z := (0, 0)) hj1]; rfl) ?_ (by lia)
    refine ar_cons ?_
    refine ev_calle mem_2 (ck_at I (by decide)) ?_
    refine ar_cons ?_
    refine ev_sub ?_
    refine ev_name mem_4 nofun ?_
    refine ev_name mem_1 nofun ?_
    refine sb_list mt ?_
    refine gi_list (x := .byt (tAt ts j)) mt (by lia) (by rw [Int.toNat_natCast, List.getElem?_map, getD_get (z := []) (by lia)]; rfl) ?_ (by lia)
    refine ar_nil ?_
    refine CLC.cl (c_utf16 (n := n + 1) I (by lia) (g.tOk hj1).okT (by have := (g.tOk hj1).len; lia) ?_)
    refine ar_nil ?_
    refine ⟨by simp, hj1, ?_, rfl⟩
    rw [List.range_succ, List.map_append, List.map_append]; rfl
  rintro ys D' ⟨_, rfl, rfl⟩ c2
  simp only [List.length_map, List.length_range]
  refine ar_nil ?_
  refine cl_dict mem_hd (keys_nodup g) (by simp; lia) fun c3 => ?_
  refine cmp_eq_dict (mem_tl (mem_tl md)) mem_hd (fun p hp => by
    obtain ⟨k, _, rfl⟩ := List.mem_map.mp hp
    exact ⟨_, rfl⟩) ?_
  rfl
end
theorem reads_ints {R : WRecords} {cl : Str → Option Addr} {h : Heap} : ∀ {ds : List WData} {vs : List Value} {as : List Addr}, WShape.hasItems R ds .int = true → ReadsAllW R cl h vs ds as → ∃ cells : List Int, VRs h (cells.map V.int) vs ∧ cells.length = ds.length := by
  intro ds
  induction ds with
  | nil => intro vs as _ r; obtain ⟨rfl, _⟩ := readsAllW_nil_inv r; exact ⟨[], .nil, rfl⟩
  | cons d ds ih =>
    intro vs as hs r
    rw [WShape.hasItems, Bool.and_eq_true] at hs
    obtain ⟨i, rfl⟩ := hasW_int hs.1
    obtain ⟨v, vs, a, b, rfl, _, r1, r2⟩ := readsAllW_cons_inv r
    obtain ⟨t, rfl, _⟩ := readsW_int_inv r1
    obtain ⟨cells, h1, h2⟩ := ih hs.2 r2
    exact ⟨i :: cells, .cons (.int i t) h1, congrArg (· + 1) h2⟩
abbrev RW190 : RowW := PySem.Challenge.rw_og0190_01.row.toRowW
theorem args_are {args : List WData} (h : RW190.claim.pre args = true) : ∃ ds, args = [.list ds] ∧ WShape.hasItems [] ds .int = true ∧ ds.length ≤ 63 := by
  have h1 := (pre_splitW h).1
  have h2 := (pre_splitW h).2
  obtain ⟨d, r, rfl, hd, hr⟩ := hasAllW_cons (show WShape.hasAll [] args [.list .int] = true from h1)
  obtain rfl := hasAllW_nil hr
  obtain ⟨ds, rfl, hi⟩ := hasW_list hd
  refine ⟨ds, rfl, hi, ?_⟩
  have h3 : WTm.holds [] (.and (.not (.lt (.lit (.int 63)) (.len (.arg 0)))) (.lit (.bool true))) { args := [.list ds] } = true := h2
  have hcond := (holds_andW h3).1
  have hcond' := condW_of hcond (by wtm_val)
  simp at hcond'
  lia
theorem mem_of_lookup {α : Type} : ∀ {l : List (Str × α)} {x : Str} {v : α}, l.lookup x = some v → (x, v) ∈ l
  | [], _, _, h => by simp at h
  | (y, w) :: r, x, v, h => by
    rw [List.lookup_cons] at h
    split at h
    · rename_i e; cases h; rw [eq_of_beq e]; exact .head _
    · exact .tail _ (mem_of_lookup h)
def freeNames : List Str := [(Str.ofString "len"), (Str.ofString "abs"), (Str.ofString "min"), (Str.ofString "ord"), (Str.ofString "chr"), (Str.ofString "isinstance"), (Str.ofString "int"), (Str.ofString "list"), (Str.ofString "bytes"), (Str.ofString "dict"), (Str.ofString "range")]
def freeOk (x : Str) : Bool := !startupNames.contains x && !(looseW q0 loose0).contains x && !((recsOf q0).map (·.name)).contains x && !((litsOf q0).map (·.1)).contains x && !((clssOf q0 (looseW q0 loose0)).map (·.name)).contains x
theorem free_all : freeNames.all freeOk = true := by kernel_rfl
theorem free_of {mg mb : Str → Option Value} {mean : ExcName → Option Value} {h : Heap} (T : Top q0 (looseW q0 loose0) mean mg mb h) {x : Str} (hx : x ∈ freeNames) : mg x = none := by
  have := List.all_eq_true.mp free_all x hx
  unfold freeOk at this
  simp only [Bool.and_eq_true, Bool.not_eq_true', List.contains_eq_mem, decide_eq_false_iff_not] at this
  obtain ⟨⟨⟨⟨a, b⟩, c⟩, d⟩, e⟩ := this
  exact T.free x a b c d e
theorem tup_ints {h : Heap} {a : Addr} {items : Array Value} {l : List Int} (e : h.get? a = some { cls := .type "tuple", data := .seq items }) (q : VRs h (l.map V.int) items.toList) : VR h (.tup (l.map V.int)) (.ref a) :=
  .tup ⟨_, e, rfl, 0, rfl⟩ q
theorem gok_all {B : Base} (kg : ∀ p ∈ kglobs, B.mg p.1 = some p.2) (fr : ∀ x ∈ freeNames, B.mg x = none) (bb : ∀ x : Str, x ≠ (Str.ofString "__name__") → B.mb x = bootBuiltins x) (hk : B.K = kf B.w.params) (kin : B.K.In B.h₀) : GOk B gt := by
  have t74 := kin 74 { cls := .type "tuple", data := .seq #[.int 0 270, .int 9 271, .int 10 272, .int 12 273, .int 13 274, .int 32 275] } (by rw [hk]; kernel_rfl)
  have t75 := kin 75 { cls := .type "tuple", data := .seq #[.int 40 277, .int 41 278, .int 60 279, .int 62 280, .int 91 281, .int 93 282, .int 123 283, .int 125 284, .int 47 285, .int 37 286] } (by rw [hk]; kernel_rfl)
  have t316 := kin 316 { cls := .type "tuple", data := .seq #[.int 91 611, .int 93 612, .int 123 613, .int 125 614] } (by rw [hk]; kernel_rfl)
  have kg2 := kg
  unfold kglobs at kg2
  have hB : ∀ x v, x ∈ freeNames → x ≠ (Str.ofString "__name__") → bootBuiltins x = some v → ∃ r, (B.mg x = some r ∨ (B.mg x = none ∧ B.mb x = some r)) ∧ VR B.h₀ (.raw v) r := fun x v h1 h2 h3 => ⟨v, .inr ⟨fr x h1, (bb x h2).trans h3⟩, .raw v⟩
  have all : ∀ p ∈ gt, p.2 ≠ .unb ∧ ∃ r, (B.mg p.1 = some r ∨ (B.mg p.1 = none ∧ B.mb p.1 = some r)) ∧ VR B.h₀ p.2 r := by
    unfold gt
    refine List.forall_mem_cons.mpr ⟨?_, ?_⟩
    · exact ⟨by nofun, _, .inl (kg2 (_, _) (by with_reducible repeat (first | exact mem_hd | refine mem_tl ?_))), tup_ints t74 (.cons (.int _ _) (.cons (.int _ _) (.cons (.int _ _) (.cons (.int _ _) (.cons (.int _ _) (.cons (.int _ _) .nil))))))⟩
    refine List.forall_mem_cons.mpr ⟨?_, ?_⟩
    · exact ⟨by nofun, _, .inl (kg2 (_, _) (by with_reducible repeat (first | exact mem_hd | refine mem_tl ?_))), tup_ints t75 (.cons (.int _ _) (.cons (.int _ _) (.cons (.int _ _) (.cons (.int _ _) (.cons (.int _ _) (.cons (.int _ _) (.cons (.int _ _) (.cons (.int _ _) (.cons (.int _ _) (.cons (.int _ _) .nil))))))))))⟩
    refine List.forall_mem_cons.mpr ⟨?_, ?_⟩
    · exact ⟨by nofun, _, .inl (kg2 (_, _) (by with_reducible repeat (first | exact mem_hd | refine mem_tl ?_))), .int _ _⟩
    refine List.forall_mem_cons.mpr ⟨?_, ?_⟩
    · exact ⟨by nofun, _, .inl (kg2 (_, _) (by with_reducible repeat (first | exact mem_hd | refine mem_tl ?_))), .int _ _⟩
    refine List.forall_mem_cons.mpr ⟨?_, ?_⟩
    · exact ⟨by nofun, _, .inl (kg2 (_, _) (by with_reducible repeat (first | exact mem_hd | refine mem_tl ?_))), .int _ _⟩
    refine List.forall_mem_cons.mpr ⟨?_, ?_⟩
    · exact ⟨by nofun, _, .inl (kg2 (_, _) (by with_reducible repeat (first | exact mem_hd | refine mem_tl ?_))), .int _ _⟩
    refine List.forall_mem_cons.mpr ⟨?_, ?_⟩
    · exact ⟨by nofun, _, .inl (kg2 (_, _) (by with_reducible repeat (first | exact mem_hd | refine mem_tl ?_))), .int _ _⟩
    refine List.forall_mem_cons.mpr ⟨?_, ?_⟩
    · exact ⟨by nofun, _, .inl (kg2 (_, _) (by with_reducible repeat (first | exact mem_hd | refine mem_tl ?_))), .int _ _⟩
    refine List.forall_mem_cons.mpr ⟨?_, ?_⟩
    · exact ⟨by nofun, _, .inl (kg2 (_, _) (by with_reducible repeat (first | exact mem_hd | refine mem_tl ?_))), .int _ _⟩
    refine List.forall_mem_cons.mpr ⟨?_, ?_⟩
    · exact ⟨by nofun, _, .inl (kg2 (_, _) (by with_reducible repeat (first | exact mem_hd | refine mem_tl ?_))), .int _ _⟩
    refine List.forall_mem_cons.mpr ⟨?_, ?_⟩
    · exact ⟨by nofun, _, .inl (kg2 (_, _) (by with_reducible repeat (first | exact mem_hd | refine mem_tl ?_))), .int _ _⟩
    refine List.forall_mem_cons.mpr ⟨?_, ?_⟩
    · exact ⟨by nofun, _, .inl (kg2 (_, _) (by with_reducible repeat (first | exact mem_hd | refine mem_tl ?_))), .int _ _⟩
    refine List.forall_mem_cons.mpr ⟨?_, ?_⟩
    · exact ⟨by nofun, _, .inl (kg2 (_, _) (by with_reducible repeat (first | exact mem_hd | refine mem_tl ?_))), .int _ _⟩
    refine List.forall_mem_cons.mpr ⟨?_, ?_⟩
    · exact ⟨by nofun, _, .inl (kg2 (_, _) (by with_reducible repeat (first | exact mem_hd | refine mem_tl ?_))), .int _ _⟩
    refine List.forall_mem_cons.mpr ⟨?_, ?_⟩
    · exact ⟨by nofun, _, .inl (kg2 (_, _) (by with_reducible repeat (first | exact mem_hd | refine mem_tl ?_))), .int _ _⟩
    refine List.forall_mem_cons.mpr ⟨?_, ?_⟩
    · exact ⟨by nofun, _, .inl (kg2 (_, _) (by with_reducible repeat (first | exact mem_hd | refine mem_tl ?_))), .int _ _⟩
    refine List.forall_mem_cons.mpr ⟨?_, ?_⟩
    · exact ⟨by nofun, _, .inl (kg2 (_, _) (by with_reducible repeat (first | exact mem_hd | refine mem_tl ?_))), .int _ _⟩
    refine List.forall_mem_cons.mpr ⟨?_, ?_⟩
    · exact ⟨by nofun, _, .inl (kg2 (_, _) (by with_reducible repeat (first | exact mem_hd | refine mem_tl ?_))), .int _ _⟩
    refine List.forall_mem_cons.mpr ⟨?_, ?_⟩
    · exact ⟨by nofun, _, .inl (kg2 (_, _) (by with_reducible repeat (first | exact mem_hd | refine mem_tl ?_))), .int _ _⟩
    refine List.forall_mem_cons.mpr ⟨?_, ?_⟩
    · exact ⟨by nofun, _, .inl (kg2 (_, _) (by with_reducible repeat (first | exact mem_hd | refine mem_tl ?_))), tup_ints t316 (.cons (.int _ _) (.cons (.int _ _) (.cons (.int _ _) (.cons (.int _ _) .nil))))⟩
    refine List.forall_mem_cons.mpr ⟨?_, ?_⟩
    · exact ⟨by nofun, _, .inl (kg2 (_, _) (by with_reducible repeat (first | exact mem_hd | refine mem_tl ?_))), .str _ _⟩
    refine List.forall_mem_cons.mpr ⟨?_, ?_⟩
    · exact ⟨by nofun, _, .inl (kg2 (_, _) (by with_reducible repeat (first | exact mem_hd | refine mem_tl ?_))), .raw _⟩
    refine List.forall_mem_cons.mpr ⟨?_, ?_⟩
    · exact ⟨by nofun, _, .inl (kg2 (_, _) (by with_reducible repeat (first | exact mem_hd | refine mem_tl ?_))), .raw _⟩
    refine List.forall_mem_cons.mpr ⟨?_, ?_⟩
    · exact ⟨by nofun, _, .inl (kg2 (_, _) (by with_reducible repeat (first | exact mem_hd | refine mem_tl ?_))), .raw _⟩
    refine List.forall_mem_cons.mpr ⟨?_, ?_⟩
    · exact ⟨by nofun, _, .inl (kg2 (_, _) (by with_reducible repeat (first | exact mem_hd | refine mem_tl ?_))), .raw _⟩
    refine List.forall_mem_cons.mpr ⟨?_, ?_⟩
    · exact ⟨by nofun, _, .inl (kg2 (_, _) (by with_reducible repeat (first | exact mem_hd | refine mem_tl ?_))), .raw _⟩
    refine List.forall_mem_cons.mpr ⟨?_, ?_⟩
    · exact ⟨by nofun, _, .inl (kg2 (_, _) (by with_reducible repeat (first | exact mem_hd | refine mem_tl ?_))), .raw _⟩
    refine List.forall_mem_cons.mpr ⟨?_, ?_⟩
    · exact ⟨by nofun, _, .inl (kg2 (_, _) (by with_reducible repeat (first | exact mem_hd | refine mem_tl ?_))), .raw _⟩
    refine List.forall_mem_cons.mpr ⟨?_, ?_⟩
    · exact ⟨by nofun, _, .inl (kg2 (_, _) (by with_reducible repeat (first | exact mem_hd | refine mem_tl ?_))), .raw _⟩
    refine List.forall_mem_cons.mpr ⟨?_, ?_⟩
    · exact ⟨by nofun, _, .inl (kg2 (_, _) (by with_reducible repeat (first | exact mem_hd | refine mem_tl ?_))), .raw _⟩
    refine List.forall_mem_cons.mpr ⟨?_, ?_⟩
    · exact ⟨by nofun, _, .inl (kg2 (_, _) (by with_reducible repeat (first | exact mem_hd | refine mem_tl ?_))), .raw _⟩
    refine List.forall_mem_cons.mpr ⟨?_, ?_⟩
    · exact ⟨by nofun, _, .inl (kg2 (_, _) (by with_reducible repeat (first | exact mem_hd | refine mem_tl ?_))), .raw _⟩
    refine List.forall_mem_cons.mpr ⟨?_, ?_⟩
    · exact ⟨by nofun, _, .inl (kg2 (_, _) (by with_reducible repeat (first | exact mem_hd | refine mem_tl ?_))), .raw _⟩
    refine List.forall_mem_cons.mpr ⟨?_, ?_⟩
    · exact ⟨by nofun, _, .inl (kg2 (_, _) (by with_reducible repeat (first | exact mem_hd | refine mem_tl ?_))), .raw _⟩
    refine List.forall_mem_cons.mpr ⟨?_, ?_⟩
    · exact ⟨by nofun, _, .inl (kg2 (_, _) (by with_reducible repeat (first | exact mem_hd | refine mem_tl ?_))), .raw _⟩
    refine List.forall_mem_cons.mpr ⟨?_, ?_⟩
    · exact ⟨by nofun, _, .inl (kg2 (_, _) (by with_reducible repeat (first | exact mem_hd | refine mem_tl ?_))), .raw _⟩
    refine List.forall_mem_cons.mpr ⟨?_, ?_⟩
    · exact ⟨by nofun, _, .inl (kg2 (_, _) (by with_reducible repeat (first | exact mem_hd | refine mem_tl ?_))), .raw _⟩
    refine List.forall_mem_cons.mpr ⟨?_, ?_⟩
    · exact ⟨by nofun, _, .inl (kg2 (_, _) (by with_reducible repeat (first | exact mem_hd | refine mem_tl ?_))), .raw _⟩
    refine List.forall_mem_cons.mpr ⟨?_, ?_⟩
    · exact ⟨by nofun, _, .inl (kg2 (_, _) (by with_reducible repeat (first | exact mem_hd | refine mem_tl ?_))), .raw _⟩
    refine List.forall_mem_cons.mpr ⟨?_, ?_⟩
    · exact ⟨by nofun, _, .inl (kg2 (_, _) (by with_reducible repeat (first | exact mem_hd | refine mem_tl ?_))), .raw _⟩
    refine List.forall_mem_cons.mpr ⟨?_, ?_⟩
    · exact ⟨by nofun, _, .inl (kg2 (_, _) (by with_reducible repeat (first | exact mem_hd | refine mem_tl ?_))), .raw _⟩
    refine List.forall_mem_cons.mpr ⟨?_, ?_⟩
    · exact ⟨by nofun, _, .inl (kg2 (_, _) (by with_reducible repeat (first | exact mem_hd | refine mem_tl ?_))), .raw _⟩
    refine List.forall_mem_cons.mpr ⟨?_, ?_⟩
    · exact ⟨by nofun, _, .inl (kg2 (_, _) (by with_reducible repeat (first | exact mem_hd | refine mem_tl ?_))), .raw _⟩
    refine List.forall_mem_cons.mpr ⟨?_, ?_⟩
    · exact ⟨by nofun, _, .inl (kg2 (_, _) (by with_reducible repeat (first | exact mem_hd | refine mem_tl ?_))), .raw _⟩
    refine List.forall_mem_cons.mpr ⟨?_, ?_⟩
    · exact ⟨by nofun, _, .inl (kg2 (_, _) (by with_reducible repeat (first | exact mem_hd | refine mem_tl ?_))), .raw _⟩
    refine List.forall_mem_cons.mpr ⟨?_, ?_⟩
    · exact ⟨by nofun, _, .inl (kg2 (_, _) (by with_reducible repeat (first | exact mem_hd | refine mem_tl ?_))), .raw _⟩
    refine List.forall_mem_cons.mpr ⟨?_, ?_⟩
    · exact ⟨by nofun, _, .inl (kg2 (_, _) (by with_reducible repeat (first | exact mem_hd | refine mem_tl ?_))), .raw _⟩
    refine List.forall_mem_cons.mpr ⟨?_, ?_⟩
    · exact ⟨by nofun, _, .inl (kg2 (_, _) (by with_reducible repeat (first | exact mem_hd | refine mem_tl ?_))), .raw _⟩
    refine List.forall_mem_cons.mpr ⟨?_, ?_⟩
    · exact ⟨by nofun, _, .inl (kg2 (_, _) (by with_reducible repeat (first | exact mem_hd | refine mem_tl ?_))), .raw _⟩
    refine List.forall_mem_cons.mpr ⟨?_, ?_⟩
    · exact ⟨by nofun, _, .inl (kg2 (_, _) (by with_reducible repeat (first | exact mem_hd | refine mem_tl ?_))), .raw _⟩
    refine List.forall_mem_cons.mpr ⟨?_, ?_⟩
    · exact ⟨by nofun, hB _ _ (by decide) (by decide) (by kernel_rfl)⟩
    refine List.forall_mem_cons.mpr ⟨?_, ?_⟩
    · exact ⟨by nofun, hB _ _ (by decide) (by decide) (by kernel_rfl)⟩
    refine List.forall_mem_cons.mpr ⟨?_, ?_⟩
    · exact ⟨by nofun, hB _ _ (by decide) (by decide) (by kernel_rfl)⟩
    refine List.forall_mem_cons.mpr ⟨?_, ?_⟩
    · exact ⟨by nofun, hB _ _ (by decide) (by decide) (by kernel_rfl)⟩
    refine List.forall_mem_cons.mpr ⟨?_, ?_⟩
    · exact ⟨by nofun, hB _ _ (by decide) (by decide) (by kernel_rfl)⟩
    refine List.forall_mem_cons.mpr ⟨?_, ?_⟩
    · exact ⟨by nofun, hB _ _ (by decide) (by decide) (by kernel_rfl)⟩
    refine List.forall_mem_cons.mpr ⟨?_, ?_⟩
    · exact ⟨by nofun, hB _ _ (by decide) (by decide) (by kernel_rfl)⟩
    refine List.forall_mem_cons.mpr ⟨?_, ?_⟩
    · exact ⟨by nofun, hB _ _ (by decide) (by decide) (by kernel_rfl)⟩
    refine List.forall_mem_cons.mpr ⟨?_, ?_⟩
    · exact ⟨by nofun, hB _ _ (by decide) (by decide) (by kernel_rfl)⟩
    refine List.forall_mem_cons.mpr ⟨?_, ?_⟩
    · exact ⟨by nofun, hB _ _ (by decide) (by decide) (by kernel_rfl)⟩
    refine List.forall_mem_cons.mpr ⟨?_, ?_⟩
    · exact ⟨by nofun, hB _ _ (by decide) (by decide) (by kernel_rfl)⟩
    exact fun p hp => by cases hp
  intro x v hl
  exact all _ (mem_of_lookup hl)
theorem caller_ok : AOk 0 callerA := ⟨rfl, by decide +kernel, by decide, by decide⟩
theorem law_holds {d : DefRec} {kwd : List (Str × Expr)} (hd : defOf q0 (Str.ofString "law") = some (d, kwd)) : WalkO q0 loose0 (fun _ _ => True) KSays PySem.Challenge.rw_og0190_01.row.toRowW d kwd fun f vs => PySem.call f vs := by
  intro w s₀ s₁ mg mb G Y a o pm cd doc dV kV h2 h3 h4 h5 h6 hgens args vals as hpre hlay hrd hwell hlow
  obtain ⟨ds, rfl, hi, hlen⟩ := args_are hpre
  obtain ⟨mg', hns, kg'⟩ := Y.g
  have hmg : mg' = mg := hns.eq_nsMap.trans G.T.g.eq_nsMap.symm
  subst hmg
  have hname := defOf_name hd
  have ha : a = 550 := by
    have := kg' ((Str.ofString "law"), (.ref 550 : Value)) (by unfold kglobs; with_reducible repeat (first | exact mem_hd | refine mem_tl ?_))
    rw [hname] at h6
    have h7 : mg' (Str.ofString "law") = some (.ref 550) := this
    rw [h7] at h6
    cases h6; rfl
  subst ha
  obtain ⟨v, vs', bs, cs, rfl, hv, hvs⟩ : ∃ v vs' bs cs, vals = v :: vs' ∧ ReadsW RW190.records (classAt s₀.heap) s₁.heap v (.list ds) bs ∧ ReadsAllW RW190.records (classAt s₀.heap) s₁.heap vs' [] cs := by
    cases hrd with
    | cons r rs => exact ⟨_, _, _, _, rfl, r, rs⟩
  have hnil : vs' = [] := by cases hvs; rfl
  subst hnil
  cases hv with
  | @list sc so svs sn _ sas e1 e2 e3 e4 =>
  obtain ⟨cells, c1, c2⟩ := reads_ints hi e4
  let B : Base := ⟨PySem.Challenge.rw_og0190_01.row.toRowW.prog, w, kf w.params, s₁.heap, s₁.os, mg', mb, kcodes⟩
  have ok : B.Ok := ⟨Y.k, G.T.g, G.T.b, G.T.nolimit, Y.sys, Y.c⟩
  have I : Is190 B := ⟨rfl, rfl, gok_all (B := B) kg' (fun x hx => free_of G.T hx) G.T.builtins rfl Y.k⟩
  have L : LH B [] s₁ := ⟨ok, fun _ _ e => e, fun p hp => (nomatch hp), .nil, fun a ha => (nomatch ha), hgens, rfl⟩
  have W := CLC.cl (c_law (B := B) (n := 0) I (by decide) (sc := sc) (vs := svs) (cells := cells) ⟨so, e1, e2, sn, e3⟩ c1 (by lia)) s₁ (.ref 550) [.ref sc] L (.raw _) (.cons (.raw _) .nil) callerA caller_ok
  refine wpAny_mono W (fun v s' h => ?_) (fun _ _ e => e.elim)
  obtain ⟨D', ⟨x, rfl, vx⟩, l', t'⟩ := h
  cases vx
  refine ⟨.inl ⟨.bool true, .bool true, [], rfl, fun cls => rfl, .bool true, ?_, fun _ => ⟨.nil, fun a ha => (nomatch ha)⟩⟩, .of_keep fun b o e => t'.keep b o (fun h => (nomatch h)) e, l'.os, .of_eq l'.gens⟩
  wrow_post
theorem law_final : PySem.Challenge.rw_og0190_01.Holds := head1 fun hd => law_holds hd
end Mine
theorem PySem.Challenge.cw_og0190_01_holds : PySem.Challenge.rw_og0190_01.Holds := by
  exact Mine.law_final
