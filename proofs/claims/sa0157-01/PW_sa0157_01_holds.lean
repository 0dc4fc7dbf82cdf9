import PyProof.Rows.All
import Wide.All
import OpenK.AllK
import Wide.FinOn
import PySem.Challenge.RW_sa0157_01
open PySem PySem.W PySem.Calls PyProof.Rows
set_option Elab.async false
set_option linter.unusedVariables false
set_option linter.unusedSimpArgs false
set_option linter.unusedSectionVars false
set_option genSizeOf false
namespace Mine
section
inductive MV where
  | none
  | bool (b : Bool)
  | int (i : Int)
  | str (s : Str)
  | tup (l : List MV)
  | ref (a : Addr)
  | inst (c : Nat) (a : Addr)
  deriving Inhabited
inductive SK where
  | i (n : Int)
  | s (x : Str)
  deriving DecidableEq, Inhabited
inductive DV where
  | v (l : List (SK × MV))
  | t (l : List (List SK × MV))
inductive Cell where
  | L (l : List MV)
  | D (v : DV) (o : Obj)
  | S (l : List Int)
  | A (c : Nat) (l : List (Option MV))
set_option genInjectivity false in
structure Ctx where
  prog : Program
  w : World
  base : Heap
  K : Frag
  mg : Str → Option Value
  mb : Str → Option Value
  cls : Nat → Addr
  attrs : Nat → List Str
structure Ctx.Ok (X : Ctx) : Prop where
  kin : X.K.In X.base
  lim : X.base.NoLimit
  g : X.base.Ns mainGlobals X.mg
  b : X.base.Ns builtinsNs X.mb
  mods : X.base.get? sysModules ≠ none
mutual
noncomputable def VRep (X : Ctx) (h : Heap) : MV → Value → Prop
  | .none, v => v = .none
  | .bool b, v => v = .bool b
  | .int i, v => ∃ t, v = .int i t
  | .str x, v => ∃ t, v = .str x t
  | .tup l, v => ∃ a vs, v = .ref a ∧ IsTup h a vs ∧ VReps X h l vs.toList
  | .ref a, v => v = .ref a
  | .inst c d, v => ∃ x, v = .ref x ∧ h.get? x = some (instObj (X.cls c) d)
noncomputable def VReps (X : Ctx) (h : Heap) : List MV → List Value → Prop
  | [], vs => vs = []
  | m :: ms, vs => ∃ v r, vs = v :: r ∧ VRep X h m v ∧ VReps X h ms r
end
section
variable {X : Ctx} {h : Heap}
theorem VReps.nil : VReps X h [] [] := by simp [VReps]
theorem VReps.cons {m : MV} {ms : List MV} {v : Value} {r : List Value} (a : VRep X h m v) (b : VReps X h ms r) : VReps X h (m :: ms) (v :: r) := by
  simp only [VReps]; exact ⟨v, r, rfl, a, b⟩
theorem VReps.inv {m : MV} {ms : List MV} {vs : List Value} (e : VReps X h (m :: ms) vs) : ∃ v r, vs = v :: r ∧ VRep X h m v ∧ VReps X h ms r := by
  simpa only [VReps] using e
theorem VReps.inv0 {vs : List Value} (e : VReps X h [] vs) : vs = [] := by simpa only [VReps] using e
theorem VReps.get : ∀ {l : List MV} {vs : List Value} {i : Nat} {m : MV}, VReps X h l vs → l[i]? = some m → ∃ v, vs[i]? = some v ∧ VRep X h m v
  | [], _, _, _, _, e => nomatch e
  | _ :: _, _, 0, _, e, hi => by obtain ⟨v, r, rfl, a, b⟩ := e.inv; cases hi; exact ⟨v, rfl, a⟩
  | _ :: _, _, i + 1, _, e, hi => by obtain ⟨v, r, rfl, a, b⟩ := e.inv; exact VReps.get (i := i) b hi
theorem VReps.length : ∀ {l : List MV} {vs : List Value}, VReps X h l vs → l.length = vs.length
  | [], _, e => by rw [e.inv0]; rfl
  | _ :: _, _, e => by obtain ⟨v, r, rfl, _, b⟩ := e.inv; exact congrArg (· + 1) (VReps.length b)
theorem VReps.append : ∀ {l l' : List MV} {vs vs' : List Value}, VReps X h l vs → VReps X h l' vs' → VReps X h (l ++ l') (vs ++ vs')
  | [], _, _, _, e, e' => by rw [e.inv0]; exact e'
  | _ :: _, _, _, _, e, e' => by obtain ⟨v, r, rfl, a, b⟩ := e.inv; exact VReps.cons a (VReps.append b e')
theorem VReps.one {m : MV} {v : Value} (a : VRep X h m v) : VReps X h [m] [v] := VReps.cons a VReps.nil
theorem VReps.set : ∀ {l : List MV} {vs : List Value} {i : Nat} {m : MV} {v : Value}, VReps X h l vs → VRep X h m v → VReps X h (l.set i m) (vs.set i v)
  | [], _, _, _, _, e, _ => by rw [e.inv0]; exact .nil
  | _ :: _, _, 0, _, _, e, hv => by obtain ⟨y, r, rfl, a, b⟩ := e.inv; exact VReps.cons hv b
  | _ :: _, _, i + 1, _, _, e, hv => by obtain ⟨y, r, rfl, a, b⟩ := e.inv; exact VReps.cons a (VReps.set b hv)
theorem VReps.drop : ∀ {n : Nat} {l : List MV} {vs : List Value}, VReps X h l vs → VReps X h (l.drop n) (vs.drop n)
  | 0, _, _, e => e
  | _ + 1, [], _, e => by rw [e.inv0]; exact .nil
  | n + 1, _ :: _, _, e => by obtain ⟨v, r, rfl, a, b⟩ := e.inv; exact VReps.drop (n := n) b
theorem VReps.take : ∀ {n : Nat} {l : List MV} {vs : List Value}, VReps X h l vs → VReps X h (l.take n) (vs.take n)
  | 0, _, _, _ => by rw [List.take_zero, List.take_zero]; exact .nil
  | _ + 1, [], _, e => by rw [e.inv0]; exact .nil
  | n + 1, _ :: _, _, e => by obtain ⟨v, r, rfl, a, b⟩ := e.inv; exact VReps.cons a (VReps.take (n := n) b)
theorem VReps.reverse : ∀ {l : List MV} {vs : List Value}, VReps X h l vs → VReps X h l.reverse vs.reverse
  | [], _, e => by rw [e.inv0]; exact .nil
  | _ :: _, _, e => by
    obtain ⟨v, r, rfl, a, b⟩ := e.inv
    rw [List.reverse_cons, List.reverse_cons]
    exact VReps.append (VReps.reverse b) (VReps.one a)
end
noncomputable abbrev MH := Addr → Option Cell
noncomputable def MH.set (H : MH) (a : Addr) (c : Cell) : MH := fun b => if b = a then some c else H b
theorem MH.set_self (H : MH) (a : Addr) (c : Cell) : H.set a c a = some c := if_pos rfl
theorem MH.set_ne (H : MH) {a b : Addr} (c : Cell) (h : b ≠ a) : H.set a c b = H b := if_neg h
noncomputable def SK.is : SK → Value → Bool
  | .i n, v => Value.isInt n v
  | .s x, v => Value.isStr v x
noncomputable def SK.hash (w : World) : SK → Int
  | .i n => hashInt n
  | .s x => hashStr w x
theorem SK.shapeI {n : Int} {v : Value} (h : SK.is (.i n) v = true) : ∃ t, v = .int n t := Value.isInt_shape h
theorem isStr_shape {x : Str} {v : Value} (h : Value.isStr v x = true) : ∃ t, v = .str x t := by
  cases v with
  | str y t => exact ⟨t, by rw [eq_of_beq (show (y == x) = true from h)]⟩
  | _ => cases h
theorem SK.shapeS {x : Str} {v : Value} (h : SK.is (.s x) v = true) : ∃ t, v = .str x t := isStr_shape h
theorem eqBool_int_str {prog : Program} {w : World} {A : Around} {E : Value → Shared → Prop} {s : Shared} {n : Int} {x : Str} {t u : Tok} {Q : Bool → Shared → Prop} (h : Q false s) :
    wpAny (model prog w) A (eqBool (.int n t) (.str x u)) Q E s := by
  unfold eqBool
  rw [if_neg (by simp)]
  exact wpAny_bind (cmp_ofEq (EqMixed.eq_int_str (wpAny_truthy_bool h)))
theorem eqBool_str_int {prog : Program} {w : World} {A : Around} {E : Value → Shared → Prop} {s : Shared} {n : Int} {x : Str} {t u : Tok} {Q : Bool → Shared → Prop} (h : Q false s) :
    wpAny (model prog w) A (eqBool (.str x u) (.int n t)) Q E s := by
  unfold eqBool
  rw [if_neg (by simp)]
  exact wpAny_bind (cmp_ofEq (EqMixed.eq_str_int (wpAny_truthy_bool h)))
theorem dec_eq {p q : Prop} [Decidable p] [Decidable q] (h : p ↔ q) {P : Bool → Prop} (x : P (decide p)) : P (decide q) := by
  rw [decide_eq_decide.mpr h.symm]; exact x
noncomputable def skKind (prog : Program) (w : World) : PySem.KeyKind prog w SK where
  is := SK.is
  hash := SK.hash w
  inj := fun v a b ha hb => by
    cases a with
    | i n =>
      obtain ⟨t, rfl⟩ := SK.shapeI ha
      cases b with
      | i m => obtain ⟨_, e⟩ := SK.shapeI hb; cases e; rfl
      | s y => cases hb
    | s x =>
      obtain ⟨t, rfl⟩ := SK.shapeS ha
      cases b with
      | i m => cases hb
      | s y => obtain ⟨_, e⟩ := SK.shapeS hb; cases e; rfl
  byValue := fun k v h => by
    cases k with
    | i n => obtain ⟨t, rfl⟩ := SK.shapeI h; rfl
    | s x => obtain ⟨t, rfl⟩ := SK.shapeS h; rfl
  pyHash := fun {_ _ _ k _ _} hv h => by
    cases k with
    | i n => obtain ⟨t, rfl⟩ := SK.shapeI hv; exact wpAny_pyHash_int h
    | s x => obtain ⟨t, rfl⟩ := SK.shapeS hv; exact wpAny_pyHash_str h
  eqBool := fun {_ _ _ a b _ _ Q} hu hv h => by
    cases a with
    | i n =>
      obtain ⟨t, rfl⟩ := SK.shapeI hu
      cases b with
      | i m => obtain ⟨u, rfl⟩ := SK.shapeI hv; exact wpAny_eqBool_int (dec_eq (P := fun b => Q b _) ⟨fun e => SK.i.inj e, congrArg SK.i⟩ h)
      | s y => obtain ⟨u, rfl⟩ := SK.shapeS hv; exact eqBool_int_str h
    | s x =>
      obtain ⟨t, rfl⟩ := SK.shapeS hu
      cases b with
      | i m => obtain ⟨u, rfl⟩ := SK.shapeI hv; exact eqBool_str_int h
      | s y => obtain ⟨u, rfl⟩ := SK.shapeS hv; exact wpAny_eqBool_str (dec_eq (P := fun b => Q b _) ⟨fun e => SK.s.inj e, congrArg SK.s⟩ h)
  «strs» := fun k x t v h => by
    cases k with
    | i n => cases h
    | s y => obtain ⟨u, e⟩ := SK.shapeS h; cases e; rfl
noncomputable def ARep (X : Ctx) (h : Heap) (a : Addr) (c : Nat) (l : List (Option MV)) : Prop :=
  ∃ es n m, h.get? a = some (⟨.type "dict", none, .dict es n, #[]⟩ : Obj) ∧ h.Ns a m ∧ es.size ≤ ((X.attrs c).filter fun x => (m x).isSome).length ∧ (∀ x, m x ≠ none → x ∈ X.attrs c) ∧
    ∀ (i : Nat) (x : Str) (mv : MV), (X.attrs c)[i]? = some x → l[i]? = some (some mv) → ∃ v, m x = some v ∧ VRep X h mv v
noncomputable def PRep (X : Ctx) (h : Heap) {K : Type} : List (K × MV) → List (K × Value) → Prop
  | [], kvs => kvs = []
  | (k, m) :: l, kvs => ∃ v r, kvs = (k, v) :: r ∧ VRep X h m v ∧ PRep X h l r
noncomputable def flat {K : Type} (xs : List (K × Addr × Value)) : List (K × Value) := xs.map fun x => (x.1, x.2.2)
noncomputable def DRep (X : Ctx) (h : Heap) (a : Addr) : DV → Prop
  | .v l => ∃ kvs, h.DictOf (skKind X.prog X.w) a kvs ∧ PRep X h l kvs
  | .t l => ∃ xs, h.DictOfH (tupleKind (skKind X.prog X.w)) a xs ∧ PRep X h l (flat xs)
noncomputable def SRep (X : Ctx) (h : Heap) (a : Addr) (l : List Int) : Prop :=
  l.Nodup ∧ ∃ n, n ≤ l.length ∧ h.SetOf (intKind X.prog X.w) a (fun k => decide (k ∈ l)) n
noncomputable def CRep (X : Ctx) (h : Heap) (a : Addr) : Cell → Prop
  | .L l => ∃ vs, h.PlainList a vs ∧ VReps X h l vs.toList
  | .D v o => h.get? a = some o ∧ DRep X h a v
  | .S l => SRep X h a l
  | .A c l => ARep X h a c l
structure Rep (X : Ctx) (H : MH) (h : Heap) : Prop where
  keep : ∀ b o, X.base.get? b = some o → h.get? b = some o
  fresh : ∀ a, H a ≠ none → X.base.get? a = none
  cell : ∀ a c, H a = some c → CRep X h a c
noncomputable def Froz (o : Obj) : Prop := (o.cls = .type "tuple" ∧ ∃ xs n, o.data = .seq xs n) ∨ o.data = .plain
noncomputable def Soft (o : Obj) : Prop := (o.cls = .type "list" ∧ ∃ xs n, o.data = .seq xs n) ∨ (∃ es n, o.data = .dict es n) ∨ (∃ es n t, o.data = .set es n t)
theorem Soft.thaw {o : Obj} (s : Soft o) : ¬ Froz o := by
  rcases s with ⟨c, _, _, d⟩ | ⟨_, _, d⟩ | ⟨_, _, _, d⟩ <;> rintro (⟨c', _, _, f⟩ | f)
  · rw [c] at c'; exact absurd (Value.type.inj c') (by decide)
  all_goals (rw [d] at f; cases f)
theorem Soft.noFields {o : Obj} (s : Soft o) (vs : Array Value) : o.data ≠ .fields vs := by
  intro f
  rcases s with ⟨c, _, _, d⟩ | ⟨_, _, d⟩ | ⟨_, _, _, d⟩ <;> (rw [d] at f; cases f)
theorem CRep.soft {X : Ctx} {h : Heap} {a : Addr} {c : Cell} (r : CRep X h a c) : ∃ o, h.get? a = some o ∧ Soft o := by
  cases c with
  | L l => obtain ⟨vs, ⟨n, e⟩, _⟩ := r; exact ⟨_, e, .inl ⟨rfl, _, _, rfl⟩⟩
  | D v o =>
    refine ⟨o, r.1, .inr (.inl ?_)⟩
    have e := r.1
    cases v with
    | v l => obtain ⟨_, kvs, ⟨o', es, ep, ho, _, hd, _⟩, _⟩ := r; rw [ho] at e; cases e; exact ⟨_, _, hd⟩
    | t l => obtain ⟨_, kvs, ⟨o', es, ep, ho, _, hd, _⟩, _⟩ := r; rw [ho] at e; cases e; exact ⟨_, _, hd⟩
  | S l => obtain ⟨_, n, _, ⟨o, es, ep, t, ho, _, hd, _⟩⟩ := r; exact ⟨o, ho, .inr (.inr ⟨_, _, _, hd⟩)⟩
  | A c l => obtain ⟨es, n, m, ho, _⟩ := r; exact ⟨_, ho, .inr (.inl ⟨_, _, rfl⟩)⟩
theorem Rep.soft {X : Ctx} {H : MH} {h : Heap} (r : Rep X H h) {b : Addr} (d : H b ≠ none) : ∃ o, h.get? b = some o ∧ Soft o := by
  cases e : H b with
  | none => exact (d e).elim
  | some c => exact (r.cell b c e).soft
theorem Rep.off {X : Ctx} {H : MH} {h : Heap} (r : Rep X H h) {b : Addr} {o : Obj} (ho : h.get? b = some o) (f : Froz o) : H b = none := by
  cases e : H b with
  | none => rfl
  | some c => obtain ⟨o', ho', s⟩ := (r.cell b c e).soft; rw [ho] at ho'; cases ho'; exact (s.thaw f).elim
theorem Rep.offFields {X : Ctx} {H : MH} {h : Heap} (r : Rep X H h) {b : Addr} {o : Obj} {vs : Array Value} (ho : h.get? b = some o) (hd : o.data = .fields vs) : H b = none := by
  cases e : H b with
  | none => rfl
  | some c => obtain ⟨o', ho', s⟩ := (r.cell b c e).soft; rw [ho] at ho'; cases ho'; exact (s.noFields vs hd).elim
theorem Rep.offNew {X : Ctx} {H : MH} {h : Heap} (r : Rep X H h) {a : Addr} (ha : h.get? a = none) : H a = none := by
  cases e : H a with
  | none => rfl
  | some c => obtain ⟨o', ho', _⟩ := (r.cell a c e).soft; rw [ha] at ho'; cases ho'
noncomputable abbrev KF (h h' : Heap) : Prop := ∀ b o, h.get? b = some o → Froz o → h'.get? b = some o
mutual
theorem VRep.keep {X : Ctx} {h h' : Heap} (k : KF h h') : ∀ {m : MV} {v : Value}, VRep X h m v → VRep X h' m v
  | .none, v, e => by simpa only [VRep] using e
  | .bool b, v, e => by simpa only [VRep] using e
  | .int i, v, e => by simpa only [VRep] using e
  | .str x, v, e => by simpa only [VRep] using e
  | .tup l, v, e => by
    simp only [VRep] at e ⊢
    obtain ⟨a, vs, rfl, ⟨o, ho, hc, n, hd⟩, hr⟩ := e
    exact ⟨a, vs, rfl, ⟨o, k _ _ ho (.inl ⟨hc, _, _, hd⟩), hc, n, hd⟩, VReps.keep k hr⟩
  | .ref a, v, e => by simpa only [VRep] using e
  | .inst c d, v, e => by
    simp only [VRep] at e ⊢
    obtain ⟨x, rfl, hx⟩ := e
    exact ⟨x, rfl, k _ _ hx (.inr rfl)⟩
theorem VReps.keep {X : Ctx} {h h' : Heap} (k : KF h h') : ∀ {l : List MV} {vs : List Value}, VReps X h l vs → VReps X h' l vs
  | [], vs, e => by simpa only [VReps] using e
  | m :: ms, vs, e => by
    simp only [VReps] at e ⊢
    obtain ⟨v, r, rfl, a, b⟩ := e
    exact ⟨v, r, rfl, VRep.keep k a, VReps.keep k b⟩
end
theorem PRep.keep {X : Ctx} {h h' : Heap} (k : KF h h') {K : Type} : ∀ {l : List (K × MV)} {kvs : List (K × Value)}, PRep X h l kvs → PRep X h' l kvs
  | [], _, e => e
  | (_, _) :: _, _, ⟨v, r, e, a, b⟩ => ⟨v, r, e, VRep.keep k a, PRep.keep k b⟩
theorem CRep.keep {X : Ctx} {h h' : Heap} {a : Addr} {c : Cell} (ka : ∀ o, h.get? a = some o → h'.get? a = some o) (kf : KF h h') (r : CRep X h a c) : CRep X h' a c := by
  cases c with
  | L l => obtain ⟨vs, ⟨n, e⟩, hr⟩ := r; exact ⟨vs, ⟨n, ka _ e⟩, VReps.keep kf hr⟩
  | D v o =>
    refine ⟨ka _ r.1, ?_⟩
    cases v with
    | v l => obtain ⟨_, ⟨kvs, ⟨o, es, ep, ho, e⟩, hr⟩⟩ := r; exact ⟨kvs, ⟨o, es, ep, ka o ho, e⟩, PRep.keep kf hr⟩
    | t l =>
      obtain ⟨_, ⟨xs, ⟨o, es, ep, ho, e1, e2, e3, e4, e5⟩, hr⟩⟩ := r
      refine ⟨xs, ⟨o, es, ep, ka o ho, e1, e2, e3, fun x hx => ?_, e5⟩, PRep.keep kf hr⟩
      obtain ⟨o, items, n, ho, hc, hd, hi⟩ := e4 x hx
      exact ⟨o, items, n, kf _ _ ho (.inl ⟨hc, _, _, hd⟩), hc, hd, hi⟩
  | S l => obtain ⟨nd, n, hn, ⟨o, es, ep, t, ho, e⟩⟩ := r; exact ⟨nd, n, hn, ⟨o, es, ep, t, ka o ho, e⟩⟩
  | A c l =>
    obtain ⟨es, n, m, ho, ⟨o, es', ep, ho', e⟩, hz, hm, hr⟩ := r
    refine ⟨es, n, m, ka _ ho, ⟨o, es', ep, ka o ho', e⟩, hz, hm, fun i x mv h1 h2 => ?_⟩
    obtain ⟨v, hv, hr'⟩ := hr i x mv h1 h2
    exact ⟨v, hv, VRep.keep kf hr'⟩
noncomputable abbrev But (a : Addr) (h h' : Heap) : Prop := ∀ b o, b ≠ a → h.get? b = some o → h'.get? b = some o
theorem But.kf {a : Addr} {h h' : Heap} (k : But a h h') (hf : ∀ o, h.get? a = some o → ¬ Froz o) : KF h h' := fun b o ho f => k b o (fun e => hf o (e ▸ ho) f) ho
structure Evo (F : Addr → Prop) (s : Shared) (H : MH) (s' : Shared) (H' : MH) : Prop where
  gens : s'.gens = s.gens
  os : s'.os = s.os
  drawn : s'.drawn = s.drawn
  keep : ∀ b o, s.heap.get? b = some o → H b = none → ¬ F b → s'.heap.get? b = some o
  dom : ∀ b, H' b ≠ none → H b ≠ none ∨ s.heap.get? b = none
  mono : ∀ b, s.heap.get? b ≠ none → s'.heap.get? b ≠ none
noncomputable abbrev NoF : Addr → Prop := fun _ => False
theorem Evo.refl (F : Addr → Prop) (s : Shared) (H : MH) : Evo F s H s H := ⟨rfl, rfl, rfl, fun _ _ e _ _ => e, fun _ d => .inl d, fun _ e => e⟩
theorem some_of_ne {α : Type} {o : Option α} (h : o ≠ none) : ∃ x, o = some x := by cases o with | none => exact (h rfl).elim | some x => exact ⟨x, rfl⟩
theorem ne_of_some {α : Type} {o : Option α} {x : α} (h : o = some x) : o ≠ none := by rw [h]; nofun
theorem Evo.trans {F : Addr → Prop} {s s' s'' : Shared} {H H' H'' : MH} (a : Evo F s H s' H') (b : Evo F s' H' s'' H'') : Evo F s H s'' H'' where
  gens := b.gens.trans a.gens
  os := b.os.trans a.os
  drawn := b.drawn.trans a.drawn
  keep := fun x o e d f => b.keep x o (a.keep x o e d f) (Classical.byContradiction fun q => (a.dom x q).elim (fun z => z d) (fun z => by rw [z] at e; cases e)) f
  dom := fun x d => (b.dom x d).elim (a.dom x) (fun z => .inr (Classical.byContradiction fun e => a.mono x e z))
  mono := fun x e => b.mono x (a.mono x e)
theorem Evo.off {F : Addr → Prop} {s s' : Shared} {H H' : MH} (a : Evo NoF s H s' H') : Evo F s H s' H' :=
  ⟨a.gens, a.os, a.drawn, fun b o e d _ => a.keep b o e d fun q => q, a.dom, a.mono⟩
theorem Evo.frozen {F : Addr → Prop} {X : Ctx} {s s' : Shared} {H H' : MH} (e : Evo F s H s' H') (r : Rep X H s.heap) (nf : ∀ b o, s.heap.get? b = some o → Froz o → ¬ F b) : KF s.heap s'.heap :=
  fun b o ho f => e.keep b o ho (r.off ho f) (nf b o ho f)
theorem Evo.write {F : Addr → Prop} {s : Shared} {H H' : MH} {h' : Heap} {n : Nat} {a : Addr} (hd : ∀ b, b ≠ a → H' b = H b) (hl : F a ∨ H a ≠ none ∨ s.heap.get? a = none) (hd' : H' a ≠ none → H a ≠ none ∨ s.heap.get? a = none) (hs : But a s.heap h')
    (hn : s.heap.get? a ≠ none → h'.get? a ≠ none) : Evo F s H { s with heap := h', toks := n } H' := by
  refine ⟨rfl, rfl, rfl, fun b o e nd nf => hs b o (fun q => ?_) e, fun b q => ?_, fun b e => ?_⟩
  · subst q
    rcases hl with hl | hl | hl
    · exact nf hl
    · exact hl nd
    · rw [hl] at e; cases e
  · by_cases z : b = a
    · subst z; exact hd' q
    · rw [hd b z] at q; exact .inl q
  · by_cases q : b = a
    · subst q; exact hn e
    · obtain ⟨o, z⟩ := some_of_ne e; exact ne_of_some (hs b o q z)
theorem Rep.but {X : Ctx} {H H' : MH} {h h' : Heap} (r : Rep X H h) (a : Addr) (k : But a h h') (ha : X.base.get? a = none) (hf : ∀ o, h.get? a = some o → ¬ Froz o)
    (e : ∀ b, b ≠ a → H' b = H b) (n : ∀ c, H' a = some c → CRep X h' a c) : Rep X H' h' := by
  refine ⟨fun b o x => k b o (fun z => by rw [z, ha] at x; cases x) (r.keep b o x), fun b hb => ?_, fun b c hc => ?_⟩
  · by_cases q : b = a
    · exact q ▸ ha
    · rw [e b q] at hb; exact r.fresh b hb
  · by_cases q : b = a
    · subst q; exact n c hc
    · rw [e b q] at hc; exact (r.cell b c hc).keep (fun o ho => k b o q ho) (k.kf hf)
theorem Rep.ext {X : Ctx} {H : MH} {h h' : Heap} (r : Rep X H h) (k : ∀ b o, h.get? b = some o → h'.get? b = some o) : Rep X H h' :=
  ⟨fun b o e => k b o (r.keep b o e), r.fresh, fun a c e => (r.cell a c e).keep (k a) (fun b o q _ => k b o q)⟩
theorem Evo.ext {F : Addr → Prop} {s : Shared} {H : MH} {h' : Heap} (k : ∀ b o, s.heap.get? b = some o → h'.get? b = some o) (n : Nat) : Evo F s H { s with heap := h', toks := n } H :=
  ⟨rfl, rfl, rfl, fun b o e _ _ => k b o e, fun _ q => .inl q, fun b e => let ⟨o, z⟩ := some_of_ne e; ne_of_some (k b o z)⟩
theorem Evo.tk (F : Addr → Prop) (s : Shared) (H : MH) (n : Nat) : Evo F s H { s with toks := n } H := ⟨rfl, rfl, rfl, fun _ _ e _ _ => e, fun _ d => .inl d, fun _ e => e⟩
theorem get?_size (h : Heap) : h.get? h.objs.size = none := by
  cases e : h.get? h.objs.size with
  | none => rfl
  | some o => exact absurd (Heap.lt_size e) (Nat.lt_irrefl _)
theorem Rep.size_fresh {X : Ctx} {H : MH} {h : Heap} (r : Rep X H h) : H h.objs.size = none := r.offNew (get?_size h)
theorem Rep.baseNone {X : Ctx} {H : MH} {h : Heap} (r : Rep X H h) {a : Addr} (ha : h.get? a = none) : X.base.get? a = none := by
  cases e : X.base.get? a with
  | none => rfl
  | some o => rw [← ha, r.keep _ _ e]
theorem Rep.base_size {X : Ctx} {H : MH} {h : Heap} (r : Rep X H h) : X.base.get? h.objs.size = none := r.baseNone (get?_size h)
theorem pushK (h : Heap) (o : Obj) : ∀ b o', h.get? b = some o' → (h.push o).get? b = some o' := fun _ _ e => Heap.get?_push_of_some o e
theorem Rep.push {X : Ctx} {H : MH} {h : Heap} (r : Rep X H h) (o : Obj) : Rep X H (h.push o) := r.ext (pushK h o)
theorem Evo.push {F : Addr → Prop} {s : Shared} {H : MH} (o : Obj) (n : Nat) : Evo F s H { s with heap := s.heap.push o, toks := n } H := .ext (pushK _ o) n
theorem Rep.put {X : Ctx} {H : MH} {s : Shared} {a : Addr} {h' : Heap} (r : Rep X H s.heap) (ha : H a ≠ none ∨ s.heap.get? a = none) (k : But a s.heap h') {c : Cell} (hc : CRep X h' a c) (n : Nat) :
    Rep X (H.set a c) h' ∧ Evo NoF s H { s with heap := h', toks := n } (H.set a c) := by
  have hb : X.base.get? a = none := ha.elim (r.fresh a) r.baseNone
  have hf : ∀ o, s.heap.get? a = some o → ¬ Froz o := fun o ho f => ha.elim (fun z => z (r.off ho f)) (fun z => by rw [z] at ho; cases ho)
  obtain ⟨o, ho, _⟩ := hc.soft
  exact ⟨r.but a k hb hf (fun b q => MH.set_ne _ _ q) (fun c' e => by rw [MH.set_self] at e; cases e; exact hc), .write (fun b q => MH.set_ne _ _ q) (.inr ha) (fun _ => ha) k (fun _ => ne_of_some ho)⟩
structure FI where
  env : Env
  names : List Str
noncomputable def FI.foot (F : FI) (b : Addr) : Prop := b = F.env.locals ∨ ∃ x, F.env.cells.lookup x = some b
structure FOk (F : FI) : Prop where
  kind : F.env.scope.kind = .function
  nodup : F.names.Nodup
  globals : F.env.globals = mainGlobals
  builtins : F.env.builtins = builtinsNs
  cells : ∀ x y c, F.env.cells.lookup x = some c → F.env.cells.lookup y = some c → x = y
  apart : ∀ x c, F.env.cells.lookup x = some c → c ≠ F.env.locals
  cellk : ∀ x c, F.env.cells.lookup x = some c → F.env.kindOf x = some .cell
structure LocRep (X : Ctx) (F : FI) (loc : List (Option MV)) (h : Heap) : Prop where
  ns : ∃ m, h.Ns F.env.locals m ∧ ∀ (i : Nat) (x : Str) (mv : MV), F.names[i]? = some x → F.env.kindOf x = some .local → loc[i]? = some (some mv) → ∃ v, m x = some v ∧ VRep X h mv v
  cl : ∀ (x : Str) (c : Addr), F.env.cells.lookup x = some c → ∃ ov, h.IsCell c ov ∧ ∀ (i : Nat) (mv : MV), F.names[i]? = some x → loc[i]? = some (some mv) → ∃ v, ov = some v ∧ VRep X h mv v
structure St where
  loc : List (Option MV)
  H : MH
structure Good (X : Ctx) (F : FI) (σ : St) (s : Shared) : Prop where
  fok : FOk F
  rep : Rep X σ.H s.heap
  loc : LocRep X F σ.loc s.heap
  off : ∀ b, F.foot b → σ.H b = none
  new : ∀ b, F.foot b → X.base.get? b = none
theorem LocRep.keep {X : Ctx} {F : FI} {loc : List (Option MV)} {h h' : Heap} (l : LocRep X F loc h) (k : ∀ b o, F.foot b → h.get? b = some o → h'.get? b = some o) (kf : KF h h') : LocRep X F loc h' := by
  refine ⟨?_, fun x c hx => ?_⟩
  · obtain ⟨m, ⟨o, es, ep, ho, hd⟩, hm⟩ := l.ns
    refine ⟨m, ⟨o, es, ep, k _ _ (.inl rfl) ho, hd⟩, fun i x mv h1 h2 h3 => ?_⟩
    obtain ⟨v, hv, hr⟩ := hm i x mv h1 h2 h3
    exact ⟨v, hv, VRep.keep kf hr⟩
  · obtain ⟨ov, ⟨o, ho, hd⟩, hm⟩ := l.cl x c hx
    refine ⟨ov, ⟨o, k _ _ (.inr ⟨x, hx⟩) ho, hd⟩, fun i mv h1 h2 => ?_⟩
    obtain ⟨v, hv, hr⟩ := hm i mv h1 h2
    exact ⟨v, hv, VRep.keep kf hr⟩
theorem LocRep.at {X : Ctx} {F : FI} {loc : List (Option MV)} {h : Heap} (l : LocRep X F loc h) {b : Addr} (f : F.foot b) : ∃ o, h.get? b = some o ∧ ((∃ es n, o.data = .dict es n) ∨ ∃ v, o.data = .cell v) := by
  rcases f with rfl | ⟨x, hx⟩
  · obtain ⟨m, ⟨o, es, ep, ho, hd, _⟩, _⟩ := l.ns; exact ⟨o, ho, .inl ⟨_, _, hd⟩⟩
  · obtain ⟨ov, ⟨o, ho, hd⟩, _⟩ := l.cl x b hx; exact ⟨o, ho, .inr ⟨_, hd⟩⟩
theorem Good.notFoot {X : Ctx} {F : FI} {σ : St} {s : Shared} (g : Good X F σ s) (b : Addr) (o : Obj) (ho : s.heap.get? b = some o) (f : Froz o) : ¬ F.foot b := by
  intro q
  obtain ⟨o', ho', d⟩ := g.loc.at q
  rw [ho] at ho'; cases ho'
  rcases d with ⟨_, _, d⟩ | ⟨_, d⟩ <;> rcases f with ⟨_, _, _, f⟩ | f <;> (rw [d] at f; cases f)
theorem Good.fieldsFoot {X : Ctx} {F : FI} {σ : St} {s : Shared} (g : Good X F σ s) {b : Addr} {o : Obj} {vs : Array Value} (ho : s.heap.get? b = some o) (hd : o.data = .fields vs) : ¬ F.foot b := by
  intro q
  obtain ⟨o', ho', d⟩ := g.loc.at q
  rw [ho] at ho'; cases ho'
  rcases d with ⟨_, _, d⟩ | ⟨_, d⟩ <;> (rw [d] at hd; cases hd)
theorem Good.live {X : Ctx} {F : FI} {σ : St} {s : Shared} (g : Good X F σ s) {b : Addr} (f : F.foot b) : s.heap.get? b ≠ none := let ⟨_, h, _⟩ := g.loc.at f; ne_of_some h
theorem Good.frozen {X : Ctx} {F : FI} {s s' : Shared} {σ : St} {H' : MH} (g : Good X F σ s) (e : Evo F.foot s σ.H s' H') : KF s.heap s'.heap := e.frozen g.rep g.notFoot
theorem Good.vrep {X : Ctx} {F : FI} {s s' : Shared} {σ : St} {H' : MH} (g : Good X F σ s) (e : Evo F.foot s σ.H s' H') {m : MV} {v : Value} (r : VRep X s.heap m v) : VRep X s'.heap m v := VRep.keep (g.frozen e) r
theorem Good.vreps {X : Ctx} {F : FI} {s s' : Shared} {σ : St} {H' : MH} (g : Good X F σ s) (e : Evo F.foot s σ.H s' H') {m : List MV} {v : List Value} (r : VReps X s.heap m v) : VReps X s'.heap m v := VReps.keep (g.frozen e) r
theorem Good.step {X : Ctx} {F : FI} {loc : List (Option MV)} {H H' : MH} {s s' : Shared} (g : Good X F ⟨loc, H⟩ s) (e : Evo NoF s H s' H') (r : Rep X H' s'.heap) : Good X F ⟨loc, H'⟩ s' := by
  refine ⟨g.fok, r, g.loc.keep (fun b o f ho => e.keep b o ho (g.off b f) fun q => q) (g.frozen e.off), fun b hb => ?_, g.new⟩
  show H' b = none
  cases q : H' b with
  | none => rfl
  | some c => exact ((e.dom b (ne_of_some q)).elim (fun z => z (g.off b hb)) (g.live hb)).elim
theorem Good.but {X : Ctx} {F : FI} {σ : St} {s : Shared} {h' : Heap} {I : Addr} (g : Good X F σ s) (hI : X.base.get? I = none) (nf : ∀ o, s.heap.get? I = some o → ¬ Froz o) (nd : σ.H I = none) (nft : ¬ F.foot I)
    (k : But I s.heap h') (n : Nat) : Good X F σ { s with heap := h', toks := n } :=
  ⟨g.fok, g.rep.but I k hI nf (fun _ _ => rfl) (fun c e => by rw [nd] at e; cases e), g.loc.keep (fun b o f ho => k b o (fun e => nft (e ▸ f)) ho) (k.kf nf), g.off, g.new⟩
theorem Good.tk {X : Ctx} {F : FI} {σ : St} {s : Shared} (g : Good X F σ s) (n : Nat) : Good X F σ { s with toks := n } := ⟨g.fok, g.rep, g.loc, g.off, g.new⟩
structure Room (d : Nat) (A : Around) : Prop where
  depth : A.depth + 4 * d + 8 ≤ recursionLimit
  units : A.units + 16 * d + 100 ≤ cLine
  handled : A.handled = none
theorem Room.in1 {d : Nat} {A : Around} (r : Room (d + 1) A) : Room d A.in1 := ⟨Nat.le_trans (by simp only [Around.in1_depth]; (first | lia | omega)) r.depth, Nat.le_trans (by simp only [Around.in1_units]; (first | lia | omega)) r.units, r.handled⟩
theorem Room.less {d : Nat} {A : Around} (r : Room (d + 1) A) : Room d A := ⟨Nat.le_trans (by (first | lia | omega)) r.depth, Nat.le_trans (by (first | lia | omega)) r.units, r.handled⟩
theorem Room.deeper {d : Nat} {A : Around} (r : Room (d + 1) A) (env : Env) : Room d (A.deeper env) := ⟨Nat.le_trans (by show A.depth + 1 + _ + _ ≤ _; (first | lia | omega)) r.depth, Nat.le_trans (by show A.units + 3 + _ + _ ≤ _; (first | lia | omega)) r.units, r.handled⟩
noncomputable abbrev NoE : Value → Shared → Prop := fun _ _ => False
noncomputable abbrev mdl (X : Ctx) : Model := model X.prog X.w
noncomputable def EPost (X : Ctx) (F : FI) (s : Shared) (H : MH) (Q : MV → St → Prop) (v : Value) (s' : Shared) : Prop :=
  ∃ mv σ', VRep X s'.heap mv v ∧ Good X F σ' s' ∧ Evo F.foot s H s' σ'.H ∧ Q mv σ'
noncomputable abbrev WE := (MV → St → Prop) → St → Prop
noncomputable def SE (X : Ctx) (d : Nat) (F : FI) (e : Expr) (P : WE) : Prop :=
  ∀ Q σ, P Q σ → ∀ A s, Room d A → Good X F σ s → wpAny (mdl X) A (eval e F.env) (EPost X F s σ.H Q) NoE s
inductive MF where
  | next | brk | cont
  | ret (m : MV)
noncomputable def FRep (X : Ctx) (h : Heap) : MF → Flow → Prop
  | .next, f => f = .next
  | .brk, f => f = .brk
  | .cont, f => f = .cont
  | .ret m, f => ∃ v, f = .ret v ∧ VRep X h m v
noncomputable def SPost (X : Ctx) (F : FI) (s : Shared) (H : MH) (Q : MF → St → Prop) (f : Flow) (s' : Shared) : Prop :=
  ∃ mf σ', FRep X s'.heap mf f ∧ Good X F σ' s' ∧ Evo F.foot s H s' σ'.H ∧ Q mf σ'
noncomputable abbrev WS := (MF → St → Prop) → St → Prop
noncomputable def SX (X : Ctx) (d : Nat) (F : FI) (st : Stmt) (P : WS) : Prop :=
  ∀ Q σ, P Q σ → ∀ A s, Room d A → Good X F σ s → wpAny (mdl X) A (exec st F.env) (SPost X F s σ.H Q) NoE s
noncomputable def SS (X : Ctx) (d : Nat) (F : FI) (sts : List Stmt) (P : WS) : Prop :=
  ∀ Q σ, P Q σ → ∀ A s, Room d A → Good X F σ s → wpAny (mdl X) A (execs sts F.env) (SPost X F s σ.H Q) NoE s
noncomputable def OPost (X : Ctx) (s : Shared) (H : MH) (Q : MV → MH → Prop) (v : Value) (s' : Shared) : Prop :=
  ∃ mv H', VRep X s'.heap mv v ∧ Rep X H' s'.heap ∧ Evo NoF s H s' H' ∧ Q mv H'
theorem EPost.of_op {X : Ctx} {F : FI} {σ : St} {s : Shared} {Q : MV → MH → Prop} {Q' : MV → St → Prop} {v : Value} {s' : Shared} (g : Good X F σ s) (o : OPost X s σ.H Q v s')
    (k : ∀ mv H', Q mv H' → Q' mv ⟨σ.loc, H'⟩) : EPost X F s σ.H Q' v s' := by
  obtain ⟨mv, H', a, b, c, q⟩ := o
  exact ⟨mv, ⟨σ.loc, H'⟩, a, g.step c b, c.off, k _ _ q⟩
theorem EPost.back {X : Ctx} {F : FI} {s s₁ : Shared} {H H₁ : MH} {Q : MV → St → Prop} {v : Value} {s' : Shared} (e : Evo F.foot s H s₁ H₁) (p : EPost X F s₁ H₁ Q v s') : EPost X F s H Q v s' := by
  obtain ⟨mv, σ', a, b, c, q⟩ := p
  exact ⟨mv, σ', a, b, e.trans c, q⟩
theorem SPost.back {X : Ctx} {F : FI} {s s₁ : Shared} {H H₁ : MH} {Q : MF → St → Prop} {v : Flow} {s' : Shared} (e : Evo F.foot s H s₁ H₁) (p : SPost X F s₁ H₁ Q v s') : SPost X F s H Q v s' := by
  obtain ⟨mv, σ', a, b, c, q⟩ := p
  exact ⟨mv, σ', a, b, e.trans c, q⟩
theorem SE.run {X : Ctx} {d : Nat} {F : FI} {e : Expr} {P : WE} (he : SE X d F e P) {Q : MV → St → Prop} {σ : St} (h : P Q σ) {A : Around} {s : Shared} (r : Room d A) (g : Good X F σ s) {Q' E : Value → Shared → Prop}
    (k : ∀ m σ' v s', VRep X s'.heap m v → Good X F σ' s' → Evo F.foot s σ.H s' σ'.H → Q m σ' → Q' v s') : wpAny (mdl X) A (eval e F.env) Q' E s :=
  wpAny_mono (he Q σ h A s r g) (fun _ _ ⟨m, σ', a, b, c, q⟩ => k m σ' _ _ a b c q) fun _ _ x => x.elim
noncomputable def wEnd : WS := fun Q σ => Q .next σ
theorem SS.nil {X : Ctx} {d : Nat} {F : FI} : SS X d F [] wEnd :=
  fun _ σ h _ _ _ g => wpAny_execs_nil ⟨.next, σ, rfl, g, .refl .., h⟩
noncomputable def seqQ (R : WS) (Q : MF → St → Prop) : MF → St → Prop
  | .next, σ => R Q σ
  | .brk, σ => Q .brk σ
  | .cont, σ => Q .cont σ
  | .ret m, σ => Q (.ret m) σ
noncomputable def wSeq (P R : WS) : WS := fun Q σ => P (seqQ R Q) σ
theorem SS.cons {X : Ctx} {d : Nat} {F : FI} {st : Stmt} {sts : List Stmt} {P R : WS} (a : SX X d F st P) (b : SS X d F sts R) : SS X d F (st :: sts) (wSeq P R) := by
  intro Q σ h A s r g
  refine wpAny_execs_cons (wpAny_mono (a _ σ h A s r g) (fun f s₁ p => ?_) fun _ _ x => x)
  obtain ⟨mf, σ₁, fr, g₁, e₁, q⟩ := p
  cases mf with
  | next => cases fr; exact wpAny_mono (b Q σ₁ q A s₁ r g₁) (fun _ _ p => p.back e₁) fun _ _ x => x
  | brk => cases fr; exact ⟨.brk, σ₁, rfl, g₁, e₁, q⟩
  | cont => cases fr; exact ⟨.cont, σ₁, rfl, g₁, e₁, q⟩
  | ret m => obtain ⟨v, rfl, vr⟩ := fr; exact ⟨.ret m, σ₁, ⟨v, rfl, vr⟩, g₁, e₁, q⟩
end
section
variable {X : Ctx} {d : Nat} {F : FI}
noncomputable def wConst (v : MV) : WE := fun Q σ => Q v σ
theorem vI {h : Heap} {n : Int} {t : Tok} : VRep X h (.int n) (.int n t) := by simp only [VRep]; exact ⟨t, rfl⟩
theorem vS {h : Heap} {x : Str} {t : Tok} : VRep X h (.str x) (.str x t) := by simp only [VRep]; exact ⟨t, rfl⟩
theorem vB {h : Heap} {b : Bool} : VRep X h (.bool b) (.bool b) := by simp only [VRep]
theorem vN {h : Heap} : VRep X h .none .none := by simp only [VRep]
theorem vR {h : Heap} {a : Addr} : VRep X h (.ref a) (.ref a) := by simp only [VRep]
theorem iI {h : Heap} {n : Int} {v : Value} (r : VRep X h (.int n) v) : ∃ t, v = .int n t := by simpa only [VRep] using r
theorem iS {h : Heap} {x : Str} {v : Value} (r : VRep X h (.str x) v) : ∃ t, v = .str x t := by simpa only [VRep] using r
theorem iB {h : Heap} {b : Bool} {v : Value} (r : VRep X h (.bool b) v) : v = .bool b := by simpa only [VRep] using r
theorem iR {h : Heap} {a : Addr} {v : Value} (r : VRep X h (.ref a) v) : v = .ref a := by simpa only [VRep] using r
theorem iT {h : Heap} {l : List MV} {v : Value} (r : VRep X h (.tup l) v) : ∃ a vs, v = .ref a ∧ IsTup h a vs ∧ VReps X h l vs.toList := by simpa only [VRep] using r
theorem iX {h : Heap} {c : Nat} {a : Addr} {v : Value} (r : VRep X h (.inst c a) v) : ∃ x, v = .ref x ∧ h.get? x = some (instObj (X.cls c) a) := by simpa only [VRep] using r
theorem SE.int {i : Int} {k : Nat} {pos : Pos} : SE X d F (.Constant (.int i) k pos) (wConst (.int i)) :=
  fun _ σ h _ _ _ g => wpAny_Constant_int ⟨.int i, σ, vI, g.tk _, .tk .., h⟩
theorem SE.str {x : Str} {k : Nat} {pos : Pos} : SE X d F (.Constant (.str x) k pos) (wConst (.str x)) :=
  fun _ σ h _ _ _ g => wpAny_Constant_str ⟨.str x, σ, vS, g.tk _, .tk .., h⟩
theorem SE.bool {b : Bool} {k : Nat} {pos : Pos} : SE X d F (.Constant (.bool b) k pos) (wConst (.bool b)) :=
  fun _ σ h _ _ _ g => wpAny_Constant_bool ⟨.bool b, σ, vB, g, .refl .., h⟩
theorem SE.none {k : Nat} {pos : Pos} : SE X d F (.Constant .none k pos) (wConst .none) :=
  fun _ σ h _ _ _ g => wpAny_Constant_none ⟨.none, σ, vN, g, .refl .., h⟩
inductive Slot (F : FI) (i : Nat) (x : Str) : Prop
  | loc (h : F.names[i]? = some x) (k : F.env.kindOf x = some .local) (d : (x == ("__debug__" : Str)) = false) : Slot F i x
  | cell (h : F.names[i]? = some x) (k : F.env.kindOf x = some .cell) (c : Addr) (e : F.env.cells.lookup x = some c) (d : (x == ("__debug__" : Str)) = false) : Slot F i x
theorem Slot.at {F : FI} {i : Nat} {x : Str} (h : Slot F i x) : F.names[i]? = some x := by cases h <;> assumption
theorem Slot.dbg {F : FI} {i : Nat} {x : Str} (h : Slot F i x) : (x == ("__debug__" : Str)) = false := by cases h <;> assumption
noncomputable def getO : Option MV → (MV → Prop) → Prop
  | some m, K => K m
  | none, _ => False
noncomputable def getC : List (Option MV) → Nat → (MV → Prop) → Prop
  | [], _, _ => False
  | x :: _, 0, K => getO x K
  | _ :: r, i + 1, K => getC r i K
theorem getC_inv : ∀ {l : List (Option MV)} {i : Nat} {K : MV → Prop}, getC l i K → ∃ m, l[i]? = some (some m) ∧ K m
  | some m :: _, 0, _, h => ⟨m, rfl, h⟩
  | none :: _, 0, _, h => h.elim
  | _ :: r, i + 1, _, h => getC_inv (l := r) h
  | [], _, _, h => h.elim
noncomputable def wLoc (i : Nat) : WE := fun Q σ => getC σ.loc i fun m => Q m σ
theorem load_slot {i : Nat} {x : Str} {Q : MV → St → Prop} {σ : St} {A : Around} {s : Shared} (hx : Slot F i x) (h : wLoc i Q σ) (g : Good X F σ s) :
    wpAny (mdl X) A (loadName F.env x) (EPost X F s σ.H Q) NoE s := by
  obtain ⟨v, hv, h⟩ := getC_inv h
  cases hx with
  | loc h1 h2 _ =>
    obtain ⟨m, n, hm⟩ := g.loc.ns
    obtain ⟨u, hu, hr⟩ := hm i x v h1 h2 hv
    exact wpAny_loadName_local g.fok.kind h2 n hu ⟨v, σ, hr, g, .refl .., h⟩
  | cell h1 h2 c h3 _ =>
    obtain ⟨ov, hc, hm⟩ := g.loc.cl x c h3
    obtain ⟨u, rfl, hr⟩ := hm i v h1 hv
    exact wpAny_loadName_cell g.fok.kind h2 h3 hc ⟨v, σ, hr, g, .refl .., h⟩
theorem SE.loc {i : Nat} {x : Str} {pos : Pos} (hx : Slot F i x) : SE X d F (.Name x pos) (wLoc i) :=
  fun _ _ h _ _ _ g => wpAny_Name (load_slot hx h g) hx.dbg
structure GlobV (X : Ctx) (F : FI) (x : Str) (v : Value) : Prop where
  k : F.env.kindOf x = some .globalImplicit
  h : X.mg x = some v ∨ (X.mg x = none ∧ X.mb x = some v)
  d : (x == ("__debug__" : Str)) = false
theorem Rep.ns {H : MH} {h : Heap} (r : Rep X H h) {a : Addr} {m : Str → Option Value} (n : X.base.Ns a m) : h.Ns a m := n.keeps r.keep
theorem eval_glob (ok : X.Ok) {x : Str} {v : Value} {pos : Pos} (hg : GlobV X F x v) {A : Around} {s : Shared} {σ : St} (g : Good X F σ s) {Q : Value → Shared → Prop} {E : Value → Shared → Prop} (h : Q v s) :
    wpAny (mdl X) A (eval (.Name x pos) F.env) Q E s := by
  have k1 : s.heap.Ns F.env.globals X.mg := by rw [g.fok.globals]; exact g.rep.ns ok.g
  have k2 : s.heap.Ns F.env.builtins X.mb := by rw [g.fok.builtins]; exact g.rep.ns ok.b
  refine wpAny_Name ?_ hg.d
  unfold loadName
  have e : F.env.scope.kind = .function := g.fok.kind
  simp only [e, ScopeKind.isAnnotationScope, Bool.false_and, Bool.false_eq_true, if_false, Env.blockKind, hg.k]
  unfold loadGlobal
  refine wpAny_bind (wpAny_nsGet k1 ?_)
  rcases hg.h with e | ⟨e, b⟩
  · rw [e]; exact wpAny_pure h
  · rw [e]
    refine wpAny_bind (wpAny_nsGet k2 ?_)
    rw [b]
    exact wpAny_pure h
theorem SE.globInt (ok : X.Ok) {x : Str} {n : Int} {t : Tok} {pos : Pos} (hg : GlobV X F x (.int n t)) : SE X d F (.Name x pos) (wConst (.int n)) :=
  fun _ σ h _ _ _ g => eval_glob ok hg g ⟨.int n, σ, vI, g, .refl .., h⟩
inductive BinR : Operator → MV → MV → MV → Prop
  | add {a b : Int} : BinR .Add (.int a) (.int b) (.int (a + b))
  | sub {a b : Int} : BinR .Sub (.int a) (.int b) (.int (a - b))
  | mod {a b : Int} (h : 0 < b) : BinR .Mod (.int a) (.int b) (.int (a % b))
  | fdiv {a b : Int} (h : 0 < b) (h' : b ≤ 10 ^ 20) : BinR .FloorDiv (.int a) (.int b) (.int (a / b))
  | pow : BinR .Pow (.int 10) (.int 20) (.int (10 ^ 20))
  | cat {x y : Str} (h : x.length + y.length ≤ 1000) : BinR .Add (.str x) (.str y) (.str (x ++ y))
theorem noPylong {a b : Int} (h : 0 < b) (h' : b ≤ 10 ^ 20) : Builtin.divisionGoesByPylong a b = false := by
  unfold Builtin.divisionGoesByPylong
  have hb : b.natAbs ≤ 10 ^ 20 := by (first | lia | omega)
  have : b.natAbs.log2 < 67 := by
    rw [Nat.log2_lt (by (first | lia | omega))]
    exact Nat.lt_of_le_of_lt hb (by decide)
  simp only [Bool.and_eq_false_iff]
  left
  split
  · simp
  · rw [decide_eq_false_iff_not]; (first | lia | omega)
theorem bin_op {op : Operator} {a b v : MV} {va vb : Value} {A : Around} {s : Shared} {Q : Value → Shared → Prop} (ra : VRep X s.heap a va) (rb : VRep X s.heap b vb)
    (e : BinR op a b v) (q : ∀ w tk, VRep X s.heap v w → Q w { s with toks := tk }) : wpAny (mdl X) A (binaryOp op va vb) Q NoE s := by
  cases e with
  | add => obtain ⟨t, rfl⟩ := iI ra; obtain ⟨u, rfl⟩ := iI rb; exact add_int (q _ _ vI)
  | sub => obtain ⟨t, rfl⟩ := iI ra; obtain ⟨u, rfl⟩ := iI rb; exact sub_int (q _ _ vI)
  | mod h =>
    obtain ⟨t, rfl⟩ := iI ra; obtain ⟨u, rfl⟩ := iI rb
    refine mod_int (by (first | lia | omega)) ?_
    rw [Int.fmod_eq_emod_of_nonneg _ (by (first | lia | omega))]
    exact q _ _ vI
  | fdiv h h' =>
    obtain ⟨t, rfl⟩ := iI ra; obtain ⟨u, rfl⟩ := iI rb
    refine floordiv_int (by (first | lia | omega)) ?_ (.inl (noPylong h h'))
    rw [Int.fdiv_eq_ediv_of_nonneg _ (by (first | lia | omega))]
    exact q _ _ vI
  | pow => obtain ⟨t, rfl⟩ := iI ra; obtain ⟨u, rfl⟩ := iI rb; exact pow_int (by decide) (by decide +kernel) (q _ _ vI)
  | cat h => obtain ⟨t, rfl⟩ := iS ra; obtain ⟨u, rfl⟩ := iS rb; exact add_str (fun t' tk => q _ tk vS) (by rw [sizeLine_eq]; (first | lia | omega))
theorem SE.run2 {e e' : Expr} {P R : WE} (he : SE X d F e P) (he' : SE X d F e' R) {Q : MV → MV → St → Prop} {σ : St} (h : P (fun a σ₁ => R (fun b σ₂ => Q a b σ₂) σ₁) σ) {A : Around} {s : Shared} (r : Room d A) (g : Good X F σ s) {Q' : Value → Value → Shared → Prop}
    (k : ∀ a b σ' va vb s', VRep X s'.heap a va → VRep X s'.heap b vb → Good X F σ' s' → Evo F.foot s σ.H s' σ'.H → Q a b σ' → Q' va vb s') :
    wpAny (mdl X) A (eval e F.env) (fun va s₁ => wpAny (mdl X) A (eval e' F.env) (fun vb s₂ => Q' va vb s₂) NoE s₁) NoE s :=
  he.run h r g fun _ _ _ _ ra g₁ e₁ q => he'.run q r g₁ fun _ _ _ _ rb g₂ e₂ q => k _ _ _ _ _ _ (g₁.vrep e₂ ra) rb g₂ (e₁.trans e₂) q
noncomputable def wBin (op : Operator) (P R : WE) : WE := fun Q σ => P (fun a σ₁ => R (fun b σ₂ => ∃ v, BinR op a b v ∧ Q v σ₂) σ₁) σ
theorem SE.bin {op : Operator} {a b : Expr} {pos : Pos} {P R : WE} (ha : SE X d F a P) (hb : SE X d F b R) : SE X d F (.BinOp a op b pos) (wBin op P R) :=
  fun Q σ h A s r g => wpAny_BinOp (ha.run2 hb (Q := fun a b σ' => ∃ v, BinR op a b v ∧ Q v σ') h r g fun _ _ σ' _ _ _ ra rb g' e ⟨v, hv, q⟩ => bin_op ra rb hv fun _ tk rv => ⟨v, σ', rv, g'.tk tk, e.trans (.tk ..), q⟩)
mutual
noncomputable def mvP : MV → PyData
  | .bool b => .bool b
  | .int i => .int i
  | .str x => .str x
  | .tup l => .tuple (mvPs l)
  | _ => .none
noncomputable def mvPs : List MV → List PyData
  | [] => []
  | m :: ms => mvP m :: mvPs ms
end
inductive Dat : MV → Prop
  | int (i : Int) : Dat (.int i)
  | str (x : Str) (h : PyData.strOk x = true) : Dat (.str x)
  | tup (l : List MV) (h : ∀ m ∈ l, Dat m) : Dat (.tup l)
mutual
theorem mv_reads {h : Heap} : ∀ (m : MV) (v : Value), Dat m → VRep X h m v → ∃ as, Reads h v (mvP m) as
  | .int i, v, _, r => by obtain ⟨t, rfl⟩ := iI r; exact ⟨_, .int i t⟩
  | .str x, v, _, r => by obtain ⟨t, rfl⟩ := iS r; exact ⟨_, .str x t⟩
  | .tup l, v, o, r => by
    obtain ⟨a, vs, rfl, ⟨ob, ho, hc, k, hd⟩, hr⟩ := iT r
    cases o with
    | tup _ o => obtain ⟨as, ha⟩ := mvs_reads l vs.toList o hr; exact ⟨as, .tuple ho hc hd ha⟩
  | .none, _, o, _ | .bool _, _, o, _ | .ref _, _, o, _ | .inst _ _, _, o, _ => nomatch o
theorem mvs_reads {h : Heap} : ∀ (l : List MV) (vs : List Value), (∀ m ∈ l, Dat m) → VReps X h l vs → ∃ as, ReadsAll h vs (mvPs l) as
  | [], vs, _, r => by rw [r.inv0]; exact ⟨_, .nil⟩
  | m :: ms, vs, o, r => by
    obtain ⟨v, rs, rfl, a, b⟩ := r.inv
    obtain ⟨as, h1⟩ := mv_reads m v (o m (.head _)) a
    obtain ⟨bs, h2⟩ := mvs_reads ms rs (fun x hx => o x (.tail _ hx)) b
    exact ⟨_, .cons h1 h2⟩
end
mutual
theorem mv_lay : ∀ (m : MV), Dat m → (mvP m).canLay0 = true
  | .int i, _ => rfl
  | .str x, .str _ h => h
  | .tup l, .tup _ h => mvs_lay l h
theorem mvs_lay : ∀ (l : List MV), (∀ m ∈ l, Dat m) → PyData.canLayAll0 (mvPs l) = true
  | [], _ => rfl
  | m :: ms, o => Bool.and_eq_true_iff.mpr ⟨mv_lay m (o m (.head _)), mvs_lay ms fun x hx => o x (.tail _ hx)⟩
end
mutual
theorem mv_eqv : ∀ (a b : MV), Dat a → Dat b → ((mvP a).eqv (mvP b) = true ↔ a = b)
  | .int i, .int j, _, _ => by simp [mvP, PyData.eqv]
  | .str x, .str y, _, _ => by simp [mvP, PyData.eqv]
  | .tup l, .tup l', .tup _ o, .tup _ o' => by simp only [mvP, PyData.eqv, MV.tup.injEq]; exact mvs_eqv l l' o o'
  | .int _, .str _, _, _ | .int _, .tup _, _, _ | .str _, .int _, _, _ | .str _, .tup _, _, _ | .tup _, .int _, _, _ | .tup _, .str _, _, _ => by simp [mvP, PyData.eqv]
theorem mvs_eqv : ∀ (a b : List MV), (∀ m ∈ a, Dat m) → (∀ m ∈ b, Dat m) → (PyData.eqvAll (mvPs a) (mvPs b) = true ↔ a = b)
  | [], [], _, _ => by simp [mvPs, PyData.eqvAll]
  | [], _ :: _, _, _ | _ :: _, [], _, _ => by simp [mvPs, PyData.eqvAll]
  | m :: ms, x :: xs, o, o' => by
    simp only [mvPs, PyData.eqvAll, Bool.and_eq_true, mv_eqv m x (o m (.head _)) (o' x (.head _)), mvs_eqv ms xs (fun x hx => o x (.tail _ hx)) (fun x hx => o' x (.tail _ hx)), List.cons.injEq]
end
theorem mvs_any (m : MV) (o : Dat m) : ∀ l : List MV, (∀ m ∈ l, Dat m) → ((mvPs l).any (fun y => y.eqv (mvP m)) = true ↔ m ∈ l)
  | [], _ => ⟨nofun, nofun⟩
  | x :: xs, h => by
    simp only [mvPs, List.any_cons, Bool.or_eq_true, mv_eqv x m (h x (.head _)) o, mvs_any m o xs fun x hx => h x (.tail _ hx), List.mem_cons]
    exact or_congr_left eq_comm
inductive EqR (H : MH) : MV → MV → Bool → Prop
  | int {a b : Int} : EqR H (.int a) (.int b) (decide (a = b))
  | str {a b : Str} : EqR H (.str a) (.str b) (a == b)
  | bool {a b : Bool} : EqR H (.bool a) (.bool b) (a == b)
  | mixed {a : Int} {b : Str} : EqR H (.int a) (.str b) false
  | list {a b : Addr} {l l' : List MV} {v : Bool} (ha : H a = some (.L l)) (hb : H b = some (.L l')) (o : ∀ m ∈ l, Dat m) (o' : ∀ m ∈ l', Dat m) (z : PyData.depthAll (mvPs l) ≤ 13) (z' : PyData.depthAll (mvPs l') ≤ 13) (hv : v = true ↔ l = l') : EqR H (.ref a) (.ref b) v
inductive InR (H : MH) : MV → MV → Bool → Prop
  | set {n : Int} {a : Addr} {l : List Int} (h : H a = some (.S l)) : InR H (.int n) (.ref a) (decide (n ∈ l))
  | dict {n : Int} {a : Addr} {l : List (SK × MV)} {o : Obj} (h : H a = some (.D (.v l) o)) : InR H (.int n) (.ref a) (decide (SK.i n ∈ l.map (·.1)))
  | list {m : MV} {a : Addr} {l : List MV} {v : Bool} (h : H a = some (.L l)) (o : ∀ m ∈ l, Dat m) (o' : Dat m) (z : (mvP m).depth ≤ 13) (hv : v = true ↔ m ∈ l) : InR H m (.ref a) v
inductive CmpR (H : MH) : CmpOp → MV → MV → Bool → Prop
  | eq {a b : MV} {v : Bool} (h : EqR H a b v) : CmpR H .Eq a b v
  | ne {a b : MV} {v : Bool} (h : EqR H a b v) : CmpR H .NotEq a b (!v)
  | lt {a b : Int} : CmpR H .Lt (.int a) (.int b) (decide (a < b))
  | le {a b : Int} : CmpR H .LtE (.int a) (.int b) (decide (a ≤ b))
  | gt {a b : Int} : CmpR H .Gt (.int a) (.int b) (decide (a > b))
  | ge {a b : Int} : CmpR H .GtE (.int a) (.int b) (decide (a ≥ b))
  | mem {a b : MV} {v : Bool} (h : InR H a b v) : CmpR H .In a b v
  | nmem {a b : MV} {v : Bool} (h : InR H a b v) : CmpR H .NotIn a b (!v)
theorem Rep.notMods (ok : X.Ok) {H : MH} {h : Heap} (r : Rep X H h) {a : Addr} (d : H a ≠ none) : (a == sysModules) = false := by
  rw [beq_eq_false_iff_ne]
  rintro rfl
  exact ok.mods (r.fresh _ d)
theorem valueAt_isSome {K : Type} [DecidableEq K] : ∀ (kvs : List (K × Value)) (k : K), (valueAt kvs k).isSome = decide (k ∈ kvs.map (·.1))
  | [], k => rfl
  | (k', v) :: r, k => by
    have ih := valueAt_isSome r k
    unfold valueAt at ih ⊢
    by_cases e : k' = k
    · simp [e]
    · have e' : ¬ k = k' := fun z => e z.symm
      simp [e, e', ih]
theorem PRep.keys {h : Heap} {K : Type} : ∀ {l : List (K × MV)} {kvs : List (K × Value)}, PRep X h l kvs → kvs.map (·.1) = l.map (·.1)
  | [], _, e => by rw [show _ = [] from e]; rfl
  | (k, _) :: _, _, ⟨v, r, e, _, b⟩ => by rw [e]; exact congrArg (k :: ·) (PRep.keys b)
theorem shp {ds : List PyData} (a : PyData.canLayAll0 ds = true) (b : PyData.depthAll ds ≤ 13) : SeqAt.shaped (.list ds) = true := by
  unfold SeqAt.shaped
  have e : (PyData.list ds).canLay0 = true := a
  have e2 : (PyData.list ds).depth ≤ 64 := by simp only [PyData.depth]; (first | lia | omega)
  rw [e, decide_eq_true e2]; rfl
theorem Rep.list {H : MH} {h : Heap} (r : Rep X H h) {a : Addr} {l : List MV} (e : H a = some (.L l)) : ∃ vs, h.PlainList a vs ∧ VReps X h l vs.toList := r.cell a _ e
theorem eq_op {a b : MV} {v : Bool} {va vb : Value} {A : Around} {s : Shared} {H : MH} {Q E : Value → Shared → Prop} (room : Room d A) (ra : VRep X s.heap a va) (rb : VRep X s.heap b vb) (r : Rep X H s.heap)
    (e : EqR H a b v) : (Q (.bool v) s → wpAny (mdl X) A (compareOp .Eq va vb) Q E s) ∧ (Q (.bool (!v)) s → wpAny (mdl X) A (compareOp .NotEq va vb) Q E s) := by
  cases e with
  | int => obtain ⟨t, rfl⟩ := iI ra; obtain ⟨u, rfl⟩ := iI rb; exact ⟨fun q => eq_int q, fun q => ne_int q⟩
  | str => obtain ⟨t, rfl⟩ := iS ra; obtain ⟨u, rfl⟩ := iS rb; exact ⟨fun q => eq_str q, fun q => ne_str q⟩
  | bool => cases iB ra; cases iB rb; exact ⟨fun q => eq_bool q, fun q => ne_bool q⟩
  | mixed => obtain ⟨t, rfl⟩ := iI ra; obtain ⟨u, rfl⟩ := iS rb; exact ⟨fun q => EqMixed.eq_int_str q, fun q => EqMixed.ne_int_str q⟩
  | list ha hb o o' z z' hv =>
    cases iR ra; cases iR rb
    obtain ⟨vs, h1, hr⟩ := r.list ha
    obtain ⟨vs', h1', hr'⟩ := r.list hb
    obtain ⟨ob, ho, hc, n, hd⟩ := h1.isList
    obtain ⟨ob', ho', hc', n', hd'⟩ := h1'.isList
    obtain ⟨as, r1⟩ := mvs_reads _ _ o hr
    obtain ⟨as', r1'⟩ := mvs_reads _ _ o' hr'
    have sh := shp (mvs_lay _ o) z
    have sh' := shp (mvs_lay _ o') z'
    have hu : A.units + 64 < cLine := by have := room.units; (first | lia | omega)
    have key := hv.trans (mvs_eqv _ _ o o').symm
    exact ⟨fun q => eq_dataH (reads_list_at ho hc hd r1) (reads_list_at ho' hc' hd' r1') sh sh' hu (by simpa only [PyData.eqv, ← Bool.eq_iff_iff.mpr key] using q),
      fun q => ne_dataH (reads_list_at ho hc hd r1) (reads_list_at ho' hc' hd' r1') sh sh' hu (by simpa only [PyData.eqv, ← Bool.eq_iff_iff.mpr key] using q)⟩
theorem in_op (ok : X.Ok) {a b : MV} {v : Bool} {va vb : Value} {A : Around} {s : Shared} {H : MH} {Q E : Value → Shared → Prop} (room : Room d A) (ra : VRep X s.heap a va) (rb : VRep X s.heap b vb) (r : Rep X H s.heap)
    (e : InR H a b v) : ((∀ tk, Q (.bool v) { s with toks := tk }) → wpAny (mdl X) A (compareOp .In va vb) Q E s) ∧ ((∀ tk, Q (.bool (!v)) { s with toks := tk }) → wpAny (mdl X) A (compareOp .NotIn va vb) Q E s) := by
  cases e with
  | set h =>
    obtain ⟨t, rfl⟩ := iI ra; cases iR rb
    obtain ⟨_, k, _, hS⟩ := r.cell _ _ h
    exact ⟨fun h => wpAny_inSet_of (knd := intKind X.prog X.w) (beq_self_eq_true _) rfl hS (h _), fun h => wpAny_notInSet_of (knd := intKind X.prog X.w) (beq_self_eq_true _) rfl hS (h _)⟩
  | @dict n _ l _ h =>
    obtain ⟨t, rfl⟩ := iI ra; cases iR rb
    obtain ⟨_, kvs, hk, hm⟩ := r.cell _ _ h
    have nm := r.notMods ok (ne_of_some h)
    have ev : (valueAt kvs (SK.i n)).isSome = decide (SK.i n ∈ l.map (·.1)) := by rw [valueAt_isSome, hm.keys]
    exact ⟨fun h => wpAny_in_of (knd := skKind X.prog X.w) (k := .i n) (beq_self_eq_true n) nm hk.mapOf (by rw [ev]; exact h _), fun h => wpAny_notIn_of (knd := skKind X.prog X.w) (k := .i n) (beq_self_eq_true n) nm hk.mapOf (by rw [ev]; exact h _)⟩
  | list h o o' z hv =>
    cases iR rb
    obtain ⟨vs, h1, hr⟩ := r.list h
    obtain ⟨ob, ho, hc, n, hd⟩ := h1.isList
    obtain ⟨as, r1⟩ := mvs_reads _ _ o hr
    obtain ⟨bs, r2⟩ := mv_reads _ _ o' ra
    have key := hv.trans (mvs_any _ o' _ o).symm
    have dp : ∀ k, A.units + 1 + min k (mvP a).depth < cLine := fun k => by have := Nat.min_le_right k (mvP a).depth; have := room.units; (first | lia | omega)
    exact ⟨fun q => SeqAt.in_list_reads (reads_list_at ho hc hd r1) r2 (mvs_lay _ o) (mv_lay _ o') (dp _) (by rw [← Bool.eq_iff_iff.mpr key]; exact q s.toks), fun q => SeqAt.notIn_list_reads (reads_list_at ho hc hd r1) r2 (mvs_lay _ o) (mv_lay _ o') (dp _) (by rw [← Bool.eq_iff_iff.mpr key]; exact q s.toks)⟩
theorem cmp_op (ok : X.Ok) {op : CmpOp} {a b : MV} {v : Bool} {va vb : Value} {A : Around} {s : Shared} {H : MH} {Q E : Value → Shared → Prop} (room : Room d A) (ra : VRep X s.heap a va) (rb : VRep X s.heap b vb) (r : Rep X H s.heap)
    (e : CmpR H op a b v) (q : ∀ tk, Q (.bool v) { s with toks := tk }) : wpAny (mdl X) A (compareOp op va vb) Q E s := by
  cases e with
  | eq h => exact (eq_op room ra rb r h).1 (q s.toks)
  | ne h => exact (eq_op room ra rb r h).2 (q s.toks)
  | lt => obtain ⟨t, rfl⟩ := iI ra; obtain ⟨u, rfl⟩ := iI rb; exact lt_int (q s.toks)
  | le => obtain ⟨t, rfl⟩ := iI ra; obtain ⟨u, rfl⟩ := iI rb; exact le_int (q s.toks)
  | gt => obtain ⟨t, rfl⟩ := iI ra; obtain ⟨u, rfl⟩ := iI rb; exact gt_int (q s.toks)
  | ge => obtain ⟨t, rfl⟩ := iI ra; obtain ⟨u, rfl⟩ := iI rb; exact ge_int (q s.toks)
  | mem h => exact (in_op ok room ra rb r h).1 q
  | nmem h => exact (in_op ok room ra rb r h).2 q
noncomputable abbrev WT := (Bool → St → Prop) → St → Prop
noncomputable def wCmp (op : CmpOp) (P R : WE) : WE := fun Q σ => P (fun a σ₁ => R (fun b σ₂ => ∃ v, CmpR σ₂.H op a b v ∧ Q (.bool v) σ₂) σ₁) σ
theorem cmp_two (ok : X.Ok) {op : CmpOp} {a b : Expr} {P R : WE} (ha : SE X d F a P) (hb : SE X d F b R) {Q : Bool → St → Prop} {σ : St} (h : P (fun a σ₁ => R (fun b σ₂ => ∃ v, CmpR σ₂.H op a b v ∧ Q v σ₂) σ₁) σ) {A : Around} {s : Shared} (r : Room d A) (g : Good X F σ s)
    {Q' : Value → Shared → Prop} (k : ∀ v σ' s', Good X F σ' s' → Evo F.foot s σ.H s' σ'.H → Q v σ' → Q' (.bool v) s') :
    wpAny (mdl X) A (eval a F.env) (fun va s₁ => wpAny (mdl X) A (eval b F.env) (fun vb s₂ => wpAny (mdl X) A (compareOp op va vb) Q' NoE s₂) NoE s₁) NoE s :=
  ha.run2 hb (Q := fun a b σ' => ∃ v, CmpR σ'.H op a b v ∧ Q v σ') h r g fun _ _ σ' _ _ s' ra rb g' e ⟨v, hv, q⟩ => cmp_op ok r ra rb g'.rep hv fun tk => k v σ' _ (g'.tk tk) (e.trans (.tk ..)) q
theorem SE.cmp (ok : X.Ok) {op : CmpOp} {a b : Expr} {pos : Pos} {P R : WE} (ha : SE X d F a P) (hb : SE X d F b R) (hm : behindInMarks op b = false := by with_unfolding_all rfl) : SE X d F (.Compare a [op] [b] pos) (wCmp op P R) :=
  fun Q σ h A s r g => wpAny_Compare1 (cmp_two ok ha hb h r g fun v σ' s' g' e q => ⟨.bool v, σ', vB, g', e, q⟩) hm
noncomputable def BPost (X : Ctx) (F : FI) (s : Shared) (H : MH) (Q : Bool → St → Prop) (b : Bool) (s' : Shared) : Prop := ∃ σ', Good X F σ' s' ∧ Evo F.foot s H s' σ'.H ∧ Q b σ'
theorem BPost.back {s s₁ : Shared} {H H₁ : MH} {Q : Bool → St → Prop} {v : Bool} {s' : Shared} (e : Evo F.foot s H s₁ H₁) (p : BPost X F s₁ H₁ Q v s') : BPost X F s H Q v s' := by
  obtain ⟨σ', b, c, q⟩ := p
  exact ⟨σ', b, e.trans c, q⟩
noncomputable def ST (X : Ctx) (d : Nat) (F : FI) (e : Expr) (P : WT) : Prop :=
  ∀ Q σ, P Q σ → ∀ A s, Room d A → Good X F σ s → wpAny (mdl X) A (isTrue e F.env (eval e F.env)) (BPost X F s σ.H Q) NoE s
noncomputable def wTCmp (op : CmpOp) (P R : WE) : WT := fun Q σ => P (fun a σ₁ => R (fun b σ₂ => ∃ v, CmpR σ₂.H op a b v ∧ Q v σ₂) σ₁) σ
theorem ST.cmp (ok : X.Ok) {op : CmpOp} {a b : Expr} {pos : Pos} {P R : WE} (ha : SE X d F a P) (hb : SE X d F b R) (hm : behindInMarks op b = false := by with_unfolding_all rfl) : ST X d F (.Compare a [op] [b] pos) (wTCmp op P R) :=
  fun Q σ h A s r g => wpAny_isTrue_Compare1 (cmp_two ok ha hb h r g fun v σ' s' g' e q => wpAny_truthy_bool ⟨σ', g', e, q⟩) hm
inductive TruthR (H : MH) : MV → Bool → Prop
  | bool {b : Bool} : TruthR H (.bool b) b
  | list {a : Addr} {l : List MV} (h : H a = some (.L l)) (z : l.length < 2 ^ 62) : TruthR H (.ref a) (!l.isEmpty)
theorem isEmpty_eq {α β : Type} {l : List α} {vs : Array β} (e : l.length = vs.toList.length) : vs.isEmpty = l.isEmpty := by
  have e' : l.length = vs.size := e
  rw [Bool.eq_iff_iff, Array.isEmpty_iff_size_eq_zero, List.isEmpty_iff_length_eq_zero, e']
theorem truth_op {m : MV} {v : Value} {b : Bool} {A : Around} {s : Shared} {H : MH} {Q : Bool → Shared → Prop} {E : Value → Shared → Prop} (r : Rep X H s.heap) (rv : VRep X s.heap m v) (e : TruthR H m b) (q : ∀ tk, Q b { s with toks := tk }) :
    wpAny (mdl X) A (truthy v) Q E s := by
  cases e with
  | bool => cases iB rv; exact wpAny_truthy_bool (q s.toks)
  | list h z =>
    cases iR rv
    obtain ⟨vs, h1, h2⟩ := r.list h
    have len := h2.length
    refine wpAny_truthy_list h1.isList (by have e' : _ = vs.size := len; (first | lia | omega)) ?_
    rw [isEmpty_eq len]
    exact q _
noncomputable def wTVal (P : WE) : WT := fun Q σ => P (fun m σ' => ∃ b, TruthR σ'.H m b ∧ Q b σ') σ
theorem ST.val {e : Expr} {P : WE} (he : SE X d F e P) (hi : PySem.isTrue e F.env (eval e F.env) = (do let v ← eval e F.env; standAt e.pos; holding [v] (truthy v)) := by rfl) : ST X d F e (wTVal P) :=
  fun Q σ h A s r g => wpAny_isTrue_value (he.run h r g fun m σ₁ v s₁ rv g₁ e₁ ⟨b, hb, q⟩ => truth_op g₁.rep rv hb fun tk => ⟨σ₁, g₁.tk tk, e₁.trans (.tk ..), q⟩) hi
noncomputable def wTNot (P : WT) : WT := fun Q σ => P (fun b σ' => Q (!b) σ') σ
theorem ST.not {e : Expr} {pos : Pos} {P : WT} (he : ST X d F e P) : ST X d F (.UnaryOp .Not e pos) (wTNot P) := by
  intro Q σ h A s r g
  show wpAny _ _ (do return !(← PySem.isTrue e F.env (eval e F.env))) _ _ _
  exact wpAny_bind (wpAny_mono (he _ σ h A s r g) (fun b s₁ p => wpAny_pure p) fun _ _ x => x)
inductive Br : Bool → Prop → Prop → Prop
  | t {p q : Prop} (h : p) : Br true p q
  | f {p q : Prop} (h : q) : Br false p q
theorem Br.dec {P p q : Prop} [Decidable P] (h1 : P → p) (h2 : ¬ P → q) : Br (decide P) p q := by
  by_cases h : P
  · rw [decide_eq_true h]; exact .t (h1 h)
  · rw [decide_eq_false h]; exact .f (h2 h)
theorem Br.neg {P p q : Prop} [Decidable P] (h1 : ¬ P → p) (h2 : P → q) : Br (!decide P) p q := by
  by_cases h : P
  · rw [decide_eq_true h]; exact .f (h2 h)
  · rw [decide_eq_false h]; exact .t (h1 h)
theorem Br.yes {b : Bool} {p q : Prop} (e : b = true) (h : p) : Br b p q := by subst e; exact .t h
theorem Br.no {b : Bool} {p q : Prop} (e : b = false) (h : q) : Br b p q := by subst e; exact .f h
theorem Br.any {b : Bool} {p q : Prop} (h1 : b = true → p) (h2 : b = false → q) : Br b p q := by cases b; exact .f (h2 rfl); exact .t (h1 rfl)
noncomputable def SA (X : Ctx) (d : Nat) (F : FI) (op : BoolOp) (es : List Expr) (P : WT) : Prop :=
  ∀ Q σ, P Q σ → ∀ A s, Room d A → Good X F σ s → wpAny (mdl X) A (allTrue op es F.env) (BPost X F s σ.H Q) NoE s
noncomputable def wB (b : Bool) : WT := fun Q σ => Q b σ
theorem SA.nil_and : SA X d F .And [] (wB true) := fun _ σ h _ _ _ g => wpAny_allTrue_And_nil ⟨σ, g, .refl .., h⟩
theorem SA.nil_or : SA X d F .Or [] (wB false) := fun _ σ h _ _ _ g => wpAny_allTrue_Or_nil ⟨σ, g, .refl .., h⟩
noncomputable def wTAnd (P R : WT) : WT := fun Q σ => P (fun b σ' => Br b (R Q σ') (Q false σ')) σ
noncomputable def wTOr (P R : WT) : WT := fun Q σ => P (fun b σ' => Br b (Q true σ') (R Q σ')) σ
theorem SA.and {e : Expr} {es : List Expr} {P R : WT} (he : ST X d F e P) (hs : SA X d F .And es R) : SA X d F .And (e :: es) (wTAnd P R) := by
  intro Q σ h A s r g
  refine wpAny_allTrue_And_cons (wpAny_mono (he _ σ h A s r g) (fun b s₁ p => ?_) fun _ _ x => x)
  obtain ⟨σ₁, g₁, e₁, q⟩ := p
  cases q with
  | t q => exact wpAny_mono (hs _ σ₁ q A s₁ r g₁) (fun _ _ p => p.back e₁) fun _ _ x => x
  | f q => exact ⟨σ₁, g₁, e₁, q⟩
theorem SA.or {e : Expr} {es : List Expr} {P R : WT} (he : ST X d F e P) (hs : SA X d F .Or es R) : SA X d F .Or (e :: es) (wTOr P R) := by
  intro Q σ h A s r g
  refine wpAny_allTrue_Or_cons (wpAny_mono (he _ σ h A s r g) (fun b s₁ p => ?_) fun _ _ x => x)
  obtain ⟨σ₁, g₁, e₁, q⟩ := p
  cases q with
  | t q => exact ⟨σ₁, g₁, e₁, q⟩
  | f q => exact wpAny_mono (hs _ σ₁ q A s₁ r g₁) (fun _ _ p => p.back e₁) fun _ _ x => x
theorem ST.bool {op : BoolOp} {es : List Expr} {pos : Pos} {P : WT} (h : SA X d F op es P) : ST X d F (.BoolOp op es pos) P :=
  fun Q σ q A s r g => wpAny_isTrue_BoolOp (h Q σ q A s r g)
noncomputable def wAndV (P R : WE) : WE := fun Q σ => P (fun m σ' => ∃ b, TruthR σ'.H m b ∧ Br b (R Q σ') (Q m σ')) σ
theorem SE.and1 {e : Expr} {pos : Pos} {P : WE} (he : SE X d F e P) : SE X d F (.BoolOp .And [e] pos) P := fun Q σ h A s r g => BoolOp_one (he Q σ h A s r g)
theorem SE.and {e e₂ : Expr} {rest : List Expr} {pos : Pos} {P R : WE} (he : SE X d F e P) (hs : SE X d F (.BoolOp .And (e₂ :: rest) pos) R) : SE X d F (.BoolOp .And (e :: e₂ :: rest) pos) (wAndV P R) :=
  fun Q σ h A s r g => BoolOp_and (he.run h r g fun m σ₁ v s₁ rv g₁ e₁ ⟨b, hb, q⟩ => truth_op g₁.rep rv hb fun tk => by
    cases q with
    | t q => exact wpAny_mono (hs _ σ₁ q A _ r (g₁.tk tk)) (fun _ _ p => p.back (e₁.trans (.tk ..))) fun _ _ x => x
    | f q => exact ⟨m, σ₁, rv, g₁.tk tk, e₁.trans (.tk ..), q⟩)
noncomputable def EsPost (X : Ctx) (F : FI) (s : Shared) (H : MH) (n : Nat) (Q : List MV → St → Prop) (vs : List Value) (s' : Shared) : Prop :=
  ∃ ms σ', VReps X s'.heap ms vs ∧ Good X F σ' s' ∧ Evo F.foot s H s' σ'.H ∧ ms.length = n ∧ Q ms σ'
noncomputable abbrev WEs := (List MV → St → Prop) → St → Prop
noncomputable def SEs (X : Ctx) (d : Nat) (F : FI) (es : List Expr) (P : WEs) : Prop :=
  (∀ pos, (backTo pos (starEach es F.env)).any (·.1) = false) ∧
  ∀ Q σ, P Q σ → ∀ A s pos, Room d A → Good X F σ s → wpAny (mdl X) A (spliced (backTo pos (starEach es F.env))) (EsPost X F s σ.H es.length Q) NoE s
noncomputable def wNil : WEs := fun Q σ => Q [] σ
noncomputable def wCons (P : WE) (R : WEs) : WEs := fun Q σ => P (fun m σ₁ => R (fun ms σ₂ => Q (m :: ms) σ₂) σ₁) σ
theorem SEs.nil : SEs X d F [] wNil := ⟨fun _ => rfl, fun _ σ h _ _ _ _ g => args_nil ⟨[], σ, VReps.nil, g, .refl .., rfl, h⟩⟩
theorem SEs.cons {e : Expr} {es : List Expr} {P : WE} {R : WEs} (he : SE X d F e P) (hs : SEs X d F es R) (hst : starEach (e :: es) F.env = (false, eval e F.env) :: starEach es F.env := by rfl) : SEs X d F (e :: es) (wCons P R) := by
  refine ⟨fun pos => by rw [hst]; exact hs.1 pos, fun Q σ h A s pos r g => ?_⟩
  refine args_cons (he.run h r g fun m σ₁ v s₁ rv g₁ e₁ q => ?_) hst
  refine wpAny_mono (hs.2 _ σ₁ q A s₁ pos r g₁) (fun vs s₂ p => ?_) fun _ _ x => x
  obtain ⟨ms, σ₂, rvs, g₂, e₂, l, q⟩ := p
  exact ⟨m :: ms, σ₂, VReps.cons (g₁.vrep e₂ rv) rvs, g₂, e₁.trans e₂, congrArg (· + 1) l, q⟩
theorem SEs.run {es : List Expr} {P : WEs} (he : SEs X d F es P) {Q : List MV → St → Prop} {σ : St} (h : P Q σ) {A : Around} {s : Shared} {pos : Pos} (r : Room d A) (g : Good X F σ s) {Q' : List Value → Shared → Prop} {E : Value → Shared → Prop}
    (k : ∀ ms σ' vs s', VReps X s'.heap ms vs → Good X F σ' s' → Evo F.foot s σ.H s' σ'.H → ms.length = es.length → Q ms σ' → Q' vs s') : wpAny (mdl X) A (spliced (backTo pos (starEach es F.env))) Q' NoE s :=
  wpAny_mono (he.2 Q σ h A s pos r g) (fun _ _ ⟨m, σ', a, b, c, l, q⟩ => k m σ' _ _ a b c l q) fun _ _ x => x
noncomputable def wTup (P : WEs) : WE := fun Q σ => P (fun ms σ' => Q (.tup ms) σ') σ
theorem SE.tup {es : List Expr} {k : Nat} {pos : Pos} {P : WEs} (hs : SEs X d F es P) (hl : Nat.ble es.length 1000 = true := by rfl) : SE X d F (.Tuple es k pos) (wTup P) := by
  intro Q σ h A s r g
  refine wpAny_Tuple (hs.run (E := fun _ _ => False) h r g fun ms σ₁ vs s₁ rvs g₁ e₁ len q => ?_)
  have len' := rvs.length
  have hl := Nat.le_of_ble_eq_true hl
  refine ⟨by rw [sizeLine_eq]; (first | lia | omega), .tup ms, σ₁, ?_, g₁.step (.push _ s₁.toks) (g₁.rep.push _), e₁.trans (.push _ s₁.toks), q⟩
  simp only [VRep]
  exact ⟨_, vs.toArray, rfl, ⟨_, Heap.get?_push_size _ rfl, rfl, _, rfl⟩, VReps.keep (fun b o e _ => Heap.get?_push_of_some _ e) rvs⟩
theorem Good.alloc {σ : St} {s : Shared} (g : Good X F σ s) (o : Obj) {c : Cell} (hc : CRep X (s.heap.push o) s.heap.objs.size c) (n : Nat) :
    let s' : Shared := { s with heap := s.heap.push o, toks := n }
    Good X F ⟨σ.loc, σ.H.set s.heap.objs.size c⟩ s' ∧ Evo F.foot s σ.H s' (σ.H.set s.heap.objs.size c) :=
  have p := g.rep.put (.inr (get?_size _)) (fun b o' _ e => Heap.get?_push_of_some o e) hc n
  ⟨g.step p.2 p.1, p.2.off⟩
noncomputable def wList (P : WEs) : WE := fun Q σ => P (fun ms σ' => ∀ a, σ'.H a = none → Q (.ref a) ⟨σ'.loc, σ'.H.set a (.L ms)⟩) σ
theorem SE.list {es : List Expr} {pos : Pos} {P : WEs} (hs : SEs X d F es P) (hl : Nat.ble es.length 1000 = true := by rfl) : SE X d F (.List es pos) (wList P) := by
  intro Q σ h A s r g
  refine List_ (hs.run (E := fun _ _ => False) h r g fun ms σ₁ vs s₁ rvs g₁ e₁ len q => ?_)
  have len' := rvs.length
  have hl := Nat.le_of_ble_eq_true hl
  have p := g₁.alloc { cls := .type "list", data := .seq vs.toArray } (c := .L ms) ⟨vs.toArray, ⟨_, Heap.get?_push_size _ rfl⟩, VReps.keep (fun b o e _ => Heap.get?_push_of_some _ e) rvs⟩ s₁.toks
  exact wpAny_newObj_type ⟨.ref s₁.heap.objs.size, _, vR, p.1, e₁.trans p.2, q _ g₁.rep.size_fresh⟩ (by show vs.toArray.size ≤ sizeLine; rw [List.size_toArray, sizeLine_eq]; (first | lia | omega))
end
section
variable {X : Ctx} {d : Nat} {F : FI}
section
variable {K : Type} [DecidableEq K] {h : Heap}
noncomputable def dget : List (K × MV) → K → Option MV
  | [], _ => none
  | (k', m) :: r, k => if k' = k then some m else dget r k
noncomputable def dput (l : List (K × MV)) (k : K) (v : MV) : List (K × MV) :=
  if l.any (fun p => decide (p.1 = k)) then l.map (fun p => if p.1 = k then (p.1, v) else p) else l ++ [(k, v)]
theorem dput_len (l : List (K × MV)) (k : K) (v : MV) : (dput l k v).length ≤ l.length + 1 := by
  unfold dput
  split
  · rw [List.length_map]; exact Nat.le_succ _
  · rw [List.length_append]; exact Nat.le_refl _
theorem PRep.get : ∀ {l : List (K × MV)} {kvs : List (K × Value)} {k : K}, PRep X h l kvs → (dget l k = none ∧ valueAt kvs k = none) ∨ ∃ m v, dget l k = some m ∧ valueAt kvs k = some v ∧ VRep X h m v
  | [], _, k, e => by rw [show _ = [] from e]; exact .inl ⟨rfl, rfl⟩
  | (k', m) :: l, _, k, ⟨v, r, e, a, b⟩ => by
    subst e
    unfold dget valueAt
    rw [List.find?_cons]
    by_cases q : k' = k
    · rw [if_pos q, decide_eq_true q]; exact .inr ⟨m, v, rfl, rfl, a⟩
    · rw [if_neg q, decide_eq_false q]; exact PRep.get b
theorem PRep.any : ∀ {l : List (K × MV)} {kvs : List (K × Value)} {p : K → Bool}, PRep X h l kvs → kvs.any (fun x => p x.1) = l.any (fun x => p x.1)
  | [], _, _, e => by rw [show _ = [] from e]; rfl
  | (k', m) :: l, _, p, ⟨v, r, e, a, b⟩ => by subst e; exact congrArg (p k' || ·) (PRep.any b)
theorem PRep.app : ∀ {l l' : List (K × MV)} {kvs kvs' : List (K × Value)}, PRep X h l kvs → PRep X h l' kvs' → PRep X h (l ++ l') (kvs ++ kvs')
  | [], _, _, _, e, e' => by rw [show _ = [] from e]; exact e'
  | (_, _) :: _, _, _, _, ⟨v, r, e, a, b⟩, e' => by subst e; exact ⟨v, _, rfl, a, PRep.app b e'⟩
theorem PRep.map {k : K} {m : MV} {v : Value} (rv : VRep X h m v) : ∀ {l : List (K × MV)} {kvs : List (K × Value)}, PRep X h l kvs → PRep X h (l.map fun p => if p.1 = k then (p.1, m) else p) (kvs.map fun p => if p.1 = k then (p.1, v) else p)
  | [], _, e => by rw [show _ = [] from e]; rfl
  | (k', m') :: l, _, ⟨w, r, e, a, b⟩ => by
    subst e
    have ih := PRep.map (k := k) rv b
    simp only [List.map_cons]
    by_cases q : k' = k
    · rw [if_pos q, if_pos q]; exact ⟨v, _, rfl, rv, ih⟩
    · rw [if_neg q, if_neg q]; exact ⟨w, _, rfl, a, ih⟩
theorem PRep.put {l : List (K × MV)} {kvs : List (K × Value)} {k : K} {m : MV} {v : Value} (r : PRep X h l kvs) (rv : VRep X h m v) : PRep X h (dput l k m) (stored kvs k v) := by
  unfold dput stored
  rw [r.any (p := fun x => decide (x = k))]
  split
  · exact r.map rv
  · exact r.app ⟨v, [], rfl, rv, rfl⟩
theorem flat_at (xs : List (K × Addr × Value)) (k : K) : valueAt (flat xs) k = (atKey xs k).map (·.2) := by
  unfold valueAt flat atKey
  rw [List.find?_map, Option.map_map, Option.map_map]; rfl
theorem flat_stored (xs : List (K × Addr × Value)) (k : K) (a : Addr) (v : Value) : flat (storedH xs k a v) = stored (flat xs) k v := by
  unfold storedH stored
  have e : (flat xs).any (fun x => decide (x.1 = k)) = (atKey xs k).isSome := by
    unfold flat atKey; rw [List.any_map, Option.isSome_map, List.isSome_find?]; rfl
  rw [e]
  split
  · unfold flat
    rw [List.map_map, List.map_map]
    refine List.map_congr_left fun x _ => ?_
    show ((putAt k v x).1, (putAt k v x).2.2) = if x.1 = k then (x.1, v) else (x.1, x.2.2)
    unfold putAt; split <;> rfl
  · unfold flat; rw [List.map_append]; rfl
end
inductive SkR : MV → SK → Prop
  | i {n : Int} : SkR (.int n) (.i n)
  | s {x : Str} : SkR (.str x) (.s x)
inductive TkR : List MV → List SK → Prop
  | nil : TkR [] []
  | cons {m : MV} {k : SK} {ms : List MV} {ks : List SK} (h : SkR m k) (r : TkR ms ks) : TkR (m :: ms) (k :: ks)
theorem SkR.is {h : Heap} {m : MV} {k : SK} {v : Value} (e : SkR m k) (r : VRep X h m v) : SK.is k v = true := by
  cases e with
  | i => obtain ⟨t, rfl⟩ := iI r; exact beq_self_eq_true _
  | s => obtain ⟨t, rfl⟩ := iS r; exact beq_self_eq_true _
theorem TkR.items {h : Heap} {l : List MV} {ks : List SK} (e : TkR l ks) : ∀ {vs : List Value}, VReps X h l vs → ItemsAre (skKind X.prog X.w) ks vs := by
  induction e with
  | nil => intro vs r; rw [r.inv0]; exact .nil
  | cons e _ ih => intro vs r; obtain ⟨v, rs, rfl, a, b⟩ := r.inv; exact .cons (e.is a) (ih b)
theorem TkR.is {h : Heap} {l : List MV} {ks : List SK} {v : Value} (e : TkR l ks) (r : VRep X h (.tup l) v) : ∃ a, v = .ref a ∧ (tupleKind (skKind X.prog X.w)).is h ks a := by
  obtain ⟨a, vs, rfl, ⟨o, ho, hc, n, hd⟩, hr⟩ := iT r
  exact ⟨a, rfl, o, vs, n, ho, hc, hd, e.items hr⟩
inductive AtR (l : List MV) : Int → MV → Prop
  | mk {k : Int} {m : MV} (h0 : 0 ≤ k) (h1 : k < 2 ^ 62) (h : l[k.toNat]? = some m) : AtR l k m
theorem AtR.nat {l : List MV} {i : Nat} {m : MV} (h : l[i]? = some m) (hi : i < 2 ^ 62) : AtR l (i : Int) m := ⟨by (first | lia | omega), by (first | lia | omega), h⟩
inductive IdxR (H : MH) : MV → MV → MV → Prop
  | tup {l : List MV} {k : Int} {m : MV} (h : AtR l k m) : IdxR H (.tup l) (.int k) m
  | list {a : Addr} {l : List MV} {k : Int} {m : MV} (hl : H a = some (.L l)) (h : AtR l k m) : IdxR H (.ref a) (.int k) m
  | dict {a : Addr} {l : List (SK × MV)} {o : Obj} {i m : MV} {k : SK} (hl : H a = some (.D (.v l) o)) (hk : SkR i k) (h : dget l k = some m) : IdxR H (.ref a) i m
  | dictT {a : Addr} {l : List (List SK × MV)} {o : Obj} {i : List MV} {m : MV} {k : List SK} (hl : H a = some (.D (.t l) o)) (hk : TkR i k) (h : dget l k = some m) : IdxR H (.ref a) (.tup i) m
theorem PRep.at {h : Heap} {K : Type} [DecidableEq K] {l : List (K × MV)} {kvs : List (K × Value)} {k : K} {m : MV} (r : PRep X h l kvs) (e : dget l k = some m) : ∃ v, valueAt kvs k = some v ∧ VRep X h m v := by
  rcases r.get (k := k) with ⟨q, _⟩ | ⟨m', v, q, q2, q3⟩
  · rw [q] at e; cases e
  · rw [q] at e; cases e; exact ⟨v, q2, q3⟩
theorem roomKey {A : Around} (r : Room d A) : (tupleKind (skKind X.prog X.w)).room A.in1 := tupleKind_room_in1 (by have := r.units; (first | lia | omega))
theorem get_op {o i m : MV} {vo vi : Value} {A : Around} {s : Shared} {H : MH} {Q : Value → Shared → Prop} (room : Room d A) (r : Rep X H s.heap) (ro : VRep X s.heap o vo) (ri : VRep X s.heap i vi) (e : IdxR H o i m)
    (q : ∀ v tk, VRep X s.heap m v → Q v { s with toks := tk }) : wpAny (mdl X) A (getItem vo vi) Q NoE s ∧ ∃ T id, s.TypeIs vo T ∧ typeLookup (.type T) (Str.ofString "__getitem__") = pure (some (.builtin id)) := by
  cases e with
  | tup h =>
    obtain ⟨h0, h1, h⟩ := h
    obtain ⟨a, vs, rfl, ht, hr⟩ := iT ro
    obtain ⟨t, rfl⟩ := iI ri
    obtain ⟨v, hv, rv⟩ := hr.get h
    rename_i k
    have lt : k.toNat < vs.size := (List.getElem?_eq_some_iff.mp hv).1
    refine ⟨getItem_tuple (items := vs) ht (by (first | lia | omega)) (by (first | lia | omega)) (j := k.toNat) ?_ (by simpa using hv) (q v s.toks rv), "tuple", _, ?_, slot_tuple_getitem.lookup⟩
    · unfold seqIndex?
      simp only [show ¬ k < 0 by (first | lia | omega), if_false]
      rw [if_pos (by rw [Bool.and_eq_true, decide_eq_true_eq, decide_eq_true_eq]; (first | lia | omega))]
    · obtain ⟨o, ho, hc, _⟩ := ht; exact ⟨o, ho, hc⟩
  | list hl h =>
    obtain ⟨h0, h1, h⟩ := h
    cases iR ro
    obtain ⟨t, rfl⟩ := iI ri
    obtain ⟨vs, hp, h2⟩ := r.list hl
    obtain ⟨v, hv, rv⟩ := h2.get h
    exact ⟨wpAny_getItem_list hp.isList h0 (by (first | lia | omega)) (by simpa using hv) (q v s.toks rv), "list", _, hp.isList.typeIs, slot_list_getitem.lookup⟩
  | dict hl hk h =>
    cases iR ro
    obtain ⟨_, kvs, hd, hr⟩ := r.cell _ _ hl
    obtain ⟨v, hv, rv⟩ := hr.at h
    exact ⟨wpAny_getItem_of (knd := skKind X.prog X.w) (hk.is ri) hd.mapOf hv (q v _ rv), "dict", _, hd.typeIs, slot_dict_getitem.lookup⟩
  | dictT hl hk h =>
    cases iR ro
    obtain ⟨b, rfl, isK⟩ := hk.is ri
    obtain ⟨_, xs, hd, hr⟩ := r.cell _ _ hl
    obtain ⟨v, hv, rv⟩ := hr.at h
    rw [flat_at] at hv
    obtain ⟨p, hp, rfl⟩ := Option.map_eq_some_iff.mp hv
    exact ⟨wpAny_getItem_heap (roomKey room) isK hd hp (q p.2 _ rv), "dict", _, hd.typeIs, slot_dict_getitem.lookup⟩
noncomputable def wIdx (P R : WE) : WE := fun Q σ => P (fun o σ₁ => R (fun i σ₂ => ∃ m, IdxR σ₂.H o i m ∧ Q m σ₂) σ₁) σ
theorem SE.idx {a b : Expr} {pos : Pos} {P R : WE} (ha : SE X d F a P) (hb : SE X d F b R) (hs : ∀ o i, subscripted b false o i = operate [o, i] (getItem o i) := by intro _ _; rfl) : SE X d F (.Subscript a b pos) (wIdx P R) := by
  intro Q σ h A s r g
  refine Subscript_ (ha.run2 hb (Q := fun o i σ' => ∃ m, IdxR σ'.H o i m ∧ Q m σ') h r g fun _ _ σ' vo vi s' ro ri g' e ⟨m, hm, q⟩ => ?_)
  obtain ⟨w, T, id, ty, lk⟩ := get_op (Q := EPost X F s σ.H Q) r g'.rep ro ri hm fun v tk rv => ⟨m, σ', rv, g'.tk tk, e.trans (.tk ..), q⟩
  exact tail_any ty lk w (hs vo vi)
noncomputable def aIdx (X : Ctx) (c : Nat) (x : Str) : Option Nat := (X.attrs c).findIdx? (· == x)
theorem aIdx_get {c : Nat} {x : Str} {i : Nat} (e : aIdx X c x = some i) : (X.attrs c)[i]? = some x := by
  unfold aIdx at e
  obtain ⟨h, h1, _⟩ := List.findIdx?_eq_some_iff_getElem.mp e
  rw [List.getElem?_eq_getElem h]
  exact congrArg some (eq_of_beq h1)
noncomputable def getOkB (K : Frag) (C : Addr) (name : Str) : Bool := plainGet K C name && hasDictIn K C && match findIn K (.ref C) name with | some attr => noGet K attr | none => false
noncomputable def setOkB (K : Frag) (C : Addr) (name : Str) : Bool := (findIn K (.ref C) "__setattr__" == some (some (.builtin "object.__setattr__"))) && plainOver K C && (takerIn K C name == some Option.none) && hasDictIn K C
noncomputable def methOkB (K : Frag) (C : Addr) (name : Str) (f : Addr) : Bool := plainGet K C name && (findIn K (.ref C) name == some (some (.ref f))) && isFn K (.ref f)
theorem ns_look {h : Heap} {a : Addr} {m : Str → Option Value} {o : Obj} (n : h.Ns a m) (ho : h.get? a = some o) (x : Str) : lookIn x o = some (m x) := by
  obtain ⟨o', es, ep, ho', hd, hk, hm⟩ := n
  rw [ho] at ho'; cases ho'
  unfold lookIn
  rw [hd]
  dsimp only
  have e := hm x
  unfold nsFind findBy at e
  rw [← Array.find?_toList] at e
  cases q : es.toList.find? (·.key.isStr x) with
  | some en => rw [q] at e; simp only [Option.map_some] at e; simp [e]
  | none =>
    rw [q] at e
    simp only [Option.map_none] at e
    have : es.toList.any (·.refKey) = false := by
      rw [List.any_eq_false]
      intro en hen
      obtain ⟨n, t, hkk⟩ := hk en (Array.mem_toList_iff.mp hen)
      simp [DictEntry.refKey, hkk]
    simp [this, e]
structure Ctx.Cls (X : Ctx) : Prop where
  get : ∀ (c i : Nat) (x : Str), (X.attrs c)[i]? = some x → getOkB X.K (X.cls c) x = true
  set : ∀ (c i : Nat) (x : Str), (X.attrs c)[i]? = some x → setOkB X.K (X.cls c) x = true
  nodup : ∀ c, (X.attrs c).Nodup
  small : ∀ c, (X.attrs c).length ≤ 64
theorem vrep_handed {h : Heap} {m : MV} {v : Value} (r : VRep X h m v) : handedIn v = true := by
  cases m with
  | none => simp only [VRep] at r; subst r; rfl
  | bool => cases iB r; rfl
  | int => obtain ⟨t, rfl⟩ := iI r; rfl
  | str => obtain ⟨t, rfl⟩ := iS r; rfl
  | tup => obtain ⟨a, vs, rfl, _⟩ := iT r; rfl
  | ref => cases iR r; rfl
  | inst => obtain ⟨x, rfl, _⟩ := iX r; rfl
inductive AttrR (X : Ctx) (H : MH) (x : Str) : MV → MV → Prop
  | mk {c i : Nat} {a : Addr} {l : List (Option MV)} {m : MV} (h : H a = some (.A c l)) (hi : aIdx X c x = some i) (hl : l[i]? = some (some m)) : AttrR X H x (.inst c a) m
theorem Rep.kin (ok : X.Ok) {H : MH} {h : Heap} (r : Rep X H h) : X.K.In h := fun b o hb => r.keep _ _ (ok.kin b o hb)
theorem attr_op (ok : X.Ok) (cl : X.Cls) {o m : MV} {vo : Value} {x : Str} {A : Around} {s : Shared} {H : MH} {ex : Bool} {Q E : Value → Shared → Prop} (r : Rep X H s.heap) (ro : VRep X s.heap o vo) (e : AttrR X H x o m)
    (q : ∀ v tk, VRep X s.heap m v → Q v { s with toks := tk }) : wpAny (mdl X) A (getAttr vo x ex) Q E s := by
  obtain ⟨hA, hi, hl⟩ := e
  have hx := aIdx_get hi
  obtain ⟨es, n, mp, ho, hn, hz, hmem, hv⟩ := r.cell _ _ hA
  obtain ⟨v, hmv, rv⟩ := hv _ x m hx hl
  obtain ⟨y, rfl, hy⟩ := iX ro
  have gk := cl.get _ _ x hx
  unfold getOkB at gk
  simp only [Bool.and_eq_true] at gk
  obtain ⟨⟨g1, g2⟩, g3⟩ := gk
  split at g3
  · rename_i attr hat
    exact get_value (r.kin ok) ⟨hy, rfl, rfl, ho⟩ (plainGet_of g1).1 (findObj_own g2 hat g3 (by rw [ns_look hn ho, hmv])) (vrep_handed rv) (q v _ rv)
  · cases g3
noncomputable def wAttr (X : Ctx) (x : Str) (P : WE) : WE := fun Q σ => P (fun o σ₁ => ∃ m, AttrR X σ₁.H x o m ∧ Q m σ₁) σ
theorem SE.attr (ok : X.Ok) (cl : X.Cls) {a : Expr} {x : Str} {pos : Pos} {P : WE} (ha : SE X d F a P)
    (he : eval (.Attribute a x pos) F.env = (do let o ← eval a F.env; standAt pos.atName; let r ← holding [o] (getAttr o x true); letTemporaryGo a o r; pure r) := by rfl) : SE X d F (.Attribute a x pos) (wAttr X x P) :=
  fun Q σ h A s r g => Attribute_any_ (ha.run h r g fun mo σ₁ vo s₁ ro g₁ e₁ ⟨m, hm, q⟩ => attr_op ok cl g₁.rep ro hm fun v tk rv => ⟨m, σ₁, rv, g₁.tk tk, e₁.trans (.tk ..), q⟩) he
noncomputable def UPost (X : Ctx) (F : FI) (s : Shared) (H : MH) (Q : St → Prop) (_ : Unit) (s' : Shared) : Prop := ∃ σ', Good X F σ' s' ∧ Evo F.foot s H s' σ'.H ∧ Q σ'
theorem UPost.back {s s₁ : Shared} {H H₁ : MH} {Q : St → Prop} {v : Unit} {s' : Shared} (e : Evo F.foot s H s₁ H₁) (p : UPost X F s₁ H₁ Q v s') : UPost X F s H Q v s' := by
  obtain ⟨σ', b, c, q⟩ := p
  exact ⟨σ', b, e.trans c, q⟩
noncomputable def setC : List (Option MV) → Nat → MV → (List (Option MV) → Prop) → Prop
  | [], _, _, K => K []
  | _ :: r, 0, m, K => K (some m :: r)
  | x :: r, i + 1, m, K => setC r i m fun l => K (x :: l)
theorem setC_eq : ∀ {l : List (Option MV)} {i : Nat} {m : MV} {K : List (Option MV) → Prop}, setC l i m K → K (l.set i (some m))
  | [], _, _, _, h => h
  | _ :: _, 0, _, _, h => h
  | _ :: r, i + 1, _, K, h => setC_eq (l := r) (K := fun l => K (_ :: l)) h
theorem idx_unique {l : List Str} (n : l.Nodup) {i j : Nat} {x : Str} (h : l[i]? = some x) (h' : l[j]? = some x) : i = j :=
  (List.getElem?_inj (List.getElem?_eq_some_iff.mp h).1 n).mp (h.trans h'.symm)
theorem set_get {α : Type} {l : List (Option α)} {i j : Nat} {v w : α} (h : (l.set i (some v))[j]? = some (some w)) : (j = i ∧ w = v) ∨ (j ≠ i ∧ l[j]? = some (some w)) := by
  by_cases q : i = j
  · subst q
    by_cases b : i < l.length
    · rw [List.getElem?_set_self b] at h; cases h; exact .inl ⟨rfl, rfl⟩
    · rw [List.getElem?_eq_none (by simpa using b)] at h; cases h
  · rw [List.getElem?_set_ne q] at h; exact .inr ⟨fun z => q z.symm, h⟩
theorem Good.own {loc : List (Option MV)} {s : Shared} {h' : Heap} {a : Addr} {o' : Obj} {σ : St} (g : Good X F σ s) (ft : F.foot a) (kb : But a s.heap h') (ha : h'.get? a = some o') (n : Nat) (hl : KF s.heap h' → LocRep X F loc h') :
    Good X F ⟨loc, σ.H⟩ { s with heap := h', toks := n } ∧ Evo F.foot s σ.H { s with heap := h', toks := n } σ.H := by
  have nfz : ∀ o, s.heap.get? a = some o → ¬ Froz o := fun o ho f => g.notFoot a o ho f ft
  have nd := g.off a ft
  exact ⟨⟨g.fok, g.rep.but a kb (g.new a ft) nfz (fun _ _ => rfl) (fun c e => by rw [nd] at e; cases e), hl (kb.kf nfz), g.off, g.new⟩, .write (fun _ _ => rfl) (.inl ft) (fun z => (z nd).elim) kb fun _ => ne_of_some ha⟩
theorem store_slot {i : Nat} {x : Str} {m : MV} {v : Value} {Q : St → Prop} {σ : St} {A : Around} {s : Shared} (hx : Slot F i x) (g : Good X F σ s) (rv : VRep X s.heap m v) (q : Q ⟨σ.loc.set i (some m), σ.H⟩) :
    wpAny (mdl X) A (storeName F.env x v) (UPost X F s σ.H Q) NoE s := by
  obtain ⟨mp, n, hm⟩ := g.loc.ns
  cases hx with
  | loc h1 h2 hd =>
    refine wpAny_storeName_local h2 n (fun h' n' sb => ?_) (by rw [g.fok.kind]; rfl)
    have kb : But F.env.locals s.heap h' := fun b o q e => by rw [sb.2 b q]; exact e
    obtain ⟨o', _, _, ho', _⟩ := id n'
    obtain ⟨g', ev⟩ := g.own (loc := σ.loc.set i (some m)) (.inl rfl) kb ho' (s.toks + 1) fun kf => by
      refine ⟨⟨_, n', fun j y mv hy hk hj => ?_⟩, fun y c hc => ?_⟩
      · rcases set_get hj with ⟨rfl, rfl⟩ | ⟨hne, hj⟩
        · have : y = x := by rw [h1] at hy; cases hy; rfl
          exact ⟨v, if_pos this, VRep.keep kf rv⟩
        · have : y ≠ x := fun e => hne (idx_unique g.fok.nodup hy (e ▸ h1))
          obtain ⟨u, hu, hr⟩ := hm j y mv hy hk hj
          exact ⟨u, (if_neg this).trans hu, VRep.keep kf hr⟩
      · obtain ⟨ov, ⟨o, ho, hd'⟩, hc'⟩ := g.loc.cl y c hc
        refine ⟨ov, ⟨o, kb c o (g.fok.apart y c hc) ho, hd'⟩, fun j mv hy hj => ?_⟩
        rcases set_get hj with ⟨rfl, rfl⟩ | ⟨hne, hj⟩
        · have : y = x := by rw [h1] at hy; cases hy; rfl
          have z := g.fok.cellk y c hc
          rw [this, h2] at z; cases z
        · obtain ⟨u, hu, hr⟩ := hc' j mv hy hj
          exact ⟨u, hu, VRep.keep kf hr⟩
    exact ⟨_, g', ev, q⟩
  | cell h1 h2 c h3 hd =>
    obtain ⟨ov, hc, _⟩ := g.loc.cl x c h3
    refine wpAny_storeName_cell g.fok.kind h2 h3 hc fun h' hc' sb => ?_
    have kb : But c s.heap h' := fun b o q e => by rw [sb.2 b q]; exact e
    obtain ⟨o', ho', _⟩ := id hc'
    obtain ⟨o, es, ep, ho, hd'⟩ := n
    obtain ⟨g', ev⟩ := g.own (loc := σ.loc.set i (some m)) (.inr ⟨x, h3⟩) kb ho' s.toks fun kf => by
      refine ⟨⟨mp, ⟨o, es, ep, kb _ _ (fun e => g.fok.apart x c h3 e.symm) ho, hd'⟩, fun j y mv hy hk hj => ?_⟩, fun y c' hy => ?_⟩
      · rcases set_get hj with ⟨rfl, rfl⟩ | ⟨hne, hj⟩
        · have : y = x := by rw [h1] at hy; cases hy; rfl
          rw [this, h2] at hk; cases hk
        · obtain ⟨u, hu, hr⟩ := hm j y mv hy hk hj
          exact ⟨u, hu, VRep.keep kf hr⟩
      · by_cases q : c' = c
        · subst q
          have e := g.fok.cells y x c' hy h3
          subst e
          refine ⟨some v, hc', fun j mv hj hl => ?_⟩
          rcases set_get hl with ⟨_, rfl⟩ | ⟨hne, _⟩
          · exact ⟨_, rfl, VRep.keep kf rv⟩
          · exact (hne (idx_unique g.fok.nodup hj h1)).elim
        · obtain ⟨ov', ⟨o', ho', hd''⟩, hm'⟩ := g.loc.cl y c' hy
          refine ⟨ov', ⟨o', kb c' o' q ho', hd''⟩, fun j mv hj hl => ?_⟩
          rcases set_get hl with ⟨rfl, rfl⟩ | ⟨hne, hl⟩
          · have : y = x := by rw [h1] at hj; cases hj; rfl
            rw [this, h3] at hy; cases hy; exact (q rfl).elim
          · obtain ⟨u, hu, hr⟩ := hm' j mv hj hl
            exact ⟨u, hu, VRep.keep kf hr⟩
    exact ⟨_, g', ev, q⟩
noncomputable abbrev WA := MV → (St → Prop) → St → Prop
noncomputable def SAs (X : Ctx) (d : Nat) (F : FI) (t : Expr) (P : WA) : Prop :=
  ∀ m Q σ, P m Q σ → ∀ A s v, Room d A → Good X F σ s → VRep X s.heap m v → wpAny (mdl X) A (assign t F.env v) (UPost X F s σ.H Q) NoE s
noncomputable def wStore (i : Nat) : WA := fun m Q σ => setC σ.loc i m fun l => Q ⟨l, σ.H⟩
theorem SAs.name {i : Nat} {x : Str} {pos : Pos} (hx : Slot F i x) : SAs X d F (.Name x pos) (wStore i) :=
  fun m Q σ h A s v _ g rv => wpAny_assign_Name (store_slot hx g rv (setC_eq (K := fun l => Q ⟨l, σ.H⟩) h))
noncomputable def SAL (X : Ctx) (d : Nat) (F : FI) (ts : List Expr) (P : List MV → (St → Prop) → St → Prop) : Prop :=
  (assignEach ts F.env).findIdx? (·.1) = Option.none ∧ (assignEach ts F.env).length = ts.length ∧
  ∀ ms Q σ, P ms Q σ → ∀ A s vs, Room d A → Good X F σ s → VReps X s.heap ms vs → wpAny (mdl X) A (assignInOrder ((assignEach ts F.env).map (·.2)) vs) (UPost X F s σ.H Q) NoE s
noncomputable def wSt0 : List MV → (St → Prop) → St → Prop := fun ms Q σ => match ms with | [] => Q σ | _ => False
theorem SAL.nil : SAL X d F [] wSt0 := ⟨rfl, rfl, fun ms Q σ h A s vs _ g rv => by
  cases ms with
  | nil => rw [rv.inv0]; exact assignInOrder_nil ⟨σ, g, .refl .., h⟩
  | cons => exact h.elim⟩
noncomputable def wSt2 (P : WA) (R : List MV → (St → Prop) → St → Prop) : List MV → (St → Prop) → St → Prop := fun ms Q σ => match ms with | m :: r => P m (fun σ' => R r Q σ') σ | [] => False
theorem SAL.cons {t : Expr} {ts : List Expr} {P : WA} {R : List MV → (St → Prop) → St → Prop} (ht : SAs X d F t P) (hts : SAL X d F ts R) (he : assignEach (t :: ts) F.env = (false, assign t F.env) :: assignEach ts F.env := by rfl) :
    SAL X d F (t :: ts) (wSt2 P R) := by
  refine ⟨by rw [he, List.findIdx?_cons]; simp [hts.1], by rw [he]; exact congrArg (· + 1) hts.2.1, fun ms Q σ h A s vs r g rv => ?_⟩
  cases ms with
  | nil => exact h.elim
  | cons m ms =>
    obtain ⟨v, vs, rfl, rv, rvs⟩ := rv.inv
    rw [he]
    refine assignInOrder_cons (wpAny_mono (ht m _ σ h A s v r g rv) (fun _ s₁ p => ?_) fun _ _ x => x)
    obtain ⟨σ₁, g₁, e₁, q⟩ := p
    exact wpAny_mono (hts.2.2 ms Q σ₁ q A s₁ vs r g₁ (g.vreps e₁ rvs)) (fun _ _ p => p.back e₁) fun _ _ x => x
inductive TupR (n : Nat) : MV → List MV → Prop
  | mk {l : List MV} (h : l.length = n) : TupR n (.tup l) l
noncomputable def wUnpack (n : Nat) (R : List MV → (St → Prop) → St → Prop) : WA := fun m Q σ => ∃ l, TupR n m l ∧ R l Q σ
theorem SAs.tup {ts : List Expr} {k : Nat} {pos : Pos} {R : List MV → (St → Prop) → St → Prop} (h : SAL X d F ts R) : SAs X d F (.Tuple ts k pos) (wUnpack ts.length R) := by
  rintro m Q σ ⟨ms, ⟨hl⟩, hq⟩ A s v r g rv
  obtain ⟨a, vs, rfl, ht, rvs⟩ := iT rv
  refine assign_Tuple_tuple r.handled ht (by rw [h.2.1, ← hl]; exact rvs.length) h.1 fun h' ex => ?_
  have k' : ∀ b o, s.heap.get? b = some o → h'.get? b = some o := fun b o e => ex b o (Nat.ne_of_lt (Heap.lt_size e)) e
  have ev : Evo NoF s σ.H { s with heap := h' } σ.H := Evo.ext k' s.toks
  exact wpAny_mono (h.2.2 ms Q σ hq A _ vs.toList r (g.step ev (g.rep.ext k')) (g.vreps ev.off rvs)) (fun _ _ p => p.back ev.off) fun _ _ x => x
end
section
variable {X : Ctx} {d : Nat} {F : FI}
theorem intDict_le {h : Heap} {a : Addr} {K : Type} [DecidableEq K] {knd : PySem.KeyKind X.prog X.w K} {kvs : List (K × Value)} (hd : h.DictOf knd a kvs) (hl : kvs.length ≤ 1000) : h.DictLe a sizeLine := by
  obtain ⟨o, es, ep, ho, _, hd', _, hp, _⟩ := hd
  intro o' es' ep' ho' hd''
  rw [ho] at ho'; cases ho'
  rw [hd'] at hd''; cases hd''
  have := hp.length
  rw [Array.length_toList] at this
  rw [this, sizeLine_eq]; (first | lia | omega)
set_option maxRecDepth 100000 in
theorem setItem_pl {prog : Program} {w : World} {A : Around} {E : Value → Shared → Prop} {s : Shared} {l : Addr} {vs : Array Value} {k : Int} {t : Tok} {v : Value} {Q : Unit → Shared → Prop} (hl : s.heap.PlainList l vs) (h0 : 0 ≤ k) (hj : k < vs.size) (hfit : k < 2 ^ 63)
    (hQ : ∀ h', h'.PlainList l (vs.setIfInBounds k.toNat v) → Heap.SameBut l s.heap h' → Q () { s with heap := h' }) : wpAny (model prog w) A (setItem (.ref l) (.int k t) v) Q E s := by
  obtain ⟨n, ho⟩ := hl
  have ty : s.TypeIs (.ref l) "list" := ⟨_, ho, rfl⟩
  unfold setItem
  try with_reducible refine wpAny_holding ?_
  first | refine wpAny_bind (wpAny_pure ?_) | skip
  refine wpAny_bind (wpAny_sequenceKey ty (by decide) ?_)
  refine wpAny_bind (wpAny_callSpecial?_slot (name := Str.ofString "__setitem__") ty F.slot_list_setitem (wpAny_call_entry F.slot_list_setitem ty F.entry_list_setitem ?_ (F.args_list_setitem_3 _ _ _)))
  show wpAny _ _ (Builtin.List.listSubscript? (.int k t) >>= _) _ _ s
  refine wpAny_bind (wpAny_listSubscript_int (fitsIndex_of h0 hfit) ?_)
  clear hfit
  obtain ⟨j, rfl⟩ := Int.eq_ofNat_of_zero_le h0
  have hj : j < vs.size := by (first | lia | omega)
  show wpAny _ _ ((seqItemAt l j >>= fun r => pure (r.map (j, ·))) >>= _) _ _ s
  refine wpAny_bind (wpAny_bind (wpAny_seqItemAt ho rfl (wpAny_pure ?_)))
  rw [Array.getElem?_eq_getElem hj]
  show wpAny _ _ (setSeqItemAt l j v >>= _) _ _ s
  refine wpAny_bind (wpAny_setSeqItemAt ho rfl ?_)
  have up : (s.heap.update l (Obj.mapSeq (·.setIfInBounds j v))).PlainList l (vs.setIfInBounds j v) := ⟨_, Heap.get?_update_self _ ho rfl⟩
  refine wpAny_pure ⟨.none, rfl, wpAny_pure (hQ _ up (Heap.SameBut.update ..))⟩
inductive SetR (H : MH) : MV → MV → MV → Addr → (Obj → Cell) → Prop
  | list {a : Addr} {l : List MV} {k : Int} {v : MV} (hl : H a = some (.L l)) (h0 : 0 ≤ k) (h1 : k < 2 ^ 62) (h2 : k.toNat < l.length) : SetR H (.ref a) (.int k) v a fun _ => .L (l.set k.toNat v)
  | dict {a : Addr} {l : List (SK × MV)} {o : Obj} {i v : MV} {k : SK} (hl : H a = some (.D (.v l) o)) (hk : SkR i k) (hz : l.length ≤ 1000) : SetR H (.ref a) i v a fun o => .D (.v (dput l k v)) o
  | dictT {a : Addr} {l : List (List SK × MV)} {o : Obj} {i : List MV} {v : MV} {k : List SK} (hl : H a = some (.D (.t l) o)) (hk : TkR i k) (hz : l.length ≤ 1000) : SetR H (.ref a) (.tup i) v a fun o => .D (.t (dput l k v)) o
noncomputable def VPost (X : Ctx) (s : Shared) (H : MH) (H' : Obj → MH) (_ : Unit) (s' : Shared) : Prop := ∃ o, Rep X (H' o) s'.heap ∧ Evo NoF s H s' (H' o)
theorem SameBut.but {a : Addr} {h h' : Heap} (s : Heap.SameBut a h h') : But a h h' := fun b o q e => by rw [s.2 b q]; exact e
theorem Rep.kfAt {H : MH} {h h' : Heap} (r : Rep X H h) {a : Addr} {c : Cell} (e : H a = some c) (k : But a h h') : KF h h' := k.kf fun o ho f => by
  have := r.off ho f; rw [e] at this; cases this
theorem Rep.putD {H : MH} {s : Shared} {a : Addr} {c : Cell} {v : DV} {h' : Heap} (r : Rep X H s.heap) (e : H a = some c) (k : But a s.heap h') (hv : KF s.heap h' → DRep X h' a v) (n : Nat) : VPost X s H (fun o => H.set a (.D v o)) () { s with heap := h', toks := n } := by
  have D := hv (r.kfAt e k)
  have : ∃ o, h'.get? a = some o := by
    cases v with
    | v l => obtain ⟨_, ⟨o, _, _, ho, _⟩, _⟩ := D; exact ⟨o, ho⟩
    | t l => obtain ⟨_, ⟨o, _, _, ho, _⟩, _⟩ := D; exact ⟨o, ho⟩
  obtain ⟨o, ho⟩ := this
  exact ⟨o, r.put (.inl (ne_of_some e)) k (c := .D v o) ⟨ho, D⟩ n⟩
theorem PRep.len {h : Heap} {K : Type} {l : List (K × MV)} {kvs : List (K × Value)} (r : PRep X h l kvs) : kvs.length = l.length := by
  have := congrArg List.length r.keys; rwa [List.length_map, List.length_map] at this
theorem set_op {o i m : MV} {vo vi v : Value} {A : Around} {s : Shared} {H : MH} {a : Addr} {c : Obj → Cell} (room : Room d A) (r : Rep X H s.heap) (ro : VRep X s.heap o vo) (ri : VRep X s.heap i vi) (rv : VRep X s.heap m v)
    (e : SetR H o i m a c) : wpAny (mdl X) A (setItem vo vi v) (VPost X s H fun o => H.set a (c o)) NoE s := by
  cases iR (a := a) (v := vo) (X := X) (h := s.heap) (by cases e <;> exact ro)
  cases e with
  | list hl h0 h1 h2 =>
    obtain ⟨t, rfl⟩ := iI ri
    obtain ⟨vs, hp, hr⟩ := r.list hl
    have len : _ = vs.size := hr.length
    refine setItem_pl hp h0 (by (first | lia | omega)) (by (first | lia | omega)) fun h' hl' sb => ?_
    have k := SameBut.but sb
    exact ⟨default, r.put (.inl (ne_of_some hl)) k (c := .L _) ⟨_, hl', by rw [Array.toList_setIfInBounds]; exact VReps.set (VReps.keep (r.kfAt hl k) hr) (VRep.keep (r.kfAt hl k) rv)⟩ s.toks⟩
  | dict hl hk hz =>
    obtain ⟨_, kvs, hd, hr⟩ := r.cell _ _ hl
    have len := hr.len
    exact wpAny_setItem_pairs (knd := skKind X.prog X.w) (hk.is ri) hd (fun h' hd' sb => r.putD (v := .v _) hl (SameBut.but sb) (fun kf => ⟨_, hd', (PRep.keep kf hr).put (VRep.keep kf rv)⟩) _) (by first | exact intDict_le hd (by (first | lia | omega)) | (rw [sizeLine_eq]; (first | lia | omega)))
  | dictT hl hk hz =>
    obtain ⟨b, rfl, isK⟩ := hk.is ri
    obtain ⟨_, xs, hd, hr⟩ := r.cell _ _ hl
    have len : xs.length = _ := (List.length_map _).symm.trans hr.len
    exact wpAny_setItem_heap (roomKey room) isK hd (fun h' hd' sb => r.putD (v := .t _) hl (SameBut.but sb) (fun kf => ⟨_, hd', by rw [flat_stored]; exact (PRep.keep kf hr).put (VRep.keep kf rv)⟩) _) (by rw [sizeLine_eq]; (first | lia | omega))
inductive AsetR (X : Ctx) (H : MH) (x : Str) (m : MV) : MV → Addr → Cell → Prop
  | mk {c i : Nat} {a : Addr} {l : List (Option MV)} (h : H a = some (.A c l)) (hi : aIdx X c x = some i) (hl : i < l.length) : AsetR X H x m (.inst c a) a (.A c (l.set i (some m)))
theorem filter_mono {p p' : Str → Bool} (h : ∀ y, p y = true → p' y = true) : ∀ l : List Str, (l.filter p).length ≤ (l.filter p').length
  | [] => Nat.le_refl _
  | y :: r => by
    have := filter_mono h r
    cases hz : p y with
    | true => rw [List.filter_cons_of_pos hz, List.filter_cons_of_pos (h y hz)]; exact Nat.succ_le_succ this
    | false =>
      rw [List.filter_cons_of_neg (by rw [hz]; nofun)]
      refine Nat.le_trans this ?_
      cases hz' : p' y with
      | true => rw [List.filter_cons_of_pos hz']; exact Nat.le_succ _
      | false => rw [List.filter_cons_of_neg (by rw [hz']; nofun)]; exact Nat.le_refl _
theorem filter_grow {p p' : Str → Bool} (h : ∀ y, p y = true → p' y = true) {x : Str} (h1 : p x = false) (h2 : p' x = true) : ∀ {l : List Str}, x ∈ l → (l.filter p).length + 1 ≤ (l.filter p').length
  | y :: r, hx => by
    by_cases q : y = x
    · subst q
      rw [List.filter_cons_of_neg (by rw [h1]; nofun), List.filter_cons_of_pos h2]
      exact Nat.succ_le_succ (filter_mono h r)
    · have ih := filter_grow h h1 h2 ((List.mem_cons.mp hx).resolve_left fun e => q e.symm)
      cases hz : p y with
      | true => rw [List.filter_cons_of_pos hz, List.filter_cons_of_pos (h y hz)]; exact Nat.succ_le_succ ih
      | false =>
        rw [List.filter_cons_of_neg (by rw [hz]; nofun)]
        refine Nat.le_trans ih ?_
        cases hz' : p' y with
        | true => rw [List.filter_cons_of_pos hz']; exact Nat.le_succ _
        | false => rw [List.filter_cons_of_neg (by rw [hz']; nofun)]; exact Nat.le_refl _
theorem nsSet_dict {s : Shared} {a : Addr} {mp : Str → Option Value} {es : Array DictEntry} {n : Nat} {x : Str} {v : Value} {M : Model} {A : Around} {E : Value → Shared → Prop} {Q : Unit → Shared → Prop}
    (ho : s.heap.get? a = some (⟨.type "dict", none, .dict es n, #[]⟩ : Obj)) (hn : s.heap.Ns a mp)
    (h : ∀ h' es' n', h'.get? a = some (⟨.type "dict", none, .dict es' n', #[]⟩ : Obj) → es'.size ≤ es.size + (if mp x = none then 1 else 0) → h'.Ns a (fun y => if y = x then some v else mp y) → Heap.SameBut a s.heap h' → Q () { s with heap := h', toks := s.toks + 1 }) :
    wpAny M A (nsSet a x v) Q E s := by
  obtain ⟨o, es₀, ep, ho₀, hd, hk, hm⟩ := hn
  rw [ho] at ho₀; cases ho₀; cases hd
  have hany : es.any (·.refKey) = false := by
    rw [Array.any_eq_false']; intro e he; obtain ⟨n, t, h⟩ := hk e he; simp [DictEntry.refKey, h]
  unfold nsSet strHash
  refine wpAny_bind (wpAny_bind (wpAny_askSetting (wpAny_pure (wpAny_bind (wpAny_mkText (wpAny_bind (wpAny_loadPart ho ?_)))))))
  dsimp only
  simp only [aRefKeyMayBeTheName_eq, aRefKeyMayBeTheNameByArray, hany, Bool.and_false, Bool.false_eq_true, if_false]
  refine wpAny_updatePart ho ?_
  generalize (if x.cps.isEmpty = true then (0 : Int) else reduceHash (M.w.params.strHash x.cps)) = hs
  have sb : Heap.SameBut a s.heap (s.heap.update a (Obj.putName x hs (.str x s.toks) v)) := Heap.SameBut.update ..
  cases hi : es.findIdx? (·.key.isStr x) with
  | some i =>
    have e1 : Obj.putName x hs (.str x s.toks) v (⟨.type "dict", none, .dict es n, #[]⟩ : Obj) = ⟨.type "dict", none, .dict (es.modify i fun e => { e with val := v }) n, #[]⟩ := by
      simp only [Obj.putName_eq, Obj.putNameByArray, hi]
    have hg := Heap.get?_update_self (Obj.putName x hs (.str x s.toks) v) ho (by rw [e1]; rfl)
    rw [e1] at hg
    refine h _ _ _ hg (by rw [Array.size_modify]; (first | lia | omega)) ⟨_, _, _, hg, rfl, hk.modify _ _, fun y => ?_⟩ sb
    show _ = if y = x then some v else mp y
    rw [← hm]; exact findBy_modify (fun n v => v.isStr n) Value.isStr_inj es x y v i hi
  | none =>
    have e1 : Obj.putName x hs (.str x s.toks) v (⟨.type "dict", none, .dict es n, #[]⟩ : Obj) = ⟨.type "dict", none, .dict (es.push ⟨hs, .str x s.toks, v⟩) (n + 1), #[]⟩ := by
      simp only [Obj.putName_eq, Obj.putNameByArray, hi]
    have hg := Heap.get?_update_self (Obj.putName x hs (.str x s.toks) v) ho (by rw [e1]; rfl)
    rw [e1] at hg
    have hx : mp x = none := by
      rw [← hm x]; unfold nsFind findBy
      have : es.find? (fun e => e.key.isStr x) = none := by
        rw [Array.find?_eq_none]; intro e he
        simpa using (Array.findIdx?_eq_none_iff.mp hi) e he
      rw [this]; rfl
    refine h _ _ _ hg (by rw [Array.size_push, if_pos hx]; (first | lia | omega)) ⟨_, _, _, hg, rfl, hk.push _ _ _ _, fun y => ?_⟩ sb
    show _ = if y = x then some v else mp y
    rw [← hm]
    exact findBy_push (fun n v => v.isStr n) es x y _ _ v (fun z => by
      show (x == z) = decide (z = x)
      rw [Bool.eq_iff_iff, beq_iff_eq, decide_eq_true_eq, eq_comm]) hi
theorem count_grow {at_ : List Str} {mp : Str → Option Value} {x : Str} {v : Value} {z z' : Nat} (hx : x ∈ at_) (hz : z ≤ (at_.filter fun y => (mp y).isSome).length) (hz' : z' ≤ z + if mp x = none then 1 else 0) :
    z' ≤ (at_.filter fun y => (if y = x then some v else mp y).isSome).length := by
  have up : ∀ y, (mp y).isSome = true → (if y = x then some v else mp y).isSome = true := fun y h => by split; rfl; exact h
  by_cases q : mp x = none
  · rw [if_pos q] at hz'
    have := filter_grow (p := fun y => (mp y).isSome) (p' := fun y => (if y = x then some v else mp y).isSome) up (x := x) (by simp only [q]; rfl) (by simp) hx
    (first | lia | omega)
  · rw [if_neg q] at hz'
    have := filter_mono (p := fun y => (mp y).isSome) (p' := fun y => (if y = x then some v else mp y).isSome) up at_
    (first | lia | omega)
theorem aset_op (ok : X.Ok) (cl : X.Cls) {o m : MV} {vo v : Value} {x : Str} {A : Around} {s : Shared} {H : MH} {a : Addr} {c : Cell} (r : Rep X H s.heap) (ro : VRep X s.heap o vo) (rv : VRep X s.heap m v) (e : AsetR X H x m o a c) :
    wpAny (mdl X) A (setAttr vo x v) (VPost X s H fun _ => H.set a c) NoE s := by
  obtain ⟨hA, hi, hlt⟩ := e
  rename_i c i l
  have hx := aIdx_get hi
  obtain ⟨es, n, mp, ho, hn, hz, hmem, hv⟩ := r.cell _ _ hA
  obtain ⟨y, rfl, hy⟩ := iX ro
  have XK := r.kin ok
  have gk := cl.set c i x hx
  unfold setOkB at gk
  simp only [Bool.and_eq_true, beq_iff_eq] at gk
  obtain ⟨⟨⟨g1, g2⟩, g3⟩, g4⟩ := gk
  have I : InstAt s.heap y (instObj (X.cls c) a) (X.cls c) (some ⟨.type "dict", none, .dict es n, #[]⟩) := ⟨hy, rfl, rfl, ho⟩
  refine set_plain XK I g1 (osa_open (s := { s with toks := s.toks + 1 }) XK I g2 g3 fun b => ?_)
  obtain ⟨cd, hc, hd'⟩ := any_some (show (clsIn X.K (X.cls c)).any (·.hasDict) = true from g4)
  refine wpAny_bind (wpAny_pure (wpAny_bind (wpAny_bind (wpAny_loadPart hy (wpAny_bind ((looks_clsIn XK hc) _ _ _ _ (fun _ _ e => e) ?_))))))
  rw [hd']
  refine wpAny_pure (a := some a) (wpAny_bind (wpAny_pure (wpAny_bind ?_)))
  refine nsSet_dict ho hn fun h' es' n' ho' hz' hn' sb => ?_
  have hz2 := count_grow (v := v) (List.mem_of_getElem? hx) hz hz'
  refine wpAny_bind (wpAny_lookBehind ho' (pastItsLine_dict (by
    have := cl.small c
    have := List.length_filter_le (fun y => (if y = x then some v else mp y).isSome) (X.attrs c)
    rw [sizeLine_eq]; (first | lia | omega))) ?_)
  refine wpAny_pure ?_
  have kb := SameBut.but sb
  have kf := r.kfAt hA kb
  refine ⟨default, r.put (.inl (ne_of_some hA)) kb (c := .A _ _) ⟨es', n', _, ho', hn', hz2, fun y hy => ?_, fun j y mv hj hl => ?_⟩ _⟩
  · by_cases z : y = x
    · subst z; exact List.mem_of_getElem? hx
    · rw [if_neg z] at hy; exact hmem y hy
  · rcases set_get hl with ⟨rfl, rfl⟩ | ⟨hne, hl⟩
    · have : y = x := by rw [hx] at hj; cases hj; rfl
      exact ⟨v, if_pos this, VRep.keep kf rv⟩
    · have : y ≠ x := fun e => hne (idx_unique (cl.nodup c) hj (e ▸ hx))
      obtain ⟨u, hu, hr⟩ := hv j y mv hj hl
      exact ⟨u, (if_neg this).trans hu, VRep.keep kf hr⟩
noncomputable def wCtl (f : MF) : WS := fun Q σ => Q f σ
theorem SX.pass {pos : Pos} : SX X d F (.Pass pos) (wCtl .next) := fun _ σ h _ _ _ g => wpAny_Pass ⟨.next, σ, rfl, g, .refl .., h⟩
theorem SX.brk {pos : Pos} : SX X d F (.Break pos) (wCtl .brk) := fun _ σ h _ _ _ g => wpAny_Break ⟨.brk, σ, rfl, g, .refl .., h⟩
theorem SX.cont {pos : Pos} : SX X d F (.Continue pos) (wCtl .cont) := fun _ σ h _ _ _ g => wpAny_Continue ⟨.cont, σ, rfl, g, .refl .., h⟩
theorem SX.ret0 {pos : Pos} : SX X d F (.Return Option.none pos) (wCtl (.ret .none)) := fun _ σ h _ _ _ g => wpAny_Return_none ⟨.ret .none, σ, ⟨_, rfl, vN⟩, g, .refl .., h⟩
noncomputable def wRet (P : WE) : WS := fun Q σ => P (fun m σ' => Q (.ret m) σ') σ
theorem SX.ret {e : Expr} {pos : Pos} {P : WE} (he : SE X d F e P) : SX X d F (.Return (some e) pos) (wRet P) :=
  fun Q σ h A s r g => wpAny_Return_some (he.run h r g fun m σ₁ v s₁ rv g₁ e₁ q => ⟨.ret m, σ₁, ⟨v, rfl, rv⟩, g₁, e₁, q⟩)
noncomputable def wExpr (P : WE) : WS := fun Q σ => P (fun _ σ' => Q .next σ') σ
theorem SX.expr {e : Expr} {pos : Pos} {P : WE} (he : SE X d F e P) (hi : interactive F.env = false := by rfl) (hs : swapsWith e none pos.line F.env = pure false := by rfl) : SX X d F (.Expr e pos) (wExpr P) :=
  fun Q σ h A s r g => wpAny_Expr_any (he.run h r g fun m σ₁ v s₁ rv g₁ e₁ q => ⟨.next, σ₁, rfl, g₁, e₁, q⟩) hi hs
noncomputable def wIf (T : WT) (B C : WS) : WS := fun Q σ => T (fun b σ' => Br b (B Q σ') (C Q σ')) σ
theorem SX.if {test : Expr} {body orelse : List Stmt} {pos : Pos} {T : WT} {B C : WS} (ht : ST X d F test T) (hb : SS X d F body B) (hc : SS X d F orelse C) : SX X d F (.If test body orelse pos) (wIf T B C) := by
  intro Q σ h A s r g
  refine wpAny_If (wpAny_mono (ht _ σ h A s r g) (fun b s₁ p => ?_) fun _ _ x => x)
  obtain ⟨σ₁, g₁, e₁, q⟩ := p
  cases q with
  | t q => exact wpAny_mono (hb Q σ₁ q A s₁ r g₁) (fun _ _ p => p.back e₁) fun _ _ x => x
  | f q => exact wpAny_mono (hc Q σ₁ q A s₁ r g₁) (fun _ _ p => p.back e₁) fun _ _ x => x
theorem SPost.of_u {s s₁ : Shared} {H H₁ : MH} {Q : MF → St → Prop} (e : Evo F.foot s H s₁ H₁) {s' : Shared} (p : UPost X F s₁ H₁ (fun σ' => Q .next σ') () s') : SPost X F s H Q .next s' :=
  let ⟨σ₂, g₂, e₂, q⟩ := p; ⟨.next, σ₂, rfl, g₂, e.trans e₂, q⟩
noncomputable def wAsg (P : WE) (T : WA) : WS := fun Q σ => P (fun m σ₁ => T m (fun σ₂ => Q .next σ₂) σ₁) σ
theorem SX.asgName {i : Nat} {x : Str} {xp pos : Pos} {value : Expr} {P : WE} (hv : SE X d F value P) (hx : Slot F i x) (hs : swapsWith value (some (.Name x xp)) pos.line F.env = pure false := by rfl) :
    SX X d F (.Assign [.Name x xp] value pos) (wAsg P (wStore i)) :=
  fun Q σ h A s r g => wpAny_Assign_Name (hv.run h r g fun m σ₁ v s₁ rv g₁ e₁ q => wpAny_mono (store_slot hx g₁ rv (setC_eq (K := fun l => Q .next ⟨l, σ₁.H⟩) q)) (fun _ s₂ p => SPost.of_u e₁ p) fun _ _ x => x) hs
theorem SX.asgTup {ts : List Expr} {k : Nat} {tp pos : Pos} {value : Expr} {P : WE} {R : List MV → (St → Prop) → St → Prop} (hv : SE X d F value P) (ht : SAL X d F ts R)
    (hs : swapsWithSole [Expr.Tuple ts k tp] value pos.line F.env = pure false := by rfl) (hw : swappedStores [Expr.Tuple ts k tp] value F.env = pure none := by rfl) :
    SX X d F (.Assign [.Tuple ts k tp] value pos) (wAsg P (wUnpack ts.length R)) :=
  fun Q σ h A s r g => Assign_Tuple (hv.run h r g fun m σ₁ v s₁ rv g₁ e₁ q => wpAny_mono (SAs.tup ht m _ σ₁ q A s₁ v r g₁ rv) (fun _ s₂ p => SPost.of_u e₁ p) fun _ _ x => x) hs hw
theorem SPost.of_v {σ : St} {s₀ s s' : Shared} {H₀ : MH} {H' : Obj → MH} {Q : MF → St → Prop} (e : Evo F.foot s₀ H₀ s σ.H) (g : Good X F σ s) (v : VPost X s σ.H H' () s') (q : ∀ o, Q .next ⟨σ.loc, H' o⟩) : SPost X F s₀ H₀ Q .next s' :=
  let ⟨o, a, b⟩ := v; ⟨.next, ⟨σ.loc, H' o⟩, rfl, g.step b a, e.trans b.off, q o⟩
noncomputable def wAsgIdx (P R S : WE) : WS := fun Q σ => P (fun m σ₁ => R (fun o σ₂ => S (fun i σ₃ => ∃ a c, SetR σ₃.H o i m a c ∧ ∀ ob, Q .next ⟨σ₃.loc, σ₃.H.set a (c ob)⟩) σ₂) σ₁) σ
theorem SX.asgIdx {o i value : Expr} {tp pos : Pos} {P R S : WE} (hv : SE X d F value P) (ho : SE X d F o R) (hi : SE X d F i S) (hs : swapsWith value (some (.Subscript o i tp)) pos.line F.env = pure false := by rfl) :
    SX X d F (.Assign [.Subscript o i tp] value pos) (wAsgIdx P R S) :=
  fun Q σ h A s r g => wpAny_Assign_Subscript (hv.run h r g fun m σ₁ v s₁ rv g₁ e₁ q => ho.run2 hi (Q := fun o i σ₃ => ∃ a c, SetR σ₃.H o i m a c ∧ ∀ ob, Q .next ⟨σ₃.loc, σ₃.H.set a (c ob)⟩) q r g₁ fun _ _ σ₃ _ _ s₃ ro ri g₃ e₃ ⟨a, c, hf, q⟩ =>
    wpAny_mono (set_op r g₃.rep ro ri (g₁.vrep e₃ rv) hf) (fun _ s₄ p => SPost.of_v (e₁.trans e₃) g₃ p q) fun _ _ x => x) hs
noncomputable def wAsgAttr (X : Ctx) (P R : WE) (x : Str) : WS := fun Q σ => P (fun m σ₁ => R (fun o σ₂ => ∃ a c, AsetR X σ₂.H x m o a c ∧ Q .next ⟨σ₂.loc, σ₂.H.set a c⟩) σ₁) σ
theorem SX.asgAttr (ok : X.Ok) (cl : X.Cls) {o value : Expr} {x : Str} {tp pos : Pos} {P R : WE} (hv : SE X d F value P) (ho : SE X d F o R) (hs : swapsWith value (some (.Attribute o x tp)) pos.line F.env = pure false := by rfl) :
    SX X d F (.Assign [.Attribute o x tp] value pos) (wAsgAttr X P R x) :=
  fun Q σ h A s r g => plainObj_wpAny_Assign_Attribute (hv.run2 ho (Q := fun m o σ₂ => ∃ a c, AsetR X σ₂.H x m o a c ∧ Q .next ⟨σ₂.loc, σ₂.H.set a c⟩) h r g fun _ _ σ₂ _ _ s₂ rv ro g₂ e₂ ⟨a, c, hf, q⟩ =>
    wpAny_mono (aset_op ok cl g₂.rep ro rv hf) (fun _ s₄ p => SPost.of_v e₂ g₂ p fun _ => q) fun _ _ x => x) hs
inductive IBinR : Operator → MV → MV → MV → Prop
  | add {a b : Int} : IBinR .Add (.int a) (.int b) (.int (a + b))
  | sub {a b : Int} : IBinR .Sub (.int a) (.int b) (.int (a - b))
theorem ibin_op {op : Operator} {a b v : MV} {va vb : Value} {A : Around} {s : Shared} {Q E : Value → Shared → Prop} (ra : VRep X s.heap a va) (rb : VRep X s.heap b vb) (e : IBinR op a b v)
    (q : ∀ w tk, VRep X s.heap v w → Q w { s with toks := tk }) : wpAny (mdl X) A (inplaceOp op va vb) Q E s := by
  cases e with
  | add => obtain ⟨t, rfl⟩ := iI ra; obtain ⟨u, rfl⟩ := iI rb; exact iadd_int (q _ _ vI)
  | sub => obtain ⟨t, rfl⟩ := iI ra; obtain ⟨u, rfl⟩ := iI rb; exact isub_int (q _ _ vI)
noncomputable def wAugName (i : Nat) (op : Operator) (R : WE) : WS := fun Q σ => wLoc i (fun a σ₁ => R (fun b σ₂ => ∃ v, IBinR op a b v ∧ setC σ₂.loc i v fun l => Q .next ⟨l, σ₂.H⟩) σ₁) σ
theorem SX.augName {i : Nat} {x : Str} {xp pos : Pos} {op : Operator} {value : Expr} {R : WE} (hx : Slot F i x) (hv : SE X d F value R) : SX X d F (.AugAssign (.Name x xp) op value pos) (wAugName i op R) := by
  intro Q σ h A s r g
  refine wpAny_AugAssign_Name (wpAny_mono (load_slot hx h g) (fun va s₁ p => ?_) fun _ _ x => x)
  obtain ⟨a, σ₁, ra, g₁, e₁, q⟩ := p
  refine hv.run q r g₁ fun b σ₂ vb s₂ rb g₂ e₂ ⟨v, hv, q⟩ => ?_
  exact ibin_op (g₁.vrep e₂ ra) rb hv fun w tk rw' => wpAny_mono (store_slot hx (g₂.tk tk) rw' (setC_eq (K := fun l => Q .next ⟨l, σ₂.H⟩) q)) (fun _ s₃ p => SPost.of_u ((e₁.trans e₂).trans (.tk ..)) p) fun _ _ x => x
noncomputable def wAugAttr (X : Ctx) (P : WE) (x : Str) (op : Operator) (R : WE) : WS := fun Q σ => P (fun o σ₁ => ∃ u, AttrR X σ₁.H x o u ∧ R (fun b σ₂ => ∃ v, IBinR op u b v ∧ ∃ a c, AsetR X σ₂.H x v o a c ∧ Q .next ⟨σ₂.loc, σ₂.H.set a c⟩) σ₁) σ
theorem SX.augAttr (ok : X.Ok) (cl : X.Cls) {o value : Expr} {x : Str} {tp pos : Pos} {op : Operator} {P R : WE} (ho : SE X d F o P) (hv : SE X d F value R) : SX X d F (.AugAssign (.Attribute o x tp) op value pos) (wAugAttr X P x op R) :=
  fun Q σ h A s r g => wpAny_AugAssign_AttributeAny (ho.run h r g fun mo σ₁ vo s₁ ro g₁ e₁ ⟨u, hu, q⟩ => attr_op ok cl g₁.rep ro hu fun va tk ra =>
    hv.run q r (g₁.tk tk) fun b σ₂ vb s₂ rb g₂ e₂ ⟨v, hv, a, c, hH, q⟩ => ibin_op ((g₁.tk tk).vrep e₂ ra) rb hv fun w tk' rw' =>
      wpAny_mono (aset_op ok cl (g₂.tk tk').rep ((g₁.tk tk).vrep e₂ ro) rw' hH) (fun _ s₄ p => SPost.of_v (((e₁.trans (.tk ..)).trans e₂).trans (.tk ..)) (g₂.tk tk') p fun _ => q) fun _ _ x => x)
noncomputable def wAugIdx (P S : WE) (op : Operator) (R : WE) : WS := fun Q σ => P (fun o σ₁ => S (fun i σ₂ => ∃ u, IdxR σ₂.H o i u ∧ R (fun b σ₃ => ∃ v, IBinR op u b v ∧ ∃ a c, SetR σ₃.H o i v a c ∧ ∀ ob, Q .next ⟨σ₃.loc, σ₃.H.set a (c ob)⟩) σ₂) σ₁) σ
theorem SX.augIdx {o i value : Expr} {tp pos : Pos} {op : Operator} {P S R : WE} (ho : SE X d F o P) (hi : SE X d F i S) (hv : SE X d F value R)
    (hs : ∀ ov iv new : Value, augStore i ov iv new = (do holding [new, ov, iv] (setItem ov iv new); release [new, ov, iv] []; pure Flow.next) := by intro _ _ _; rfl) :
    SX X d F (.AugAssign (.Subscript o i tp) op value pos) (wAugIdx P S op R) :=
  fun Q σ h A s r g => wpAny_AugAssign_SubscriptAny (ho.run2 hi (Q := fun o i σ₂ => ∃ u, IdxR σ₂.H o i u ∧ R (fun b σ₃ => ∃ v, IBinR op u b v ∧ ∃ a c, SetR σ₃.H o i v a c ∧ ∀ ob, Q .next ⟨σ₃.loc, σ₃.H.set a (c ob)⟩) σ₂) h r g fun _ _ σ₂ vo vi s₂ ro ri g₂ e₂ ⟨u, hu, q⟩ =>
    (get_op r g₂.rep ro ri hu fun va tk ra => hv.run q r (g₂.tk tk) fun b σ₃ vb s₃ rb g₃ e₃ ⟨v, hv, a, c, hf, q⟩ => ibin_op ((g₂.tk tk).vrep e₃ ra) rb hv fun w tk' rw' =>
      wpAny_mono (set_op r (g₃.tk tk').rep ((g₂.tk tk).vrep e₃ ro) ((g₂.tk tk).vrep e₃ ri) rw' hf) (fun _ s₄ p => SPost.of_v (((e₂.trans (.tk ..)).trans e₃).trans (.tk ..)) (g₃.tk tk') p q) fun _ _ x => x).1) hs
end
section
variable {X : Ctx} {d : Nat} {F : FI}
inductive FSrc where
  | lst (a : Addr) (l : List MV)
  | tup (l : List MV)
  | dk (a : Addr) (v : DV) (o : Obj)
  | rng (lo : Int) (n : Nat)
noncomputable def skMV : SK → MV
  | .i n => .int n
  | .s x => .str x
noncomputable def DV.keys : DV → List MV
  | .v l => l.map fun p => skMV p.1
  | .t l => l.map fun p => .tup (p.1.map skMV)
noncomputable def FSrc.items : FSrc → List MV
  | .lst _ l => l
  | .tup l => l
  | .dk _ v _ => v.keys
  | .rng lo n => (List.range n).map fun (i : Nat) => MV.int (lo + (i : Int))
noncomputable def FSrc.ok (H : MH) : FSrc → Prop
  | .lst a l => H a = some (.L l)
  | .tup _ => True
  | .dk a v o => H a = some (.D v o)
  | .rng _ _ => True
theorem skMV_rep {h : Heap} {k : SK} {v : Value} (hk : SK.is k v = true) : VRep X h (skMV k) v := by
  cases k with
  | i n => obtain ⟨t, rfl⟩ := SK.shapeI hk; exact vI
  | s x => obtain ⟨t, rfl⟩ := SK.shapeS hk; exact vS
theorem itemsAre_vreps {h : Heap} {ks : List SK} {vs : List Value} (e : ItemsAre (skKind X.prog X.w) ks vs) : VReps X h (ks.map skMV) vs := by
  induction e with
  | nil => exact VReps.nil
  | cons hk _ ih => exact VReps.cons (skMV_rep hk) ih
theorem pairs_keys {h : Heap} : ∀ {l : List (SK × MV)} {es : List DictEntry} {kvs : List (SK × Value)}, Pairs (skKind X.prog X.w) es kvs → PRep X h l kvs → VReps X h (l.map fun p => skMV p.1) (es.map (·.key))
  | [], es, kvs, p, r => by
    rw [show kvs = [] from r] at p
    cases p; exact VReps.nil
  | (k, m) :: l, es, kvs, p, ⟨v, r, e, _, b⟩ => by
    subst e
    cases p with
    | cons a _ p => exact VReps.cons (skMV_rep a) (pairs_keys p b)
theorem heap_keys {h : Heap} : ∀ {l : List (List SK × MV)} {xs : List (List SK × Addr × Value)}, (∀ x ∈ xs, (tupleKind (skKind X.prog X.w)).is h x.1 x.2.1) → PRep X h l (flat xs) → VReps X h (l.map fun p => .tup (p.1.map skMV)) ((xs.map (entryOfKey (tupleKind (skKind X.prog X.w)))).map (·.key)) := by
  intro l
  induction l with
  | nil =>
    intro xs _ r
    cases xs with
    | nil => exact VReps.nil
    | cons _ _ => cases (show _ = [] from r)
  | cons p l ih =>
    intro xs hx r
    obtain ⟨k, m⟩ := p
    obtain ⟨v, r, e, _, b⟩ := r
    cases xs with
    | nil => cases e
    | cons x xs =>
      obtain ⟨k', a, w⟩ := x
      cases e
      obtain ⟨o, items, n, ho, hc, hd, hi⟩ := hx _ (.head _)
      refine VReps.cons ?_ (ih (fun y hy => hx y (.tail _ hy)) b)
      simp only [VRep]
      exact ⟨a, items, rfl, ⟨o, ho, hc, n, hd⟩, itemsAre_vreps hi⟩
theorem DRep.keyAt {h : Heap} {a : Addr} {v : DV} {o : Obj} (r : CRep X h a (.D v o)) : ∃ es ep, o.ExactDict ∧ o.data = .dict es ep ∧ VReps X h v.keys (es.toList.map (·.key)) := by
  obtain ⟨ho, r⟩ := r
  cases v with
  | v l =>
    obtain ⟨kvs, ⟨o', es, ep, ho', hc, hd, _, hp, _⟩, hr⟩ := r
    rw [ho] at ho'; cases ho'
    exact ⟨es, ep, hc, hd, pairs_keys hp hr⟩
  | t l =>
    obtain ⟨xs, ⟨o', es, ep, ho', hc, hd, he, his, nd⟩, hr⟩ := r
    rw [ho] at ho'; cases ho'
    exact ⟨es, ep, hc, hd, by rw [he]; exact heap_keys his hr⟩
section
variable {prog : Program} {w : World} {A : Around} {E : Value → Shared → Prop} {s : Shared}
theorem iter_anyDict {a : Addr} {o : Obj} {es ep} {Q : Value → Shared → Prop} (hd : (a == sysModules) = false) (ho : s.heap.get? a = some o) (hc : o.ExactDict) (hdat : o.data = .dict es ep)
    (hQ : Q (.ref s.heap.objs.size) { s with heap := s.heap.push { cls := .type "dict_keyiterator", data := .fields #[.ref a, .int 0 0, .int es.size 0, .int ep 0] } }) :
    wpAny (model prog w) A (pyIter (.ref a)) Q E s := by
  have hT : s.TypeIs (.ref a) "dict" := ⟨o, ho, hc.1⟩
  refine wpAny_pyIter_slot hT F.slot_dict_iter (wpAny_call_entry F.slot_dict_iter hT F.entry_dict_iter ?_ (F.args_dict_iter_1 _))
  unfold Builtin.«dict.__iter__» Builtin.Dict.dictSlotNone
  refine wpAny_bind (wpAny_bind (wpAny_notOrdered_dict hT ?_))
  show wpAny _ _ (pure (Value.ref a)) _ _ s
  refine wpAny_pure ?_
  show wpAny _ _ (Builtin.Dict.showsAll a >>= _) _ _ s
  unfold Builtin.Dict.showsAll
  rw [if_neg (by rw [hd]; exact Bool.false_ne_true)]
  refine wpAny_bind (wpAny_pure (wpAny_bind (wpAny_dictEntries ho hdat (wpAny_bind (wpAny_dictEpoch ho hdat ?_)))))
  exact wpAny_bind (wpAny_newObj_type (wpAny_pure ⟨_, rfl, "dict_keyiterator", _, ⟨_, Heap.get?_push_size _ rfl, rfl⟩, F.slot_dict_keyiterator_next.lookup, by simpa [rawInt] using hQ⟩))
theorem next_anyDict {it a : Addr} {i : Nat} {o : Obj} {es ep} {Q : Option Value → Shared → Prop} (hit : s.heap.IsKeyIter it a i es.size ep) (ho : s.heap.get? a = some o) (hdat : o.data = .dict es ep) (hx : i < es.size)
    (hQ : ∀ h', h'.IsKeyIter it a (i + 1) es.size ep → Heap.SameBut it s.heap h' → Q (some es[i].key) { s with heap := h' }) : wpAny (model prog w) A (pyNext (.ref it)) Q E s := by
  obtain ⟨oi, hoi, hci, hdi⟩ := id hit
  unfold pyNext
  refine wpAny_bind (wpAny_attempt (wpAny_callSpecial?_slot (name := Str.ofString "__next__") hit.typeIs F.slot_dict_keyiterator_next
    (wpAny_call_entry F.slot_dict_keyiterator_next hit.typeIs F.entry_dict_keyiterator_next ?_ (F.args_dict_keyiterator_next_1 _))))
  refine wpAny_bind (wpAny_pure (wpAny_bind (wpAny_bind ?_)))
  first | refine wpAny_bind (wpAny_typeNameOfWhole_keyiter hit.typeIs (wpAny_pure ?_)) | refine wpAny_bind (wpAny_typeNameOf_keyiter hit.typeIs (wpAny_pure ?_))
  refine wpAny_bind (wpAny_fieldsOf hoi hdi ?_)
  have own : Builtin.Dict_items.ownsTuple "dict_keyiterator" = false := by decide
  simp only [own, Bool.false_eq_true, if_false]
  show wpAny _ _ (if (Value.ref a == Value.none) = true then _ else _) _ _ s
  rw [if_neg (show ¬ ((Value.ref a == Value.none) = true) from Bool.false_ne_true)]
  refine wpAny_bind (wpAny_pure (wpAny_bind (wpAny_dictEntries ho hdat ?_)))
  rw [if_neg (by simp)]
  refine wpAny_bind (wpAny_pure (wpAny_bind (wpAny_dictEpoch ho hdat ?_)))
  rw [if_neg (by simp)]
  refine wpAny_pure ?_
  simp only [show ¬ ((i : Int) < 0) from by (first | lia | omega), if_false, Int.toNat_natCast, Array.getElem?_eq_getElem hx]
  refine wpAny_bind ?_
  first | refine wpAny_bind (wpAny_typeNameOfWhole_keyiter hit.typeIs (wpAny_pure ?_)) | refine wpAny_bind (wpAny_typeNameOf_keyiter hit.typeIs (wpAny_pure ?_))
  refine wpAny_bind (wpAny_isOneOf_keyiter hit.typeIs ?_)
  show wpAny _ _ (setField (.ref it) 1 (rawInt ((i : Int) + 1)) >>= _) _ _ s
  refine wpAny_bind (wpAny_setField hoi hdi (by simp) ?_)
  have hit' : (s.heap.update it (Obj.mapFields (·.setIfInBounds 1 (rawInt ((i : Int) + 1))))).IsKeyIter it a (i + 1) es.size ep :=
    ⟨_, Heap.get?_update_self _ hoi (Obj.isFreed_of_fields (Obj.data_mapFields hdi _)), (Obj.cls_mapFields ..).trans hci, by rw [Obj.data_mapFields hdi]; simp [rawInt]⟩
  refine wpAny_bind (wpAny_holding (wpAny_bind (wpAny_isOneOf_keyiter (s := { s with heap := s.heap.update it (Obj.mapFields (·.setIfInBounds 1 (rawInt ((i : Int) + 1)))) }) hit'.typeIs ?_)))
  show wpAny _ _ (pure es[i].key) _ _ _
  exact wpAny_pure (wpAny_pure ⟨_, rfl, wpAny_pure (hQ _ hit' (Heap.SameBut.update ..))⟩)
theorem end_anyDict {it a : Addr} {i : Nat} {o : Obj} {es ep} {Q : Option Value → Shared → Prop} (hh : A.handled = none) (hit : s.heap.IsKeyIter it a i es.size ep) (ho : s.heap.get? a = some o) (hdat : o.data = .dict es ep) (hx : es.size ≤ i)
    (hQ : ∀ h', Heap.ExtBut it s.heap h' → Q none { s with heap := h' }) : wpAny (model prog w) A (pyNext (.ref it)) Q E s := by
  obtain ⟨oi, hoi, hci, hdi⟩ := id hit
  unfold pyNext
  refine wpAny_bind (wpAny_attempt (wpAny_callSpecial?_slot (name := Str.ofString "__next__") hit.typeIs F.slot_dict_keyiterator_next
    (wpAny_call_entry F.slot_dict_keyiterator_next hit.typeIs F.entry_dict_keyiterator_next ?_ (F.args_dict_keyiterator_next_1 _))))
  refine wpAny_bind (wpAny_pure (wpAny_bind (wpAny_bind ?_)))
  first | refine wpAny_bind (wpAny_typeNameOfWhole_keyiter hit.typeIs (wpAny_pure ?_)) | refine wpAny_bind (wpAny_typeNameOf_keyiter hit.typeIs (wpAny_pure ?_))
  refine wpAny_bind (wpAny_fieldsOf hoi hdi ?_)
  have own : Builtin.Dict_items.ownsTuple "dict_keyiterator" = false := by decide
  simp only [own, Bool.false_eq_true, if_false]
  show wpAny _ _ (if (Value.ref a == Value.none) = true then _ else _) _ _ s
  rw [if_neg (show ¬ ((Value.ref a == Value.none) = true) from Bool.false_ne_true)]
  refine wpAny_bind (wpAny_pure (wpAny_bind (wpAny_dictEntries ho hdat ?_)))
  rw [if_neg (by simp)]
  refine wpAny_bind (wpAny_pure (wpAny_bind (wpAny_dictEpoch ho hdat ?_)))
  rw [if_neg (by simp)]
  refine wpAny_pure ?_
  simp only [show ¬ ((i : Int) < 0) from by (first | lia | omega), if_false, Int.toNat_natCast, Array.getElem?_eq_none hx]
  refine wpAny_bind ?_
  first | refine wpAny_bind (wpAny_typeNameOfWhole_keyiter hit.typeIs (wpAny_pure ?_)) | refine wpAny_bind (wpAny_typeNameOf_keyiter hit.typeIs (wpAny_pure ?_))
  show wpAny _ _ (setField (.ref it) 0 .none >>= _) _ _ s
  refine wpAny_bind (wpAny_setField hoi hdi (by simp) ?_)
  show wpAny _ _ (newExc (.type "StopIteration") [] >>= _) _ _ _
  refine wpAny_bind ?_
  simp only [newExc, newTuple]
  refine wpAny_bind (wpAny_newObj_type ?_ (by size_fits))
  refine wpAny_bind (m := firstArgMember _ _) (wpAny_of_eq (a := Value.none) (by first | rfl | (simp only [firstArgMember]; rfl)) ?_)
  refine wpAny_newObj_type ?_ (by size_fits)
  simp only [raiseNew]
  refine wpAny_bind (wpAny_handled ?_)
  rw [show A.in1.handled = none from hh]
  refine wpAny_bind (wpAny_pure (wpAny_throw ?_))
  refine wpAny_bind (wpAny_isInstance (T := "StopIteration") (b := true) ⟨_, Heap.get?_push_size _ rfl, rfl⟩ isSubtype_stop ?_)
  exact wpAny_pure (hQ _ (((Heap.SameBut.update ..).extBut.push _).push _))
end
noncomputable def ItAt (X : Ctx) (h : Heap) (I : Addr) (k : Nat) : FSrc → Prop
  | .lst a _ => h.IsListIter I a k
  | .tup l => ∃ t vs, h.IsTupleIter I t k ∧ IsTup h t vs ∧ VReps X h l vs.toList
  | .dk a _ o => ∃ es ep, o.data = .dict es ep ∧ h.IsKeyIter I a k es.size ep
  | .rng lo n => IsRangeIter h I (lo + k) ((n : Int) - k) 1
theorem ItAt.keep {h h' : Heap} {I : Addr} {k : Nat} {src : FSrc} (x : ItAt X h I k src) (kI : ∀ o, h.get? I = some o → h'.get? I = some o) (kf : KF h h') : ItAt X h' I k src := by
  cases src with
  | lst a l => obtain ⟨o, ho, e⟩ := x; exact ⟨o, kI o ho, e⟩
  | tup l =>
    obtain ⟨t, vs, ⟨o, ho, e⟩, ⟨o2, ho2, hc2, n, hd2⟩, hr⟩ := x
    exact ⟨t, vs, ⟨o, kI o ho, e⟩, ⟨o2, kf _ _ ho2 (.inl ⟨hc2, _, _, hd2⟩), hc2, n, hd2⟩, VReps.keep kf hr⟩
  | dk a v o =>
    obtain ⟨es, ep, hd, ⟨oi, hoi, e⟩⟩ := x
    exact ⟨es, ep, hd, ⟨oi, kI oi hoi, e⟩⟩
  | rng lo n => exact kI _ x
theorem ItAt.obj {h : Heap} {I : Addr} {k : Nat} {src : FSrc} (x : ItAt X h I k src) : ∃ o, h.get? I = some o ∧ ∃ vs, o.data = .fields vs := by
  cases src with
  | lst a l => obtain ⟨o, ho, _, e⟩ := x; exact ⟨o, ho, _, e⟩
  | tup l => obtain ⟨t, vs, ⟨o, ho, _, e⟩, _⟩ := x; exact ⟨o, ho, _, e⟩
  | dk a v o => obtain ⟨es, ep, hd, ⟨oi, hoi, _, e⟩⟩ := x; exact ⟨oi, hoi, _, e⟩
  | rng lo n => exact ⟨_, x, _, rfl⟩
theorem fieldsThaw {o : Obj} {vs : Array Value} (h : o.data = .fields vs) : ¬ Froz o := by
  rintro (⟨_, _, _, f⟩ | f) <;> (rw [h] at f; cases f)
theorem ItAt.thaw {h : Heap} {I : Addr} {k : Nat} {src : FSrc} (x : ItAt X h I k src) : ∀ o, h.get? I = some o → ¬ Froz o := fun o ho f => by
  obtain ⟨o', ho', vs, hd⟩ := x.obj
  rw [ho] at ho'; cases ho'; exact fieldsThaw hd f
inductive SrcR (H : MH) : MV → FSrc → Prop
  | tup {l : List MV} : SrcR H (.tup l) (.tup l)
  | lst {a : Addr} {l : List MV} (h : H a = some (.L l)) : SrcR H (.ref a) (.lst a l)
  | dk {a : Addr} {v : DV} {o : Obj} (h : H a = some (.D v o)) : SrcR H (.ref a) (.dk a v o)
noncomputable def IPost (X : Ctx) (F : FI) (s : Shared) (H : MH) (Q : FSrc → St → Prop) (it : Value) (s' : Shared) : Prop :=
  ∃ I src σ', it = .ref I ∧ ItAt X s'.heap I 0 src ∧ s.heap.get? I = none ∧ Good X F σ' s' ∧ Evo F.foot s H s' σ'.H ∧ Q src σ'
theorem iter_op (ok : X.Ok) {m : MV} {v : Value} {src : FSrc} {σ : St} {A : Around} {s : Shared} {Q : FSrc → St → Prop} {E : Value → Shared → Prop} (g : Good X F σ s) (rv : VRep X s.heap m v) (e : SrcR σ.H m src) (q : Q src σ) :
    wpAny (mdl X) A (pyIter v) (IPost X F s σ.H Q) E s := by
  have fin : ∀ (o : Obj), ItAt X (s.heap.push o) s.heap.objs.size 0 src → IPost X F s σ.H Q (.ref s.heap.objs.size) { s with heap := s.heap.push o } := fun o it =>
    ⟨_, src, σ, rfl, it, get?_size _, g.step (.push o s.toks) (g.rep.push o), .push o s.toks, q⟩
  cases e with
  | tup =>
    obtain ⟨a, vs, rfl, ht, hr⟩ := iT rv
    exact wpAny_pyIter_tuple ht (fin _ ⟨a, vs, ⟨_, Heap.get?_push_size _ rfl, rfl, rfl⟩, Heap.IsTuple.push ht _, VReps.keep (fun b o h _ => Heap.get?_push_of_some _ h) hr⟩)
  | lst h =>
    cases iR rv
    obtain ⟨vs, h1, h2⟩ := g.rep.list h
    exact wpAny_pyIter_list h1.isList (fin _ ⟨_, Heap.get?_push_size _ rfl, rfl, rfl⟩)
  | dk h =>
    cases iR rv
    have r := g.rep.cell _ _ h
    obtain ⟨es, ep, hc, hd, _⟩ := DRep.keyAt r
    exact iter_anyDict (g.rep.notMods ok (ne_of_some h)) r.1 hc hd (fin _ ⟨es, ep, hd, ⟨_, Heap.get?_push_size _ rfl, rfl, rfl⟩⟩)
theorem next_op {src : FSrc} {I : Addr} {k : Nat} {m : MV} {σ : St} {A : Around} {s : Shared} {Q : Option Value → Shared → Prop} {E : Value → Shared → Prop} (g : Good X F σ s) (it : ItAt X s.heap I k src) (hk : src.ok σ.H) (hm : src.items[k]? = some m)
    (q : ∀ v h' n, VRep X h' m v → ItAt X h' I (k + 1) src → But I s.heap h' → Q (some v) { s with heap := h', toks := n }) :
    wpAny (mdl X) A (pyNext (.ref I)) Q E s := by
  have thaw := it.thaw
  cases src with
  | lst a l =>
    obtain ⟨vs, h1, h2⟩ := g.rep.list hk
    obtain ⟨v, hv, rv⟩ := h2.get hm
    exact wpAny_pyNext_list_item it h1.isList (by simpa using hv) fun h' it' sb => q v h' s.toks (VRep.keep ((SameBut.but sb).kf thaw) rv) it' (SameBut.but sb)
  | tup l =>
    obtain ⟨t, vs, hi, ht, hr⟩ := it
    obtain ⟨v, hv, rv⟩ := hr.get hm
    refine wpAny_pyNext_tuple_item hi ht (by simpa using hv) fun h' it' sb => ?_
    have kf := (SameBut.but sb).kf thaw
    obtain ⟨o, ho, hc, n, hd⟩ := ht
    exact q v h' s.toks (VRep.keep kf rv) ⟨t, vs, it', ⟨o, kf _ _ ho (.inl ⟨hc, _, _, hd⟩), hc, n, hd⟩, VReps.keep kf hr⟩ (SameBut.but sb)
  | dk a v o =>
    obtain ⟨es, ep, hd, hi⟩ := it
    have r := g.rep.cell _ _ hk
    obtain ⟨es', ep', hc, hd', hkeys⟩ := DRep.keyAt r
    rw [hd] at hd'; cases hd'
    obtain ⟨w, hw, rw'⟩ := VReps.get hkeys hm
    rw [List.getElem?_map, Array.getElem?_toList] at hw
    obtain ⟨en, hen, rfl⟩ := Option.map_eq_some_iff.mp hw
    obtain ⟨hlt, rfl⟩ := Array.getElem?_eq_some_iff.mp hen
    exact next_anyDict hi r.1 hd hlt fun h' it' sb => q _ h' s.toks (VRep.keep ((SameBut.but sb).kf thaw) rw') ⟨es, ep, hd, it'⟩ (SameBut.but sb)
  | rng lo n =>
    have hm' : ((List.range n).map fun (i : Nat) => MV.int (lo + (i : Int)))[k]? = some m := hm
    rw [List.getElem?_map] at hm'
    obtain ⟨j, hj, rfl⟩ := Option.map_eq_some_iff.mp hm'
    obtain ⟨hlt, hj⟩ := List.getElem?_eq_some_iff.mp hj
    rw [List.getElem_range] at hj
    rw [List.length_range] at hlt
    subst hj
    refine wpAny_pyNext_range_item it (by (first | lia | omega)) fun h' it' sb => q _ h' (s.toks + 1) vI ?_ (SameBut.but sb)
    show IsRangeIter h' I (lo + ((k + 1 : Nat) : Int)) ((n : Int) - ((k + 1 : Nat) : Int)) 1
    rw [show lo + ((k + 1 : Nat) : Int) = lo + k + 1 by (first | lia | omega), show (n : Int) - ((k + 1 : Nat) : Int) = n - k - 1 by (first | lia | omega)]; exact it'
theorem stop_op {src : FSrc} {I : Addr} {σ : St} {A : Around} {s : Shared} {Q : Option Value → Shared → Prop} {E : Value → Shared → Prop} (r : Room d A) (g : Good X F σ s) (it : ItAt X s.heap I src.items.length src) (hk : src.ok σ.H)
    (q : ∀ h', But I s.heap h' → Q none { s with heap := h' }) : wpAny (mdl X) A (pyNext (.ref I)) Q E s := by
  cases src with
  | lst a l =>
    obtain ⟨vs, h1, h2⟩ := g.rep.list hk
    have len : l.length = vs.size := h2.length
    exact wpAny_pyNext_list_end r.handled it h1.isList (Array.getElem?_eq_none (Nat.le_of_eq len.symm)) fun h' ex => q h' fun b o hb e => ex b o hb e
  | tup l =>
    obtain ⟨t, vs, hi, ht, hr⟩ := it
    have len : l.length = vs.size := hr.length
    exact wpAny_pyNext_tuple_end r.handled hi ht (Array.getElem?_eq_none (Nat.le_of_eq len.symm)) fun h' ex => q h' fun b o hb e => ex b o hb e
  | dk a v o =>
    obtain ⟨es, ep, hd, hi⟩ := it
    have rc := g.rep.cell _ _ hk
    obtain ⟨es', ep', hc, hd', hkeys⟩ := DRep.keyAt rc
    rw [hd] at hd'; cases hd'
    have len : v.keys.length = es.size := by have := VReps.length hkeys; rwa [List.length_map, Array.length_toList] at this
    exact end_anyDict r.handled hi rc.1 hd (Nat.le_of_eq len.symm) fun h' ex => q h' fun b o hb e => ex b o hb e
  | rng lo n =>
    refine wpAny_pyNext_range_end r.handled it (by show ((n : Int) - ((((List.range n).map fun (i : Nat) => MV.int (lo + (i : Int))).length : Nat) : Int)) ≤ 0; rw [List.length_map, List.length_range]; (first | lia | omega)) fun h' ex => q h' fun b o hb e => ex b o hb e
noncomputable def SI (X : Ctx) (d : Nat) (F : FI) (e : Expr) (P : (FSrc → St → Prop) → St → Prop) : Prop :=
  ∀ Q σ, P Q σ → ∀ A s, Room d A → Good X F σ s → wpAny (mdl X) A (eval e F.env) (fun v s₁ => wpAny (mdl X) A (pyIter v) (IPost X F s σ.H Q) NoE s₁) NoE s
noncomputable def wSrc (P : WE) : (FSrc → St → Prop) → St → Prop := fun Q σ => P (fun m σ' => ∃ src, SrcR σ'.H m src ∧ Q src σ') σ
theorem IPost.back {s s₁ : Shared} {H H₁ : MH} {Q : FSrc → St → Prop} {v : Value} {s' : Shared} (e : Evo F.foot s H s₁ H₁) (p : IPost X F s₁ H₁ Q v s') : IPost X F s H Q v s' := by
  obtain ⟨I, src, σ', a, b, c, g, f, q⟩ := p
  exact ⟨I, src, σ', a, b, Classical.byContradiction fun z => e.mono I z c, g, e.trans f, q⟩
theorem SI.val (ok : X.Ok) {e : Expr} {P : WE} (he : SE X d F e P) : SI X d F e (wSrc P) :=
  fun Q σ h A s r g => he.run h r g fun m σ₁ v s₁ rv g₁ e₁ ⟨src, hs, q⟩ => wpAny_mono (iter_op (E := NoE) ok g₁ rv hs q) (fun _ _ p => p.back e₁) fun _ _ x => x
noncomputable def loopQ (J : St → Prop) (Q : MF → St → Prop) : MF → St → Prop
  | .next, σ => J σ
  | .cont, σ => J σ
  | .brk, σ => Q .next σ
  | .ret v, σ => Q (.ret v) σ
noncomputable def wForL (T : WA) (B : WS) (src : FSrc) (Q : MF → St → Prop) : List MV → St → Prop
  | [], σ => src.ok σ.H ∧ Q .next σ
  | m :: ms, σ => src.ok σ.H ∧ T m (fun σ₁ => B (loopQ (wForL T B src Q ms) Q) σ₁) σ
structure ForQ (T : WA) (B : WS) (src : FSrc) (Q : MF → St → Prop) (ms : List MV) (σ : St) : Prop where
  go : wForL T B src Q ms σ
noncomputable def wFor (P : (FSrc → St → Prop) → St → Prop) (T : WA) (B : WS) : WS := fun Q σ => P (fun src σ₁ => ForQ T B src Q src.items σ₁) σ
structure LoopK (J : St → Prop) (Q G : MF → St → Prop) : Prop where
  next : ∀ σ, J σ → G .next σ
  cont : ∀ σ, J σ → G .cont σ
  brk : ∀ σ, Q .next σ → G .brk σ
  ret : ∀ v σ, Q (.ret v) σ → G (.ret v) σ
theorem ForQ.inv {T : WA} {B : WS} {src : FSrc} {Q : MF → St → Prop} {α : Type} (f : α → MV) (I : List α → List α → St → Prop) {l : List α} {σ : St} (h0 : I [] l σ)
    (step : ∀ pre x post σ' (G : MF → St → Prop), I pre (x :: post) σ' → LoopK (I (pre ++ [x]) post) Q G → src.ok σ'.H ∧ T (f x) (fun σ₁ => B G σ₁) σ')
    (fin : ∀ pre σ', I pre [] σ' → src.ok σ'.H ∧ Q .next σ') {ms : List MV} (e : ms = l.map f) : ForQ T B src Q ms σ := by
  have key : ∀ (post pre : List α) (σ : St), I pre post σ → wForL T B src Q (post.map f) σ := by
    intro post
    induction post with
    | nil => exact fun pre σ h => fin pre σ h
    | cons m post ih => exact fun pre σ h => step pre m post σ _ h ⟨fun σ₂ h₂ => ih _ σ₂ h₂, fun σ₂ h₂ => ih _ σ₂ h₂, fun _ h => h, fun _ _ h => h⟩
  exact ⟨e ▸ key l [] σ h0⟩
theorem Good.bump {σ : St} {s : Shared} {h' : Heap} {I : Addr} {k : Nat} {src : FSrc} {s₀ : Shared} {H₀ : MH} (g : Good X F σ s) (e : Evo F.foot s₀ H₀ s σ.H) (hI : s₀.heap.get? I = none) (bI : X.base.get? I = none) (it : ItAt X s.heap I k src) (kb : But I s.heap h') (n : Nat) :
    Good X F σ { s with heap := h', toks := n } ∧ Evo F.foot s₀ H₀ { s with heap := h', toks := n } σ.H := by
  obtain ⟨oI, hoI, vs, hd⟩ := it.obj
  have ne : ∀ b, s₀.heap.get? b ≠ none → b ≠ I := fun b hb q => hb (q ▸ hI)
  exact ⟨g.but bI it.thaw (g.rep.offFields hoI hd) (g.fieldsFoot hoI hd) kb n, ⟨e.gens, e.os, e.drawn, fun b o ho nd nf => kb b o (ne b (ne_of_some ho)) (e.keep b o ho nd nf), e.dom, fun b hb => let ⟨o, q⟩ := some_of_ne (e.mono b hb); ne_of_some (kb b o (ne b hb) q)⟩⟩
theorem ItAt.lives {I : Addr} {k : Nat} {src : FSrc} {σ : St} {H' : MH} {s s' : Shared} (g : Good X F σ s) (ev : Evo F.foot s σ.H s' H') (it : ItAt X s.heap I k src) : ItAt X s'.heap I k src := by
  obtain ⟨o, ho, vs, hd⟩ := it.obj
  exact it.keep (fun o' ho' => by rw [ho] at ho'; cases ho'; exact ev.keep _ _ ho (g.rep.offFields ho hd) (g.fieldsFoot ho hd)) (g.frozen ev)
theorem SX.for {target iter : Expr} {body : List Stmt} {pos : Pos} {P : (FSrc → St → Prop) → St → Prop} {T : WA} {B : WS} (hi : SI X d F iter P) (ht : SAs X d F target T) (hb : SS X d F body B)
    (hs : ∀ x, foldedSetIterable iter F.env x = pure x := by intro _; rfl) (hl : ∀ I v, letOwnedTupleGo target (.ref I) v = pure () := by intro _ _; rfl) : SX X d F (.For target iter body [] pos) (wFor P T B) := by
  intro Q σ h A s r g
  refine wpAny_For (wpAny_mono (hi _ σ h A s r g) (fun v s₁ p => wpAny_mono p (fun it s₂ p => ?_) fun _ _ x => x) fun _ _ x => x) hs
  obtain ⟨I, src, σ₂, rfl, hit, hI, g₂, e₂, ⟨q⟩⟩ := p
  have bI := g.rep.baseNone hI
  refine codeAny_forLoop (fun n s' => ∃ k σ', n = src.items.length - k ∧ k ≤ src.items.length ∧ ItAt X s'.heap I k src ∧ Good X F σ' s' ∧ Evo F.foot s σ.H s' σ'.H ∧ wForL T B src Q (src.items.drop k) σ') ?_ (src.items.length) ⟨0, σ₂, rfl, Nat.zero_le _, hit, g₂, e₂, q⟩ (hl I)
  rintro n s' ⟨k, σ', rfl, hk, hit, g', e', q⟩
  by_cases hlt : k < src.items.length
  · rw [List.drop_eq_getElem_cons hlt] at q
    obtain ⟨hok, q⟩ := q
    refine next_op g' hit hok (List.getElem?_eq_getElem hlt) fun v h' n rv it' kb => ?_
    obtain ⟨g₁, e₁⟩ := g'.bump e' hI bI hit kb n
    dsimp only
    refine wpAny_mono (ht _ _ σ' q A _ v r g₁ rv) (fun _ s₂ p => ?_) fun _ _ x => x.elim
    obtain ⟨σ₂, g₂, e₂, q₂⟩ := p
    have it₂ := ItAt.lives g₁ e₂ it'
    refine wpAny_mono (hb _ σ₂ q₂ A s₂ r g₂) (fun f s₃ p => ?_) fun _ _ x => x.elim
    obtain ⟨mf, σ₃, fr, g₃, e₃, q₃⟩ := p
    have it₃ := ItAt.lives g₂ e₃ it₂
    have ev := (e₁.trans e₂).trans e₃
    have nx : wForL T B src Q (src.items.drop (k + 1)) σ₃ → _ := fun q => (⟨src.items.length - (k + 1), by (first | lia | omega), k + 1, σ₃, rfl, hlt, it₃, g₃, ev, q⟩ : ∃ m, m < src.items.length - k ∧ ∃ k σ', m = src.items.length - k ∧ k ≤ src.items.length ∧ ItAt X s₃.heap I k src ∧ Good X F σ' s₃ ∧ Evo F.foot s σ.H s₃ σ'.H ∧ wForL T B src Q (src.items.drop k) σ')
    cases mf with
    | next => cases fr; exact nx q₃
    | cont => cases fr; exact nx q₃
    | brk => cases fr; exact ⟨.next, σ₃, rfl, g₃, ev, q₃⟩
    | ret m => obtain ⟨v, rfl, rv⟩ := fr; exact ⟨.ret m, σ₃, ⟨v, rfl, rv⟩, g₃, ev, q₃⟩
  · have hke : k = src.items.length := by (first | lia | omega)
    subst hke
    rw [List.drop_eq_nil_of_le (Nat.le_refl _)] at q
    obtain ⟨hok, q⟩ := q
    refine stop_op r g' hit hok fun h' kb => ?_
    obtain ⟨g₁, e₁⟩ := g'.bump e' hI bI hit kb s'.toks
    exact wpAny_execs_nil ⟨.next, σ', rfl, g₁, e₁, q⟩
noncomputable def wWhile (T : WT) (B : WS) : WS := fun Q σ => ∃ (I : Nat → St → Prop) (n : Nat), I n σ ∧ ∀ n σ', I n σ' → T (fun b σ₁ => Br b (B (loopQ (fun σ₂ => ∃ m, m < n ∧ I m σ₂) Q) σ₁) (Q .next σ₁)) σ'
theorem wWhile.inv {T : WT} {B : WS} {Q : MF → St → Prop} {σ : St} (I : Nat → St → Prop) {n : Nat} (h0 : I n σ)
    (step : ∀ n σ' (G : MF → St → Prop), I n σ' → LoopK (fun σ₂ => ∃ m, m < n ∧ I m σ₂) Q G → T (fun b σ₁ => Br b (B G σ₁) (Q .next σ₁)) σ') : wWhile T B Q σ :=
  ⟨I, n, h0, fun n σ' h => step n σ' _ h ⟨fun _ h => h, fun _ h => h, fun _ h => h, fun _ _ h => h⟩⟩
theorem SX.while {test : Expr} {body : List Stmt} {pos : Pos} {T : WT} {B : WS} (ht : ST X d F test T) (hb : SS X d F body B) : SX X d F (.While test body [] pos) (wWhile T B) := by
  intro Q σ h A s r g
  obtain ⟨I, n, h0, hI⟩ := h
  refine wpAny_While (codeAny_whileLoop (fun n s' => ∃ σ', Good X F σ' s' ∧ Evo F.foot s σ.H s' σ'.H ∧ I n σ') ?_ n ⟨σ, g, .refl .., h0⟩)
  rintro n s' ⟨σ', g', e', hi⟩
  refine wpAny_mono (ht _ σ' (hI n σ' hi) A s' r g') (fun b s₁ p => ?_) fun _ _ x => x.elim
  obtain ⟨σ₁, g₁, e₁, q⟩ := p
  cases q with
  | f q => exact wpAny_execs_nil ⟨.next, σ₁, rfl, g₁, e'.trans e₁, q⟩
  | t q =>
    refine wpAny_mono (hb _ σ₁ q A s₁ r g₁) (fun f s₂ p => ?_) fun _ _ x => x.elim
    obtain ⟨mf, σ₂, fr, g₂, e₂, q₂⟩ := p
    have ev := (e'.trans e₁).trans e₂
    cases mf with
    | next => cases fr; obtain ⟨m, a, b⟩ := q₂; exact ⟨m, a, σ₂, g₂, ev, b⟩
    | cont => cases fr; obtain ⟨m, a, b⟩ := q₂; exact ⟨m, a, σ₂, g₂, ev, b⟩
    | brk => cases fr; exact ⟨.next, σ₂, rfl, g₂, ev, q₂⟩
    | ret m => obtain ⟨v, rfl, rv⟩ := fr; exact ⟨.ret m, σ₂, ⟨v, rfl, rv⟩, g₂, ev, q₂⟩
noncomputable def CPost (X : Ctx) (s : Shared) (H : MH) (Q : MV → MH → Prop) (r : Result) (s' : Shared) : Prop :=
  ∃ v mv H', r = .ok (.ret v) ∧ VRep X s'.heap mv v ∧ Rep X H' s'.heap ∧ Evo NoF s H s' H' ∧ Q mv H'
structure CallsTo (X : Ctx) (d : Nat) (f : Value) (vs : List MV) (Q : MV → MH → Prop) (H : MH) : Prop where
  go : ∀ A s ws, Room d A → Rep X H s.heap → VReps X s.heap vs ws → codeAny (mdl X) A (.call f ⟨ws, []⟩) (CPost X s H Q) s
theorem CallsTo.mono {f : Value} {vs : List MV} {Q Q' : MV → MH → Prop} {H : MH} (h : CallsTo X d f vs Q H) (k : ∀ m H', Q m H' → Q' m H') : CallsTo X d f vs Q' H :=
  ⟨fun A s ws r rp rv => codeAny_mono (h.go A s ws r rp rv) fun _ _ ⟨v, mv, H', a, b, c, e, q⟩ => ⟨v, mv, H', a, b, c, e, k _ _ q⟩⟩
theorem call_op {f : Value} {vs : List MV} {ws : List Value} {Q : MV → MH → Prop} {H : MH} {A : Around} {s : Shared} (r : Room d A) (rp : Rep X H s.heap) (rv : VReps X s.heap vs ws) (h : CallsTo X d f vs Q H) :
    wpAny (mdl X) A (call f ws) (OPost X s H Q) NoE s := by
  refine wpAny_call (codeAny_mono (h.go A s ws r rp rv) ?_)
  rintro _ s' ⟨v, mv, H', rfl, a, b, c, q⟩
  exact ⟨mv, H', a, b, c, q⟩
theorem evalArgs_any {f : Value} {args : List (Bool × Sem Value)} {M : Model} {A : Around} {E : Value → Shared → Prop} {s : Shared} {Q : Args → Shared → Prop} (hplain : args.any (·.1) = false)
    (h : wpAny M A (spliced args) (fun vs s' => Q ⟨vs, []⟩ s') E s) : wpAny M A (evalArgs f true args []) Q E s := by
  cases args with
  | nil =>
    unfold evalArgs
    show wpAny M A (spliced [] >>= _) Q E s
    refine wpAny_bind (wpAny_mono h (fun vs s' h => ?_) fun _ _ x => x)
    refine wpAny_bind (wpAny_pure ?_)
    refine wpAny_holding ?_
    exact wpAny_bind (wpAny_pure (wpAny_bind (wpAny_pure (wpAny_pure h))))
  | cons x rest =>
    obtain ⟨b, t⟩ := x
    cases b with
    | true => simp at hplain
    | false => exact evalArgs_plain h
theorem callWith_any {K : Frag} {f : Value} {first : List Value} {pos : Pos} {args : List (Bool × Sem Value)} {M : Model} {A : Around} {E : Value → Shared → Prop} {s : Shared} {Q : Value → Shared → Prop} (hplain : args.any (·.1) = false)
    (hk : keepIn K f = true) (h : wpAny M A (spliced args) (fun vs s₁ => K.In s₁.heap ∧ wpAny M A (call f (first ++ vs)) Q E s₁) E s) : wpAny M A (callWith pos f first args []) Q E s :=
  callWith_of (by rw [hplain]; rfl) (keeps_K hk) (evalArgs_any hplain h)
noncomputable def wCall (X : Ctx) (d : Nat) (f : Value) (P : WEs) : WE := fun Q σ => P (fun vs σ₁ => CallsTo X d f vs (fun m H' => Q m ⟨σ₁.loc, H'⟩) σ₁.H) σ
theorem SE.callF (ok : X.Ok) {x : Str} {xp pos : Pos} {args : List Expr} {f : Value} {P : WEs} (hg : GlobV X F x f) (hk : keepIn X.K f = true) (ha : SEs X d F args P) : SE X d F (.Call (.Name x xp) args [] pos) (wCall X d f P) :=
  fun Q σ h A s r g => Call_ (eval_glob ok hg g (callWith_any (ha.1 pos) hk (ha.run (E := NoE) h r g fun vs σ₁ ws s₁ rv g₁ e₁ _ q =>
    ⟨g₁.rep.kin ok, wpAny_mono (call_op r g₁.rep rv q) (fun _ _ o => (EPost.of_op g₁ o fun _ _ q => q).back e₁) fun _ _ x => x⟩)))
theorem meth_call {o : Expr} {name : Str} {apos pos : Pos} {args : List Expr} {env : Env} {M : Model} {A : Around} {E : Value → Shared → Prop} {s : Shared} {Q : Value → Shared → Prop}
    (hbase : attributeBase o name env (eval o env) = eval o env)
    (hfew : ((backTo pos (starEach args env)).all (fun x => !x.1) && (backToKw pos (keywordEach [] env)).all (fun x => x.1.isSome) && decide (args.length + ([] : List Keyword).length + (if ([] : List Keyword).isEmpty then 0 else 1) < 30)) = true)
    (hline : (apos.endLine == pos.line) = true)
    (h : wpAny M A (eval o env) (fun ov s₁ => ∃ f first, (∀ (pl : Sem Bool) (Q' : Value × List Value → Shared → Prop), Q' (f, first) s₁ → wpAny M A (getMethod ov name pl) Q' E s₁) ∧ wpAny M A (callWith pos f first (backTo pos (starEach args env)) []) Q E s₁) E s) :
    wpAny M A (eval (.Call (.Attribute o name apos) args [] pos) env) Q E s := by
  rw [arm_eval_Call, hbase]
  refine wpAny_bind (wpAny_mono h (fun ov s₁ h₁ => ?_) fun _ _ e => e)
  obtain ⟨f, first, hm, hc⟩ := h₁
  refine wpAny_bind (wpAny_standAt ?_)
  have hform : methodCallForm (args.length + ([] : List Keyword).length) (backTo pos (starEach args env)) (backToKw pos (keywordEach [] env)) = true := hfew
  have hpos : methodCallPos true o env apos pos = pure pos := by unfold methodCallPos; simp [hline]
  unfold methodCall
  rw [hform]
  refine wpAny_bind (wpAny_holding (hm _ _ ?_))
  exact wpAny_bind (wpAny_of_eq hpos hc)
noncomputable def fewOk (args : List Expr) (pos : Pos) (env : Env) : Bool := (backTo pos (starEach args env)).all (fun x => !x.1) && (backToKw pos (keywordEach [] env)).all (fun x => x.1.isSome) && decide (args.length + ([] : List Keyword).length + (if ([] : List Keyword).isEmpty then 0 else 1) < 30)
structure Meths (X : Ctx) (tab : Nat → Str → Option Addr) : Prop where
  ok : ∀ c name f, tab c name = some f → methOkB X.K (X.cls c) name f = true
  own : ∀ c name f, tab c name = some f → name ∉ X.attrs c
  keep : ∀ c name f, tab c name = some f → keepIn X.K (.ref f) = true
inductive MethR (H : MH) (tab : Nat → Str → Option Addr) (name : Str) : MV → Addr → Prop
  | mk {c : Nat} {a f : Addr} {l : List (Option MV)} (ht : tab c name = some f) (h : H a = some (.A c l)) : MethR H tab name (.inst c a) f
noncomputable def wMeth (X : Ctx) (d : Nat) (tab : Nat → Str → Option Addr) (P : WE) (name : Str) (R : WEs) : WE := fun Q σ => P (fun o σ₁ => ∃ f, MethR σ₁.H tab name o f ∧ R (fun vs σ₂ => CallsTo X d (.ref f) (o :: vs) (fun m H' => Q m ⟨σ₂.loc, H'⟩) σ₂.H) σ₁) σ
theorem SE.meth (ok : X.Ok) {tab : Nat → Str → Option Addr} (mt : Meths X tab) {o : Expr} {name : Str} {apos pos : Pos} {args : List Expr} {P : WE} {R : WEs} (ho : SE X d F o P) (ha : SEs X d F args R)
    (hbase : attributeBase o name F.env (eval o F.env) = eval o F.env := by rfl)
    (hfew : fewOk args pos F.env = true := by rfl)
    (hline : (apos.endLine == pos.line) = true := by rfl) : SE X d F (.Call (.Attribute o name apos) args [] pos) (wMeth X d tab P name R) := by
  intro Q σ h A s r g
  refine meth_call hbase hfew hline (ho.run h r g fun mo σ₁ vo s₁ ro g₁ e₁ ⟨f, hm, q⟩ => ?_)
  obtain ⟨htab, hA⟩ := hm
  obtain ⟨es, n, mp, hoA, hn, hz, hmem, hv⟩ := g₁.rep.cell _ _ hA
  have ro' := ro
  obtain ⟨y, rfl, hy⟩ := iX ro
  have mk := mt.ok _ name f htab
  unfold methOkB at mk
  simp only [Bool.and_eq_true, beq_iff_eq] at mk
  obtain ⟨⟨m1, m2⟩, m3⟩ := mk
  have hno : mp name = Option.none := Classical.byContradiction fun z => mt.own _ name f htab (hmem name z)
  refine ⟨.ref f, [.ref y], fun pl Q' hq => method_fn (g₁.rep.kin ok) (⟨hy, rfl, rfl, hoA⟩ : PySem.W.InstAt s₁.heap y (instObj (X.cls _) _) (X.cls _) (some ⟨.type "dict", Option.none, .dict es n, #[]⟩)) (plainGet_of m1).1 (plainGet_of m1).2 m2 (beq_iff_eq.mp m3) (by show (lookIn name _).map _ = _; rw [ns_look hn hoA, hno]; rfl) hq, ?_⟩
  exact callWith_any (ha.1 pos) (mt.keep _ name f htab) (ha.run (E := NoE) q r g₁ fun vs σ₂ ws s₂ rv g₂ e₂ _ q =>
    ⟨g₂.rep.kin ok, wpAny_mono (call_op r g₂.rep (VReps.cons (g₁.vrep e₂ ro') rv) q) (fun _ _ o => (EPost.of_op g₂ o fun _ _ q => q).back (e₁.trans e₂)) fun _ _ x => x⟩)
structure FnFact (X : Ctx) (f : Addr) (fd : FuncData) (names : List Str) (n : Nat) (body : List Stmt) : Prop where
  at_ : ∃ oc od osl, X.K.lookup f = some ⟨oc, od, .func fd, osl⟩
  code : codeIn X.K fd.code fd.qualname = true
  body : fd.body = .stmts body
  globals : fd.globals = mainGlobals
  builtins : fd.builtins = builtinsNs
  closure : fd.closure = []
  kind : fd.scope.kind = .function
  gen : fd.scope.isGenerator = false
  co : fd.scope.isCoroutine = false
  nocell : ∀ x ∈ fd.scope.names, x.2 ≠ .cell
  nodup : names.Nodup
  locs : ∀ x ∈ names, fd.scope.names.lookup x = some .local
  le : n ≤ names.length
  bind : ∀ (vs : List Value), vs.length = n → ∀ s, BindsTo s fd ⟨vs, []⟩ ((names.take n).zip vs)
noncomputable def fiOf (fd : FuncData) (names : List Str) (f L : Addr) : FI := ⟨callEnv fd L f, names⟩
noncomputable def locsC : List MV → Nat → List (Option MV)
  | [], n => nones n
  | m :: ms, n => some m :: locsC ms n
where nones : Nat → List (Option MV)
  | 0 => []
  | n + 1 => none :: nones n
noncomputable def retOf : MF → MV
  | .ret m => m
  | _ => .none
theorem retOf_ret (m : MV) : retOf (.ret m) = m := rfl
theorem retOf_next : retOf .next = .none := rfl
theorem leB {a b : Nat} (h : Nat.ble a b = true) : a ≤ b := Nat.le_of_ble_eq_true h
theorem ltB {a b : Nat} (h : Nat.blt a b = true) : a < b := Nat.le_of_ble_eq_true h
theorem nones_get : ∀ {n i : Nat} {m : MV}, (locsC.nones n)[i]? ≠ some (some m)
  | 0, i, m => by intro h; rw [locsC.nones, List.getElem?_nil] at h; cases h
  | n + 1, 0, m => by intro h; cases h
  | n + 1, i + 1, m => nones_get (n := n) (i := i)
theorem locsC_get : ∀ {vs : List MV} {n i : Nat} {m : MV}, (locsC vs n)[i]? = some (some m) → vs[i]? = some m
  | [], n, i, m, h => (nones_get h).elim
  | v :: vs, n, 0, m, h => by cases h; rfl
  | v :: vs, n, i + 1, m, h => locsC_get (vs := vs) (i := i) h
theorem zip_lookup : ∀ {ns : List Str} {vs : List Value} {i : Nat} {x : Str} {v : Value}, ns.Nodup → ns[i]? = some x → vs[i]? = some v → (ns.zip vs).reverse.lookup x = some v := by
  have key : ∀ (ns : List Str) (vs : List Value) (i : Nat) (x : Str) (v : Value) (acc : List (Str × Value)), ns.Nodup → ns[i]? = some x → vs[i]? = some v → ((ns.zip vs).reverse ++ acc).lookup x = some v := by
    intro ns
    induction ns with
    | nil => intro vs i x v acc _ h; simp at h
    | cons n ns ih =>
      intro vs i x v acc hn h1 h2
      cases vs with
      | nil => simp at h2
      | cons w vs =>
        simp only [List.zip_cons_cons, List.reverse_cons, List.append_assoc, List.cons_append, List.nil_append]
        cases i with
        | zero =>
          simp only [List.getElem?_cons_zero, Option.some.injEq] at h1 h2
          subst h1 h2
          rw [List.lookup_append]
          have : (ns.zip vs).reverse.lookup n = none := by
            rw [List.lookup_eq_none_iff]
            intro p hp
            have hm : p.1 ∈ ns := (List.of_mem_zip (List.mem_reverse.mp hp)).1
            rw [bne_iff_ne]
            rintro rfl
            exact (List.nodup_cons.mp hn).1 hm
          rw [this]; simp
        | succ i =>
          simp only [List.getElem?_cons_succ] at h1 h2
          exact ih vs i x v _ (List.nodup_cons.mp hn).2 h1 h2
  intro ns vs i x v hn h1 h2
  simpa using key ns vs i x v [] hn h1 h2
theorem callsTo_def (ok : X.Ok) {f : Addr} {fd : FuncData} {names : List Str} {n : Nat} {body : List Stmt} {P : WS} (ff : FnFact X f fd names n body) (hb : ∀ L, SS X d (fiOf fd names f L) body P)
    {vs : List MV} {Q : MV → MH → Prop} {H : MH} (hl : vs.length = n) (k : Nat) (h : P (fun m σ => Q (retOf m) σ.H) ⟨locsC vs k, H⟩) : CallsTo X (d + 1) (.ref f) vs Q H := by
  refine ⟨fun A s ws r rp rv => ?_⟩
  obtain ⟨oc, od, osl, hat⟩ := ff.at_
  have XK := rp.kin ok
  have len := rv.length
  refine codeAny_call_def (fd := fd) (body := body) (binds := (names.take n).zip ws) (by have := r.depth; (first | lia | omega)) (XK _ _ hat) rfl (ok.lim.keeps rp.keep) (codeRec_of XK ff.code) ff.body (ff.bind ws (by (first | lia | omega)) s) ff.nocell (fun x hx => ff.locs _ (List.mem_of_mem_take (List.of_mem_zip hx).1)) (fun h₁ hns hk => ?_) ff.co ff.gen ff.kind
  have kf : KF s.heap h₁ := fun b o e _ => hk b o e
  have hcells : (fiOf fd names f s.heap.objs.size).env.cells = [] := ff.closure
  have nocell : ∀ {x : Str} {c : Addr}, (fiOf fd names f s.heap.objs.size).env.cells.lookup x ≠ some c := by intro x c h; rw [hcells] at h; cases h
  have foot : ∀ {b}, (fiOf fd names f s.heap.objs.size).foot b → b = s.heap.objs.size := fun q => q.elim id fun ⟨x, hx⟩ => (nocell hx).elim
  have g : Good X (fiOf fd names f s.heap.objs.size) ⟨locsC vs k, H⟩ { s with heap := h₁, toks := s.toks + ((names.take n).zip ws).length } := by
    refine ⟨⟨ff.kind, ff.nodup, ff.globals, ff.builtins, fun x y c h1 => (nocell h1).elim, fun x c h1 => (nocell h1).elim, fun x c h1 => (nocell h1).elim⟩, rp.ext hk, ⟨⟨_, hns, fun i x mv h1 h2 h3 => ?_⟩, fun x c h1 => (nocell h1).elim⟩, fun b hb => ?_, fun b hb => ?_⟩
    · have hmv := locsC_get h3
      have hlt : i < vs.length := (List.getElem?_eq_some_iff.mp hmv).1
      obtain ⟨v, hv, hr⟩ := rv.get hmv
      refine ⟨v, zip_lookup (ff.nodup.sublist (List.take_sublist ..)) (i := i) ?_ hv, VRep.keep kf hr⟩
      rw [List.getElem?_take, if_pos (by (first | lia | omega))]; exact h1
    · rw [foot hb]; exact rp.size_fresh
    · rw [foot hb]; exact rp.base_size
  refine wpAny_mono (hb s.heap.objs.size _ _ h _ _ (r.deeper _) g) (fun fl s' p => ?_) fun _ _ x => x.elim
  obtain ⟨mf, σ', frp, g', e', q⟩ := p
  have live : ∀ {b}, s.heap.get? b ≠ none → h₁.get? b ≠ none := fun hb => let ⟨o, w⟩ := some_of_ne hb; ne_of_some (hk _ o w)
  have ev : Evo NoF s H s' σ'.H := ⟨e'.gens, e'.os, e'.drawn, fun b o ho nd _ => e'.keep b o (hk b o ho) nd fun hf => (by
      rw [foot hf, get?_size] at ho; cases ho), fun b hb => (e'.dom b hb).imp id (fun z => Classical.byContradiction fun w => live w z), fun b hb => e'.mono b (live hb)⟩
  cases mf with
  | next => cases frp; exact ⟨.none, .none, σ'.H, rfl, vN, g'.rep, ev, q⟩
  | brk => cases frp; exact ⟨.none, .none, σ'.H, rfl, vN, g'.rep, ev, q⟩
  | cont => cases frp; exact ⟨.none, .none, σ'.H, rfl, vN, g'.rep, ev, q⟩
  | ret m => obtain ⟨v, rfl, rv'⟩ := frp; exact ⟨v, m, σ'.H, rfl, rv', g'.rep, ev, q⟩
end
section
variable {X : Ctx} {d : Nat} {F : FI}
theorem nodup1 {α : Type} {a : α} : [a].Nodup := List.nodup_cons.mpr ⟨nofun, List.nodup_nil⟩
noncomputable def Cell.ty : Cell → String
  | .L _ => "list"
  | .D _ _ => "dict"
  | .S _ => "set"
  | .A _ _ => ""
inductive RefR (H : MH) (T : String) : MV → Addr → Prop
  | mk {a : Addr} {c : Cell} (h : H a = some c) (e : c.ty = T) : RefR H T (.ref a) a
noncomputable abbrev MB := Addr → MH → (MV → MH → Prop) → List MV → Prop
noncomputable def MOk (X : Ctx) (d : Nat) (id : String) (B : MB) : Prop :=
  ∀ a vs ws A s H Q, Room d A → Rep X H s.heap → VReps X s.heap vs ws → B a H Q vs → wpAny (mdl X) A (call (.builtin id) (.ref a :: ws)) (OPost X s H Q) NoE s
noncomputable def wMethB (T : String) (B : MB) (P : WE) (R : WEs) : WE := fun Q σ => P (fun o σ₁ => ∃ a, RefR σ₁.H T o a ∧ R (fun vs σ₂ => B a σ₂.H (fun m H' => Q m ⟨σ₂.loc, H'⟩) vs) σ₁) σ
theorem Rep.typed {H : MH} {h : Heap} (r : Rep X H h) {a : Addr} {c : Cell} (e : H a = some c) (ne : c.ty ≠ "") : ∃ o, h.get? a = some o ∧ o.cls = .type c.ty ∧ o.dict = none := by
  have rc := r.cell a c e
  cases c with
  | L l => obtain ⟨vs, ⟨n, ho⟩, _⟩ := rc; exact ⟨_, ho, rfl, rfl⟩
  | D v o => obtain ⟨es, ep, hc, _⟩ := DRep.keyAt rc; exact ⟨o, rc.1, hc.1, hc.2.1⟩
  | S l => obtain ⟨_, n, _, ⟨o, es, ep, t, ho, hc, _⟩⟩ := rc; exact ⟨o, ho, hc.1, hc.2.1⟩
  | A c l => exact (ne rfl).elim
theorem SE.methB {T id : String} {B : MB} {o : Expr} {name : Str} {apos pos : Pos} {args : List Expr} {P : WE} {R : WEs} (ho : SE X d F o P) (ha : SEs X d F args R)
    (hT : T ≠ "") (pa : PlainAttrs T) (slot : PySem.Slot T name id) (hty : typeOf (.builtin id) = pure (.type "method_descriptor")) (op : MOk X d id B)
    (hbase : attributeBase o name F.env (eval o F.env) = eval o F.env)
    (hfew : fewOk args pos F.env = true)
    (hline : (apos.endLine == pos.line) = true) : SE X d F (.Call (.Attribute o name apos) args [] pos) (wMethB T B P R) := by
  intro Q σ h A s r g
  refine meth_call hbase hfew hline (ho.run h r g fun mo σ₁ vo s₁ ro g₁ e₁ ⟨a, hr, q⟩ => ?_)
  obtain ⟨hc, rfl⟩ := hr
  cases iR ro
  obtain ⟨ob, h1, h2, h3⟩ := g₁.rep.typed hc hT
  refine ⟨.builtin id, [.ref a], fun pl Q' hq => getMethod_builtin ⟨ob, h1, h2⟩ pa slot hty (fun b e => by cases e; exact ⟨ob, h1, h3⟩) hq, ?_⟩
  refine Calls.callWith_builtin (ha.1 pos) (evalArgs_any (ha.1 pos) (ha.run (E := NoE) q r g₁ fun vs σ₂ ws s₂ rv g₂ e₂ _ q => ?_))
  exact wpAny_mono (op a vs ws A s₂ σ₂.H _ r g₂.rep rv q) (fun _ _ o => (EPost.of_op g₂ o fun _ _ q => q).back (e₁.trans e₂)) fun _ _ x => x
theorem VReps.inv1 {h : Heap} {m : MV} {ws : List Value} (r : VReps X h [m] ws) : ∃ v, ws = [v] ∧ VRep X h m v := by
  obtain ⟨v, r', rfl, a, b⟩ := r.inv; rw [b.inv0]; exact ⟨v, rfl, a⟩
theorem VReps.inv2 {h : Heap} {m n : MV} {ws : List Value} (r : VReps X h [m, n] ws) : ∃ v w, ws = [v, w] ∧ VRep X h m v ∧ VRep X h n w := by
  obtain ⟨v, r', rfl, a, b⟩ := r.inv; obtain ⟨w, rfl, c⟩ := b.inv1; exact ⟨v, w, rfl, a, c⟩
theorem OPost.ofV {s s' : Shared} {H H' : MH} {Q : MV → MH → Prop} {m : MV} {v : Value} (p : Rep X H' s'.heap ∧ Evo NoF s H s' H') (rv : VRep X s'.heap m v) (q : Q m H') : OPost X s H Q v s' := ⟨m, H', rv, p.1, p.2, q⟩
theorem Rep.putL {H : MH} {s : Shared} {a : Addr} {c : Cell} {l : List MV} {h' : Heap} {vs : Array Value} (r : Rep X H s.heap) (e : H a = some c) (sb : Heap.SameBut a s.heap h') (hp : h'.PlainList a vs) (hv : VReps X s.heap l vs.toList) (n : Nat) :
    Rep X (H.set a (.L l)) h' ∧ Evo NoF s H { s with heap := h', toks := n } (H.set a (.L l)) :=
  r.put (.inl (ne_of_some e)) (SameBut.but sb) (c := .L l) ⟨vs, hp, VReps.keep (r.kfAt e (SameBut.but sb)) hv⟩ n
inductive bAppend (a : Addr) (H : MH) (Q : MV → MH → Prop) : List MV → Prop
  | mk {l : List MV} {v : MV} (hl : H a = some (.L l)) (hz : l.length ≤ 100000) (q : Q .none (H.set a (.L (l ++ [v])))) : bAppend a H Q [v]
theorem okAppend : MOk X d "list.append" bAppend := by
  rintro a vs ws A s H Q room r rv ⟨hl, hz, q⟩
  obtain ⟨w, rfl, rw'⟩ := rv.inv1
  obtain ⟨ps, h1, h2⟩ := r.list hl
  have len : _ = ps.size := h2.length
  exact wpAny_list_append_plain h1 (fun h' hp sb => OPost.ofV (r.putL hl sb hp (by rw [Array.toList_push]; exact VReps.append h2 (VReps.one rw')) s.toks) vN q) (by rw [sizeLine_eq]; (first | lia | omega))
inductive bPop (a : Addr) (H : MH) (Q : MV → MH → Prop) : List MV → Prop
  | mk {l : List MV} {v : MV} (hl : H a = some (.L (l ++ [v]))) (hz : l.length < 100000) (q : Q v (H.set a (.L l))) : bPop a H Q []
theorem okPop : MOk X d "list.pop" bPop := by
  rintro a vs ws A s H Q room r rv ⟨hl, hz, q⟩
  rename_i l v
  rw [rv.inv0]
  obtain ⟨ps, ⟨n, h1⟩, h2⟩ := r.list hl
  have len : (l ++ [v]).length = ps.size := h2.length
  rw [List.length_append, List.length_singleton] at len
  obtain ⟨w, hw, rw'⟩ := h2.get (i := l.length) (m := v) (by rw [List.getElem?_append_right (Nat.le_refl _), Nat.sub_self]; rfl)
  rw [show l.length = ps.size - 1 by (first | lia | omega)] at hw
  have hp : (s.heap.update a (Obj.mapSeq fun xs => xs.eraseIdxIfInBounds (ps.size - 1))).PlainList a (ps.eraseIdxIfInBounds (ps.size - 1)) := ⟨_, Heap.get?_update_self _ h1 rfl⟩
  have e : (ps.eraseIdxIfInBounds (ps.size - 1)).toList = ps.toList.take l.length := by
    unfold Array.eraseIdxIfInBounds
    rw [dif_pos (by (first | lia | omega)), Array.toList_eraseIdx, List.eraseIdx_eq_take_drop_succ, List.drop_eq_nil_of_le (by rw [Array.length_toList]; (first | lia | omega)), List.append_nil, show ps.size - 1 = l.length by (first | lia | omega)]
  refine call_meets F.slot_list_pop ⟨_, h1, rfl⟩ F.entry_list_pop (F.args_list_pop_1 _) (MeetsSeq.list_pop_last a ps n w (by rwa [Array.getElem?_toList] at hw) (by rw [sizeLine_eq]; (first | lia | omega))) ⟨h1, ?_⟩
  have tk := VReps.take (n := l.length) h2
  rw [List.take_left] at tk
  have P := r.putL hl (Heap.SameBut.update ..) hp (l := l) (by rw [e]; exact tk) s.toks
  exact OPost.ofV P (VRep.keep (r.kfAt hl (SameBut.but (Heap.SameBut.update ..))) rw') q
inductive bInsert (a : Addr) (H : MH) (Q : MV → MH → Prop) : List MV → Prop
  | mk {l : List MV} {i : Int} {v : MV} (hl : H a = some (.L l)) (hz : l.length ≤ 100000) (h0 : 0 ≤ i) (h1 : i ≤ l.length) (q : Q .none (H.set a (.L (l.take i.toNat ++ v :: l.drop i.toNat)))) : bInsert a H Q [.int i, v]
theorem okInsert : MOk X d "list.insert" bInsert := by
  rintro a vs ws A s H Q room r rv ⟨hl, hz, h0, h1', q⟩
  rename_i l i v
  obtain ⟨wi, w, rfl, ri, rw'⟩ := rv.inv2
  obtain ⟨t, rfl⟩ := iI ri
  obtain ⟨ps, ⟨n, h1⟩, h2⟩ := r.list hl
  have len : _ = ps.size := h2.length
  have hp : (s.heap.update a (Obj.mapSeq fun xs => have k := if i < 0 then (i + ((xs.size : Nat) : Int)).toNat else min i.toNat xs.size; (xs.extract 0 k).push w ++ xs.extract k)).PlainList a
      ((ps.extract 0 (if i < 0 then (i + ((ps.size : Nat) : Int)).toNat else min i.toNat ps.size)).push w ++ ps.extract (if i < 0 then (i + ((ps.size : Nat) : Int)).toNat else min i.toNat ps.size)) := ⟨_, Heap.get?_update_self _ h1 rfl⟩
  refine call_meets F.slot_list_insert ⟨_, h1, rfl⟩ F.entry_list_insert (F.args_list_insert_3 _ _ _) (AutoListH.list_insert_list_int_val_1 a ps n i t w (by rw [fitsIndex_of h0 (by (first | lia | omega))]; simp) (by rw [sizeLine_eq]; (first | lia | omega))) ⟨h1, ?_⟩
  refine OPost.ofV (r.putL hl (Heap.SameBut.update ..) hp (l := l.take i.toNat ++ v :: l.drop i.toNat) ?_ s.toks) vN q
  rw [if_neg (by (first | lia | omega)), Nat.min_eq_left (by (first | lia | omega))]
  simp only [Array.toList_append, Array.toList_push, Array.toList_extract, List.extract_eq_take_drop, List.drop_zero, Nat.sub_zero, List.append_assoc, List.singleton_append]
  rw [List.take_of_length_le (l := List.drop i.toNat ps.toList) (by rw [List.length_drop, Array.length_toList]; exact Nat.le_refl _)]
  exact VReps.append (VReps.take h2) (VReps.cons rw' (VReps.drop h2))
inductive DgetR : DV → MV → Option MV → Prop
  | v {l : List (SK × MV)} {i : MV} {k : SK} (hk : SkR i k) : DgetR (.v l) i (dget l k)
  | t {l : List (List SK × MV)} {i : List MV} {k : List SK} (hk : TkR i k) : DgetR (.t l) (.tup i) (dget l k)
inductive bGet (a : Addr) (H : MH) (Q : MV → MH → Prop) : List MV → Prop
  | mk {v : DV} {o : Obj} {k m : MV} {r : Option MV} (hl : H a = some (.D v o)) (h : DgetR v k r) (q : Q (r.getD m) H) : bGet a H Q [k, m]
theorem PRep.getD {h : Heap} {K : Type} [DecidableEq K] {l : List (K × MV)} {kvs : List (K × Value)} {k : K} {m : MV} {v : Value} (r : PRep X h l kvs) (rv : VRep X h m v) : VRep X h ((dget l k).getD m) ((valueAt kvs k).getD v) := by
  rcases r.get (k := k) with ⟨q, q'⟩ | ⟨m', v', q, q', rv'⟩
  · rw [q, q']; exact rv
  · rw [q, q']; exact rv'
theorem okGet (ok : X.Ok) : MOk X d "dict.get" bGet := by
  rintro a vs ws A s H Q room r rv ⟨hD, hg, q⟩
  obtain ⟨wk, w, rfl, rk, rw'⟩ := rv.inv2
  have hs := r.notMods ok (ne_of_some hD)
  have rc := r.cell _ _ hD
  cases hg with
  | v hk =>
    obtain ⟨_, kvs, hd, hr⟩ := rc
    exact call_meetsIn F.slot_dict_get hd.typeIs F.entry_dict_get (F.args_dict_get_3 _ _ _) (meets_dict_get_default (skKind X.prog X.w) a (hk.is rk) hs w) ⟨_, hd.mapOf, _, H, hr.getD rw', r, .tk .., q⟩
  | @t l i k hk =>
    obtain ⟨b, rfl, isK⟩ := hk.is rk
    obtain ⟨_, xs, hd, hr⟩ := rc
    have rr := hr.getD (k := k) rw'
    rw [flat_at] at rr
    refine wpAny_call_entry F.slot_dict_get hd.typeIs F.entry_dict_get ?_ (F.args_dict_get_3 _ _ _)
    show wpAny _ _ (dictGet a (.ref b) >>= _) _ _ s
    refine wpAny_bind (wpAny_dictGet_heap (roomKey room) isK hd ?_)
    cases e : atKey xs k with
    | none =>
      rw [e] at rr
      show wpAny _ _ (Builtin.Dict.missed a (.ref b) >>= _) _ _ _
      exact wpAny_bind (wpAny_missed_other hs (wpAny_pure ⟨w, rfl, _, H, rr, r, .tk .., q⟩))
    | some p => rw [e] at rr; exact wpAny_pure ⟨p.2, rfl, _, H, rr, r, .tk .., q⟩
inductive bSetdefault (a : Addr) (H : MH) (Q : MV → MH → Prop) : List MV → Prop
  | old {l : List (List SK × MV)} {o : Obj} {i : List MV} {k : List SK} {v m : MV} (hl : H a = some (.D (.t l) o)) (hk : TkR i k) (h : dget l k = some m) (hz : l.length ≤ 50000) (q : Q m H) : bSetdefault a H Q [.tup i, v]
  | new {l : List (List SK × MV)} {o : Obj} {i : List MV} {k : List SK} {v : MV} (hl : H a = some (.D (.t l) o)) (hk : TkR i k) (h : dget l k = none) (hz : l.length ≤ 50000) (q : ∀ o, Q v (H.set a (.D (.t (dput l k v)) o))) : bSetdefault a H Q [.tup i, v]
theorem setdefault_op (ok : X.Ok) {a : Addr} {l : List (List SK × MV)} {oo : Obj} {i : List MV} {k : List SK} {v : MV} {ws : List Value} {A : Around} {s : Shared} {H : MH} {Q : MV → MH → Prop} (room : Room d A) (r : Rep X H s.heap) (rv : VReps X s.heap [.tup i, v] ws)
    (hD : H a = some (.D (.t l) oo)) (hk : TkR i k) (hz : l.length ≤ 50000) (q1 : ∀ m, dget l k = some m → Q m H) (q2 : dget l k = none → ∀ o, Q v (H.set a (.D (.t (dput l k v)) o))) :
    wpAny (mdl X) A (call (.builtin "dict.setdefault") (.ref a :: ws)) (OPost X s H Q) NoE s := by
  obtain ⟨wk, w, rfl, rk, rw'⟩ := rv.inv2
  have hs := r.notMods ok (ne_of_some hD)
  obtain ⟨b, rfl, isK⟩ := hk.is rk
  obtain ⟨_, xs, hd, hr⟩ := r.cell _ _ hD
  have len : xs.length = _ := (List.length_map _).symm.trans hr.len
  have rm := roomKey (X := X) room
  have ty := hd.typeIs (s := s)
  obtain ⟨o, es, ep, ho, hc, hdt, he, his, hn⟩ := hd
  have hget := hr.get (k := k)
  rw [flat_at] at hget
  refine wpAny_call_entry F.slot_dict_setdefault ty F.entry_dict_setdefault ?_ (F.args_dict_setdefault_3 _ _ _)
  unfold Builtin.«dict.setdefault»
  refine wpAny_bind ?_
  unfold Builtin.Dict.keyAndDefault
  refine wpAny_bind (wpAny_notOrdered_dict ty ?_)
  show wpAny _ _ (pure (a, Value.ref b, some w)) _ _ s
  refine wpAny_pure ?_
  show wpAny _ _ (if (a == sysModules) = true then _ else (dictSetDefault a (.ref b) w >>= _)) _ _ s
  rw [if_neg (by rw [hs]; exact Bool.false_ne_true)]
  refine wpAny_bind ?_
  unfold dictSetDefault
  try with_reducible refine wpAny_holding ?_
  refine wpAny_bind ((tupleKind (skKind X.prog X.w)).pyHash rm isK ?_)
  refine wpAny_bind (wpAny_dictFind_heap (s := { s with toks := _ }) rm isK ho hdt he his hn ?_ ?_)
  · intro hno
    have hat := atKey_none_of_get hno
    have hnone : dget l k = none := by
      rcases hget with ⟨z, _⟩ | ⟨_, _, _, z, _⟩
      · exact z
      · rw [hat] at z; cases z
    have q := q2 hnone
    refine wpAny_bind (wpAny_rule (wpAny_bind (wpAny_updateDictKeys (hz := by have e := size_of_entries he; rw [sizeLine_eq]; (first | lia | omega)) (s := { s with toks := _ }) ho hdt (wpAny_pure ?_))))
    have st := storedH_new (a := b) (v := w) hat
    have sb : Heap.SameBut a s.heap (s.heap.update a (Obj.mapDictKeys (·.push ⟨(tupleKind (skKind X.prog X.w)).hash k, .ref b, w⟩))) := Heap.SameBut.update ..
    obtain ⟨o', P⟩ := r.putD (v := .t (dput l k v)) hD (SameBut.but sb) (fun kf => by
      refine ⟨storedH xs k b w, ⟨_, _, ep + 1, Heap.get?_update_self _ ho (Obj.isFreed_of_dict (Obj.data_mapDictKeys hdt _)), hc.mapDictKeys _, Obj.data_mapDictKeys hdt _, ?_, ?_, ?_⟩, by rw [flat_stored]; exact (PRep.keep kf hr).put (VRep.keep kf rw')⟩
      · rw [st, Array.toList_push, he, List.map_append]; rfl
      · rw [st]
        intro x hx
        rcases List.mem_append.mp hx with hx | hx
        · exact (tupleKind (skKind X.prog X.w)).keeps (his x hx) ho hdt sb
        · cases List.mem_singleton.mp hx; exact (tupleKind (skKind X.prog X.w)).keeps isK ho hdt sb
      · rw [st, List.map_append, List.nodup_append]
        refine ⟨hn, nodup1, fun x hx y hy => ?_⟩
        rw [List.map_cons, List.map_nil] at hy
        cases List.mem_singleton.mp hy
        rintro rfl
        exact not_mem_keys_of_get hno hx) (s.toks + (tupleKind (skKind X.prog X.w)).draws k)
    exact wpAny_pure ⟨w, rfl, OPost.ofV P (VRep.keep (r.kfAt hD (SameBut.but sb)) rw') (q o')⟩
  · intro j p hj
    have hat := atKey_of_get hn hj
    refine wpAny_bind (wpAny_dictEntries (s := { s with toks := _ }) ho hdt ?_)
    rw [entry_at he j, hj]
    refine wpAny_bind (wpAny_rule (wpAny_pure ?_))
    rcases hget with ⟨_, z⟩ | ⟨m', v', z, z', rp⟩
    · rw [hat] at z; cases z
    · rw [hat] at z'; cases z'
      exact wpAny_pure ⟨_, rfl, m', H, rp, r, .tk .., q1 m' z⟩
theorem okSetdefault (ok : X.Ok) : MOk X d "dict.setdefault" bSetdefault := by
  intro a vs ws A s H Q room r rv q
  cases q with
  | old hl hk h hz q => exact setdefault_op ok room r rv hl hk hz (fun m e => by rw [h] at e; cases e; exact q) fun e => by rw [h] at e; cases e
  | new hl hk h hz q => exact setdefault_op ok room r rv hl hk hz (fun m e => by rw [h] at e; cases e) fun _ => q
noncomputable def sadd (l : List Int) (n : Int) : List Int := if n ∈ l then l else l ++ [n]
theorem mem_sadd {l : List Int} {n x : Int} : x ∈ sadd l n ↔ x ∈ l ∨ x = n := by
  unfold sadd
  split
  · rename_i h; exact ⟨.inl, fun z => z.elim id fun e => e ▸ h⟩
  · rw [List.mem_append, List.mem_singleton]
theorem nodup_sadd {l : List Int} {n : Int} (h : l.Nodup) : (sadd l n).Nodup := by
  unfold sadd
  split
  · exact h
  · rename_i z; exact List.nodup_append.mpr ⟨h, nodup1, fun x hx y hy => by cases List.mem_singleton.mp hy; rintro rfl; exact z hx⟩
inductive bSadd (a : Addr) (H : MH) (Q : MV → MH → Prop) : List MV → Prop
  | mk {l : List Int} {n : Int} (hl : H a = some (.S l)) (hz : l.length ≤ 1000) (q : Q .none (H.set a (.S (sadd l n)))) : bSadd a H Q [.int n]
theorem okSadd : MOk X d "set.add" bSadd := by
  rintro a vs ws A s H Q room r rv ⟨hl, hz, q⟩
  rename_i l n
  obtain ⟨w, rfl, rw'⟩ := rv.inv1
  obtain ⟨t, rfl⟩ := iI rw'
  obtain ⟨nd, k, hk, hS⟩ := r.cell _ _ hl
  refine call_set_add (knd := intKind X.prog X.w) (k := n) (beq_self_eq_true n) rfl hS (by show k + 1 < 4096; (first | lia | omega)) fun h' sb hS' => ?_
  refine OPost.ofV (r.put (.inl (ne_of_some hl)) (SameBut.but sb) (c := .S (sadd l n)) ⟨nodup_sadd nd, if n ∈ l then k else k + 1, ?_, ?_⟩ _) vN q
  · unfold sadd
    by_cases z : n ∈ l
    · rw [if_pos z, if_pos z]; exact hk
    · rw [if_neg z, if_neg z, List.length_append]; exact Nat.succ_le_succ hk
  · have e : (fun k' => decide (k' ∈ l) || decide (k' = n)) = fun k' => decide (k' ∈ sadd l n) := by
      funext k'; rw [← Bool.decide_or]; exact decide_eq_decide.mpr mem_sadd.symm
    rw [← e]
    by_cases z : n ∈ l
    · rw [if_pos z]; simpa only [z, decide_true, if_true] using hS'
    · rw [if_neg z]; simpa only [z, decide_false, Bool.false_eq_true, if_false] using hS'
theorem setFind_at {K : Type} [DecidableEq K] {knd : PySem.KeyKind X.prog X.w K} {A : Around} {E : Value → Shared → Prop} {s : Shared} {a : Addr} {k : K} {x : Value} {o : Obj} {es : Array (Int × Value)} {ep : Nat} {t : SetTable} {Q : Option Nat → Shared → Prop} (hkey : knd.is k x = true) (hsc : x.scannable = true)
    (ho : s.heap.get? a = some o) (hd : o.data = .set es ep t) (hel : ElemsOf knd es.toList) (hb : es.size < scanBound) (hf : t.fits es.size = true)
    (h : Q (es.toList.findIdx? fun e => knd.is k e.2) s) : wpAny (mdl X) A (setFind a x (knd.hash k)) Q E s := by
  unfold setFind setFindIn
  refine wpAny_bind (wpAny_setState_of ho hd hf ?_)
  dsimp only
  rw [byScan_of hsc hb hel]
  simp only [if_true]
  refine wpAny_bind (wpAny_rule ?_)
  refine wpAny_bind (wpAny_setScan_of hkey ho hd hf hel ?_)
  cases hr : List.findIdx? (fun e => knd.is k e.2) es.toList with
  | none => rw [hr] at h; exact wpAny_pure h
  | some j => rw [hr] at h; dsimp only; rw [Nat.zero_add]; exact wpAny_pure h
theorem perm_of_card : ∀ (l m : List Int), l.Nodup → (∀ x ∈ l, x ∈ m) → m.length ≤ l.length → l.Perm m
  | [], m, _, _, z => by rw [List.eq_nil_of_length_eq_zero (Nat.le_zero.mp z)]
  | x :: l, m, hn, h, z => by
    have hx := h x (.head _)
    have hn' := List.nodup_cons.mp hn
    have ih := perm_of_card l (m.erase x) hn'.2 (fun y hy => (List.mem_erase_of_ne (by rintro rfl; exact hn'.1 hy)).mpr (h y (.tail _ hy))) (by rw [List.length_erase_of_mem hx]; exact Nat.sub_le_of_le_add z)
    exact (ih.cons x).trans (List.perm_cons_erase hx).symm
theorem eraseIdx_nodup : ∀ {m : List Int} {j : Nat} {n : Int}, m.Nodup → m[j]? = some n → m.eraseIdx j = m.filter fun x => decide (x ≠ n)
  | [], _, _, _, h => by cases h
  | x :: r, 0, n, nd, h => by
    cases h
    rw [List.filter_cons_of_neg (by rw [decide_eq_true_eq]; exact fun z => z rfl), List.filter_eq_self.mpr fun y hy => decide_eq_true (by rintro rfl; exact (List.nodup_cons.mp nd).1 hy)]
    rfl
  | x :: r, j + 1, n, nd, h => by
    have hr : r[j]? = some n := h
    have ne : x ≠ n := by rintro rfl; exact (List.nodup_cons.mp nd).1 (List.mem_of_getElem? hr)
    rw [List.filter_cons_of_pos (p := fun x => decide (x ≠ n)) (decide_eq_true ne), List.eraseIdx_cons_succ, eraseIdx_nodup (List.nodup_cons.mp nd).2 hr]
theorem perm_drop {l m : List Int} {j : Nat} {n : Int} (p : l.Perm m) (nd : l.Nodup) (h : m[j]? = some n) : (l.filter fun x => decide (x ≠ n)).Perm (m.eraseIdx j) := by
  rw [eraseIdx_nodup (p.nodup nd) h]; exact p.filter _
noncomputable def intOf : Value → Int
  | .int n _ => n
  | _ => 0
theorem intOf_is {x : Int} {v : Value} (h : (intKind X.prog X.w).is x v = true) : intOf v = x := by
  obtain ⟨t, rfl⟩ := Value.isInt_shape h; rfl
theorem intOf_iff {es : List (Int × Value)} (hel : ElemsOf (intKind X.prog X.w) es) {x : Int} : (∃ e ∈ es, (intKind X.prog X.w).is x e.2 = true) ↔ x ∈ es.map fun e => intOf e.2 := by
  rw [List.mem_map]
  refine ⟨fun ⟨e, he, h⟩ => ⟨e, he, intOf_is h⟩, fun ⟨e, he, h⟩ => ⟨e, he, ?_⟩⟩
  obtain ⟨k, hk, _⟩ := (hel e he).1
  rw [← h, intOf_is hk]; exact hk
theorem eraseAt_toList {α : Type} (es : Array α) (j : Nat) : (SetTable.eraseAt es j).toList = es.toList.eraseIdx j := by
  unfold SetTable.eraseAt
  rw [List.eraseIdx_eq_take_drop_succ]
  simp only [Array.toList_append, Array.toList_extract, List.extract_eq_take_drop, List.drop_zero, Nat.sub_zero]
  rw [List.take_of_length_le (l := List.drop (j + 1) es.toList) (by rw [List.length_drop, Array.length_toList]; exact Nat.le_refl _)]
theorem eraseAt_size {α : Type} (es : Array α) {j : Nat} (h : j < es.size) : (SetTable.eraseAt es j).size = es.size - 1 := by
  rw [← Array.length_toList, eraseAt_toList, List.length_eraseIdx_of_lt (by rwa [Array.length_toList]), Array.length_toList]
theorem drop_fits {tb : SetTable} {j n : Nat} (hf : tb.fits n = true) (hj : j < n) : (tb.drop j).fits (n - 1) = true := by
  simp only [SetTable.fits, Bool.and_eq_true, beq_iff_eq, decide_eq_true_eq, SetTable.fill] at hf
  obtain ⟨f1, f2⟩ := hf
  have hp : j < tb.place.size := by (first | lia | omega)
  unfold SetTable.drop
  rw [Array.getElem?_eq_getElem hp]
  have si : ∀ (xs : Array Nat) p (y : Nat), (SetTable.insertAt xs p y).size = xs.size + 1 := by
    intro xs p y
    unfold SetTable.insertAt
    simp only [Array.size_append, Array.size_push, Array.size_extract]; (first | lia | omega)
  simp only [SetTable.fits, Bool.and_eq_true, beq_iff_eq, decide_eq_true_eq, SetTable.fill, eraseAt_size _ hp, si]
  have := of_decide_eq_true f2
  exact ⟨by (first | lia | omega), by (first | lia | omega)⟩
inductive bSdisc (a : Addr) (H : MH) (Q : MV → MH → Prop) : List MV → Prop
  | mk {l : List Int} {n : Int} (hl : H a = some (.S l)) (q : Q .none (H.set a (.S (l.filter fun x => decide (x ≠ n))))) : bSdisc a H Q [.int n]
theorem okSdisc : MOk X d "set.discard" bSdisc := by
  rintro a vs ws A s H Q room r rv ⟨hl, q⟩
  rename_i l n
  obtain ⟨w, rfl, rw'⟩ := rv.inv1
  obtain ⟨t, rfl⟩ := iI rw'
  obtain ⟨nd, k, hk, hS⟩ := r.cell _ _ hl
  have hS' := hS
  obtain ⟨o, es, ep, tb, ho, hex, hd, hel, hmem, hb, hf, hn⟩ := hS
  have isI : (intKind X.prog X.w).is n (.int n t) = true := beq_self_eq_true n
  have mem : ∀ x, x ∈ l ↔ x ∈ es.toList.map fun e => intOf e.2 := fun x => by rw [← intOf_iff hel, ← hmem x, decide_eq_true_eq]
  have pm := perm_of_card l (es.toList.map fun e => intOf e.2) nd (fun x hx => (mem x).mp hx) (by rw [List.length_map, Array.length_toList, hn]; exact hk)
  refine wpAny_call_entry F.slot_set_discard hS'.typeIs F.entry_set_discard ?_ (F.args_set_discard_2 _ _)
  unfold Builtin.«set.discard» Builtin.Frozenset.oneOther
  simp only [List.isEmpty_nil, bind_assoc]
  unfold Builtin.Frozenset.addrOf Builtin.Frozenset.withSetAsKey setDiscard
  refine wpAny_bind (wpAny_pure ?_)
  try dsimp only
  refine wpAny_bind (wpAny_pure ?_)
  try dsimp only
  refine wpAny_bind (wpAny_tryCatch ?_)
  refine wpAny_holding ?_
  refine wpAny_bind ((intKind X.prog X.w).pyHash isI ?_)
  unfold setDiscardHashed
  refine wpAny_bind (setFind_at (s := { s with toks := s.toks + 1 }) isI rfl ho hd hel hb hf ?_)
  cases hr : es.toList.findIdx? (fun e => (intKind X.prog X.w).is n e.2) with
  | none =>
    have hnl : ∀ x ∈ l, decide (x ≠ n) = true := by
      intro x hx
      rw [decide_eq_true_eq]
      rintro rfl
      obtain ⟨e, he, hx'⟩ := (intOf_iff hel).mpr ((mem x).mp hx)
      have := List.findIdx?_eq_none_iff.mp hr e he
      rw [hx'] at this; cases this
    rw [List.filter_eq_self.mpr hnl] at q
    exact wpAny_pure (wpAny_pure ⟨_, rfl, OPost.ofV (r.put (h' := s.heap) (.inl (ne_of_some hl)) (fun _ _ _ e => e) (c := .S l) ⟨nd, k, hk, hS'⟩ (s.toks + 1)) vN q⟩)
  | some j =>
    obtain ⟨hj, hpj, _⟩ := List.findIdx?_eq_some_iff_getElem.mp hr
    have hj' : j < es.size := by rwa [Array.length_toList] at hj
    refine wpAny_bind (wpAny_setState_of (s := { s with toks := s.toks + 1 }) ho hd hf ?_)
    dsimp only
    refine wpAny_bind (wpAny_storeSet_of (s := { s with toks := s.toks + 1 }) ho hd ?_ (by rw [eraseAt_size es hj', sizeLine_eq]; have : es.size < 4096 := hb; (first | lia | omega)))
    refine wpAny_bind (wpAny_point (wpAny_pure (wpAny_pure ⟨_, rfl, ?_⟩)))
    have pd := putSet_of (SetTable.eraseAt es j) (tb.drop j) hd
    have pm' := perm_drop pm nd (j := j) (n := n) (by rw [List.getElem?_map, List.getElem?_eq_getElem hj]; exact congrArg some (intOf_is hpj))
    rw [show (es.toList.map fun e => intOf e.2).eraseIdx j = (SetTable.eraseAt es j).toList.map fun e => intOf e.2 by rw [eraseAt_toList, List.eraseIdx_eq_take_drop_succ, List.eraseIdx_eq_take_drop_succ, List.map_append, List.map_take, List.map_drop]] at pm'
    have hel' : ElemsOf (intKind X.prog X.w) (SetTable.eraseAt es j).toList := fun e he => hel e (by rw [eraseAt_toList] at he; exact List.mem_of_mem_eraseIdx he)
    refine OPost.ofV (r.put (h' := s.heap.update a (Obj.putSet (SetTable.eraseAt es j) (tb.drop j))) (.inl (ne_of_some hl)) (SameBut.but (Heap.SameBut.update ..)) (c := .S _)
      ⟨nd.filter _, (SetTable.eraseAt es j).size, ?_, _, SetTable.eraseAt es j, ep + 1, tb.drop j, Heap.get?_update_self _ ho (by rw [pd]; rfl), by rw [pd]; exact hex, by rw [pd], hel', fun x => ?_, ?_, ?_, rfl⟩ (s.toks + 1)) vN q
    · rw [pm'.length_eq, List.length_map, Array.length_toList]; exact Nat.le_refl _
    · rw [decide_eq_true_eq, intOf_iff hel']; exact pm'.mem_iff
    · rw [eraseAt_size es hj']; exact Nat.lt_of_le_of_lt (Nat.sub_le _ _) hb
    · rw [eraseAt_size es hj']; exact drop_fits hf hj'
end
section
variable {X : Ctx} {d : Nat} {F : FI}
theorem Good.mk_new {σ : St} {s : Shared} {h' : Heap} {a : Addr} {c : Cell} (g : Good X F σ s) (k : ∀ b o, s.heap.get? b = some o → h'.get? b = some o) (ha : s.heap.get? a = none) (hc : CRep X h' a c) (n : Nat) :
    Good X F ⟨σ.loc, σ.H.set a c⟩ { s with heap := h', toks := n } ∧ Evo F.foot s σ.H { s with heap := h', toks := n } (σ.H.set a c) :=
  have p := g.rep.put (.inr ha) (fun b o _ e => k b o e) hc n
  ⟨g.step p.2 p.1, p.2.off⟩
theorem OPost.new {s : Shared} {H : MH} {h' : Heap} {a : Addr} {c : Cell} {Q : MV → MH → Prop} (r : Rep X H s.heap) (k : ∀ b o, s.heap.get? b = some o → h'.get? b = some o) (ha : s.heap.get? a = none) (hc : CRep X h' a c) (n : Nat) (q : ∀ a, H a = none → Q (.ref a) (H.set a c)) :
    OPost X s H Q (.ref a) { s with heap := h', toks := n } := OPost.ofV (r.put (.inr ha) (fun b o _ e => k b o e) hc n) vR (q a (r.offNew ha))
inductive DK where | v | t
noncomputable def DK.nil : DK → DV
  | .v => .v []
  | .t => .t []
noncomputable def wDict0 (kd : DK) : WE := fun Q σ => ∀ a o, σ.H a = none → Q (.ref a) ⟨σ.loc, σ.H.set a (.D kd.nil o)⟩
theorem DRep.nil (kd : DK) {h : Heap} : DRep X (h.push { cls := .type "dict", data := .dict #[] }) h.objs.size kd.nil := by
  cases kd with
  | v => exact ⟨[], Heap.DictOf.new (knd := skKind X.prog X.w) h, rfl⟩
  | t => exact ⟨[], Heap.DictOfH.new h, rfl⟩
theorem SE.dict0 (kd : DK) {pos : Pos} : SE X d F (.Dict [] [] pos) (wDict0 kd) := by
  intro Q σ h A s r g
  have P := g.alloc { cls := .type "dict", data := .dict #[] } (c := .D kd.nil _) ⟨Heap.get?_push_size _ rfl, DRep.nil (X := X) kd⟩ s.toks
  exact wpAny_Dict_empty ⟨.ref s.heap.objs.size, _, vR, P.1, P.2, h _ _ g.rep.size_fresh⟩
noncomputable abbrev OB := MH → (MV → MH → Prop) → List MV → Prop
noncomputable def OOk (X : Ctx) (d : Nat) (f : Value) (B : OB) : Prop :=
  ∀ vs ws A s H Q, Room d A → Rep X H s.heap → VReps X s.heap vs ws → B H Q vs → wpAny (mdl X) A (call f ws) (OPost X s H Q) NoE s
noncomputable def wOB (B : OB) (P : WEs) : WE := fun Q σ => P (fun vs σ₁ => B σ₁.H (fun m H' => Q m ⟨σ₁.loc, H'⟩) vs) σ
theorem SE.callB (ok : X.Ok) {x : Str} {xp pos : Pos} {args : List Expr} {id : String} {B : OB} {P : WEs} (hg : GlobV X F x (.builtin id)) (ha : SEs X d F args P) (op : OOk X d (.builtin id) B) : SE X d F (.Call (.Name x xp) args [] pos) (wOB B P) :=
  fun Q σ h A s r g => Call_ (eval_glob ok hg g (Calls.callWith_builtin (ha.1 pos) (evalArgs_any (ha.1 pos) (ha.run (E := NoE) h r g fun vs σ₁ ws s₁ rv g₁ e₁ _ q =>
    wpAny_mono (op vs ws A s₁ σ₁.H _ r g₁.rep rv q) (fun _ _ o => (EPost.of_op g₁ o fun _ _ q => q).back e₁) fun _ _ x => x))))
theorem SE.callT (ok : X.Ok) {x : Str} {xp pos : Pos} {args : List Expr} {T : String} {B : OB} {P : WEs} (hg : GlobV X F x (.type T)) (ha : SEs X d F args P) (op : OOk X d (.type T) B) : SE X d F (.Call (.Name x xp) args [] pos) (wOB B P) :=
  fun Q σ h A s r g => Call_ (eval_glob ok hg g (PySem.callWith_type (ha.1 pos) (evalArgs_any (ha.1 pos) (ha.run (E := NoE) h r g fun vs σ₁ ws s₁ rv g₁ e₁ _ q =>
    wpAny_mono (op vs ws A s₁ σ₁.H _ r g₁.rep rv q) (fun _ _ o => (EPost.of_op g₁ o fun _ _ q => q).back e₁) fun _ _ x => x))))
inductive bLen (H : MH) (Q : MV → MH → Prop) : List MV → Prop
  | list {a : Addr} {l : List MV} (hl : H a = some (.L l)) (hz : l.length < 2 ^ 62) (q : Q (.int l.length) H) : bLen H Q [.ref a]
  | tup {l : List MV} (hz : l.length < 2 ^ 62) (q : Q (.int l.length) H) : bLen H Q [.tup l]
theorem okLen : OOk X d (.builtin "len") bLen := by
  intro vs ws A s H Q room r rv q
  cases q with
  | list hl hz q =>
    obtain ⟨w, rfl, rw'⟩ := rv.inv1
    cases iR rw'
    obtain ⟨ps, h1, h2⟩ := r.list hl
    have len : _ = ps.size := h2.length
    exact Calls.call_len_list h1.isList (by (first | lia | omega)) ⟨_, H, by rw [← len]; exact vI, r, .tk .., q⟩
  | tup hz q =>
    obtain ⟨w, rfl, rw'⟩ := rv.inv1
    obtain ⟨a, ps, rfl, ht, hr⟩ := iT rw'
    have len : _ = ps.size := hr.length
    exact len_tuple ht (by (first | lia | omega)) ⟨_, H, by rw [← len]; exact vI, r, .tk .., q⟩
inductive bTuple (H : MH) (Q : MV → MH → Prop) : List MV → Prop
  | mk {a : Addr} {l : List MV} (hl : H a = some (.L l)) (hz : l.length ≤ 100000) (q : Q (.tup l) H) : bTuple H Q [.ref a]
theorem okTuple : OOk X d (.type "tuple") bTuple := by
  rintro vs ws A s H Q room r rv ⟨hl, hz, q⟩
  obtain ⟨w, rfl, rw'⟩ := rv.inv1
  cases iR rw'
  obtain ⟨ps, h1, h2⟩ := r.list hl
  have len : _ = ps.size := h2.length
  refine call_tuple_list h1.isList (fun h' hk => ?_) (by rw [sizeLine_eq]; (first | lia | omega))
  have k : ∀ b o, s.heap.get? b = some o → (h'.push { cls := .type "tuple", data := .seq ps }).get? b = some o := fun b o e => Heap.get?_push_of_some _ (hk b o e)
  refine ⟨.tup _, H, ?_, r.ext k, Evo.ext k s.toks, q⟩
  simp only [VRep]
  exact ⟨_, ps, rfl, ⟨_, Heap.get?_push_size _ rfl, rfl, _, rfl⟩, VReps.keep (fun b o e _ => k b o e) h2⟩
inductive bList (H : MH) (Q : MV → MH → Prop) : List MV → Prop
  | mk {l : List MV} (hz : l.length ≤ 100000) (q : ∀ a, H a = none → Q (.ref a) (H.set a (.L l))) : bList H Q [.tup l]
theorem okList : OOk X d (.type "list") bList := by
  rintro vs ws A s H Q room r rv ⟨hz, q⟩
  obtain ⟨w, rfl, rw'⟩ := rv.inv1
  obtain ⟨a, ps, rfl, ⟨o, ho, hc, n, hd⟩, hr⟩ := iT rw'
  have len : _ = ps.size := hr.length
  refine call_list_seq a (.inr rfl) ho hc hd (fun h' c' hk hat => ?_) (by rw [sizeLine_eq]; (first | lia | omega))
  exact OPost.new r hk (get?_size _) (c := .L _) ⟨ps, ⟨c', hat⟩, VReps.keep (fun b o e _ => hk b o e) hr⟩ s.toks q
inductive bSet (H : MH) (Q : MV → MH → Prop) : List MV → Prop
  | mk (q : ∀ a, H a = none → Q (.ref a) (H.set a (.S []))) : bSet H Q []
theorem okSet : OOk X d (.type "set") bSet := by
  rintro vs ws A s H Q room r rv ⟨q⟩
  rw [rv.inv0]
  refine call_set_0 fun led => ?_
  exact OPost.new r (fun b o e => Heap.get?_push_of_some _ e) (get?_size _) (c := .S []) ⟨List.nodup_nil, 0, Nat.zero_le _, ⟨_, #[], 0, _, Heap.get?_push_size _ rfl, ⟨rfl, rfl, rfl⟩, rfl, (fun e he => nomatch he), (fun k => ⟨fun z => (nomatch (of_decide_eq_true z)), fun ⟨_, z, _⟩ => (nomatch z)⟩), by decide, rfl, rfl⟩⟩ s.toks q
inductive IsTupR : MV → Bool → Prop
  | tup {l : List MV} : IsTupR (.tup l) true
  | int {n : Int} : IsTupR (.int n) false
noncomputable def wIsTup (P : WE) : WE := fun Q σ => P (fun m σ₁ => ∃ b, IsTupR m b ∧ Q (.bool b) σ₁) σ
theorem SE.isTup (ok : X.Ok) {x t : Str} {xp tp pos : Pos} {e : Expr} {P : WE} (hg : GlobV X F x (.builtin "isinstance")) (ht : GlobV X F t (.type "tuple")) (he : SE X d F e P)
    (hst : starEach [e, .Name t tp] F.env = [(false, eval e F.env), (false, eval (.Name t tp) F.env)] := by rfl) : SE X d F (.Call (.Name x xp) [e, .Name t tp] [] pos) (wIsTup P) := by
  intro Q σ h A s r g
  have hpl : (backTo pos (starEach [e, .Name t tp] F.env)).any (·.1) = false := by rw [hst]; rfl
  refine Call_ (eval_glob ok hg g (Calls.callWith_builtin hpl (evalArgs_any hpl ?_)))
  refine args_cons (rest := [.Name t tp]) (he.run h r g fun m σ₁ v s₁ rv g₁ e₁ ⟨b, hb, q⟩ => ?_) hst
  refine args_cons (rest := []) (eval_glob ok ht g₁ (args_nil ?_)) (by rfl)
  have ty : typeOf (.type "tuple") = pure (.type "type") := by first | rfl | kernel_rfl
  cases hb with
  | int =>
    obtain ⟨tk, rfl⟩ := iI rv
    exact call_isinstance (isinstance_false_int (T := "tuple") (by decide) ty (by rw [isSubtype_type]; kernel_rfl)) ⟨.bool false, σ₁, vB, g₁.tk _, e₁.trans (.tk ..), q⟩
  | tup =>
    obtain ⟨a, vs, rfl, ⟨o, ho, hc, _⟩, hr⟩ := iT rv
    exact call_isinstance_yes (Tx := "tuple") ⟨o, ho, hc⟩ ty (by rw [isSubtype_type]; kernel_rfl) ⟨.bool true, σ₁, vB, g₁, e₁, q⟩
inductive RngR : MV → FSrc → Prop
  | mk {n : Int} (h0 : 0 ≤ n) (h1 : n < 2 ^ 62) : RngR (.int n) (.rng 0 n.toNat)
noncomputable def wRng (P : WE) : (FSrc → St → Prop) → St → Prop := fun Q σ => P (fun m σ₁ => ∃ src, RngR m src ∧ Q src σ₁) σ
theorem SI.range1 (ok : X.Ok) {x : Str} {xp pos : Pos} {e : Expr} {P : WE} (hg : GlobV X F x (.type "range")) (he : SE X d F e P) (hst : starEach [e] F.env = [(false, eval e F.env)] := by rfl) :
    SI X d F (.Call (.Name x xp) [e] [] pos) (wRng P) := by
  intro Q σ h A s r g
  have hpl : (backTo pos (starEach [e] F.env)).any (·.1) = false := by rw [hst]; rfl
  refine Call_ (eval_glob ok hg g (PySem.callWith_type hpl (evalArgs_any hpl ?_)))
  refine args_cons (rest := []) (he.run h r g fun m σ₁ v s₁ rv g₁ e₁ ⟨src, hs, q⟩ => args_nil ?_) hst
  cases hs with | @mk n h0 h1 => ?_
  obtain ⟨t, rfl⟩ := iI rv
  refine call_range_1 ?_
  refine wpAny_pyIter_range (s := { s₁ with heap := _, toks := _ }) (IsRange.new ..) (small_one (by (first | lia | omega)) (by (first | lia | omega)) (by (first | lia | omega)) (by (first | lia | omega))) ?_
  have G1 : Good X F σ₁ { s₁ with heap := s₁.heap.push { cls := .type "range", data := .fields #[.int 0 s₁.toks, .int n t, .int 1 (s₁.toks + 1)] }, toks := s₁.toks + 1 + 1 } := g₁.step (.push _ _) (g₁.rep.push _)
  refine IPost.back (e₁.trans (.push _ _)) ⟨_, .rng 0 n.toNat, σ₁, rfl, ?_, get?_size _, G1.step (.push _ _) (G1.rep.push _), .push _ _, q⟩
  show IsRangeIter _ _ _ _ _
  rw [rangeSize_one, show (0 : Int) + ((0 : Nat) : Int) = 0 from rfl, show ((n.toNat : Nat) : Int) - ((0 : Nat) : Int) = if 0 < n then n - 0 else 0 by split <;> (first | lia | omega)]
  exact Heap.get?_push_size _ rfl
noncomputable def rangeM (a b : Int) : List MV := (List.range (b - a).toNat).map fun (i : Nat) => MV.int (a + (i : Int))
inductive ListRangeR : List MV → Int → Int → Prop
  | mk {a b : Int} (h0 : 0 ≤ a) (h1 : a ≤ 100000) (h2 : -100000 ≤ b) (h3 : b ≤ 100000) : ListRangeR [.int a, .int b] a b
noncomputable def wListRange (P : WEs) : WE := fun Q σ => P (fun vs σ₁ => ∃ a b, ListRangeR vs a b ∧ ∀ ad, σ₁.H ad = none → Q (.ref ad) ⟨σ₁.loc, σ₁.H.set ad (.L (rangeM a b))⟩) σ
theorem vreps_of {h : Heap} : ∀ {l : List MV} {a : List Value}, l.length = a.length → (∀ (i : Nat) (m : MV) (v : Value), l[i]? = some m → a[i]? = some v → VRep X h m v) → VReps X h l a := by
  intro l
  induction l with
  | nil => intro a hl _; rw [List.length_eq_zero_iff.mp hl.symm]; exact .nil
  | cons m ms ih =>
    intro a hl hk
    cases a with
    | nil => cases hl
    | cons v vs => exact VReps.cons (hk 0 m v rfl rfl) (ih (Nat.succ.inj hl) fun i m v a b => hk (i + 1) m v a b)
theorem ItemsOf.vreps {h : Heap} {P : Nat → Value → Prop} {acc : Array Value} {n : Nat} {l : List MV} (e : ItemsOf P acc n) (hl : l.length = n) (k : ∀ (i : Nat) (m : MV) (v : Value), l[i]? = some m → P i v → VRep X h m v) : VReps X h l acc.toList := by
  obtain ⟨e1, e2⟩ := e
  exact vreps_of (hl.trans e1.symm) fun i m v a b => k i m v a (e2 i v (by rw [← Array.getElem?_toList]; exact b))
theorem rangeM_get {a b : Int} {i : Nat} {m : MV} (h : (rangeM a b)[i]? = some m) : m = .int (a + (i : Int)) := by
  unfold rangeM at h
  rw [List.getElem?_map] at h
  obtain ⟨j, hj, rfl⟩ := Option.map_eq_some_iff.mp h
  obtain ⟨h1, h2⟩ := List.getElem?_eq_some_iff.mp hj
  rw [List.getElem_range] at h2; rw [h2]
theorem SE.listRange (ok : X.Ok) {x y : Str} {xp yp pos rpos : Pos} {args : List Expr} {P : WEs} (hg : GlobV X F x (.type "list")) (hr : GlobV X F y (.type "range")) (ha : SEs X d F args P)
    (hst : starEach [Expr.Call (.Name y yp) args [] rpos] F.env = [(false, eval (.Call (.Name y yp) args [] rpos) F.env)] := by rfl) :
    SE X d F (.Call (.Name x xp) [.Call (.Name y yp) args [] rpos] [] pos) (wListRange P) := by
  intro Q σ h A s r g
  have hpl : (backTo pos (starEach [Expr.Call (.Name y yp) args [] rpos] F.env)).any (·.1) = false := by rw [hst]; rfl
  refine Call_ (eval_glob ok hg g (PySem.callWith_type hpl (evalArgs_any hpl ?_)))
  refine args_cons (rest := []) ?_ hst
  refine Call_ (eval_glob ok hr g (PySem.callWith_type (ha.1 rpos) (evalArgs_any (ha.1 rpos) (ha.run (E := NoE) h r g fun vs σ₁ ws s₁ rv g₁ e₁ _ ⟨a, b, hab, q⟩ => ?_))))
  obtain ⟨ha0, ha1, hb0, hb1⟩ := hab
  obtain ⟨wa, wb, rfl, ra, rb⟩ := rv.inv2
  obtain ⟨t, rfl⟩ := iI ra
  obtain ⟨u, rfl⟩ := iI rb
  refine call_range_2 (args_nil ?_)
  have hn : Builtin.Range.rangeSize a b 1 = (((b - a).toNat : Nat) : Int) := by rw [rangeSize_one]; split <;> (first | lia | omega)
  refine call_list_range (s := { s₁ with heap := _, toks := _ }) (n := (b - a).toNat) r.handled (IsRange.new ..) (small_one (by (first | lia | omega)) (by (first | lia | omega)) (by (first | lia | omega)) (by (first | lia | omega))) hn (by (first | lia | omega)) fun h' tk acc' c' hk hat hacc => ?_
  have G1 : Good X F σ₁ { s₁ with heap := s₁.heap.push { cls := .type "range", data := .fields #[.int a t, .int b u, .int 1 s₁.toks] }, toks := s₁.toks + 1 } := g₁.step (.push _ _) (g₁.rep.push _)
  have P := G1.mk_new hk (get?_size _) (c := .L (rangeM a b)) ⟨_, ⟨c', hat⟩, ItemsOf.vreps hacc (by rw [rangeM, List.length_map, List.length_range]) fun i m v hm hv => (by
    obtain ⟨tk', rfl⟩ := hv
    rw [rangeM_get hm, Int.mul_one]; exact vI)⟩ tk
  exact ⟨.ref _, _, vR, P.1, (e₁.trans (.push _ _)).trans P.2, q _ G1.rep.size_fresh⟩
theorem ints_are {h : Heap} : ∀ {ns : List Int} {vs : List Value}, VReps X h (ns.map .int) vs → IntsAre vs ns
  | [], vs, r => by rw [r.inv0]; exact .nil
  | n :: ns, vs, r => by obtain ⟨v, rs, rfl, a, b⟩ := r.inv; obtain ⟨t, rfl⟩ := iI a; exact .cons _ _ (ints_are b)
theorem intsAre_vreps {h : Heap} {ns : List Int} {vs : List Value} (e : IntsAre vs ns) : VReps X h (ns.map .int) vs := by
  induction e with
  | nil => exact VReps.nil
  | cons n t _ ih => exact VReps.cons vI ih
inductive bSorted (H : MH) (Q : MV → MH → Prop) : List MV → Prop
  | list {a : Addr} {ns : List Int} (hl : H a = some (.L (ns.map .int))) (hz : ns.length < 64) (q : ∀ ns' : List Int, ns'.Perm ns → ns'.Pairwise (· ≤ ·) → ∀ ad, H ad = none → Q (.ref ad) (H.set ad (.L (ns'.map .int)))) : bSorted H Q [.ref a]
  | dict {a : Addr} {l : List (SK × MV)} {o : Obj} {ns : List Int} (hl : H a = some (.D (.v l) o)) (hk : l.map (·.1) = ns.map .i) (hz : ns.length < 64) (q : ∀ ns' : List Int, ns'.Perm ns → ns'.Pairwise (· ≤ ·) → ∀ ad, H ad = none → Q (.ref ad) (H.set ad (.L (ns'.map .int)))) : bSorted H Q [.ref a]
theorem sort_op {H : MH} {s : Shared} {A : Around} {Q : MV → MH → Prop} {r : Addr} {ns : List Int} (rp : Rep X H s.heap) (h64 : ns.length < 64) (h : ∀ ns' : List Int, ns'.Perm ns → ns'.Pairwise (· ≤ ·) → ∀ ad, H ad = none → Q (.ref ad) (H.set ad (.L (ns'.map .int))))
    (hc : ∀ (R : List Value → Shared → Prop), (∀ vs h' tk, IntsAre vs ns → (∀ b o, s.heap.get? b = some o → h'.get? b = some o) → R vs { s with heap := h', toks := tk }) → wpAny (mdl X) A.in1 (collect (.ref r)) R NoE s) :
    wpAny (mdl X) A (call (.builtin "sorted") [.ref r]) (OPost X s H Q) NoE s := by
  refine Calls.call_function_entry kind_sorted plain_sorted entry_sorted (args_sorted1 _) ?_
  unfold Builtin.«sorted»
  refine wpAny_bind (m := checkCount "sorted" 1 1 _) (wpAny_pure ?_)
  refine wpAny_bind (hc _ fun vs h' tk hI hk => ?_)
  have h64 : vs.length < 64 := by rw [IntsAre.length hI]; exact h64
  refine wpAny_bind (wpAny_newList ?_ (by rw [sizeLine_eq]; (first | lia | omega)))
  have hoL : (h'.push (seqObj "list" vs.toArray 0)).get? h'.objs.size = some (seqObj "list" vs.toArray 0) := Heap.get?_push_size _ rfl
  refine wpAny_bind (wpAny_holding (wpAny_call_entry slot_list_sort ⟨_, hoL, rfl⟩ entry_list_sort (list_sort_tree hoL hI h64 fun out ns' a1 a2 a3 => ⟨_, rfl, ?_⟩) (args_list_sort _)))
  have k2 : ∀ b o, s.heap.get? b = some o → (sortedHeap (h'.push (seqObj "list" vs.toArray 0)) h'.objs.size vs out).get? b = some o := by
    intro b o e
    have e1 := hk b o e
    have l1 := Heap.lt_size e1
    rw [sortedHeap_old (Nat.ne_of_lt l1) (by rw [size_push']; exact Nat.lt_succ_of_lt l1), Heap.get?_push_ne _ _ _ (Nat.ne_of_lt l1)]
    exact e1
  obtain ⟨e, he⟩ := sortedHeap_at (out := out) hoL
  have hnew : s.heap.get? h'.objs.size = none := by
    cases z : s.heap.get? h'.objs.size with
    | none => rfl
    | some o => exact absurd (Heap.lt_size (hk _ _ z)) (Nat.lt_irrefl _)
  exact wpAny_pure ⟨_, rfl, OPost.new rp k2 hnew (c := .L _) ⟨_, ⟨e, he⟩, intsAre_vreps a1⟩ tk (h ns' a2 a3)⟩
theorem intsAre_of : ∀ {ks : List Int} {vs : List Value}, ks.length = vs.length → (∀ (i : Nat) (k : Int) (v : Value), ks[i]? = some k → vs[i]? = some v → ∃ t, v = .int k t) → IntsAre vs ks := by
  intro ks
  induction ks with
  | nil => intro vs hl _; rw [List.length_eq_zero_iff.mp hl.symm]; exact .nil
  | cons k ks ih =>
    intro vs hl hk
    cases vs with
    | nil => cases hl
    | cons v vs =>
      obtain ⟨t, rfl⟩ := hk 0 k v rfl rfl
      exact .cons _ _ (ih (Nat.succ.inj hl) fun i k v a b => hk (i + 1) k v a b)
theorem okSorted (ok : X.Ok) : OOk X d (.builtin "sorted") bSorted := by
  intro vs ws A s H Q room r rv q
  cases q with
  | @list a ns hl hz q =>
    obtain ⟨w, rfl, rw'⟩ := rv.inv1
    cases iR rw'
    obtain ⟨ps, h1, h2⟩ := r.list hl
    have len : _ = ps.size := h2.length
    rw [List.length_map] at len
    refine sort_op r hz q fun R hR => ?_
    refine collect_list (vs := ps.toList) h1.isList (hR _ _ s.toks (ints_are h2) fun b o e => ?_) (by rw [sizeLine_eq, Array.length_toList]; (first | lia | omega))
    exact (Heap.get?_update_other _ _ (Ne.symm (Nat.ne_of_lt (Heap.lt_size e)))).trans (Heap.get?_push_of_some _ e)
  | @dict a l oo ns hD hk hz q =>
    obtain ⟨w, rfl, rw'⟩ := rv.inv1
    cases iR rw'
    obtain ⟨_, kvs, hd, hr⟩ := r.cell _ _ hD
    obtain ⟨ep, hda⟩ := hd.dictAt
    have keys := hr.keys.trans hk
    have len : kvs.length = ns.length := by have := congrArg List.length keys; rwa [List.length_map, List.length_map] at this
    have nm := r.notMods ok (ne_of_some hD)
    refine sort_op r hz q fun R hR => ?_
    refine kdu_collect (kdl_dict (knd := skKind X.prog X.w) (kvs := kvs) (ep := ep) nm) room.handled hda (by rw [sizeLine_eq]; (first | lia | omega)) fun h' tk acc hk hacc => hR _ _ _ ?_ hk
    refine intsAre_of (len.symm.trans hacc.1.symm) fun i k v a b => ?_
    obtain ⟨k', x, e1, e2⟩ := hacc.2 i v (by rw [← Array.getElem?_toList]; exact b)
    have e3 : (kvs.map (·.1))[i]? = (ns.map SK.i)[i]? := by rw [keys]
    rw [List.getElem?_map, List.getElem?_map, e1, a] at e3
    cases e3
    exact SK.shapeI e2
inductive SliceR (H : MH) : MV → MV → Addr → List MV → Nat → Prop
  | mk {a : Addr} {l : List MV} {k : Int} (hl : H a = some (.L l)) (h0 : 0 ≤ k) (hz : l.length ≤ 2 ^ 24) : SliceR H (.ref a) (.int k) a l k.toNat
inductive BSlice (X : Ctx) : MV → MV → List Int → Nat → Prop
  | mk {a : Addr} {ps : Array Value} {l : List Int} {k : Int} (hl : X.base.IsList a ps) (hv : IntsAre ps.toList l) (h0 : 0 ≤ k) (hz : l.length ≤ 2 ^ 24) : BSlice X (.ref a) (.int k) l k.toNat
noncomputable def wSliceTo (X : Ctx) (P R : WE) : WE := fun Q σ => P (fun m σ₁ => R (fun u σ₂ => ∃ l k, BSlice X m u l k ∧ ∀ ad, σ₂.H ad = none → Q (.ref ad) ⟨σ₂.loc, σ₂.H.set ad (.L ((l.map .int).take k))⟩) σ₁) σ
noncomputable def wSliceFromL (P R : WE) : WE := fun Q σ => P (fun m σ₁ => R (fun u σ₂ => ∃ a l k, SliceR σ₂.H m u a l k ∧ ∀ ad, σ₂.H ad = none → Q (.ref ad) ⟨σ₂.loc, σ₂.H.set ad (.L (l.drop k))⟩) σ₁) σ
inductive SliceTR : MV → MV → List MV → Prop
  | mk {l : List MV} {k : Int} (h0 : 1 ≤ k) (h1 : k ≤ l.length) (hz : l.length ≤ 2 ^ 24) : SliceTR (.tup l) (.int k) (l.drop k.toNat)
noncomputable def wSliceFromT (P R : WE) : WE := fun Q σ => P (fun m σ₁ => R (fun u σ₂ => ∃ l, SliceTR m u l ∧ Q (.tup l) σ₂) σ₁) σ
theorem slice_done {σ : St} {s : Shared} {l' : List MV} {items : Array Value} {vl vu : Value} {Q : MV → St → Prop} (g : Good X F σ s) (hv : VReps X s.heap l' items.toList) (q : ∀ ad, σ.H ad = none → Q (.ref ad) ⟨σ.loc, σ.H.set ad (.L l')⟩) :
    EPost X F s σ.H Q (.ref (s.heap.objs.size + 1)) { s with heap := (s.heap.push { cls := .type "slice", data := .fields #[vl, vu, .none] }).push { cls := .type "list", data := .seq items } } := by
  have G1 : Good X F σ { s with heap := s.heap.push { cls := .type "slice", data := .fields #[vl, vu, .none] } } := g.step (.push _ s.toks) (g.rep.push _)
  have P := G1.alloc { cls := .type "list", data := .seq items } (c := .L l') ⟨_, ⟨_, Heap.get?_push_size _ rfl⟩, VReps.keep (fun b o e _ => Heap.get?_push_of_some _ (Heap.get?_push_of_some _ e)) hv⟩ s.toks
  rw [← size_push' s.heap { cls := .type "slice", data := .fields #[vl, vu, .none] }]
  exact ⟨.ref _, _, vR, P.1, (Evo.push _ s.toks).trans P.2, q _ G1.rep.size_fresh⟩
theorem SE.sliceTo {value e : Expr} {p pos : Pos} {P R : WE} (hv : SE X d F value P) (he : SE X d F e R) (ht : ∀ o r, letTemporaryGo value o r = pure () := by intro _ _; rfl) :
    SE X d F (.Subscript value (.Slice Option.none (some e) Option.none p) pos) (wSliceTo X P R) := by
  intro Q σ h A s r g
  refine wpAny_Subscript_list_slice (hv.run h r g fun m σ₁ vo s₁ rv g₁ e₁ q => ?_) ht
  rw [evalPart_none]
  refine wpAny_pure ?_
  rw [evalPart_some]
  refine he.run q r g₁ fun u σ₂ vu s₂ ru g₂ e₂ ⟨l, k, hs, q⟩ => ?_
  obtain @⟨a, ps, _, k, ⟨ob, ho, hc, hd⟩, hv, h0, hz⟩ := hs
  obtain ⟨t, rfl⟩ := iI ru
  cases iR rv
  have h2 : VReps X s₂.heap (l.map .int) ps.toList := intsAre_vreps hv
  have len : _ = ps.size := h2.length
  rw [List.length_map] at len
  obtain ⟨j, rfl⟩ := Int.eq_ofNat_of_zero_le h0
  refine ⟨a, ps, Option.none, some (j : Int), rfl, ⟨ob, g₂.rep.keep _ _ ho, hc, hd⟩, by rw [sizeLine_eq]; (first | lia | omega), .none, .int _ _, ?_⟩
  rw [slicePick_upto']
  exact (slice_done g₂ (by simpa using VReps.take h2) q).back (e₁.trans e₂)
theorem SE.sliceFromL {value e : Expr} {p pos : Pos} {P R : WE} (hv : SE X d F value P) (he : SE X d F e R) (ht : ∀ o r, letTemporaryGo value o r = pure () := by intro _ _; rfl) :
    SE X d F (.Subscript value (.Slice (some e) Option.none Option.none p) pos) (wSliceFromL P R) := by
  intro Q σ h A s r g
  refine wpAny_Subscript_list_slice (hv.run h r g fun m σ₁ vo s₁ rv g₁ e₁ q => ?_) ht
  rw [evalPart_some]
  refine he.run q r g₁ fun u σ₂ vu s₂ ru g₂ e₂ ⟨a, l, k, hs, q⟩ => ?_
  rw [evalPart_none]
  refine wpAny_pure ?_
  obtain ⟨hl, h0, hz⟩ := hs
  obtain ⟨t, rfl⟩ := iI ru
  cases iR rv
  obtain ⟨ps, h1, h2⟩ := g₂.rep.list hl
  have len : l.length = ps.size := h2.length
  rename_i k
  obtain ⟨j, rfl⟩ := Int.eq_ofNat_of_zero_le h0
  refine ⟨a, ps, some (j : Int), Option.none, rfl, h1.isList, by rw [sizeLine_eq]; (first | lia | omega), .int _ _, .none, ?_⟩
  rw [slicePick_from']
  exact (slice_done g₂ (by simpa using VReps.drop h2) q).back (e₁.trans e₂)
theorem SE.sliceFromT {value e : Expr} {p pos : Pos} {P R : WE} (hv : SE X d F value P) (he : SE X d F e R) (ht : ∀ o r, letTemporaryGo value o r = pure () := by intro _ _; rfl) :
    SE X d F (.Subscript value (.Slice (some e) Option.none Option.none p) pos) (wSliceFromT P R) := by
  intro Q σ h A s r g
  refine wpAny_Subscript_Slice (T := "tuple") slot_tuple_getitem.lookup (hv.run h r g fun m σ₁ vo s₁ rv g₁ e₁ q => ?_) ht
  refine wpAny_Slice ?_
  rw [evalPart_some]
  refine he.run q r g₁ fun u σ₂ vu s₂ ru g₂ e₂ ⟨l', hs, q⟩ => ?_
  rw [evalPart_none]
  refine wpAny_pure ?_
  refine wpAny_pure ?_
  cases hs with | @mk l k h0 hz hz2 => ?_
  obtain ⟨t, rfl⟩ := iI ru
  obtain ⟨a, vs, rfl, ht, hr⟩ := iT (g₁.vrep e₂ rv)
  have len : l.length = vs.size := hr.length
  obtain ⟨j, rfl⟩ := Int.eq_ofNat_of_zero_le (show 0 ≤ k by (first | lia | omega))
  have ht' : IsTup (s₂.heap.push { cls := .type "slice", data := .fields #[.int (j : Int) t, .none, .none] }) a vs := ht.keeps fun _ _ e => Heap.get?_push_of_some _ e
  refine ⟨ht'.typeIs, getItem_tuple_from (s := { s₂ with heap := _ }) ht' (Heap.IsSliceOf.new ..) (by (first | lia | omega)) (by (first | lia | omega)) ?_ (by rw [sizeLine_eq]; (first | lia | omega))⟩
  have G1 : Good X F σ₂ { s₂ with heap := s₂.heap.push { cls := .type "slice", data := .fields #[.int (j : Int) t, .none, .none] } } := g₂.step (.push _ s₂.toks) (g₂.rep.push _)
  refine ⟨.tup (l.drop j), σ₂, ?_, G1.step (.push _ s₂.toks) (G1.rep.push _), ((e₁.trans e₂).trans (Evo.push _ s₂.toks)).trans (.push _ s₂.toks), q⟩
  simp only [VRep]
  exact ⟨_, _, rfl, ⟨_, Heap.get?_push_size _ rfl, rfl, _, rfl⟩, by simpa using VReps.drop (VReps.keep (fun b o e _ => Heap.get?_push_of_some _ (Heap.get?_push_of_some _ e)) hr)⟩
end
section
variable {X : Ctx} {d : Nat} {F : FI}
section
variable {prog : Program} {w : World} {A : Around} {R : Result → Shared → Prop} {I : Addr} {fp wr : List Addr} {n : Nat} {P : Nat → Value → Prop} {St : Nat → Heap → Prop}
theorem ext_loop (W : Walks prog w A.in1 I fp wr n P St) (S : Addr) (hSf : S ∉ fp) (res : Value) (pre : Array Value) (hz : pre.size + n ≤ sizeLine) :
    ∀ (k i : Nat) (s : Shared) (acc : Array Value) (c : Nat), n - i = k → i ≤ n → St i s.heap → s.heap.get? S = some { cls := .type "list", dict := none, data := .seq (pre ++ acc) c, slots := #[] } → ItemsOf P acc i →
    (∀ h' tk acc' c', (∀ b o, b ∉ S :: wr → s.heap.get? b = some o → h'.get? b = some o) → h'.get? S = some { cls := .type "list", dict := none, data := .seq (pre ++ acc') c', slots := #[] } → ItemsOf P acc' n → R (.ok (.ret res)) { s with heap := h', toks := tk }) →
    codeAny (model prog w) A (.builtin "list.extend.loop" ⟨[.ref S, .ref I, res], []⟩) R s := by
  have hSw : S ∉ wr := fun h => hSf (W.sub _ h)
  intro k
  induction k with
  | zero =>
    intro i s acc c hk hi hst hS hacc hR
    have hin : i = n := by (first | lia | omega)
    subst hin
    refine codeAny_builtin PySem.F.entry_extend_loop ?_
    rw [Around.under_plainId PySem.F.plain_extend_loop _]
    show wpAny _ A.in1 (pyNext (.ref I) >>= _) _ _ s
    refine wpAny_bind (W.done s _ _ hst fun h' tk hm => ?_)
    exact wpAny_pure (hR h' tk acc c (fun b o hb e => hm b o (fun q => hb (List.mem_cons_of_mem _ q)) e) (hm S _ hSw hS) hacc)
  | succ k ih =>
    intro i s acc c hk hi hst hS hacc hR
    have hlt : i < n := by (first | lia | omega)
    refine codeAny_builtin PySem.F.entry_extend_loop ?_
    rw [Around.under_plainId PySem.F.plain_extend_loop _]
    show wpAny _ A.in1 (pyNext (.ref I) >>= _) _ _ s
    refine wpAny_bind (W.item i s _ _ hlt hst fun v h' tk hP hst' hm => ?_)
    have hS' := hm S _ hSw hS
    show wpAny _ A.in1 (updateSeq S (·.push v) >>= _) _ _ { s with heap := h', toks := tk }
    refine wpAny_bind ?_
    have hsz := hacc.1
    obtain ⟨c2, up⟩ : ∃ c2, (h'.update S (Obj.mapSeq (·.push v))).get? S = some { cls := .type "list", dict := none, data := .seq (pre ++ acc.push v) c2, slots := #[] } :=
      ⟨_, by have e := get?_update_seq (c := "list") hS' (·.push v); rw [Array.append_push]; exact e⟩
    refine wpAny_updateSeq (s := { s with heap := h', toks := tk }) hS' rfl (wpAny_pure ⟨plainId_quiet PySem.F.plain_extend_loop _, ih (i + 1) _ (acc.push v) c2 (by (first | lia | omega)) hlt (W.frame _ _ _ hst' fun b hb o e => ?_) up (hacc.push hP) fun h'' tk' acc' c' hm'' hS'' hacc' => ?_⟩)
      (by simp only [Array.size_append]; (first | lia | omega)) (by simp only [Array.size_append, Array.size_push]; (first | lia | omega))
    · exact (Heap.get?_update_other _ _ (fun h : S = b => hSf (by rw [h]; exact hb))).trans e
    · refine hR h'' tk' acc' c' (fun b o hb e => hm'' b o hb ?_) hS'' hacc'
      exact (Heap.get?_update_other _ _ (fun h : S = b => hb (by rw [h]; exact List.mem_cons_self))).trans (hm b o (fun q => hb (List.mem_cons_of_mem _ q)) e)
end
theorem lri_no_len : typeLookup (.type "list_reverseiterator") "__len__" = pure none := by rw [typeLookup_type, builtinLookup_eq_fast]; kernel_rfl
theorem lri_hint : typeLookup (.type "list_reverseiterator") "__length_hint__" = pure (some (.builtin "list_reverseiterator.__length_hint__")) := by rw [typeLookup_type, builtinLookup_eq_fast]; kernel_rfl
theorem hint_lri {prog : Program} {w : World} {A : Around} {E : Value → Shared → Prop} {s : Shared} {r : Addr} {Q : Bool → Shared → Prop} (hT : s.TypeIs (.ref r) "list_reverseiterator") (h : Q false s) : wpAny (model prog w) A (Builtin.List.listLengthHint (.ref r)) Q E s := by
  unfold Builtin.List.listLengthHint
  refine wpAny_bind (wpAny_specialOf hT lri_no_len ?_)
  show wpAny _ A (specialOf (Value.ref r) (Str.ofString "__length_hint__") >>= _) _ _ _
  refine wpAny_bind (wpAny_specialOf hT lri_hint ?_)
  generalize hid : ("list_reverseiterator.__length_hint__" : String) = id0
  wp_delta
  rw [show splitId id0 = some ("list_reverseiterator", "__length_hint__") from by subst hid; decide +kernel]
  subst hid
  refine wpAny_bind (wpAny_isInstance (T := "list_reverseiterator") (b := true) hT (by rw [isSubtype_type]; kernel_rfl) ?_)
  refine wpAny_ite_split (fun hab => absurd hab (by decide)) (fun _ => ?_)
  refine wpAny_ite_split (fun _ => ?_) (fun hab => absurd (by decide +kernel) hab)
  refine wpAny_ite_split (fun hab => absurd hab (by decide +kernel)) (fun _ => ?_)
  exact wpAny_pure h
theorem call_list_lri {prog : Program} {w : World} {A : Around} {E : Value → Shared → Prop} {s : Shared} {r l : Addr} {items : Array Value} {Q : Value → Shared → Prop} (hh : A.handled = none) (hr : s.heap.IsRevIter r l ((items.size : Int) - 1)) (hl : s.heap.IsList l items) (hn : items.size ≤ sizeLine)
    (hQ : ∀ h' tk acc' c', (∀ b o, b ≠ r → s.heap.get? b = some o → h'.get? b = some o) → h'.get? s.heap.objs.size = some { cls := .type "list", dict := none, data := .seq acc' c', slots := #[] } → ItemsOf (fun i v => items[items.size - 1 - i]? = some v) acc' items.size → Q (.ref s.heap.objs.size) { s with heap := h', toks := tk }) :
    wpAny (model prog w) A (call (.type "list") [.ref r]) Q E s := by
  obtain ⟨ro, hro, hrc, hrd⟩ := id hr
  obtain ⟨lo, hlo, hlc, ln, hld⟩ := id hl
  have hrS : r ≠ s.heap.objs.size := Nat.ne_of_lt (Heap.lt_size hro)
  have hlS : l ≠ s.heap.objs.size := Nat.ne_of_lt (Heap.lt_size hlo)
  have hlr : l ≠ r := by rintro rfl; rw [hlo] at hro; cases hro; rw [hld] at hrd; cases hrd
  refine callType_codes (Q₁ := fun obj s₁ => obj = .ref s.heap.objs.size ∧ s₁ = { s with heap := s.heap.push { cls := .type "list", data := .seq #[] } }) PySem.F.called_list (PySem.F.typeCall_list_1 _) PySem.F.entry_list_init
    (code_list_new _ ⟨rfl, rfl⟩) fun obj s₁ h₁ => ?_
  obtain ⟨rfl, rfl⟩ := h₁
  have hS : (s.heap.push { cls := .type "list", data := .seq #[] }).get? s.heap.objs.size = some { cls := .type "list", data := .seq #[] } := Heap.get?_push_size _ rfl
  refine ⟨⟨_, hS, rfl⟩, PySem.F.args_list_init_2 _ _, ?_⟩
  show wpAny _ _ (do let old ← Builtin.List.listItems (.ref s.heap.objs.size); Builtin.List.listUpdate (.ref s.heap.objs.size) (fun _ => #[]); letGo old.toList.reverse; Builtin.List.listExtendWith (.ref s.heap.objs.size) (.ref r) .none) _ _ _
  refine wpAny_bind ?_
  unfold Builtin.List.listItems
  refine wpAny_bind (wpAny_seqItems hS rfl (wpAny_pure ?_))
  show wpAny _ _ (updateSeq s.heap.objs.size (fun _ => #[]) >>= fun _ => letGo (#[] : Array Value).toList.reverse >>= fun _ => Builtin.List.listExtendWith (.ref s.heap.objs.size) (.ref r) .none) _ _ _
  refine wpAny_bind (wpAny_updateSeq hS rfl ?_)
  have hS₂ := Heap.get?_update_self (Obj.mapSeq (fun _ => (#[] : Array Value))) hS rfl
  have oth : ∀ b o, s.heap.get? b = some o → ((s.heap.push { cls := .type "list", data := .seq #[] }).update s.heap.objs.size (Obj.mapSeq (fun _ => (#[] : Array Value)))).get? b = some o :=
    fun b o e => (Heap.get?_update_other _ _ (Ne.symm (Nat.ne_of_lt (Heap.lt_size e)))).trans (Heap.get?_push_of_some _ e)
  refine wpAny_bind (wpAny_letGo ?_)
  have hr2 : ((s.heap.push { cls := .type "list", data := .seq #[] }).update s.heap.objs.size (Obj.mapSeq (fun _ => (#[] : Array Value)))).IsRevIter r l ((items.size : Int) - 1) := hr.at fun o e => oth r o e
  have hl2 : ((s.heap.push { cls := .type "list", data := .seq #[] }).update s.heap.objs.size (Obj.mapSeq (fun _ => (#[] : Array Value)))).IsList l items := ⟨lo, oth l lo hlo, hlc, ln, hld⟩
  have hT : Shared.TypeIs { s with heap := (s.heap.push { cls := .type "list", data := .seq #[] }).update s.heap.objs.size (Obj.mapSeq (fun _ => (#[] : Array Value))) } (.ref r) "list_reverseiterator" := ⟨_, oth r ro hro, hrc⟩
  unfold Builtin.List.listExtendWith
  refine wpAny_bind (wpAny_typeOf hT ?_)
  have h1 : Builtin.List.listSameRef (.ref s.heap.objs.size) (.ref r) = false := by simp [Builtin.List.listSameRef, Ne.symm hrS]
  have h2 : (Value.type "list_reverseiterator" == Value.type "list") = false := by decide
  have h3 : (Value.type "list_reverseiterator" == Value.type "tuple") = false := by decide
  simp only [h1, h2, h3, Bool.or_false, Bool.false_eq_true, if_false]
  refine wpAny_bind (wpAny_pyIter_revIter hr2 ?_)
  refine wpAny_bind (wpAny_holding (hint_lri hT ?_))
  refine wpAny_ite_split (fun hab => absurd hab (by decide +kernel)) (fun _ => ?_)
  have W := Walks.listRev (prog := prog) (w := w) (A := A.in1.in1) hh r l hlr items
  refine wpAny_pure ⟨plainId_quiet PySem.F.plain_extend_loop _, ext_loop (A := A.in1) W s.heap.objs.size (by simp [Ne.symm hrS, Ne.symm hlS]) .none #[] (by simpa using hn) items.size 0 _ #[] 0 (by (first | lia | omega)) (Nat.zero_le _) ⟨Nat.zero_le _, by simpa using hr2, hl2⟩ hS₂ (ItemsOf.nil _) fun h' tk acc' c' hk hat hacc => ?_⟩
  refine ⟨rfl, hQ h' tk acc' c' (fun b o hb e => hk b o ?_ (oth b o e)) (by simpa using hat) hacc⟩
  simp only [List.mem_cons, List.not_mem_nil, or_false, not_or]
  exact ⟨Nat.ne_of_lt (Heap.lt_size e), hb⟩
theorem rev_vreps {h h' : Heap} (kf : KF h h') {l : List MV} {vs acc : Array Value} (hr : VReps X h l vs.toList) (hacc : ItemsOf (fun i v => vs[vs.size - 1 - i]? = some v) acc vs.size) : VReps X h' l.reverse acc.toList := by
  have len : l.length = vs.size := hr.length
  refine ItemsOf.vreps hacc (by rw [List.length_reverse, len]) fun i m v hm hv => ?_
  have hlt : i < l.length := by
    have := (List.getElem?_eq_some_iff.mp hm).1
    rwa [List.length_reverse] at this
  rw [List.getElem?_reverse hlt] at hm
  obtain ⟨v', hv', rv'⟩ := hr.get hm
  rw [Array.getElem?_toList, len, hv] at hv'
  cases hv'
  exact VRep.keep kf rv'
inductive ListR (H : MH) : MV → Addr → List MV → Prop
  | mk {a : Addr} {l : List MV} (hl : H a = some (.L l)) (hz : l.length ≤ 100000) : ListR H (.ref a) a l
noncomputable def wListRev (P : WE) : WE := fun Q σ => P (fun m σ₁ => ∃ a l, ListR σ₁.H m a l ∧ ∀ ad, σ₁.H ad = none → Q (.ref ad) ⟨σ₁.loc, σ₁.H.set ad (.L l.reverse)⟩) σ
theorem SE.listRev (ok : X.Ok) {x y : Str} {xp yp pos rpos : Pos} {e : Expr} {P : WE} (hg : GlobV X F x (.type "list")) (hr : GlobV X F y (.type "reversed")) (he : SE X d F e P)
    (hst : starEach [Expr.Call (.Name y yp) [e] [] rpos] F.env = [(false, eval (.Call (.Name y yp) [e] [] rpos) F.env)] := by rfl) (hst2 : starEach [e] F.env = [(false, eval e F.env)] := by rfl) :
    SE X d F (.Call (.Name x xp) [.Call (.Name y yp) [e] [] rpos] [] pos) (wListRev P) := by
  intro Q σ h A s r g
  have hpl : (backTo pos (starEach [Expr.Call (.Name y yp) [e] [] rpos] F.env)).any (·.1) = false := by rw [hst]; rfl
  have hpl2 : (backTo rpos (starEach [e] F.env)).any (·.1) = false := by rw [hst2]; rfl
  refine Call_ (eval_glob ok hg g (PySem.callWith_type hpl (evalArgs_any hpl ?_)))
  refine args_cons (rest := []) ?_ hst
  refine Call_ (eval_glob ok hr g (PySem.callWith_type hpl2 (evalArgs_any hpl2 ?_)))
  refine args_cons (rest := []) (he.run h r g fun m σ₁ v s₁ rv g₁ e₁ ⟨a, l, hl, q⟩ => args_nil ?_) hst2
  obtain ⟨hl, hz⟩ := hl
  cases iR rv
  obtain ⟨ps, h1, h2⟩ := g₁.rep.list hl
  have len : l.length = ps.size := h2.length
  refine call_reversed_list h1.isList (args_nil ?_)
  have I1 : (s₁.heap.push (revObj a ((ps.size : Int) - 1))).IsRevIter s₁.heap.objs.size a ((ps.size : Int) - 1) := ⟨_, Heap.get?_push_size _ rfl, rfl, rfl⟩
  refine call_list_lri (s := { s₁ with heap := s₁.heap.push (revObj a ((ps.size : Int) - 1)) }) r.handled I1 (h1.isList.push _) (by rw [sizeLine_eq]; (first | lia | omega)) fun h' tk acc' c' hk hat hacc => ?_
  have hk0 : ∀ b o, s₁.heap.get? b = some o → h'.get? b = some o := fun b o e => hk b o (Nat.ne_of_lt (Heap.lt_size e)) (Heap.get?_push_of_some _ e)
  have hno : s₁.heap.get? (s₁.heap.push (revObj a ((ps.size : Int) - 1))).objs.size = Option.none := by
    cases z : s₁.heap.get? (s₁.heap.push (revObj a ((ps.size : Int) - 1))).objs.size with
    | none => rfl
    | some o => exact absurd (Heap.lt_size z) (fun q => by rw [size_push'] at q; exact Nat.lt_irrefl _ (Nat.lt_of_succ_lt q))
  have P := g₁.mk_new hk0 hno (c := .L l.reverse) ⟨_, ⟨c', hat⟩, rev_vreps (fun b o e _ => hk0 b o e) h2 hacc⟩ tk
  exact ⟨.ref _, _, vR, P.1, e₁.trans P.2, q _ (g₁.rep.offNew hno)⟩
theorem owner_rvt : Manifest.owners.lookup (String.ofList ['d', 'e', 's', 'r', 'e', 'v', 'e', 'r'].reverse) = some Manifest.sig_reversed := by kernel_rfl
theorem slot_rvt_next : PySem.Slot "reversed" "__next__" "reversed.__next__" :=
  .of (owner := "reversed") (n := "__next__") (by rw [typeLookup_type, builtinLookup_eq_fast]; kernel_rfl) (by decide +kernel) (by decide +kernel) (by decide +kernel)
    (by first | exact .inl (by decide +kernel) | exact .inr (by decide +kernel)) (by rw [isSubtype_type]; kernel_rfl)
theorem entry_rvt_next : entryFor table "reversed.__next__" = some Builtin.«reversed.__next__» := entryFor_of_tree (by kernel_rfl)
theorem args_rvt_next (a : Value) : argsOk "reversed.__next__" ⟨[a], []⟩ := by
  unfold argsOk; rw [signature?_of (id := "reversed.__next__") (n := ['_', '_', 't', 'x', 'e', 'n', '_', '_']) (o := ['d', 'e', 's', 'r', 'e', 'v', 'e', 'r']) (by kernel_rfl) owner_rvt]; kernel_rfl
theorem slot_rvt_iter : PySem.Slot "reversed" "__iter__" "reversed.__iter__" :=
  .of (owner := "reversed") (n := "__iter__") (by rw [typeLookup_type, builtinLookup_eq_fast]; kernel_rfl) (by decide +kernel) (by decide +kernel) (by decide +kernel)
    (by first | exact .inl (by decide +kernel) | exact .inr (by decide +kernel)) (by rw [isSubtype_type]; kernel_rfl)
theorem args_rvt_iter (a : Value) : argsOk "reversed.__iter__" ⟨[a], []⟩ := by
  unfold argsOk; rw [signature?_of (id := "reversed.__iter__") (n := ['_', '_', 'r', 'e', 't', 'i', '_', '_']) (o := ['d', 'e', 's', 'r', 'e', 'v', 'e', 'r']) (by kernel_rfl) owner_rvt]; kernel_rfl
theorem entry_rvt_iter : entryFor table "reversed.__iter__" = some Builtin.«dict_keyiterator.__iter__» :=
  entryFor_alias (id' := "dict_keyiterator.__iter__") (by kernel_rfl) (by first | rfl | decide +kernel | (unfold String.splitOn; simp +decide [String.splitOnAux])) (by decide +kernel) (by kernel_rfl)
theorem slot_rvt_hint : PySem.Slot "reversed" "__length_hint__" "reversed.__length_hint__" :=
  .of (owner := "reversed") (n := "__length_hint__") (by rw [typeLookup_type, builtinLookup_eq_fast]; kernel_rfl) (by decide +kernel) (by decide +kernel) (by decide +kernel)
    (by first | exact .inl (by decide +kernel) | exact .inr (by decide +kernel)) (by rw [isSubtype_type]; kernel_rfl)
theorem entry_rvt_hint : entryFor table "reversed.__length_hint__" = some Builtin.«reversed.__length_hint__» := entryFor_of_tree (by kernel_rfl)
theorem args_rvt_hint (a : Value) : argsOk "reversed.__length_hint__" ⟨[a], []⟩ := by
  unfold argsOk; rw [signature?_of (id := "reversed.__length_hint__") (n := ['_', '_', 't', 'n', 'i', 'h', '_', 'h', 't', 'g', 'n', 'e', 'l', '_', '_']) (o := ['d', 'e', 's', 'r', 'e', 'v', 'e', 'r']) (by kernel_rfl) owner_rvt]; kernel_rfl
theorem slot_rvt_init : PySem.Slot "reversed" "__init__" "object.__init__" :=
  .of (owner := "object") (n := "__init__") (by rw [typeLookup_type, builtinLookup_eq_fast]; kernel_rfl) (by decide +kernel) (by decide +kernel) (by decide +kernel)
    (by first | exact .inl (by decide +kernel) | exact .inr (by decide +kernel)) (by rw [isSubtype_type]; kernel_rfl)
theorem called_rvt : TypeCalled "reversed" "reversed.__new__" "object.__init__" :=
  ⟨by decide +kernel, PySem.F.create_reversed, ⟨_, _, PySem.F.mro_reversed⟩, PySem.F.made_reversed, PySem.F.plain_reversed_new, PySem.F.sub_reversed_self, slot_rvt_init⟩
theorem tup_no_rev : typeLookup (.type "tuple") "__reversed__" = pure none := by rw [typeLookup_type, builtinLookup_eq_fast]; kernel_rfl
theorem rvt_no_len : typeLookup (.type "reversed") "__len__" = pure none := by rw [typeLookup_type, builtinLookup_eq_fast]; kernel_rfl
theorem tup_sub_dict : isSubtype (.type "tuple") (.type "dict") = pure false := by rw [isSubtype_type]; kernel_rfl
noncomputable def rvtObj (t : Addr) (i : Int) : Obj := { cls := .type "reversed", data := .fields #[.ref t, rawInt i] }
theorem meets_rvt_new (t : Addr) (items : Array Value) (hz : items.size ≤ 100000) : Meets (Builtin.«reversed.__new__» ⟨[.type "reversed", .ref t], []⟩)
    (fun _ R s => IsTup s.heap t items ∧ (∀ tk, R (.ok (.ret (.ref s.heap.objs.size))) { s with heap := s.heap.push (rvtObj t ((items.size : Int) - 1)), toks := tk })) :=
  .of_wp fun prog w A R s h => by
    obtain ⟨ht, h⟩ := h
    have hT := ht.typeIs (s := s)
    unfold Builtin.«reversed.__new__»
    refine wpAny_bind (wpAny_of_eq (newClass_reversed _) ?_)
    try dsimp only
    refine wpAny_bind (wpAny_of_eq (a := ()) (by first | rfl | kernel_rfl) ?_)
    refine wpAny_bind (wpAny_of_eq (a := ()) (by first | rfl | kernel_rfl) ?_)
    try dsimp only
    refine wpAny_bind (wpAny_specialOf hT tup_no_rev ?_)
    try dsimp only
    refine wpAny_bind ?_
    wp_delta
    refine wpAny_bind (wpAny_isInstance hT tup_sub_dict ?_)
    refine wpAny_ite_split (fun hab => absurd hab (by decide)) (fun _ => ?_)
    refine wpAny_bind (wpAny_specialOf hT slot_tuple_getitem.lookup ?_)
    try dsimp only
    refine wpAny_ite_split (fun _ => ?_) (fun hab => absurd (by decide +kernel) hab)
    refine wpAny_pure ?_
    refine wpAny_ite_split (fun hab => absurd hab (by decide)) (fun _ => ?_)
    refine wpAny_bind (len_tuple ht (by (first | lia | omega)) ?_)
    refine wpAny_bind (m := asInt? _) (wpAny_pure ?_)
    try dsimp only
    refine wpAny_bind ?_
    unfold Builtin.SmallTypes.newRecord
    refine wpAny_newObj_type ?_
    exact wpAny_pure ⟨_, rfl, h _⟩
theorem call_rvt {prog : Program} {w : World} {A : Around} {E : Value → Shared → Prop} {s : Shared} {t : Addr} {items : Array Value} {Q : Value → Shared → Prop} (ht : IsTup s.heap t items) (hz : items.size ≤ 100000)
    (h : ∀ tk, Q (.ref s.heap.objs.size) { s with heap := s.heap.push (rvtObj t ((items.size : Int) - 1)), toks := tk }) : wpAny (model prog w) A (call (.type "reversed") [.ref t]) Q E s :=
  callType_new called_rvt (by decide) (PySem.F.typeCall_reversed_1 _) (PySem.F.newCall_reversed_1 _) (fun obj => PySem.F.args_object_init_2 obj _) PySem.F.entry_reversed_new (meets_rvt_new t items hz)
    ⟨ht, fun tk => ⟨⟨_, Heap.get?_push_size _ rfl, rfl⟩, h tk⟩⟩
noncomputable def IsRvt (h : Heap) (a t : Addr) (i : Int) : Prop := ∃ o, h.get? a = some o ∧ o.cls = .type "reversed" ∧ o.data = .fields #[.ref t, rawInt i]
theorem IsRvt.typeIs {s : Shared} {a t : Addr} {i : Int} (x : IsRvt s.heap a t i) : s.TypeIs (.ref a) "reversed" := let ⟨o, ho, hc, _⟩ := x; ⟨o, ho, hc⟩
theorem IsRvt.at {h h' : Heap} {a t : Addr} {i : Int} (x : IsRvt h a t i) (e : ∀ o, h.get? a = some o → h'.get? a = some o) : IsRvt h' a t i := let ⟨o, ho, r⟩ := x; ⟨o, e _ ho, r⟩
section
variable {prog : Program} {w : World} {A : Around} {E : Value → Shared → Prop} {s : Shared}
theorem next_rvt {it t : Addr} {i : Nat} {items : Array Value} {x : Value} {Q : Option Value → Shared → Prop} (hit : IsRvt s.heap it t (i : Int)) (ht : IsTup s.heap t items) (hx : items[i]? = some x) (hz : items.size ≤ 100000)
    (hQ : ∀ h' tk, IsRvt h' it t ((i : Int) - 1) → Heap.SameBut it s.heap h' → Q (some x) { s with heap := h', toks := tk }) : wpAny (model prog w) A (pyNext (.ref it)) Q E s := by
  obtain ⟨o, ho, hc, hd⟩ := id hit
  have hlt : i < items.size := (Array.getElem?_eq_some_iff.mp hx).1
  unfold pyNext
  refine wpAny_bind (wpAny_attempt (wpAny_callSpecial?_slot (name := Str.ofString "__next__") hit.typeIs slot_rvt_next
    (wpAny_call_entry slot_rvt_next hit.typeIs entry_rvt_next ?_ (args_rvt_next _))))
  unfold Builtin.«reversed.__next__»
  refine wpAny_bind (wpAny_of_eq (a := (Value.ref it, [])) rfl ?_)
  try dsimp only
  refine wpAny_bind (wpAny_field ho hd (x := .ref t) rfl ?_)
  refine wpAny_bind (wpAny_field ho hd (x := rawInt (i : Int)) rfl ?_)
  show wpAny _ _ (if (i : Int) < 0 then _ else _) _ _ s
  rw [if_neg (by (first | lia | omega))]
  refine wpAny_bind (wpAny_specialOf ht.typeIs slot_tuple_getitem.lookup ?_)
  refine wpAny_ite_split (fun hab => absurd hab (by decide)) (fun _ => ?_)
  refine wpAny_bind (wpAny_mkInt ?_)
  refine wpAny_bind (wpAny_attempt (getItem_tuple (s := { s with toks := s.toks + 1 }) (items := items) ht (by (first | lia | omega)) (by (first | lia | omega)) (j := i) (by unfold seqIndex?; simp; (first | lia | omega)) hx ?_))
  try dsimp only
  refine wpAny_bind (wpAny_field (s := { s with toks := s.toks + 1 }) ho hd (x := rawInt (i : Int)) rfl ?_)
  try dsimp only
  refine wpAny_bind (wpAny_setField (s := { s with toks := s.toks + 1 }) ho hd (by simp) ?_)
  first
  | refine wpAny_pure ⟨x, rfl, wpAny_pure (hQ _ _ ?_ (Heap.SameBut.update ..))⟩
  | refine wpAny_bind (wpAny_pure (wpAny_pure ⟨x, rfl, wpAny_pure (hQ _ _ ?_ (Heap.SameBut.update ..))⟩))
  exact ⟨_, Heap.get?_update_self _ ho (Obj.isFreed_of_fields (Obj.data_mapFields hd _)), (Obj.cls_mapFields ..).trans hc, by
    rw [Obj.data_mapFields hd]; simp⟩
theorem end_rvt {it t : Addr} {Q : Option Value → Shared → Prop} (hh : A.handled = none) (hit : IsRvt s.heap it t (-1))
    (hQ : ∀ h', Heap.ExtBut it s.heap h' → Q none { s with heap := h' }) : wpAny (model prog w) A (pyNext (.ref it)) Q E s := by
  obtain ⟨o, ho, hc, hd⟩ := id hit
  unfold pyNext
  refine wpAny_bind (wpAny_attempt (wpAny_callSpecial?_slot (name := Str.ofString "__next__") hit.typeIs slot_rvt_next
    (wpAny_call_entry slot_rvt_next hit.typeIs entry_rvt_next ?_ (args_rvt_next _))))
  unfold Builtin.«reversed.__next__»
  refine wpAny_bind (wpAny_of_eq (a := (Value.ref it, [])) rfl ?_)
  try dsimp only
  refine wpAny_bind (wpAny_field ho hd (x := .ref t) rfl ?_)
  refine wpAny_bind (wpAny_field ho hd (x := rawInt (-1)) rfl ?_)
  show wpAny _ _ (if (-1 : Int) < 0 then _ else _) _ _ s
  rw [if_pos (by decide)]
  refine wpAny_bind (wpAny_rule ?_)
  try refine wpAny_bind ?_
  wp_delta
  refine wpAny_bind (wpAny_setField ho hd (by simp) ?_)
  have ho2 := Heap.get?_update_self (Obj.mapFields (·.setIfInBounds 1 (rawInt (-1)))) ho (Obj.isFreed_of_fields (Obj.data_mapFields hd _))
  refine wpAny_setField ho2 (Obj.data_mapFields hd _) (by simp) ?_
  have EB : Heap.ExtBut it s.heap ((s.heap.update it (Obj.mapFields (·.setIfInBounds 1 (rawInt (-1))))).update it (Obj.mapFields (·.setIfInBounds 0 Value.none))) :=
    fun b o' hb e => (Heap.get?_update_other _ _ (Ne.symm hb)).trans ((Heap.get?_update_other _ _ (Ne.symm hb)).trans e)
  try refine wpAny_bind ?_
  unfold Builtin.SmallTypes.stopIteration
  refine wpAny_bind ?_
  simp only [newExc, newTuple]
  refine wpAny_bind (wpAny_newObj_type ?_ (by size_fits))
  refine wpAny_bind (m := firstArgMember _ _) (wpAny_of_eq (a := Value.none) (by first | rfl | (simp only [firstArgMember]; rfl)) ?_)
  refine wpAny_newObj_type ?_ (by size_fits)
  simp only [raiseNew]
  refine wpAny_bind (wpAny_handled ?_)
  first | rw [show A.in1.handled = none from hh] | rw [hh]
  refine wpAny_bind (wpAny_pure (wpAny_throw ?_))
  refine wpAny_bind (wpAny_isInstance (T := "StopIteration") (b := true) ⟨_, Heap.get?_push_size _ rfl, rfl⟩ isSubtype_stop ?_)
  exact wpAny_pure (hQ _ ((EB.push _).push _))
theorem iter_rvt {it t : Addr} {i : Int} {Q : Value → Shared → Prop} (hit : IsRvt s.heap it t i) (h : Q (.ref it) s) : wpAny (model prog w) A (pyIter (.ref it)) Q E s := by
  refine wpAny_pyIter_slot hit.typeIs slot_rvt_iter (wpAny_call_entry slot_rvt_iter hit.typeIs entry_rvt_iter ?_ (args_rvt_iter _))
  show wpAny _ _ (ret (.ref it)) _ _ s
  exact wpAny_pure ⟨_, rfl, "reversed", _, hit.typeIs, slot_rvt_next.lookup, h⟩
theorem hint_rvt {it t : Addr} {items : Array Value} {Q : Bool → Shared → Prop} (hit : IsRvt s.heap it t ((items.size : Int) - 1)) (ht : IsTup s.heap t items) (hz : items.size ≤ 100000) (h : ∀ b tk, Q b { s with toks := tk }) :
    wpAny (model prog w) A (Builtin.List.listLengthHint (.ref it)) Q E s := by
  obtain ⟨o, ho, hc, hd⟩ := id hit
  have hT := hit.typeIs
  unfold Builtin.List.listLengthHint
  refine wpAny_bind (wpAny_specialOf hT rvt_no_len ?_)
  show wpAny _ A (specialOf (Value.ref it) (Str.ofString "__length_hint__") >>= _) _ _ _
  refine wpAny_bind (wpAny_specialOf hT slot_rvt_hint.lookup ?_)
  generalize hid : ("reversed.__length_hint__" : String) = id0
  wp_delta
  rw [show splitId id0 = some ("reversed", "__length_hint__") from by subst hid; decide +kernel]
  subst hid
  refine wpAny_bind (wpAny_isInstance (T := "reversed") (b := true) hT (by rw [isSubtype_type]; kernel_rfl) ?_)
  refine wpAny_ite_split (fun hab => absurd hab (by decide)) (fun _ => ?_)
  refine wpAny_ite_split (fun hab => absurd hab (by decide +kernel)) (fun _ => ?_)
  refine wpAny_bind (wpAny_rule ?_)
  refine wpAny_bind (wpAny_of_eq (slot_rvt_hint.bind _) ?_)
  try dsimp only
  refine wpAny_bind (wpAny_attempt (wpAny_call_entry slot_rvt_hint hT entry_rvt_hint ?_ (args_rvt_hint _)))
  unfold Builtin.«reversed.__length_hint__»
  refine wpAny_bind (wpAny_of_eq (a := Value.ref it) rfl ?_)
  refine wpAny_bind (wpAny_field ho hd (x := .ref t) rfl ?_)
  refine wpAny_ite_split (fun hab => absurd (eq_of_beq hab) (by intro e; cases e)) (fun _ => ?_)
  refine wpAny_bind (len_tuple ht (by (first | lia | omega)) ?_)
  refine wpAny_bind (m := asInt? _) (wpAny_pure ?_)
  try dsimp only
  refine wpAny_bind (wpAny_field (s := { s with toks := _ }) ho hd (x := rawInt ((items.size : Int) - 1)) rfl ?_)
  show wpAny _ _ (if ((items.size : Nat) : Int) < ((items.size : Int) - 1) + 1 then _ else _) _ _ _
  rw [if_neg (by (first | lia | omega))]
  unfold retInt
  refine wpAny_bind (wpAny_mkInt (wpAny_pure ⟨_, rfl, ?_⟩))
  try dsimp only
  refine wpAny_bind (m := asInt? _) (wpAny_pure ?_)
  try dsimp only
  have e1 : (!Builtin.List.listFitsIndex ((items.size : Int) - 1 + 1)) = false := by rw [fitsIndex_of (by (first | lia | omega)) (by (first | lia | omega))]; rfl
  refine wpAny_ite_split (fun hab => absurd hab (by rw [e1]; decide)) (fun _ => ?_)
  refine wpAny_ite_split (fun hab => absurd hab (by (first | lia | omega))) (fun _ => ?_)
  have e2 : Builtin.List.listTooLong ((items.size : Int) - 1 + 1).toNat = false := by simp [Builtin.List.listTooLong, sizeLine]; (first | lia | omega)
  refine wpAny_ite_split (fun hab => absurd hab (by rw [e2]; decide)) (fun _ => ?_)
  exact wpAny_pure (h _ _)
end
theorem Walks.tupRev {prog : Program} {w : World} {A : Around} (hh : A.handled = none) (I t : Addr) (hne : t ≠ I) (items : Array Value) (hz : items.size ≤ 100000) :
    Walks prog w A I [I, t] [I] items.size (fun i v => items[items.size - 1 - i]? = some v) (fun i h => i ≤ items.size ∧ IsRvt h I t ((items.size : Int) - 1 - (i : Int)) ∧ IsTup h t items) where
  sub := fun b hb => by cases List.mem_singleton.mp hb; exact .head _
  frame := fun _ _ _ x hk => ⟨x.1, x.2.1.at fun o e => hk I (by simp) o e, let ⟨o, ho, r⟩ := x.2.2; ⟨o, hk t (by simp) o ho, r⟩⟩
  item := fun i s Q E hi x hQ => by
    have e : (items.size : Int) - 1 - (i : Int) = ((items.size - 1 - i : Nat) : Int) := by (first | lia | omega)
    have hit := x.2.1
    rw [e] at hit
    have hx : items[items.size - 1 - i]? = some (items[items.size - 1 - i]'(by (first | lia | omega))) := Array.getElem?_eq_getElem (by (first | lia | omega))
    refine next_rvt hit x.2.2 hx hz fun h' tk hit' hs' => ?_
    have e2 : ((items.size - 1 - i : Nat) : Int) - 1 = (items.size : Int) - 1 - ((i + 1 : Nat) : Int) := by (first | lia | omega)
    rw [e2] at hit'
    exact hQ _ h' tk hx ⟨hi, hit', let ⟨o, ho, r⟩ := x.2.2; ⟨o, (hs'.2 t hne).trans ho, r⟩⟩ fun b o hb eo => hs'.extBut b o (fun h => hb (by simp [h])) eo
  done := fun s Q E x hQ => by
    have e : (items.size : Int) - 1 - (items.size : Int) = -1 := by (first | lia | omega)
    have hit := x.2.1
    rw [e] at hit
    exact end_rvt hh hit fun h' he' => hQ h' s.toks fun b o hb eo => he' b o (fun h => hb (by simp [h])) eo
  self := fun _ _ _ _ x hQ => iter_rvt x.2.1 hQ
theorem call_extend_rvt {prog : Program} {w : World} {A : Around} {E : Value → Shared → Prop} {s : Shared} {a it t : Addr} {pre items : Array Value} {Q : Value → Shared → Prop} (hh : A.handled = none) (hl : s.heap.PlainList a pre) (hit : IsRvt s.heap it t ((items.size : Int) - 1)) (ht : IsTup s.heap t items) (hz : items.size ≤ 1000) (hp : pre.size ≤ 100000)
    (hQ : ∀ h' tk acc', (∀ b o, b ≠ a → b ≠ it → s.heap.get? b = some o → h'.get? b = some o) → h'.PlainList a (pre ++ acc') → ItemsOf (fun i v => items[items.size - 1 - i]? = some v) acc' items.size → Q .none { s with heap := h', toks := tk }) :
    wpAny (model prog w) A (call (.builtin "list.extend") [.ref a, .ref it]) Q E s := by
  obtain ⟨n0, ha⟩ := hl
  obtain ⟨io, hio, hic, hid⟩ := id hit
  obtain ⟨to, hto, htc, tn, htd⟩ := id ht
  have hai : a ≠ it := by rintro rfl; rw [ha] at hio; cases hio; cases hid
  have hat : a ≠ t := by rintro rfl; rw [ha] at hto; cases hto; injection htc with e; exact absurd e (by decide)
  have hti : t ≠ it := by rintro rfl; rw [hto] at hio; cases hio; rw [htd] at hid; cases hid
  refine wpAny_call (codeAny_call_builtin F.slot_list_extend.plain F.entry_list_extend (F.slot_list_extend.check _ _ _ _ _ _ _ _ ⟨_, ha, rfl⟩ (F.args_list_extend_2 _ _) ?_))
  show wpAny _ _ (Builtin.List.listExtendWith (.ref a) (.ref it) .none) _ _ s
  unfold Builtin.List.listExtendWith
  refine wpAny_bind (wpAny_typeOf hit.typeIs ?_)
  have h1 : Builtin.List.listSameRef (.ref a) (.ref it) = false := by simp [Builtin.List.listSameRef, hai]
  have h2 : (Value.type "reversed" == Value.type "list") = false := by decide
  have h3 : (Value.type "reversed" == Value.type "tuple") = false := by decide
  simp only [h1, h2, h3, Bool.or_false, Bool.false_eq_true, if_false]
  refine wpAny_bind (iter_rvt hit ?_)
  refine wpAny_bind (wpAny_holding (hint_rvt hit ht (by (first | lia | omega)) fun b tk => ?_))
  have W := Walks.tupRev (prog := prog) (w := w) (A := A.in1) hh it t hti items (by (first | lia | omega))
  have fin : ∀ (h : Heap) (c tk : Nat), (∀ b o, b ≠ a → s.heap.get? b = some o → h.get? b = some o) → h.get? a = some { cls := .type "list", dict := none, data := .seq (pre ++ #[]) c, slots := #[] } →
      codeAny (model prog w) A (.builtin "list.extend.loop" ⟨[.ref a, .ref it, .none], []⟩) (wants Q E) { s with heap := h, toks := tk } := by
    intro h c tk hk hha
    refine ext_loop (A := A) W a (by simp [hai, hat]) .none pre (by rw [sizeLine_eq]; (first | lia | omega)) items.size 0 _ #[] c (by (first | lia | omega)) (Nat.zero_le _) ⟨Nat.zero_le _, ?_, ?_⟩ hha (ItemsOf.nil _) fun h' tk' acc' c' hk' hat' hacc => ?_
    · simpa using hit.at fun o e => hk it o (Ne.symm hai) e
    · exact ⟨to, hk t to (Ne.symm hat) hto, htc, tn, htd⟩
    · refine hQ h' tk' acc' (fun b o hb hb2 e => hk' b o (by simp [hb, hb2]) (hk b o hb e)) ⟨c', hat'⟩ hacc
  refine wpAny_ite_split (fun _ => ?_) (fun _ => wpAny_pure ⟨plainId_quiet PySem.F.plain_extend_loop _, fin _ n0 _ (fun b o _ e => e) (by simpa using ha)⟩)
  refine wpAny_bind (wpAny_rule ?_)
  refine wpAny_bind ?_
  show wpAny _ _ (updateSeq a (·.push .none) >>= fun _ => updateSeq a (·.pop)) _ _ _
  refine wpAny_bind (wpAny_updateSeq (s := { s with toks := _ }) ha rfl ?_ (by rw [sizeLine_eq]; (first | lia | omega)) (by simp only [Array.size_push]; rw [sizeLine_eq]; (first | lia | omega)))
  have hS₂ := Heap.get?_update_self (Obj.mapSeq (·.push Value.none)) ha rfl
  obtain ⟨c2, u2⟩ : ∃ c2, (s.heap.update a (Obj.mapSeq (·.push Value.none))).get? a = some (seqObj "list" (pre.push .none) c2) := ⟨_, get?_update_seq (c := "list") ha (·.push Value.none)⟩
  refine wpAny_updateSeq (s := { s with heap := s.heap.update a (Obj.mapSeq (·.push Value.none)), toks := _ }) u2 rfl ?_ (by simp only [Array.size_push]; rw [sizeLine_eq]; (first | lia | omega)) (by simp only [Array.size_pop, Array.size_push]; rw [sizeLine_eq]; (first | lia | omega))
  obtain ⟨c3, u3⟩ : ∃ c3, ((s.heap.update a (Obj.mapSeq (·.push Value.none))).update a (Obj.mapSeq (·.pop))).get? a = some (seqObj "list" ((pre.push .none).pop) c3) := ⟨_, get?_update_seq (c := "list") u2 (·.pop)⟩
  refine wpAny_pure ⟨plainId_quiet PySem.F.plain_extend_loop _, fin _ c3 _ (fun b o hb e => ?_) (by simpa using u3)⟩
  exact (Heap.get?_update_other _ _ (Ne.symm hb)).trans ((Heap.get?_update_other _ _ (Ne.symm hb)).trans e)
inductive ExtR (H : MH) (a : Addr) : MV → List MV → Prop
  | mk {l₀ l : List MV} (hl : H a = some (.L l₀)) (hz0 : l₀.length ≤ 100000) (hz : l.length ≤ 1000) : ExtR H a (.tup l) (l₀ ++ l.reverse)
noncomputable def wExtRev (P R : WE) : WE := fun Q σ => P (fun o σ₁ => ∃ a, RefR σ₁.H "list" o a ∧ R (fun m σ₂ => ∃ l, ExtR σ₂.H a m l ∧ Q .none ⟨σ₂.loc, σ₂.H.set a (.L l)⟩) σ₁) σ
theorem SE.extRev (ok : X.Ok) {o e : Expr} {y name : Str} {yp apos pos rpos : Pos} {P R : WE} (hname : name = "extend") (hr : GlobV X F y (.type "reversed")) (ho : SE X d F o P) (he : SE X d F e R)
    (hbase : attributeBase o name F.env (eval o F.env) = eval o F.env)
    (hfew : fewOk [Expr.Call (.Name y yp) [e] [] rpos] pos F.env = true)
    (hline : (apos.endLine == pos.line) = true)
    (hst : starEach [Expr.Call (.Name y yp) [e] [] rpos] F.env = [(false, eval (.Call (.Name y yp) [e] [] rpos) F.env)] := by rfl) (hst2 : starEach [e] F.env = [(false, eval e F.env)] := by rfl) :
    SE X d F (.Call (.Attribute o name apos) [.Call (.Name y yp) [e] [] rpos] [] pos) (wExtRev P R) := by
  intro Q σ h A s r g
  subst hname
  refine meth_call hbase hfew hline (ho.run h r g fun mo σ₁ vo s₁ ro g₁ e₁ ⟨a, hrf, q⟩ => ?_)
  obtain ⟨hc, hty⟩ := hrf
  cases iR ro
  obtain ⟨ob, h1, h2, h3⟩ := g₁.rep.typed hc (by rw [hty]; decide)
  rw [hty] at h2
  refine ⟨.builtin "list.extend", [.ref a], fun pl Q' hq => getMethod_builtin ⟨ob, h1, h2⟩ PySem.F.plainAttrs_list PySem.F.slot_list_extend PySem.F.type_list_extend (fun b e => by cases e; exact ⟨ob, h1, h3⟩) hq, ?_⟩
  have hpl : (backTo pos (starEach [Expr.Call (.Name y yp) [e] [] rpos] F.env)).any (·.1) = false := by rw [hst]; rfl
  have hpl2 : (backTo rpos (starEach [e] F.env)).any (·.1) = false := by rw [hst2]; rfl
  refine Calls.callWith_builtin hpl (evalArgs_any hpl ?_)
  refine args_cons (rest := []) ?_ hst
  refine Call_ (eval_glob ok hr g₁ (PySem.callWith_type hpl2 (evalArgs_any hpl2 ?_)))
  refine args_cons (rest := []) (he.run q r g₁ fun m σ₂ v s₂ rv g₂ e₂ ⟨l', hx, q⟩ => args_nil ?_) hst2
  cases hx with | @mk l₀ l hl hz0 hz => ?_
  obtain ⟨t, vs, rfl, ht, hr⟩ := iT rv
  have len : l.length = vs.size := hr.length
  obtain ⟨ps, p1, p2⟩ := g₂.rep.list hl
  have len0 : l₀.length = ps.size := p2.length
  refine call_rvt ht (by (first | lia | omega)) fun tk => args_nil ?_
  have ha1 : (s₂.heap.push (rvtObj t ((vs.size : Int) - 1))).PlainList a ps := let ⟨n, e⟩ := p1; ⟨n, Heap.get?_push_of_some _ e⟩
  refine call_extend_rvt (s := { s₂ with heap := _, toks := tk }) r.handled ha1 ⟨_, Heap.get?_push_size _ rfl, rfl, rfl⟩ (ht.push _) (by (first | lia | omega)) (by (first | lia | omega)) fun h' tk' acc' hk hpl hacc => ?_
  have kb : But a s₂.heap h' := fun b o hb e => hk b o hb (Nat.ne_of_lt (Heap.lt_size e)) (Heap.get?_push_of_some _ e)
  have kf := g₂.rep.kfAt hl kb
  have P := g₂.rep.put (.inl (ne_of_some hl)) kb (c := .L (l₀ ++ l.reverse)) ⟨_, hpl, by rw [Array.toList_append]; exact VReps.append (VReps.keep kf p2) (rev_vreps kf hr hacc)⟩ tk'
  exact ⟨.none, ⟨σ₂.loc, _⟩, vN, g₂.step P.2 P.1, (e₁.trans e₂).trans P.2.off, q⟩
end
section
variable {X : Ctx} {d : Nat} {F : FI}
noncomputable def SC (X : Ctx) (d : Nat) (F : FI) (ifs : List Expr) (T : WT) : Prop :=
  ∀ Q σ, T Q σ → ∀ A s, Room d A → Good X F σ s → wpAny (mdl X) A (forIn ifs true fun c r => if r = true then do let ok ← isTrue c F.env (eval c F.env); pure (ForInStep.yield ok) else pure (ForInStep.yield r)) (BPost X F s σ.H Q) NoE s
theorem SC.nil : SC X d F [] (wB true) := fun Q σ h A s r g => by
  rw [List.forIn_nil]
  exact wpAny_pure ⟨σ, g, .refl .., h⟩
theorem SC.one {c : Expr} {T : WT} (h : ST X d F c T) : SC X d F [c] T := fun Q σ q A s r g => wpAny_tests_one (h Q σ q A s r g)
noncomputable def cFI (F : FI) (scope : Scope) (cl : List (Str × Addr)) (x : Str) (C : Addr) : FI := ⟨compEnvC scope cl C F.env, x :: cl.map (·.1)⟩
noncomputable def atC : List (Option MV) → Nat → Option MV
  | [], _ => none
  | m :: _, 0 => m
  | _ :: r, i + 1 => atC r i
noncomputable def valsAt : List Nat → List (Option MV) → List (Option MV)
  | [], _ => []
  | j :: js, loc => atC loc j :: valsAt js loc
theorem atC_eq : ∀ {loc : List (Option MV)} {j : Nat}, atC loc j = (loc[j]?).getD Option.none
  | [], _ => rfl
  | _ :: _, 0 => rfl
  | _ :: r, j + 1 => atC_eq (loc := r)
theorem valsAt_get {loc : List (Option MV)} : ∀ {js : List Nat} {i j : Nat}, js[i]? = some j → (valsAt js loc)[i]? = some (atC loc j)
  | _ :: _, 0, _, h => by cases h; rfl
  | _ :: js, i + 1, _, h => valsAt_get (js := js) h
structure CompOk (F : FI) (scope : Scope) (cl : List (Str × Addr)) (x : Str) (js : List Nat) : Prop where
  clos : closureFor scope F.env = pure cl
  kind : scope.kind = .function
  cell : ∀ y ∈ scope.names, y.2 ≠ .cell
  names : ∀ y ∈ scope.names, y.2 = .local → scope.names.lookup y.1 = some .local
  xloc : scope.names.lookup x = some .local
  nodup : (x :: cl.map (·.1)).Nodup
  sub : ∀ y c, cl.lookup y = some c → F.env.cells.lookup y = some c ∧ (relabel scope F.env).names.lookup y = some .cell
  js : ∀ (i : Nat) (y : Str), (cl.map (·.1))[i]? = some y → ∃ j, js[i]? = some j ∧ F.names[j]? = some y
theorem lookup_mem {β : Type} : ∀ {l : List (Str × β)} {y : Str} {c : β}, l.lookup y = some c → ∃ p : Nat, (l.map (·.1))[p]? = some y
  | (k, v) :: r, y, c, h => by
    by_cases q : y = k
    · exact ⟨0, congrArg some q.symm⟩
    · rw [List.lookup_cons, beq_eq_false_iff_ne.mpr q] at h
      obtain ⟨p, hp⟩ := lookup_mem (l := r) h
      exact ⟨p + 1, hp⟩
theorem mem_lookup {β : Type} : ∀ {l : List (Str × β)} {y : Str} {i : Nat}, (l.map (·.1))[i]? = some y → ∃ c, l.lookup y = some c
  | (k, v) :: r, y, i, h => by
    by_cases q : y = k
    · exact ⟨v, by rw [List.lookup_cons, beq_iff_eq.mpr q]⟩
    · rw [List.lookup_cons, beq_eq_false_iff_ne.mpr q]
      cases i with
      | zero => cases h; exact (q rfl).elim
      | succ i => exact mem_lookup (l := r) (i := i) h
variable {scope : Scope} {cl : List (Str × Addr)} {x : Str} {js : List Nat} {C : Addr}
theorem comp_in {loc : List (Option MV)} {H : MH} {s : Shared} {m : Str → Option Value} {v : Value} {mv : MV} (co : CompOk F scope cl x js) (g : Good X F ⟨loc, H⟩ s) (hC : s.heap.Ns C m) (hm : m x = some v) (rv : VRep X s.heap mv v)
    (hCb : X.base.get? C = none) (hCd : H C = none) (hCf : ¬ F.foot C) : Good X (cFI F scope cl x C) ⟨some mv :: valsAt js loc, H⟩ s := by
  have up : ∀ y c, cl.lookup y = some c → F.env.cells.lookup y = some c := fun y c h => (co.sub y c h).1
  have foot : ∀ b, (cFI F scope cl x C).foot b → b = C ∨ F.foot b := fun b f => f.imp id fun ⟨y, hy⟩ => .inr ⟨y, up _ _ hy⟩
  refine ⟨⟨co.kind, co.nodup, g.fok.globals, g.fok.builtins, fun y z c h1 h2 => g.fok.cells y z c (up _ _ h1) (up _ _ h2), fun y c h => ?_, fun y c h => (co.sub y c h).2⟩, g.rep, ⟨⟨m, hC, fun i y mv' h1 h2 h3 => ?_⟩, fun y c h => ?_⟩, fun b hb => ?_, fun b hb => ?_⟩
  · rintro rfl
    exact hCf (.inr ⟨y, up _ _ h⟩)
  · cases i with
    | zero => cases h1; cases h3; exact ⟨v, hm, rv⟩
    | succ i =>
      obtain ⟨c, hc⟩ := mem_lookup (l := cl) (i := i) h1
      have := (co.sub y c hc).2
      rw [show (cFI F scope cl x C).env.kindOf y = (relabel scope F.env).names.lookup y from rfl, this] at h2
      cases h2
  · obtain ⟨ov, hcell, hv⟩ := g.loc.cl y c (up _ _ h)
    refine ⟨ov, hcell, fun i mv' h1 h2 => ?_⟩
    cases i with
    | zero =>
      cases h1
      obtain ⟨p, hp⟩ := lookup_mem h
      exact ((List.nodup_cons.mp co.nodup).1 (List.mem_of_getElem? hp)).elim
    | succ i =>
      obtain ⟨j, h4, h5⟩ := co.js i y h1
      have h2 : (valsAt js loc)[i]? = some (some mv') := h2
      rw [valsAt_get h4, atC_eq, Option.some.injEq] at h2
      refine hv j mv' h5 ?_
      show loc[j]? = _
      cases e : loc[j]? with
      | none => rw [e] at h2; cases h2
      | some w => rw [e] at h2; exact congrArg some h2
  · exact (foot b hb).elim (fun e => e ▸ hCd) (g.off b)
  · exact (foot b hb).elim (fun e => e ▸ hCb) (g.new b)
theorem comp_out {loc : List (Option MV)} {H : MH} {σ' : St} {s s' : Shared} {mv : MV} (co : CompOk F scope cl x js) (g : Good X F ⟨loc, H⟩ s) (g' : Good X (cFI F scope cl x C) σ' s') (e : Evo (cFI F scope cl x C).foot s H s' σ'.H)
    (fz : KF s.heap s'.heap) (hl : σ'.loc = some mv :: valsAt js loc) (hCf : ¬ F.foot C) : Good X F ⟨loc, σ'.H⟩ s' := by
  have up : ∀ y c, cl.lookup y = some c → F.env.cells.lookup y = some c := fun y c h => (co.sub y c h).1
  refine ⟨g.fok, g'.rep, ⟨?_, fun y c hy => ?_⟩, fun b hb => ?_, g.new⟩
  · obtain ⟨m, ⟨o, es, ep, ho, hd⟩, hm⟩ := g.loc.ns
    refine ⟨m, ⟨o, es, ep, e.keep _ _ ho (g.off _ (.inl rfl)) ?_, hd⟩, fun i y mv' h1 h2 h3 => ?_⟩
    · rintro (q | ⟨y, hy⟩)
      · exact hCf (.inl q.symm)
      · exact g.fok.apart _ _ (up _ _ hy) rfl
    · obtain ⟨v, hv, hr⟩ := hm i y mv' h1 h2 h3
      exact ⟨v, hv, VRep.keep fz hr⟩
  · by_cases q : ∃ z, cl.lookup z = some c
    · obtain ⟨z, hz⟩ := q
      have : z = y := g.fok.cells _ _ _ (up _ _ hz) hy
      subst this
      obtain ⟨ov, hcell, hv⟩ := g'.loc.cl z c hz
      refine ⟨ov, hcell, fun i mv' h1 h2 => ?_⟩
      obtain ⟨p, hp⟩ := lookup_mem hz
      obtain ⟨j, h4, h5⟩ := co.js p z hp
      have : j = i := idx_unique g.fok.nodup h5 h1
      subst this
      refine hv (p + 1) mv' hp ?_
      rw [hl, List.getElem?_cons_succ, valsAt_get h4, atC_eq]
      rw [show loc[j]? = some (some mv') from h2]; rfl
    · obtain ⟨ov, ⟨o, ho, hd⟩, hv⟩ := g.loc.cl y c hy
      refine ⟨ov, ⟨o, e.keep _ _ ho (g.off _ (.inr ⟨y, hy⟩)) ?_, hd⟩, fun i mv' h1 h2 => ?_⟩
      · rintro (w | ⟨z, hz⟩)
        · exact hCf (.inr ⟨y, by rw [show C = c from w.symm]; exact hy⟩)
        · exact q ⟨z, hz⟩
      · obtain ⟨v, hv', hr⟩ := hv i mv' h1 h2
        exact ⟨v, hv', VRep.keep fz hr⟩
  · exact Classical.byContradiction fun z => (e.dom b z).elim (fun w => w (g.off b hb)) (g.live hb)
theorem Evo.comp {s₀ s s' : Shared} {H₀ H H' : MH} (co : CompOk F scope cl x js) (e₀ : Evo F.foot s₀ H₀ s H) (e : Evo (cFI F scope cl x C).foot s H s' H') (hC : s₀.heap.get? C = none) : Evo F.foot s₀ H₀ s' H' := by
  have e' : Evo F.foot s₀ H₀ s' H' := by
    refine ⟨e.gens.trans e₀.gens, e.os.trans e₀.os, e.drawn.trans e₀.drawn, fun b o ho nd nf => e.keep b o (e₀.keep b o ho nd nf) (Classical.byContradiction fun q => (e₀.dom b q).elim (fun z => z nd) (fun z => by rw [z] at ho; cases ho)) ?_, fun b q => ?_, fun b q => e.mono b (e₀.mono b q)⟩
    · rintro (w | ⟨z, hz⟩)
      · rw [show b = C from w, hC] at ho; cases ho
      · exact nf (.inr ⟨z, (co.sub z b hz).1⟩)
    · exact (e.dom b q).elim (e₀.dom b) fun w => .inr (Classical.byContradiction fun z => e₀.mono b z w)
  exact e'
noncomputable def wCompL (T : WT) (E : WE) (vals : List (Option MV)) (src : FSrc) (Q : List MV → MH → Prop) : List MV → List MV → MH → Prop
  | [], acc, H => src.ok H ∧ Q acc H
  | m :: ms, acc, H => src.ok H ∧ T (fun b σ₁ => Br b (E (fun v σ₂ => σ₂.loc = some m :: vals ∧ wCompL T E vals src Q ms (acc ++ [v]) σ₂.H) σ₁) (σ₁.loc = some m :: vals ∧ wCompL T E vals src Q ms acc σ₁.H)) ⟨some m :: vals, H⟩
structure CompQ (T : WT) (E : WE) (vals : List (Option MV)) (src : FSrc) (Q : List MV → MH → Prop) (ms : List MV) (H : MH) : Prop where
  z : ms.length ≤ 100000
  go : wCompL T E vals src Q ms [] H
noncomputable def wComp (P : (FSrc → St → Prop) → St → Prop) (T : WT) (E : WE) (js : List Nat) : WE := fun Q σ => P (fun src σ₁ => CompQ T E (valsAt js σ₁.loc) src (fun acc H' => ∀ ad, H' ad = none → Q (.ref ad) ⟨σ₁.loc, H'.set ad (.L acc)⟩) src.items σ₁.H) σ
theorem CompQ.inv {T : WT} {E : WE} {vals : List (Option MV)} {src : FSrc} {Q : List MV → MH → Prop} {α : Type} (f : α → MV) (I : List α → List α → List MV → MH → Prop) {l : List α} {H : MH} (h0 : I [] l [] H)
    (step : ∀ pre x post acc H' (C : List MV → MH → Prop), I pre (x :: post) acc H' → (∀ acc' H₂, I (pre ++ [x]) post acc' H₂ → C acc' H₂) →
      src.ok H' ∧ T (fun b σ₁ => Br b (E (fun v σ₂ => σ₂.loc = some (f x) :: vals ∧ C (acc ++ [v]) σ₂.H) σ₁) (σ₁.loc = some (f x) :: vals ∧ C acc σ₁.H)) ⟨some (f x) :: vals, H'⟩)
    (fin : ∀ pre acc H', I pre [] acc H' → src.ok H' ∧ Q acc H') {ms : List MV} (e : ms = l.map f) (z : l.length ≤ 100000) : CompQ T E vals src Q ms H := by
  have key : ∀ (post pre : List α) (acc : List MV) (H : MH), I pre post acc H → wCompL T E vals src Q (post.map f) acc H := by
    intro post
    induction post with
    | nil => exact fun pre acc H h => fin pre acc H h
    | cons m post ih => exact fun pre acc H h => step pre m post acc H (wCompL T E vals src Q (post.map f)) h fun acc' H₂ h₂ => ih _ acc' H₂ h₂
  exact ⟨by rw [e, List.length_map]; exact z, e ▸ key l [] [] H h0⟩
theorem iter_self {src : FSrc} {I : Addr} {k : Nat} {A : Around} {s : Shared} {Q : Value → Shared → Prop} {E : Value → Shared → Prop} (it : ItAt X s.heap I k src) (q : Q (.ref I) s) : wpAny (mdl X) A (pyIter (.ref I)) Q E s := by
  cases src with
  | lst a l => exact wpAny_pyIter_listiter it q
  | tup l => obtain ⟨t, vs, hi, _⟩ := it; exact wpAny_pyIter_tupleiter hi q
  | dk a v o => obtain ⟨es, ep, _, hi⟩ := it; exact wpAny_pyIter_keyiter hi q
  | rng lo n => exact wpAny_pyIter_rangeiter it q
theorem notFroz_ns {h : Heap} {a : Addr} {m : Str → Option Value} (n : h.Ns a m) : ∀ o, h.get? a = some o → ¬ Froz o := fun o ho f => by
  obtain ⟨o', es, ep, ho', hd, _⟩ := n
  rw [ho] at ho'; cases ho'
  exact Soft.thaw (.inr (.inl ⟨_, _, hd⟩)) f
theorem notFroz_pl {h : Heap} {a : Addr} {vs : Array Value} (p : h.PlainList a vs) : ∀ o, h.get? a = some o → ¬ Froz o := fun o ho => by
  obtain ⟨n, e⟩ := p
  rw [e] at ho; cases ho
  exact Soft.thaw (.inl ⟨rfl, _, _, rfl⟩)
structure CompIn (X : Ctx) (F : FI) (s₂ : Shared) (H₂ : MH) (loc : List (Option MV)) (C D : Addr) (acc : List MV) (H : MH) (s : Shared) : Prop where
  good : Good X F ⟨loc, H⟩ s
  evo : Evo F.foot s₂ H₂ s H
  ns : ∃ m, s.heap.Ns C m
  lst : ∃ ps : Array Value, s.heap.PlainList D ps ∧ VReps X s.heap acc ps.toList
  cd : H C = none
  dd : H D = none
theorem CompIn.inner {s₀ s s' : Shared} {H₀ H : MH} {loc : List (Option MV)} {D : Addr} {acc : List MV} {σ' : St} {mv : MV} (co : CompOk F scope cl x js) (ci : CompIn X F s₀ H₀ loc C D acc H s) (gin : Good X (cFI F scope cl x C) ⟨some mv :: valsAt js loc, H⟩ s) (g' : Good X (cFI F scope cl x C) σ' s')
    (e : Evo (cFI F scope cl x C).foot s H s' σ'.H) (hl : σ'.loc = some mv :: valsAt js loc) (hC0 : s₀.heap.get? C = none) (hDC : D ≠ C) (cFoot : ¬ F.foot C) (dFoot : ¬ F.foot D) : CompIn X F s₀ H₀ loc C D acc σ'.H s' := by
  have fz := gin.frozen e
  obtain ⟨m', hn', _⟩ := g'.loc.ns
  obtain ⟨ps, ⟨n, hp⟩, hv⟩ := ci.lst
  have kD := e.keep D _ hp ci.dd (by
    rintro (w | ⟨z, hz⟩)
    · exact hDC w
    · exact dFoot (.inr ⟨z, (co.sub z D hz).1⟩))
  exact ⟨comp_out co ci.good g' e fz hl cFoot, Evo.comp co ci.evo e hC0, ⟨m', hn'⟩, ⟨ps, ⟨n, kD⟩, VReps.keep fz hv⟩, g'.off C (.inl rfl), Classical.byContradiction fun q => (e.dom D q).elim (fun w => w ci.dd) fun w => by rw [hp] at w; cases w⟩
theorem CompIn.move {s₀ s : Shared} {H₀ H : MH} {loc : List (Option MV)} {D I : Addr} {acc acc' : List MV} {h' : Heap} (ci : CompIn X F s₀ H₀ loc C D acc H s) (hI : s₀.heap.get? I = none) (bI : X.base.get? I = none) (thaw : ∀ o, s.heap.get? I = some o → ¬ Froz o) (dI : H I = none) (fI : ¬ F.foot I) (k : But I s.heap h') (hn : ∃ m, h'.Ns C m) (hl : ∃ ps, h'.PlainList D ps ∧ (KF s.heap h' → VReps X h' acc' ps.toList)) (n : Nat) :
    CompIn X F s₀ H₀ loc C D acc' H { s with heap := h', toks := n } := by
  have ne : ∀ b, s₀.heap.get? b ≠ none → b ≠ I := fun b hb q => hb (q ▸ hI)
  obtain ⟨ps, hp, hv⟩ := hl
  exact ⟨ci.good.but bI thaw dI fI k n, ⟨ci.evo.gens, ci.evo.os, ci.evo.drawn, fun b o ho nd nf => k b o (ne b (ne_of_some ho)) (ci.evo.keep b o ho nd nf), ci.evo.dom, fun b hb => let ⟨o, q⟩ := some_of_ne (ci.evo.mono b hb); ne_of_some (k b o (ne b hb) q)⟩, hn, ⟨ps, hp, hv (k.kf thaw)⟩, ci.cd, ci.dd⟩
theorem CompIn.iter {s₀ s : Shared} {H₀ H : MH} {loc : List (Option MV)} {D I : Addr} {k : Nat} {src : FSrc} {acc : List MV} {h' : Heap} (ci : CompIn X F s₀ H₀ loc C D acc H s) (hI : s₀.heap.get? I = none) (bI : X.base.get? I = none) (it : ItAt X s.heap I k src) (hIC : I ≠ C) (hID : I ≠ D) (kb : But I s.heap h') (n : Nat) :
    CompIn X F s₀ H₀ loc C D acc H { s with heap := h', toks := n } := by
  obtain ⟨oI, hoI, vs, hd⟩ := it.obj
  obtain ⟨m, o, es, ep, ho, hm⟩ := ci.ns
  obtain ⟨ps, ⟨np, hp⟩, hv⟩ := ci.lst
  exact ci.move hI bI it.thaw (ci.good.rep.offFields hoI hd) (ci.good.fieldsFoot hoI hd) kb ⟨m, o, es, ep, kb _ _ (Ne.symm hIC) ho, hm⟩ ⟨ps, ⟨np, kb _ _ (Ne.symm hID) hp⟩, fun kf => VReps.keep kf hv⟩ n
theorem comp_block {elt iter : Expr} {px : Pos} {ifs : List Expr} {pos : Pos} {T : WT} {E : WE} {A : Around} {s₀ s₂ : Shared} {H₀ : MH} {σ : St} {I : Addr} {src : FSrc} {QQ : List MV → MH → Prop} {RR : Value → Addr → Result → Shared → Prop}
    (co : CompOk F scope cl x js) (hT : ∀ C, SC X d (cFI F scope cl x C) ifs T) (hE : ∀ C, SE X d (cFI F scope cl x C) elt E) (r : Room d A)
    (g : Good X F σ s₂) (hit : ItAt X s₂.heap I 0 src) (hI : s₀.heap.get? I = none) (e₀ : Evo F.foot s₀ H₀ s₂ σ.H) (g₀ : Rep X H₀ s₀.heap) (q : CompQ T E (valsAt js σ.loc) src QQ src.items σ.H)
    (fin : ∀ C D s acc H, s₀.heap.get? C = none → s₀.heap.get? D = none → D ≠ C → ¬ F.foot C → ¬ F.foot D → CompIn X F s₀ H₀ σ.loc C D acc H s → QQ acc H → RR (.ref D) C (.ok .next) s) :
    wpAny (mdl X) A (newList []) (fun acc s₃ => wpAny (mdl X) A (newFunctionEnv scope F.env.globals cl [] F.env.qual none .none (some F.env)) (fun cenv s₄ =>
      codeAny (mdl X) A (.compStart (.ListComp elt [⟨.Name x px, iter, ifs, 0⟩] scope pos) 0 (.ref I) acc { cenv with scope := relabel scope F.env }) (RR acc cenv.locals) s₄) NoE s₃) NoE s₂ := by
  obtain ⟨hz, q⟩ := q
  refine wpAny_newObj_type (wpAny_newFunctionEnv co.cell nofun (fun h₁ hns₁ hsb₁ => ?_) co.kind)
  dsimp only at hns₁ hsb₁ ⊢
  generalize hH2 : s₂.heap.push { cls := .type "list", dict := none, data := .seq ([] : List Value).toArray } = H2 at hns₁ hsb₁ ⊢
  have hC : H2.objs.size = s₂.heap.objs.size + 1 := by rw [← hH2, Heap.size_push]
  have hDC : s₂.heap.objs.size ≠ H2.objs.size := by rw [hC]; exact Nat.ne_of_lt (Nat.lt_succ_self _)
  have cNone : s₂.heap.get? H2.objs.size = none := by
    cases e : s₂.heap.get? H2.objs.size with
    | none => rfl
    | some o => exact absurd (Heap.lt_size e) (by rw [hC]; exact fun z => Nat.lt_irrefl _ (Nat.lt_of_succ_lt z))
  have dNone : s₂.heap.get? s₂.heap.objs.size = none := get?_size _
  generalize hCC : H2.objs.size = C at *
  generalize hDD : s₂.heap.objs.size = D at *
  have old : ∀ b o, s₂.heap.get? b = some o → h₁.get? b = some o := fun b o e => hsb₁.extBut b o (by rintro rfl; rw [cNone] at e; cases e) (Heap.get?_push_of_some _ (hH2 ▸ Heap.get?_push_of_some _ e))
  have hacc : h₁.PlainList D #[] := ⟨_, hsb₁.extBut _ _ hDC (Heap.get?_push_of_some _ (hH2 ▸ hDD ▸ Heap.get?_push_size _ rfl))⟩
  have back : ∀ {a}, s₂.heap.get? a = none → s₀.heap.get? a = none := fun h => Classical.byContradiction fun z => e₀.mono _ z h
  have cNone0 := back cNone
  have dNone0 := back dNone
  have cFoot : ¬ F.foot C := fun f => g.live f cNone
  have dFoot : ¬ F.foot D := fun f => g.live f dNone
  have start : CompIn X F s₀ H₀ σ.loc C D [] σ.H { s₂ with heap := h₁, toks := s₂.toks + ([] : List (Str × Value)).length } :=
    ⟨g.step (Evo.ext old _) (g.rep.ext old), e₀.trans (Evo.ext old _), ⟨_, hns₁⟩, ⟨#[], hacc, VReps.nil⟩, g.rep.offNew cNone, g.rep.offNew dNone⟩
  obtain ⟨oI, hoI, vsI, hdI⟩ := hit.obj
  have bI := g₀.baseNone hI
  have hIC : I ≠ C := by rintro rfl; rw [hoI] at cNone; cases cNone
  have hID : I ≠ D := by rintro rfl; rw [hoI] at dNone; cases dNone
  have it1 : ItAt X h₁ I 0 src := hit.keep (fun o e => old _ _ e) (fun b o e _ => old b o e)
  have loop : codeAny (mdl X) A (.compLoop (.ListComp elt [⟨.Name x px, iter, ifs, 0⟩] scope pos) 0 (.ref I) (.ref D) (compEnvC scope cl C F.env)) (RR (.ref D) C) { s₂ with heap := h₁, toks := s₂.toks + ([] : List (Str × Value)).length } := by
    refine codeAny_compLoop_tests (fun n s' => ∃ k acc H, n = src.items.length - k ∧ k ≤ src.items.length ∧ acc.length ≤ k ∧ ItAt X s'.heap I k src ∧ CompIn X F s₀ H₀ σ.loc C D acc H s' ∧ wCompL T E (valsAt js σ.loc) src QQ (src.items.drop k) acc H) ?_ (src.items.length)
      ⟨0, [], σ.H, rfl, Nat.zero_le _, Nat.zero_le _, it1, start, q⟩
    rintro n s' ⟨k, acc, H, rfl, hk, hlen, hit', ci, q⟩
    by_cases hlt : k < src.items.length
    · rw [List.drop_eq_getElem_cons hlt] at q
      obtain ⟨hok, q⟩ := q
      refine next_op ci.good hit' hok (List.getElem?_eq_getElem hlt) fun v h' n rv it' kb => ?_
      have ci' := ci.iter hI bI hit' hIC hID kb n
      dsimp only
      obtain ⟨m1, hm1⟩ := ci'.ns
      refine wpAny_assign_Name (wpAny_storeName_local (env := compEnvC scope cl C F.env) (lookup_relabel_local co.xloc) hm1 (fun h₂ hn₂ hs₂ => ?_) (by simp [compEnvC, relabel, co.kind]))
      have hs3 : But C h' h₂ := fun b o hb e => hs₂.extBut b o hb e
      have nfC := notFroz_ns hm1
      have kf : KF h' h₂ := hs3.kf nfC
      have bC := g₀.baseNone cNone0
      obtain ⟨ps2, ⟨n2, hp2⟩, hv2⟩ := ci'.lst
      have ci2 : CompIn X F s₀ H₀ σ.loc C D acc H { s' with heap := h₂, toks := n + 1 } := ci'.move cNone0 bC nfC ci'.cd cFoot hs3 ⟨_, hn₂⟩ ⟨ps2, ⟨n2, hs3 _ _ hDC hp2⟩, fun kf => VReps.keep kf hv2⟩ (n + 1)
      have it2 : ItAt X h₂ I (k + 1) src := it'.keep (fun o e => hs3 _ _ hIC e) kf
      have gin : Good X (cFI F scope cl x C) ⟨some src.items[k] :: valsAt js σ.loc, H⟩ { s' with heap := h₂, toks := n + 1 } := comp_in co ci2.good hn₂ (if_pos rfl) (VRep.keep kf rv) bC ci2.cd cFoot
      refine wpAny_mono (hT C _ _ q A _ r gin) (fun b s₃ p => ?_) fun _ _ (x : False) => x.elim
      obtain ⟨σ₃, g₃, e₃, q⟩ := p
      have it3 := ItAt.lives gin e₃ it2
      cases q with
      | f q => exact ⟨_, by (first | lia | omega), k + 1, acc, σ₃.H, rfl, hlt, by (first | lia | omega), it3, ci2.inner co gin g₃ e₃ q.1 cNone0 hDC cFoot dFoot, q.2⟩
      | t q =>
        refine (hE C).run q r g₃ fun mv' σ₄ v' s₄ rv' g₄ e₄ ⟨hl, q⟩ => ?_
        have it4 := ItAt.lives g₃ e₄ it3
        have ci4 := ci2.inner co gin g₄ (e₃.trans e₄) hl cNone0 hDC cFoot dFoot
        obtain ⟨ps4, hp4, hv4⟩ := ci4.lst
        have len4 : acc.length = ps4.size := hv4.length
        refine wpAny_list_append_plain hp4 (fun h5 hp5 sb5 => ?_) (by rw [sizeLine_eq]; (first | lia | omega))
        have k5 := SameBut.but sb5
        have nfD := notFroz_pl hp4
        obtain ⟨m4, o4, es4, ep4, ho4, hm4⟩ := ci4.ns
        have ci5 := ci4.move (acc' := acc ++ [mv']) dNone0 (g₀.baseNone dNone0) nfD ci4.dd dFoot k5 ⟨m4, o4, es4, ep4, k5 _ _ (Ne.symm hDC) ho4, hm4⟩ ⟨_, hp5, fun kf => by rw [Array.toList_push]; exact VReps.append (VReps.keep kf hv4) (VReps.one (VRep.keep kf rv'))⟩ s₄.toks
        exact ⟨_, by (first | lia | omega), k + 1, acc ++ [mv'], σ₄.H, rfl, hlt, by rw [List.length_append]; exact Nat.succ_le_succ hlen, it4.keep (fun o e => k5 _ _ hID e) (k5.kf nfD), ci5, q⟩
    · have hke : k = src.items.length := by (first | lia | omega)
      subst hke
      rw [List.drop_eq_nil_of_le (Nat.le_refl _)] at q
      obtain ⟨hok, q⟩ := q
      exact stop_op r ci.good hit' hok fun h' kb => fin C D _ acc H cNone0 dNone0 hDC cFoot dFoot (ci.iter hI bI hit' hIC hID kb s'.toks) q
  exact codeAny_compStart_list loop (iter_self it1 loop)
theorem CompIn.adopt {s₀ s : Shared} {H₀ H : MH} {loc : List (Option MV)} {D : Addr} {acc : List MV} (ci : CompIn X F s₀ H₀ loc C D acc H s) (bD : X.base.get? D = none) (hD : s₀.heap.get? D = none) (dFoot : ¬ F.foot D) :
    Good X F ⟨loc, H.set D (.L acc)⟩ s ∧ Evo F.foot s₀ H₀ s (H.set D (.L acc)) := by
  obtain ⟨ps, hp, hv⟩ := ci.lst
  refine ⟨⟨ci.good.fok, ci.good.rep.but D (fun b o _ e => e) bD (notFroz_pl hp) (fun b q => MH.set_ne _ _ q) fun c e => ?_, ci.good.loc, fun b hb => ?_, ci.good.new⟩, ⟨ci.evo.gens, ci.evo.os, ci.evo.drawn, ci.evo.keep, fun b q => ?_, ci.evo.mono⟩⟩
  · cases (MH.set_self H D (.L acc)).symm.trans e; exact ⟨ps, hp, hv⟩
  · have ne : b ≠ D := by rintro rfl; exact dFoot hb
    exact (MH.set_ne _ _ ne).trans (ci.good.off b hb)
  · by_cases z : b = D
    · exact .inr (z ▸ hD)
    · rw [MH.set_ne _ _ z] at q; exact ci.evo.dom b q
theorem SE.comp {elt iter : Expr} {px : Pos} {ifs : List Expr} {pos : Pos} {P : (FSrc → St → Prop) → St → Prop} {T : WT} {E : WE} (co : CompOk F scope cl x js) (hi : SI X d F iter P) (hT : ∀ C, SC X d (cFI F scope cl x C) ifs T) (hE : ∀ C, SE X d (cFI F scope cl x C) elt E)
    (hs : ∀ x, foldedSetIterable iter F.env x = pure x := by intro _; rfl) : SE X d F (.ListComp elt [⟨.Name x px, iter, ifs, 0⟩] scope pos) (wComp P T E js) := by
  intro Q σ h A s r g
  rw [eval_ListComp]
  refine wpAny_comprehension_free (use := Option.none) rfl hs co.clos co.kind co.names (wpAny_mono (hi _ σ h A s r g) (fun xv s₁ p => wpAny_mono p (fun it s₂ p => ?_) fun _ _ x => x) fun _ _ x => x)
  obtain ⟨I, src, σ₂, rfl, hit, hI, g₂, e₂, q⟩ := p
  refine comp_block (RR := fun acc C => compPost (mdl X) A NoE Option.none (EPost X F s σ.H Q) acc C) co hT hE r g₂ hit hI e₂ g.rep q fun C D s' acc H hC hD hDC cFoot dFoot ci qq => ?_
  obtain ⟨m, hm⟩ := ci.ns
  refine ⟨m, hm, fun h' sb => ?_⟩
  have kC : But C s'.heap h' := SameBut.but sb
  obtain ⟨G, Ev⟩ := ci.adopt (g.rep.baseNone hD) hD dFoot
  have cd : (H.set D (.L acc)) C = Option.none := (MH.set_ne _ _ (Ne.symm hDC)).trans ci.cd
  have nfC := notFroz_ns hm
  exact ⟨.ref D, _, vR, G.but (g.rep.baseNone hC) nfC cd cFoot kC s'.toks, ⟨Ev.gens, Ev.os, Ev.drawn, fun b o ho nd nf => kC b o (fun e => by rw [e, hC] at ho; cases ho) (Ev.keep b o ho nd nf), Ev.dom, fun b hb => let ⟨o, w⟩ := some_of_ne (Ev.mono b hb); ne_of_some (kC b o (fun e => hb (e ▸ hC)) w)⟩, qq D ci.dd⟩
theorem SX.asgComp {elt iter : Expr} {px yp : Pos} {ifs : List Expr} {pos spos : Pos} {y : Str} {i : Nat} {P : (FSrc → St → Prop) → St → Prop} {T : WT} {E : WE} (co : CompOk F scope cl x js) (hi : SI X d F iter P) (hT : ∀ C, SC X d (cFI F scope cl x C) ifs T) (hE : ∀ C, SE X d (cFI F scope cl x C) elt E) (hy : Slot F i y)
    (hsw : swapsWith (.ListComp elt [⟨.Name x px, iter, ifs, 0⟩] scope pos) (some (.Name y yp)) spos.line F.env = pure true)
    (hs : ∀ x, foldedSetIterable iter F.env x = pure x := by intro _; rfl) : SX X d F (.Assign [.Name y yp] (.ListComp elt [⟨.Name x px, iter, ifs, 0⟩] scope pos) spos) (wAsg (wComp P T E js) (wStore i)) := by
  intro Q σ h A s r g
  rw [exec_Assign_Name_used _ _ _ _ hsw]
  refine wpAny_bind (wpAny_standAt (wpAny_bind ?_))
  show wpAny _ A (do let _ ← comprehension (.ListComp elt [⟨.Name x px, iter, ifs, 0⟩] scope pos) scope F.env _ (newList []) false (eval iter F.env) (some (assign (.Name y yp) F.env))) _ _ s
  refine wpAny_bind (wpAny_mono (wpAny_comprehension_free (use := some (assign (.Name y yp) F.env)) (Q := fun _ s' => SPost X F s σ.H Q .next s') rfl hs co.clos co.kind co.names
    (wpAny_mono (hi _ σ h A s r g) (fun xv s₁ p => wpAny_mono p (fun it s₂ p => ?_) fun _ _ e => e) fun _ _ e => e)) (fun _ s' hq => wpAny_pure (wpAny_pure hq)) fun _ _ e => e)
  obtain ⟨I, src, σ₂, rfl, hit, hI, g₂, e₂, q⟩ := p
  refine comp_block (RR := fun acc C => compPost (mdl X) A NoE (some (assign (.Name y yp) F.env)) (fun _ s' => SPost X F s σ.H Q .next s') acc C) co hT hE r g₂ hit hI e₂ g.rep q fun C D s' acc H hC hD hDC cFoot dFoot ci qq => ?_
  obtain ⟨G1, E1⟩ := ci.adopt (g.rep.baseNone hD) hD dFoot
  obtain ⟨m, hm⟩ := ci.ns
  have nC : (H.set D (.L acc)) C = Option.none := (MH.set_ne _ _ (Ne.symm hDC)).trans ci.cd
  show wpAny _ A (assign (.Name y yp) F.env (.ref D)) _ _ _
  have qD := qq D ci.dd
  refine wpAny_assign_Name (wpAny_mono (store_slot (Q := fun σ' => Q .next σ') hy G1 (m := .ref D) vR (setC_eq (K := fun l => Q .next ⟨l, _⟩) qD)) (fun _ s₃ p => ?_) fun _ _ x => x)
  obtain ⟨σ₃, g₃, e₃, q₃⟩ := p
  obtain ⟨o, es, ep, ho, hd⟩ := hm
  have hm3 : s₃.heap.Ns C m := ⟨o, es, ep, e₃.keep C o ho nC cFoot, hd⟩
  refine ⟨m, hm3, fun h'' sb => ?_⟩
  have kC : But C s₃.heap h'' := SameBut.but sb
  have Ev := E1.trans e₃
  exact ⟨.next, σ₃, rfl, g₃.but (g.rep.baseNone hC) (notFroz_ns hm3) (Classical.byContradiction fun z => (e₃.dom C z).elim (fun w => w nC) (fun w => by rw [ho] at w; cases w)) cFoot kC s₃.toks,
    ⟨Ev.gens, Ev.os, Ev.drawn, fun b o ho nd nf => kC b o (fun e => by rw [e, hC] at ho; cases ho) (Ev.keep b o ho nd nf), Ev.dom, fun b hb => let ⟨o, w⟩ := some_of_ne (Ev.mono b hb); ne_of_some (kC b o (fun e => hb (e ▸ hC)) w)⟩, q₃⟩
noncomputable def newOkB (K : Frag) (C f : Addr) : Bool := makesIn K C && (findIn K (.ref C) "__init__" == some (some (.ref f))) && (typeIn K (.ref f) == some (.type "function"))
theorem under_type {A : Around} {C : Addr} {rest : List Value} (r : Room (d + 1) A) : Room d (A.under (.builtin "type.__call__" ⟨.ref C :: rest, []⟩)) := by
  have e1 : (Code.builtin "type.__call__" ⟨.ref C :: rest, []⟩).weight ≤ 2 := Nat.le_trans (m := 1) (Nat.le_of_eq (by rfl)) (by decide)
  have e2 : (Code.builtin "type.__call__" ⟨.ref C :: rest, []⟩).cUnits ≤ 10 := Nat.le_trans (m := 1) (Nat.le_of_eq (by rfl)) (by decide)
  refine ⟨Nat.le_trans (by show A.depth + _ + _ + _ ≤ _; (first | lia | omega)) r.depth, Nat.le_trans (by show A.units + _ + _ + _ ≤ _; (first | lia | omega)) r.units, r.handled⟩
noncomputable def nonesC (X : Ctx) (c : Nat) : List (Option MV) := List.replicate (X.attrs c).length none
theorem callsTo_new (ok : X.Ok) {c : Nat} {f : Addr} {vs : List MV} {Q : MV → MH → Prop} {H : MH} (hm : newOkB X.K (X.cls c) f = true)
    (h : ∀ a, H a = none → CallsTo X d (.ref f) (.inst c a :: vs) (fun m H' => m = .none ∧ Q (.inst c a) H') (H.set a (.A c (nonesC X c)))) : CallsTo X (d + 1) (.ref (X.cls c)) vs Q H := by
  refine ⟨fun A s ws r rp rv => ?_⟩
  unfold newOkB at hm
  simp only [Bool.and_eq_true, beq_iff_eq] at hm
  obtain ⟨⟨m1, m2⟩, m3⟩ := hm
  have XK := rp.kin ok
  obtain ⟨hh, g, dd, t, os⟩ := s
  refine make_core (makes_of XK m1) (looks_findIn XK m2) (fun self => bind_fn XK self m3) (.inl rfl) ?_
  have k : ∀ b o, hh.get? b = some o → ((hh.push emptyDict).push (instObj (X.cls c) hh.objs.size)).get? b = some o := fun b o e => Heap.get?_push_of_some _ (Heap.get?_push_of_some _ e)
  have hx : ((hh.push emptyDict).push (instObj (X.cls c) hh.objs.size)).get? (hh.objs.size + 1) = some (instObj (X.cls c) hh.objs.size) := by
    rw [← size_push' hh emptyDict]; exact Heap.get?_push_size _ rfl
  have hd : ((hh.push emptyDict).push (instObj (X.cls c) hh.objs.size)).get? hh.objs.size = some emptyDict := Heap.get?_push_of_some _ (Heap.get?_push_size _ rfl)
  have hA : CRep X ((hh.push emptyDict).push (instObj (X.cls c) hh.objs.size)) hh.objs.size (.A c (nonesC X c)) := by
    refine ⟨#[], 0, fun _ => none, hd, ⟨emptyDict, #[], 0, hd, rfl, (fun e he => nomatch he), fun x => by rfl⟩, Nat.zero_le _, fun x hx => (hx rfl).elim, fun i x mv h1 h2 => ?_⟩
    unfold nonesC at h2
    rw [List.getElem?_replicate] at h2
    split at h2 <;> cases h2
  have P := rp.put (.inr (get?_size hh)) (fun b o _ e => k b o e) hA t
  have rvs : VReps X ((hh.push emptyDict).push (instObj (X.cls c) hh.objs.size)) (.inst c hh.objs.size :: vs) (.ref (hh.objs.size + 1) :: ws) :=
    VReps.cons (by simp only [VRep]; exact ⟨_, rfl, hx⟩) (VReps.keep (fun b o e _ => k b o e) rv)
  refine codeAny_mono ((h hh.objs.size rp.size_fresh).go _ ⟨_, g, dd, t, os⟩ _ (under_type r) P.1 rvs) ?_
  rintro _ s' ⟨v, mv, H', rfl, a, b, e, rfl, q⟩
  cases (show v = .none by simpa only [VRep] using a)
  refine ⟨rfl, .ref (hh.objs.size + 1), .inst c hh.objs.size, H', rfl, ?_, b, P.2.trans e, q⟩
  simp only [VRep]
  exact ⟨_, rfl, e.frozen (F := NoF) P.1 (fun _ _ _ _ => id) _ _ hx (.inr rfl)⟩
inductive NegR : MV → MV → Prop
  | mk {n : Int} : NegR (.int n) (.int (-n))
noncomputable def wNeg (P : WE) : WE := fun Q σ => P (fun m σ₁ => ∃ v, NegR m v ∧ Q v σ₁) σ
theorem SE.neg {a : Expr} {pos : Pos} {P : WE} (ha : SE X d F a P) : SE X d F (.UnaryOp .USub a pos) (wNeg P) :=
  fun Q σ h A s r g => UnaryOp_ (ha.run h r g fun ma σ₁ va s₁ ra g₁ e₁ ⟨v, hv, q⟩ => by
    cases hv
    obtain ⟨t, rfl⟩ := iI ra
    exact PyProof.Rows.neg_int ⟨_, σ₁, vI, g₁.tk _, e₁.trans (.tk ..), q⟩)
theorem compOk0 {F : FI} {scope : Scope} {x : Str} {js : List Nat} (h1 : closureFor scope F.env = pure []) (h2 : scope.kind = .function) (h3 : (scope.names.all fun y => y.2 != .cell) = true) (h4 : (scope.names.all fun y => y.2 != .local || (scope.names.lookup y.1 == some .local)) = true) (h5 : scope.names.lookup x = some .local) : CompOk F scope [] x js :=
  ⟨h1, h2, fun y hy => by have := List.all_eq_true.mp h3 y hy; simpa using this, fun y hy e => by have := List.all_eq_true.mp h4 y hy; rw [e] at this; exact eq_of_beq (by simpa using this), h5, List.nodup_cons.mpr ⟨nofun, List.nodup_nil⟩, nofun, nofun⟩
theorem compOkC {F : FI} {scope : Scope} {x cn : Str} {c : Addr} {j : Nat} (h1 : closureFor scope F.env = pure [(cn, c)]) (h2 : scope.kind = .function) (h3 : (scope.names.all fun y => y.2 != .cell) = true) (h4 : (scope.names.all fun y => y.2 != .local || (scope.names.lookup y.1 == some .local)) = true) (h5 : scope.names.lookup x = some .local)
    (h6 : F.env.cells.lookup cn = some c) (h7 : (relabel scope F.env).names.lookup cn = some .cell) (h8 : x ≠ cn) (h9 : F.names[j]? = some cn) : CompOk F scope [(cn, c)] x [j] :=
  ⟨h1, h2, fun y hy => by have := List.all_eq_true.mp h3 y hy; simpa using this, fun y hy e => by have := List.all_eq_true.mp h4 y hy; rw [e] at this; exact eq_of_beq (by simpa using this), h5,
    List.nodup_cons.mpr ⟨fun h => h8 (List.mem_singleton.mp h), nodup1⟩, (fun y b h => by
      rw [List.lookup_cons] at h
      by_cases e : y = cn
      · rw [beq_iff_eq.mpr e] at h; cases h; rw [e]; exact ⟨h6, h7⟩
      · rw [beq_eq_false_iff_ne.mpr e] at h; cases h), (fun i y h => by
      cases i with
      | zero => cases h; exact ⟨j, rfl, h9⟩
      | succ i => cases h)⟩
structure FnFactC (X : Ctx) (f : Addr) (fd : FuncData) (names : List Str) (n : Nat) (body : List Stmt) (cn : Str) : Prop where
  at_ : ∃ oc od osl, X.K.lookup f = some ⟨oc, od, .func fd, osl⟩
  code : codeIn X.K fd.code fd.qualname = true
  body : fd.body = .stmts body
  globals : fd.globals = mainGlobals
  builtins : fd.builtins = builtinsNs
  closure : fd.closure = []
  kind : fd.scope.kind = .function
  gen : fd.scope.isGenerator = false
  co : fd.scope.isCoroutine = false
  nodup : names.Nodup
  pars : ∀ x ∈ names.take n, fd.scope.names.lookup x = some .local
  cellk : fd.scope.names.lookup cn = some .cell
  cells : ∀ b, cellsFrom b fd.scope.names [] = [(cn, b)]
  le : n ≤ names.length
  bind : ∀ (vs : List Value), vs.length = n → bindArgs fd ⟨vs, []⟩ = pure ((names.take n).zip vs)
noncomputable def fiC (fd : FuncData) (names : List Str) (f L : Addr) : FI := ⟨callEnvC fd L f, names⟩
theorem bindL_all {kd : Str → Option NameKind} : ∀ {binds : List (Str × Value)} {m : Str → Option Value}, (∀ x ∈ binds, kd x.1 = some .local) → ∀ y, bindL kd binds m y = match binds.reverse.lookup y with | some v => some v | none => m y
  | [], m, _, y => rfl
  | (n, v) :: r, m, h, y => by
    unfold bindL
    rw [if_pos (h _ (.head _)), bindL_all fun x hx => h x (.tail _ hx), List.reverse_cons, List.lookup_append]
    cases r.reverse.lookup y with
    | some w => rfl
    | none =>
      rw [Option.none_or, List.lookup_cons]
      by_cases e : y = n
      · rw [if_pos e, beq_iff_eq.mpr e]
      · rw [if_neg e, beq_eq_false_iff_ne.mpr e]; rfl
theorem bindC_all {kd : Str → Option NameKind} : ∀ {binds : List (Str × Value)} {m : Str → Option Value}, (∀ x ∈ binds, kd x.1 = some .local) → bindC kd binds m = m
  | [], m, _ => rfl
  | (n, v) :: r, m, h => by unfold bindC; rw [if_pos (h _ (.head _)), bindC_all fun x hx => h x (.tail _ hx)]
theorem callsTo_defC (ok : X.Ok) {f : Addr} {fd : FuncData} {names : List Str} {n : Nat} {body : List Stmt} {cn : Str} {P : WS} (ff : FnFactC X f fd names n body cn) (hb : ∀ L, SS X d (fiC fd names f L) body P)
    {vs : List MV} {Q : MV → MH → Prop} {H : MH} (hl : vs.length = n) (k : Nat) (h : P (fun m σ => Q (retOf m) σ.H) ⟨locsC vs k, H⟩) : CallsTo X (d + 1) (.ref f) vs Q H := by
  refine ⟨fun A s ws r rp rv => ?_⟩
  obtain ⟨oc, od, osl, hat⟩ := ff.at_
  have XK := rp.kin ok
  have len := rv.length
  have bl : ∀ x ∈ (names.take n).zip ws, fd.scope.names.lookup x.1 = some .local := fun x hx => ff.pars _ (List.of_mem_zip hx).1
  refine codeAny_call_cells (fd := fd) (body := body) (binds := (names.take n).zip ws) (by have := r.depth; (first | lia | omega)) (XK _ _ hat) rfl (ok.lim.keeps rp.keep) (codeRec_of XK ff.code) ff.body (ff.bind ws (by (first | lia | omega))) ff.closure (fun x hx => .inl (bl x hx)) (fun s₁ x => ?_) ff.co ff.gen ff.kind
  obtain ⟨h₁, tk', rfl⟩ := x.toInCall.same
  have hk := x.toInCall.keep
  have kf : KF s.heap h₁ := fun b o e _ => hk b o e
  have hcells : (fiC fd names f s.heap.objs.size).env.cells = [(cn, s.heap.objs.size + 1)] := ff.cells _
  have one : ∀ {x : Str} {c : Addr}, (fiC fd names f s.heap.objs.size).env.cells.lookup x = some c → x = cn ∧ c = s.heap.objs.size + 1 := by
    intro x c h
    rw [hcells, List.lookup_cons] at h
    by_cases e : x = cn
    · rw [beq_iff_eq.mpr e] at h; exact ⟨e, (Option.some.inj h).symm⟩
    · rw [beq_eq_false_iff_ne.mpr e] at h; cases h
  have foot : ∀ {b}, (fiC fd names f s.heap.objs.size).foot b → b = s.heap.objs.size ∨ b = s.heap.objs.size + 1 := fun q => q.imp id fun ⟨x, hx⟩ => (one hx).2
  have hnone : ∀ {b}, (fiC fd names f s.heap.objs.size).foot b → s.heap.get? b = none := fun q => by
    refine Classical.byContradiction fun z => ?_
    obtain ⟨o, ho⟩ := some_of_ne z
    have lt := Heap.lt_size ho
    rcases foot q with rfl | rfl
    · exact Nat.lt_irrefl _ lt
    · exact Nat.lt_irrefl _ (Nat.lt_of_succ_lt lt)
  have kn : ∀ x, (fiC fd names f s.heap.objs.size).env.kindOf x = fd.scope.names.lookup x := fun _ => rfl
  have g : Good X (fiC fd names f s.heap.objs.size) ⟨locsC vs k, H⟩ { s with heap := h₁, toks := tk' } := by
    refine ⟨⟨ff.kind, ff.nodup, ff.globals, ff.builtins, fun x y c h1 h2 => (one h1).1.trans (one h2).1.symm, fun x c h1 => ?_, fun x c h1 => ?_⟩, rp.ext hk, ⟨⟨_, x.toInCall.ns, fun i x mv h1 h2 h3 => ?_⟩, fun y c h1 => ?_⟩, fun b hb => rp.offNew (hnone hb), fun b hb => rp.baseNone (hnone hb)⟩
    · rw [(one h1).2]; exact Nat.succ_ne_self _
    · rw [(one h1).1]; exact ff.cellk
    · have hmv := locsC_get h3
      have hlt : i < vs.length := (List.getElem?_eq_some_iff.mp hmv).1
      obtain ⟨v, hv, hr⟩ := rv.get hmv
      refine ⟨v, ?_, VRep.keep kf hr⟩
      rw [bindL_all (fun x hx => bl x hx)]
      rw [zip_lookup (ff.nodup.sublist (List.take_sublist ..)) (i := i) (by rw [List.getElem?_take, if_pos (by (first | lia | omega))]; exact h1) hv]
    · have hc := x.cell y c h1
      refine ⟨_, hc, fun i mv h2 h3 => ?_⟩
      have hmv := locsC_get h3
      have hlt : i < vs.length := (List.getElem?_eq_some_iff.mp hmv).1
      have hin : y ∈ names.take n := List.mem_of_getElem? (i := i) (by rw [List.getElem?_take, if_pos (by (first | lia | omega))]; exact h2)
      have := ff.pars y hin
      rw [(one h1).1, ff.cellk] at this; cases this
  refine wpAny_mono (hb s.heap.objs.size _ _ h _ _ (r.deeper _) g) (fun fl s' p => ?_) fun _ _ x => x.elim
  obtain ⟨mf, σ', frp, g', e', q⟩ := p
  have live : ∀ {b}, s.heap.get? b ≠ none → h₁.get? b ≠ none := fun hb => let ⟨o, w⟩ := some_of_ne hb; ne_of_some (hk _ o w)
  have ev : Evo NoF s H s' σ'.H := ⟨e'.gens, e'.os, e'.drawn, fun b o ho nd _ => e'.keep b o (hk b o ho) nd fun hf => (by
      rw [hnone hf] at ho; cases ho), fun b hb => (e'.dom b hb).imp id (fun z => Classical.byContradiction fun w => live w z), fun b hb => e'.mono b (live hb)⟩
  cases mf with
  | next => cases frp; exact ⟨.none, .none, σ'.H, rfl, vN, g'.rep, ev, q⟩
  | brk => cases frp; exact ⟨.none, .none, σ'.H, rfl, vN, g'.rep, ev, q⟩
  | cont => cases frp; exact ⟨.none, .none, σ'.H, rfl, vN, g'.rep, ev, q⟩
  | ret m => obtain ⟨v, rfl, rv'⟩ := frp; exact ⟨v, m, σ'.H, rfl, rv', g'.rep, ev, q⟩
end
section
noncomputable def top : List Stmt := PySem.Challenge.pw_sa0157_01.main.body
noncomputable def fnB : Stmt → List Stmt
  | .FunctionDef _ _ b _ _ _ _ _ _ _ => b
  | _ => []
noncomputable def fnS : Stmt → Scope
  | .FunctionDef _ _ _ _ _ _ s _ _ _ => s
  | _ => default
noncomputable def fnA : Stmt → Arguments
  | .FunctionDef _ a _ _ _ _ _ _ _ _ => a
  | _ => default
noncomputable def fnN : Stmt → Str
  | .FunctionDef n _ _ _ _ _ _ _ _ _ => n
  | _ => default
noncomputable def clB : Stmt → List Stmt
  | .ClassDef _ _ _ b _ _ _ _ _ _ _ => b
  | _ => []
noncomputable def st (i : Nat) : Stmt := top.getD i (.Pass ⟨0, 0, 0, 0⟩)
noncomputable def mth (i j : Nat) : Stmt := (clB (st i)).getD j (.Pass ⟨0, 0, 0, 0⟩)
noncomputable def fnOf (n : Nat) : Stmt := if n < 1000 then st n else mth ((n - 1000) / 100) ((n - 1000) % 100)
noncomputable def mkFd (s : Stmt) (q : Str) (dc pm co : Value) : FuncData :=
  { name := fnN s, qualname := q, params := fnA s, body := .stmts (fnB s), scope := fnS s, globals := mainGlobals, closure := [], defaults := .none, kwdefaults := .none, doc := dc, pyModule := pm, code := co, builtins := builtinsNs }
noncomputable def attrsOf : Nat → List Str
  | 0 => [Str.ofString "texts", Str.ofString "atom_numbers", Str.ofString "functors", Str.ofString "functor_numbers"]
  | 5 => [Str.ofString "kernel", Str.ofString "plan", Str.ofString "code", Str.ofString "seen", Str.ofString "local", Str.ofString "next_temporary"]
  | 6 => [Str.ofString "functor", Str.ofString "args", Str.ofString "goals", Str.ofString "count"]
  | 7 => [Str.ofString "var", Str.ofString "kind", Str.ofString "slot", Str.ofString "first", Str.ofString "unsafe", Str.ofString "last_goal", Str.ofString "count", Str.ofString "first_chunk", Str.ofString "last_chunk"]
  | 8 => [Str.ofString "infos", Str.ofString "chunks", Str.ofString "needs_env", Str.ofString "env_size", Str.ofString "live_after"]
  | 9 => [Str.ofString "infos"]
  | _ => []
noncomputable def mlist : Nat → List (Str × Nat)
  | 0 => [(Str.ofString "atom", 2001), (Str.ofString "functor", 2003), (Str.ofString "func", 2004)]
  | 5 => [(Str.ofString "emit", 2901), (Str.ofString "new_temporary", 2902), (Str.ofString "is_void", 2903), (Str.ofString "is_permanent", 2904), (Str.ofString "place", 2905), (Str.ofString "head_argument", 3000), (Str.ofString "match", 3001), (Str.ofString "match_arguments", 3002), (Str.ofString "match_variable", 3003), (Str.ofString "build", 3100), (Str.ofString "wait_for_nested", 3101), (Str.ofString "take_nested", 3102), (Str.ofString "set_arguments", 3103), (Str.ofString "set_variable", 3104), (Str.ofString "unify_goal", 3200), (Str.ofString "load_arguments", 3300), (Str.ofString "load_variable", 3301), (Str.ofString "number_goal", 3302), (Str.ofString "goal", 3303), (Str.ofString "clause", 3304)]
  | 8 => [(Str.ofString "is_void", 4103)]
  | 9 => [(Str.ofString "meet", 4301), (Str.ofString "terms", 4302)]
  | _ => []
noncomputable def mtab (fa : Nat → Addr) (c : Nat) (x : Str) : Option Addr := ((mlist c).lookup x).map fa
inductive GV | int (n : Int) | blt (s : String) | ty (s : String) | fn (n : Nat) | cls (c : Nat)
noncomputable def GV.val (X : Ctx) (fa : Nat → Addr) (t : Tok) : GV → Value
  | .int n => .int n t
  | .blt s => .builtin s
  | .ty s => .type s
  | .fn n => .ref (fa n)
  | .cls c => .ref (X.cls c)
noncomputable def gTab : List (Str × GV) := [(Str.ofString "CON", .int 4),
  (Str.ofString "ClausePlan", .cls 8),
  (Str.ofString "CodeMaker", .cls 5),
  (Str.ofString "F_CALL1", .int 24),
  (Str.ofString "F_CALL2", .int 25),
  (Str.ofString "F_DOT", .int 0),
  (Str.ofString "F_MINUS", .int 13),
  (Str.ofString "F_MINUS1", .int 12),
  (Str.ofString "F_PLUS", .int 14),
  (Str.ofString "INT", .int 5),
  (Str.ofString "KernelClause", .cls 6),
  (Str.ofString "Survey", .cls 9),
  (Str.ofString "Symbols", .cls 0),
  (Str.ofString "VarInfo", .cls 7),
  (Str.ofString "_law_digit", .fn 38),
  (Str.ofString "_law_frame_right", .fn 43),
  (Str.ofString "_law_goals", .fn 40),
  (Str.ofString "_law_holders", .fn 41),
  (Str.ofString "_law_slots_behind", .fn 42),
  (Str.ofString "_law_term", .fn 39),
  (Str.ofString "abstract_code", .fn 24),
  (Str.ofString "chunk_numbers", .fn 32),
  (Str.ofString "classify", .fn 36),
  (Str.ofString "constant_cell", .fn 18),
  (Str.ofString "fixed_atoms", .fn 8),
  (Str.ofString "fixed_functors", .fn 9),
  (Str.ofString "goal_special", .fn 28),
  (Str.ofString "goal_terms", .fn 27),
  (Str.ofString "isinstance", .blt "isinstance"),
  (Str.ofString "kind_of", .fn 34),
  (Str.ofString "len", .blt "len"),
  (Str.ofString "list", .ty "list"),
  (Str.ofString "occurrences", .fn 14),
  (Str.ofString "range", .ty "range"),
  (Str.ofString "reversed", .ty "reversed"),
  (Str.ofString "set", .ty "set"),
  (Str.ofString "slot_order", .fn 35),
  (Str.ofString "sorted", .blt "sorted"),
  (Str.ofString "tuple", .ty "tuple"),
  (Str.ofString "variables", .fn 12),
  (Str.ofString "variables_of", .fn 13)]
noncomputable def fnTab : List (Nat × List Str × Nat) := [(8, [], 0),
  (9, [], 0),
  (12, [Str.ofString "term"], 1),
  (13, [Str.ofString "terms", Str.ofString "seen", Str.ofString "result", Str.ofString "todo", Str.ofString "term"], 1),
  (14, [Str.ofString "term", Str.ofString "counts", Str.ofString "todo", Str.ofString "part"], 1),
  (18, [Str.ofString "term"], 1),
  (24, [Str.ofString "symbols", Str.ofString "kernel", Str.ofString "plan"], 3),
  (27, [Str.ofString "goal", Str.ofString "kind"], 1),
  (28, [Str.ofString "goal"], 1),
  (32, [Str.ofString "goals", Str.ofString "chunks", Str.ofString "chunk", Str.ofString "goal"], 1),
  (34, [Str.ofString "info"], 1),
  (35, [Str.ofString "infos", Str.ofString "order", Str.ofString "k", Str.ofString "info", Str.ofString "at"], 1),
  (36, [Str.ofString "kernel", Str.ofString "goals", Str.ofString "chunks", Str.ofString "survey", Str.ofString "needs_env", Str.ofString "at", Str.ofString "goal", Str.ofString "special", Str.ofString "infos", Str.ofString "k", Str.ofString "order", Str.ofString "info", Str.ofString "live_after", Str.ofString "live"], 1),
  (38, [Str.ofString "tape", Str.ofString "limit", Str.ofString "cell", Str.ofString "figure", Str.ofString "rest"], 2),
  (39, [Str.ofString "tape", Str.ofString "deep", Str.ofString "way", Str.ofString "one", Str.ofString "two"], 2),
  (40, [Str.ofString "tape", Str.ofString "made", Str.ofString "kept", Str.ofString "lap", Str.ofString "way", Str.ofString "left", Str.ofString "right"], 1),
  (41, [Str.ofString "code", Str.ofString "table", Str.ofString "stretch", Str.ofString "row", Str.ofString "part", Str.ofString "parts"], 1),
  (42, [Str.ofString "code", Str.ofString "at", Str.ofString "found", Str.ofString "row", Str.ofString "part"], 2),
  (2000, [Str.ofString "self", Str.ofString "text", Str.ofString "row"], 1),
  (2001, [Str.ofString "self", Str.ofString "text", Str.ofString "found", Str.ofString "number"], 2),
  (2003, [Str.ofString "self", Str.ofString "atom", Str.ofString "arity", Str.ofString "key", Str.ofString "found", Str.ofString "number"], 3),
  (2004, [Str.ofString "self", Str.ofString "text", Str.ofString "arity"], 3),
  (2900, [Str.ofString "self", Str.ofString "kernel", Str.ofString "plan"], 3),
  (2901, [Str.ofString "self", Str.ofString "instruction"], 2),
  (2902, [Str.ofString "self", Str.ofString "number"], 1),
  (2903, [Str.ofString "self", Str.ofString "k"], 2),
  (2904, [Str.ofString "self", Str.ofString "k"], 2),
  (2905, [Str.ofString "self", Str.ofString "k", Str.ofString "info"], 2),
  (3000, [Str.ofString "self", Str.ofString "term", Str.ofString "source", Str.ofString "k"], 3),
  (3001, [Str.ofString "self", Str.ofString "term", Str.ofString "source", Str.ofString "waiting", Str.ofString "node", Str.ofString "register"], 3),
  (3002, [Str.ofString "self", Str.ofString "args", Str.ofString "waiting", Str.ofString "nested", Str.ofString "voids", Str.ofString "arg", Str.ofString "temporary"], 3),
  (3003, [Str.ofString "self", Str.ofString "k"], 2),
  (3100, [Str.ofString "self", Str.ofString "term", Str.ofString "target", Str.ofString "work", Str.ofString "built", Str.ofString "ready", Str.ofString "node", Str.ofString "pieces", Str.ofString "register"], 3),
  (3101, [Str.ofString "self", Str.ofString "args", Str.ofString "work", Str.ofString "last", Str.ofString "at"], 3),
  (3102, [Str.ofString "self", Str.ofString "args", Str.ofString "built", Str.ofString "pieces", Str.ofString "last", Str.ofString "at"], 3),
  (3103, [Str.ofString "self", Str.ofString "pieces", Str.ofString "voids", Str.ofString "piece"], 2),
  (3104, [Str.ofString "self", Str.ofString "k"], 2),
  (3300, [Str.ofString "self", Str.ofString "args", Str.ofString "leaving", Str.ofString "number", Str.ofString "arg", Str.ofString "target"], 3),
  (3301, [Str.ofString "self", Str.ofString "k", Str.ofString "target", Str.ofString "leaving", Str.ofString "info"], 4),
  (3302, [Str.ofString "self", Str.ofString "name", Str.ofString "k"], 3),
  (3303, [Str.ofString "self", Str.ofString "index", Str.ofString "goal", Str.ofString "kind"], 2),
  (3304, [Str.ofString "self", Str.ofString "plan", Str.ofString "goals", Str.ofString "number", Str.ofString "arg", Str.ofString "last", Str.ofString "index"], 1),
  (3600, [Str.ofString "self", Str.ofString "functor", Str.ofString "args", Str.ofString "goals", Str.ofString "count"], 5),
  (4000, [Str.ofString "self", Str.ofString "k", Str.ofString "first"], 3),
  (4100, [Str.ofString "self", Str.ofString "infos", Str.ofString "chunks", Str.ofString "needs_env", Str.ofString "env_size", Str.ofString "live_after"], 6),
  (4300, [Str.ofString "self"], 1),
  (4301, [Str.ofString "self", Str.ofString "k", Str.ofString "first", Str.ofString "goal", Str.ofString "chunk", Str.ofString "count", Str.ofString "info"], 6),
  (4302, [Str.ofString "self", Str.ofString "terms", Str.ofString "place", Str.ofString "goal", Str.ofString "chunk", Str.ofString "term", Str.ofString "counts", Str.ofString "k"], 5)]
noncomputable def nms (i : Nat) : List Str := ((fnTab[i]?).map (·.2.1)).getD []
noncomputable def cnms : Nat → List Str
  | 43 => [Str.ofString "code", Str.ofString "slots_", Str.ofString "words", Str.ofString "last"]
  | 44 => [Str.ofString "script", Str.ofString "tape", Str.ofString "names", Str.ofString "heads", Str.ofString "clause_", Str.ofString "code", Str.ofString "table", Str.ofString "part", Str.ofString "at"]
  | _ => []
noncomputable def initTab : List (Nat × Nat) := [(0, 2000), (5, 2900), (6, 3600), (7, 4000), (8, 4100), (9, 4300)]
structure PF (X : Ctx) (fa : Nat → Addr) (tk : Nat → Tok) : Prop where
  at_ : X.attrs = attrsOf
  mt : Meths X (mtab fa)
  g : ∀ (i : Nat) (x : Str) (v : GV), gTab[i]? = some (x, v) → X.mg x = some (v.val X fa (tk i)) ∨ (X.mg x = none ∧ X.mb x = some (v.val X fa (tk i)))
  kf : ∀ (i n : Nat) (x : Str), gTab[i]? = some (x, .fn n) → keepIn X.K (.ref (fa n)) = true
  kc : ∀ (i c : Nat) (x : Str), gTab[i]? = some (x, .cls c) → keepIn X.K (.ref (X.cls c)) = true
  nw : ∀ (i c n : Nat), initTab[i]? = some (c, n) → newOkB X.K (X.cls c) (fa n) = true
  fn43 : ∃ q dc pm co, FnFactC X (fa 43) (mkFd (fnOf 43) q dc pm co) (cnms 43) 2 (fnB (fnOf 43)) (Str.ofString "words")
  fn44 : ∃ q dc pm co, FnFactC X (fa 44) (mkFd (fnOf 44) q dc pm co) (cnms 44) 1 (fnB (fnOf 44)) (Str.ofString "tape")
  fn : ∀ (i n k : Nat) (l : List Str), fnTab[i]? = some (n, l, k) → ∃ q dc pm co, FnFact X (fa n) (mkFd (fnOf n) q dc pm co) l k (fnB (fnOf n))
variable {X : Ctx} {fa : Nat → Addr} {tk : Nat → Tok}
theorem PF.ai (pf : PF X fa tk) {c i : Nat} {x : Str} (h : (attrsOf c).findIdx? (· == x) = some i) : aIdx X c x = some i := by unfold aIdx; rw [pf.at_]; exact h
theorem ai0_texts (pf : PF X fa tk) : aIdx X 0 (Str.ofString "texts") = some 0 := pf.ai (by kernel_rfl)
theorem ai0_atom_numbers (pf : PF X fa tk) : aIdx X 0 (Str.ofString "atom_numbers") = some 1 := pf.ai (by kernel_rfl)
theorem ai0_functors (pf : PF X fa tk) : aIdx X 0 (Str.ofString "functors") = some 2 := pf.ai (by kernel_rfl)
theorem ai0_functor_numbers (pf : PF X fa tk) : aIdx X 0 (Str.ofString "functor_numbers") = some 3 := pf.ai (by kernel_rfl)
theorem mt0_atom : mtab fa 0 (Str.ofString "atom") = some (fa 2001) := by kernel_rfl
theorem mt0_functor : mtab fa 0 (Str.ofString "functor") = some (fa 2003) := by kernel_rfl
theorem mt0_func : mtab fa 0 (Str.ofString "func") = some (fa 2004) := by kernel_rfl
theorem no0 (pf : PF X fa tk) : nonesC X 0 = [none, none, none, none] := by unfold nonesC; rw [pf.at_]; rfl
theorem ai5_kernel (pf : PF X fa tk) : aIdx X 5 (Str.ofString "kernel") = some 0 := pf.ai (by kernel_rfl)
theorem ai5_plan (pf : PF X fa tk) : aIdx X 5 (Str.ofString "plan") = some 1 := pf.ai (by kernel_rfl)
theorem ai5_code (pf : PF X fa tk) : aIdx X 5 (Str.ofString "code") = some 2 := pf.ai (by kernel_rfl)
theorem ai5_seen (pf : PF X fa tk) : aIdx X 5 (Str.ofString "seen") = some 3 := pf.ai (by kernel_rfl)
theorem ai5_local (pf : PF X fa tk) : aIdx X 5 (Str.ofString "local") = some 4 := pf.ai (by kernel_rfl)
theorem ai5_next_temporary (pf : PF X fa tk) : aIdx X 5 (Str.ofString "next_temporary") = some 5 := pf.ai (by kernel_rfl)
theorem mt5_emit : mtab fa 5 (Str.ofString "emit") = some (fa 2901) := by kernel_rfl
theorem mt5_new_temporary : mtab fa 5 (Str.ofString "new_temporary") = some (fa 2902) := by kernel_rfl
theorem mt5_is_void : mtab fa 5 (Str.ofString "is_void") = some (fa 2903) := by kernel_rfl
theorem mt5_is_permanent : mtab fa 5 (Str.ofString "is_permanent") = some (fa 2904) := by kernel_rfl
theorem mt5_place : mtab fa 5 (Str.ofString "place") = some (fa 2905) := by kernel_rfl
theorem mt5_head_argument : mtab fa 5 (Str.ofString "head_argument") = some (fa 3000) := by kernel_rfl
theorem mt5_match : mtab fa 5 (Str.ofString "match") = some (fa 3001) := by kernel_rfl
theorem mt5_match_arguments : mtab fa 5 (Str.ofString "match_arguments") = some (fa 3002) := by kernel_rfl
theorem mt5_match_variable : mtab fa 5 (Str.ofString "match_variable") = some (fa 3003) := by kernel_rfl
theorem mt5_build : mtab fa 5 (Str.ofString "build") = some (fa 3100) := by kernel_rfl
theorem mt5_wait_for_nested : mtab fa 5 (Str.ofString "wait_for_nested") = some (fa 3101) := by kernel_rfl
theorem mt5_take_nested : mtab fa 5 (Str.ofString "take_nested") = some (fa 3102) := by kernel_rfl
theorem mt5_set_arguments : mtab fa 5 (Str.ofString "set_arguments") = some (fa 3103) := by kernel_rfl
theorem mt5_set_variable : mtab fa 5 (Str.ofString "set_variable") = some (fa 3104) := by kernel_rfl
theorem mt5_unify_goal : mtab fa 5 (Str.ofString "unify_goal") = some (fa 3200) := by kernel_rfl
theorem mt5_load_arguments : mtab fa 5 (Str.ofString "load_arguments") = some (fa 3300) := by kernel_rfl
theorem mt5_load_variable : mtab fa 5 (Str.ofString "load_variable") = some (fa 3301) := by kernel_rfl
theorem mt5_number_goal : mtab fa 5 (Str.ofString "number_goal") = some (fa 3302) := by kernel_rfl
theorem mt5_goal : mtab fa 5 (Str.ofString "goal") = some (fa 3303) := by kernel_rfl
theorem mt5_clause : mtab fa 5 (Str.ofString "clause") = some (fa 3304) := by kernel_rfl
theorem no5 (pf : PF X fa tk) : nonesC X 5 = [none, none, none, none, none, none] := by unfold nonesC; rw [pf.at_]; rfl
theorem ai6_functor (pf : PF X fa tk) : aIdx X 6 (Str.ofString "functor") = some 0 := pf.ai (by kernel_rfl)
theorem ai6_args (pf : PF X fa tk) : aIdx X 6 (Str.ofString "args") = some 1 := pf.ai (by kernel_rfl)
theorem ai6_goals (pf : PF X fa tk) : aIdx X 6 (Str.ofString "goals") = some 2 := pf.ai (by kernel_rfl)
theorem ai6_count (pf : PF X fa tk) : aIdx X 6 (Str.ofString "count") = some 3 := pf.ai (by kernel_rfl)
theorem no6 (pf : PF X fa tk) : nonesC X 6 = [none, none, none, none] := by unfold nonesC; rw [pf.at_]; rfl
theorem ai7_var (pf : PF X fa tk) : aIdx X 7 (Str.ofString "var") = some 0 := pf.ai (by kernel_rfl)
theorem ai7_kind (pf : PF X fa tk) : aIdx X 7 (Str.ofString "kind") = some 1 := pf.ai (by kernel_rfl)
theorem ai7_slot (pf : PF X fa tk) : aIdx X 7 (Str.ofString "slot") = some 2 := pf.ai (by kernel_rfl)
theorem ai7_first (pf : PF X fa tk) : aIdx X 7 (Str.ofString "first") = some 3 := pf.ai (by kernel_rfl)
theorem ai7_unsafe (pf : PF X fa tk) : aIdx X 7 (Str.ofString "unsafe") = some 4 := pf.ai (by kernel_rfl)
theorem ai7_last_goal (pf : PF X fa tk) : aIdx X 7 (Str.ofString "last_goal") = some 5 := pf.ai (by kernel_rfl)
theorem ai7_count (pf : PF X fa tk) : aIdx X 7 (Str.ofString "count") = some 6 := pf.ai (by kernel_rfl)
theorem ai7_first_chunk (pf : PF X fa tk) : aIdx X 7 (Str.ofString "first_chunk") = some 7 := pf.ai (by kernel_rfl)
theorem ai7_last_chunk (pf : PF X fa tk) : aIdx X 7 (Str.ofString "last_chunk") = some 8 := pf.ai (by kernel_rfl)
theorem no7 (pf : PF X fa tk) : nonesC X 7 = [none, none, none, none, none, none, none, none, none] := by unfold nonesC; rw [pf.at_]; rfl
theorem ai8_infos (pf : PF X fa tk) : aIdx X 8 (Str.ofString "infos") = some 0 := pf.ai (by kernel_rfl)
theorem ai8_chunks (pf : PF X fa tk) : aIdx X 8 (Str.ofString "chunks") = some 1 := pf.ai (by kernel_rfl)
theorem ai8_needs_env (pf : PF X fa tk) : aIdx X 8 (Str.ofString "needs_env") = some 2 := pf.ai (by kernel_rfl)
theorem ai8_env_size (pf : PF X fa tk) : aIdx X 8 (Str.ofString "env_size") = some 3 := pf.ai (by kernel_rfl)
theorem ai8_live_after (pf : PF X fa tk) : aIdx X 8 (Str.ofString "live_after") = some 4 := pf.ai (by kernel_rfl)
theorem mt8_is_void : mtab fa 8 (Str.ofString "is_void") = some (fa 4103) := by kernel_rfl
theorem no8 (pf : PF X fa tk) : nonesC X 8 = [none, none, none, none, none] := by unfold nonesC; rw [pf.at_]; rfl
theorem ai9_infos (pf : PF X fa tk) : aIdx X 9 (Str.ofString "infos") = some 0 := pf.ai (by kernel_rfl)
theorem mt9_meet : mtab fa 9 (Str.ofString "meet") = some (fa 4301) := by kernel_rfl
theorem mt9_terms : mtab fa 9 (Str.ofString "terms") = some (fa 4302) := by kernel_rfl
theorem no9 (pf : PF X fa tk) : nonesC X 9 = [none] := by unfold nonesC; rw [pf.at_]; rfl
end
local macro_rules | `(tactic| walk_at "s") => `(tactic| ((try show wSeq _ _ _ _); (try dsimp only [wSeq, seqQ, wEnd, wCtl, wIf, wTCmp, wCmp, wIdx, wLoc, wConst, wOB, wCons, wNil, wRet, wAsg, wStore, setC, getC, getO, wBin, wAugName, wAugIdx, wAugAttr, wAsgIdx, wAsgAttr, wTOr, wTAnd, wTNot, wB, wTVal, wNeg, wCall, wMeth, wMethB, wTup, wList, wAttr, wAndV, wExpr, wDict0, wUnpack, wSt2, wSt0, wSrc, wRng, wFor, wListRev, wExtRev, wIsTup, wListRange, wSliceTo, wSliceFromL, wSliceFromT, wComp, valsAt, atC, locsC, locsC.nones, retOf_ret, retOf_next, loopQ, FSrc.items])))
section
variable {X : Ctx} {fa : Nat → Addr} {tk : Nat → Tok} {d : Nat}
structure Keep (W : Addr → Prop) (H H' : MH) : Prop where
  same : ∀ b, H b ≠ none → ¬ W b → H' b = H b
  dom : ∀ b, H b ≠ none → H' b ≠ none
theorem Keep.refl (W : Addr → Prop) (H : MH) : Keep W H H := ⟨fun _ _ _ => rfl, fun _ h => h⟩
theorem Keep.trans {W : Addr → Prop} {H H' H'' : MH} (a : Keep W H H') (b : Keep W H' H'') : Keep W H H'' :=
  ⟨fun x h w => (b.same x (a.dom x h) w).trans (a.same x h w), fun x h => b.dom x (a.dom x h)⟩
theorem Keep.mono {W W' : Addr → Prop} {H H' : MH} (a : Keep W H H') (k : ∀ b, W b → W' b) : Keep W' H H' := ⟨fun x h w => a.same x h fun z => w (k x z), a.dom⟩
theorem Keep.set {W : Addr → Prop} {H : MH} {a : Addr} {c : Cell} (h : W a ∨ H a = none) : Keep W H (H.set a c) :=
  ⟨fun b hb w => H.set_ne _ (by rintro rfl; exact h.elim w hb), fun b hb => by
    by_cases q : b = a
    · rw [q, H.set_self]; nofun
    · rw [H.set_ne _ q]; exact hb⟩
theorem Keep.at {W : Addr → Prop} {H H' : MH} (k : Keep W H H') {a : Addr} {c : Cell} (h : H a = some c) (w : ¬ W a) : H' a = some c := (k.same a (ne_of_some h) w).trans h
theorem Keep.off {W : Addr → Prop} {H H' : MH} (k : Keep (fun b => W b ∨ b = a) H H') (h : H a = none) : Keep W H H' :=
  ⟨fun b hb w => k.same b hb fun z => z.elim w (by rintro rfl; exact hb h), k.dom⟩
theorem set_at {H : MH} {a b : Addr} {c c' : Cell} (h : H b = some c) (n : b ≠ a) : H.set a c' b = some c := (H.set_ne _ n).trans h
inductive Kd where | void | temp | perm
  deriving DecidableEq
noncomputable def Kd.str : Kd → Str
  | .void => Str.ofString "void"
  | .temp => Str.ofString "temp"
  | .perm => Str.ofString "perm"
structure VI where
  kind : Kd
  slot : Int
  last : Int
  unsafe_ : Bool
structure Em where
  s : Addr
  kA : Addr
  pA : Addr
  code : Addr
  seen : Addr
  loc : Addr
  inf : Addr
  ia : Int → Addr
  ks : List Int
  vi : Int → VI
noncomputable def setOk (H : MH) (a : Addr) : Prop := ∃ l, H a = some (.S l) ∧ l.Nodup ∧ ∀ x ∈ l, 0 ≤ x ∧ x < 7
structure Emit (E : Em) (H : MH) (rows : List MV) (nt : Int) : Prop where
  self : H E.s = some (.A 5 [some (.inst 6 E.kA), some (.inst 8 E.pA), some (.ref E.code), some (.ref E.seen), some (.ref E.loc), some (.int nt)])
  code : H E.code = some (.L rows)
  seen : setOk H E.seen
  loc : setOk H E.loc
  plan : ∃ x1 x2 x3 x4, H E.pA = some (.A 8 [some (.ref E.inf), x1, x2, x3, x4])
  infos : ∃ kvs o, H E.inf = some (.D (.v kvs) o) ∧ ∀ k ∈ E.ks, dget kvs (.i k) = some (.inst 7 (E.ia k))
  ias : ∀ k ∈ E.ks, ∃ x0 x3 x6 x7 x8, H (E.ia k) = some (.A 7 [x0, some (.str (E.vi k).kind.str), some (.int (E.vi k).slot), x3, some (.bool (E.vi k).unsafe_), some (.int (E.vi k).last), x6, x7, x8])
  ks : ∀ k ∈ E.ks, 0 ≤ k ∧ k < 7
  sl : E.seen ≠ E.loc
  bound : rows.length ≤ 50000
theorem ne_cells {H : MH} {a b : Addr} {c c' : Cell} (h : H a = some c) (h' : H b = some c') (n : c = c' → False) : a ≠ b := by
  rintro rfl; rw [h] at h'; cases h'; exact n rfl
theorem setOk.upd {H : MH} {a b : Addr} {c : Cell} (h : setOk H b) (n : b ≠ a) : setOk (H.set a c) b := let ⟨l, q, r⟩ := h; ⟨l, set_at q n, r⟩
theorem Emit.upd {E : Em} {H : MH} {rows : List MV} {nt : Int} (e : Emit E H rows nt) {a : Addr} {c : Cell} (h1 : a ≠ E.s) (h2 : a ≠ E.code) (h3 : a ≠ E.seen) (h4 : a ≠ E.loc) (h5 : ∀ c l, H a ≠ some (.A c l)) (h6 : ∀ v o, H a ≠ some (.D v o)) : Emit E (H.set a c) rows nt := by
  obtain ⟨x1, x2, x3, x4, hp⟩ := e.plan
  obtain ⟨kvs, o, hi, hg⟩ := e.infos
  refine ⟨set_at e.self h1.symm, set_at e.code h2.symm, e.seen.upd h3.symm, e.loc.upd h4.symm, ⟨x1, x2, x3, x4, set_at hp ?_⟩, ⟨kvs, o, set_at hi ?_, hg⟩, fun k hk => ?_, e.ks, e.sl, e.bound⟩
  · rintro rfl; exact h5 _ _ hp
  · rintro rfl; exact h6 _ _ hi
  · obtain ⟨y0, y3, y6, y7, y8, hy⟩ := e.ias k hk
    exact ⟨y0, y3, y6, y7, y8, set_at hy (by rintro rfl; exact h5 _ _ hy)⟩
theorem Emit.own {E : Em} {H : MH} {rows rows' : List MV} {nt nt' : Int} (e : Emit E H rows nt) {a : Addr} {c : Cell} (h5 : ∀ b c l, b ≠ E.s → H b = some (.A c l) → b ≠ a) (h6 : ∀ b v o, H b = some (.D v o) → b ≠ a)
    (h1 : (H.set a c) E.s = some (.A 5 [some (.inst 6 E.kA), some (.inst 8 E.pA), some (.ref E.code), some (.ref E.seen), some (.ref E.loc), some (.int nt')])) (h2 : (H.set a c) E.code = some (.L rows')) (h3 : setOk (H.set a c) E.seen) (h4 : setOk (H.set a c) E.loc) (hz : rows'.length ≤ 50000)
    (p1 : E.pA ≠ E.s) (p2 : ∀ k ∈ E.ks, E.ia k ≠ E.s) : Emit E (H.set a c) rows' nt' := by
  obtain ⟨x1, x2, x3, x4, hp⟩ := e.plan
  obtain ⟨kvs, o, hi, hg⟩ := e.infos
  exact ⟨h1, h2, h3, h4, ⟨x1, x2, x3, x4, set_at hp (h5 _ _ _ p1 hp)⟩, ⟨kvs, o, set_at hi (h6 _ _ _ hi), hg⟩, fun k hk => let ⟨y0, y3, y6, y7, y8, hy⟩ := e.ias k hk; ⟨y0, y3, y6, y7, y8, set_at hy (h5 _ _ _ (p2 k hk) hy)⟩, e.ks, e.sl, hz⟩
theorem Emit.pne {E : Em} {H : MH} {rows : List MV} {nt : Int} (e : Emit E H rows nt) : E.pA ≠ E.s := by
  obtain ⟨x1, x2, x3, x4, hp⟩ := e.plan
  exact ne_cells hp e.self nofun
theorem Emit.ine {E : Em} {H : MH} {rows : List MV} {nt : Int} (e : Emit E H rows nt) : ∀ k ∈ E.ks, E.ia k ≠ E.s := fun k hk => by
  obtain ⟨y0, y3, y6, y7, y8, hy⟩ := e.ias k hk
  exact ne_cells hy e.self nofun
theorem setOk.apart {H : MH} {a b : Addr} {c : Cell} (h : setOk H a) (h' : H b = some c) (n : ∀ l, c ≠ .S l) : a ≠ b := let ⟨l, q, _⟩ := h; ne_cells q h' fun e => n l e.symm
theorem Emit.push {E : Em} {H : MH} {rows rows' : List MV} {nt : Int} (e : Emit E H rows nt) (hz : rows'.length ≤ 50000) : Emit E (H.set E.code (.L rows')) rows' nt :=
  e.own (fun b c l _ h => ne_cells h e.code nofun) (fun b v o h => ne_cells h e.code nofun) (set_at e.self (ne_cells e.self e.code nofun)) (H.set_self ..) (e.seen.upd (e.seen.apart e.code nofun)) (e.loc.upd (e.loc.apart e.code nofun)) hz e.pne e.ine
theorem Emit.setSeen {E : Em} {H : MH} {rows : List MV} {nt : Int} (e : Emit E H rows nt) {l : List Int} (h2 : l.Nodup) (h3 : ∀ x ∈ l, 0 ≤ x ∧ x < 7) : Emit E (H.set E.seen (.S l)) rows nt :=
  have ⟨l0, q, _⟩ := e.seen
  e.own (fun b c l _ h => ne_cells h q nofun) (fun b v o h => ne_cells h q nofun) (set_at e.self (ne_cells e.self q nofun)) (set_at e.code (ne_cells e.code q nofun)) ⟨l, H.set_self .., h2, h3⟩ (e.loc.upd e.sl.symm) e.bound e.pne e.ine
theorem Emit.setLoc {E : Em} {H : MH} {rows : List MV} {nt : Int} (e : Emit E H rows nt) {l : List Int} (h2 : l.Nodup) (h3 : ∀ x ∈ l, 0 ≤ x ∧ x < 7) : Emit E (H.set E.loc (.S l)) rows nt :=
  have ⟨l0, q, _⟩ := e.loc
  e.own (fun b c l _ h => ne_cells h q nofun) (fun b v o h => ne_cells h q nofun) (set_at e.self (ne_cells e.self q nofun)) (set_at e.code (ne_cells e.code q nofun)) (e.seen.upd e.sl) ⟨l, H.set_self .., h2, h3⟩ e.bound e.pne e.ine
noncomputable def p2901 (X : Ctx) (d : Nat) (fa : Nat → Addr) : WS := wSeq (wExpr (wMethB "list" bAppend (wAttr X (Str.ofString "code") (wLoc 0)) (wCons (wLoc 1) wNil))) wEnd
theorem d2901 (ok : X.Ok) (cl : X.Cls) (pf : PF X fa tk) {q : Str} {dc pm co : Value} {L : Addr} : SS X d (fiOf (mkFd (fnOf 2901) q dc pm co) (nms 23) (fa 2901) L) (fnB (fnOf 2901)) (p2901 X d fa) :=
  have s0 : Slot (fiOf (mkFd (fnOf 2901) q dc pm co) (nms 23) (fa 2901) L) 0 (Str.ofString "self") := .loc (by rfl) (by kernel_rfl) (by decide)
  have s1 : Slot (fiOf (mkFd (fnOf 2901) q dc pm co) (nms 23) (fa 2901) L) 1 (Str.ofString "instruction") := .loc (by rfl) (by kernel_rfl) (by decide)
  (SS.cons (SX.expr (SE.methB (SE.attr ok cl (SE.loc s0)) (SEs.cons (SE.loc s1) SEs.nil) (by decide) PySem.F.plainAttrs_list PySem.F.slot_list_append PySem.F.type_list_append okAppend (by rfl) (by rfl) (by rfl))) SS.nil)
theorem c2901 (ok : X.Ok) (cl : X.Cls) (pf : PF X fa tk) {E : Em} {H : MH} {rows : List MV} {nt : Int} {v : MV} {Q : MV → MH → Prop} (e : Emit E H rows nt)
    (K : Q .none (H.set E.code (.L (rows ++ [v])))) : CallsTo X (d + 1) (.ref (fa 2901)) [.inst 5 E.s, v] Q H := by
  obtain ⟨q, dc, pm, co, ff⟩ := pf.fn 23 _ _ _ rfl; refine callsTo_def ok ff (fun L => d2901 ok cl pf) rfl 0 ?_
  walk_at "s"
  exact ⟨_, .mk e.self (ai5_code pf) rfl, _, .mk e.code rfl, .mk e.code (Nat.le_trans e.bound (by decide)) K⟩
noncomputable def p2902_2 (X : Ctx) (d : Nat) (fa : Nat → Addr) : WS := wSeq (wRet (wTup (wCons (wConst (.str (Str.ofString "t"))) (wCons (wLoc 1) wNil)))) wEnd
noncomputable def p2902_1 (X : Ctx) (d : Nat) (fa : Nat → Addr) : WS := wSeq (wAsgAttr X (wBin .Add (wLoc 1) (wConst (.int 1))) (wLoc 0) (Str.ofString "next_temporary")) (p2902_2 X d fa)
noncomputable def p2902 (X : Ctx) (d : Nat) (fa : Nat → Addr) : WS := wSeq (wAsg (wAttr X (Str.ofString "next_temporary") (wLoc 0)) (wStore 1)) (p2902_1 X d fa)
theorem d2902 (ok : X.Ok) (cl : X.Cls) (pf : PF X fa tk) {q : Str} {dc pm co : Value} {L : Addr} : SS X d (fiOf (mkFd (fnOf 2902) q dc pm co) (nms 24) (fa 2902) L) (fnB (fnOf 2902)) (p2902 X d fa) :=
  have s0 : Slot (fiOf (mkFd (fnOf 2902) q dc pm co) (nms 24) (fa 2902) L) 0 (Str.ofString "self") := .loc (by rfl) (by kernel_rfl) (by decide)
  have s1 : Slot (fiOf (mkFd (fnOf 2902) q dc pm co) (nms 24) (fa 2902) L) 1 (Str.ofString "number") := .loc (by rfl) (by kernel_rfl) (by decide)
  (SS.cons (SX.asgName (SE.attr ok cl (SE.loc s0)) s1) (SS.cons (SX.asgAttr ok cl (SE.bin (SE.loc s1) SE.int) (SE.loc s0)) (SS.cons (SX.ret (SE.tup (SEs.cons SE.str (SEs.cons (SE.loc s1) SEs.nil)))) SS.nil)))
theorem c2902 (ok : X.Ok) (cl : X.Cls) (pf : PF X fa tk) {E : Em} {H : MH} {rows : List MV} {nt : Int} {Q : MV → MH → Prop} (e : Emit E H rows nt)
    (K : ∀ c, Emit E (H.set E.s c) rows (nt + 1) → Q (.tup [.str (Str.ofString "t"), .int nt]) (H.set E.s c)) : CallsTo X (d + 1) (.ref (fa 2902)) [.inst 5 E.s] Q H := by
  obtain ⟨q, dc, pm, co, ff⟩ := pf.fn 24 _ _ _ rfl; refine callsTo_def ok ff (fun L => d2902 ok cl pf) rfl 1 ?_
  walk_at "s"
  refine ⟨_, .mk e.self (ai5_next_temporary pf) rfl, ?_⟩
  walk_at "s"
  refine ⟨_, .add, _, _, .mk e.self (ai5_next_temporary pf) (ltB rfl), ?_⟩
  walk_at "s"
  exact K _ (e.own (fun b c l n h => n) (fun b v o h => ne_cells h e.self nofun) (H.set_self ..) (set_at e.code (ne_cells e.code e.self nofun)) (e.seen.upd (e.seen.apart e.self nofun)) (e.loc.upd (e.loc.apart e.self nofun)) e.bound e.pne e.ine)
theorem kd_void {k : Kd} : (k.str == Str.ofString "void") = decide (k = .void) := by cases k <;> kernel_rfl
theorem kd_perm {k : Kd} : (k.str == Str.ofString "perm") = decide (k = .perm) := by cases k <;> kernel_rfl
theorem Emit.kind (pf : PF X fa tk) {E : Em} {H : MH} {rows : List MV} {nt k : Int} (e : Emit E H rows nt) (hk : k ∈ E.ks) {K : MV → Prop} (q : K (.str (E.vi k).kind.str)) :
    ∃ m, AttrR X H (Str.ofString "plan") (.inst 5 E.s) m ∧ ∃ m_1, AttrR X H (Str.ofString "infos") m m_1 ∧ ∃ m, IdxR H m_1 (.int k) m ∧ ∃ m_1, AttrR X H (Str.ofString "kind") m m_1 ∧ K m_1 := by
  obtain ⟨x1, x2, x3, x4, hp⟩ := e.plan
  obtain ⟨kvs, o, hD, hd⟩ := e.infos
  obtain ⟨y0, y3, y6, y7, y8, hi⟩ := e.ias k hk
  exact ⟨_, .mk e.self (ai5_plan pf) rfl, _, .mk hp (ai8_infos pf) rfl, _, .dict hD .i (hd k hk), _, .mk hi (ai7_kind pf) rfl, q⟩
noncomputable def p2903 (X : Ctx) (d : Nat) (fa : Nat → Addr) : WS := wSeq (wRet (wCmp .Eq (wAttr X (Str.ofString "kind") (wIdx (wAttr X (Str.ofString "infos") (wAttr X (Str.ofString "plan") (wLoc 0))) (wLoc 1))) (wConst (.str (Str.ofString "void"))))) wEnd
theorem d2903 (ok : X.Ok) (cl : X.Cls) (pf : PF X fa tk) {q : Str} {dc pm co : Value} {L : Addr} : SS X d (fiOf (mkFd (fnOf 2903) q dc pm co) (nms 25) (fa 2903) L) (fnB (fnOf 2903)) (p2903 X d fa) :=
  have s0 : Slot (fiOf (mkFd (fnOf 2903) q dc pm co) (nms 25) (fa 2903) L) 0 (Str.ofString "self") := .loc (by rfl) (by kernel_rfl) (by decide)
  have s1 : Slot (fiOf (mkFd (fnOf 2903) q dc pm co) (nms 25) (fa 2903) L) 1 (Str.ofString "k") := .loc (by rfl) (by kernel_rfl) (by decide)
  (SS.cons (SX.ret (SE.cmp ok (SE.attr ok cl (SE.idx (SE.attr ok cl (SE.attr ok cl (SE.loc s0))) (SE.loc s1))) SE.str)) SS.nil)
theorem c2903 (ok : X.Ok) (cl : X.Cls) (pf : PF X fa tk) {E : Em} {H : MH} {rows : List MV} {nt k : Int} {Q : MV → MH → Prop} (e : Emit E H rows nt) (hk : k ∈ E.ks)
    (K : Q (.bool (decide ((E.vi k).kind = .void))) H) : CallsTo X (d + 1) (.ref (fa 2903)) [.inst 5 E.s, .int k] Q H := by
  obtain ⟨q, dc, pm, co, ff⟩ := pf.fn 25 _ _ _ rfl; refine callsTo_def ok ff (fun L => d2903 ok cl pf) rfl 0 ?_
  walk_at "s"
  exact e.kind pf hk ⟨_, .eq .str, by rw [kd_void]; exact K⟩
noncomputable def p2904 (X : Ctx) (d : Nat) (fa : Nat → Addr) : WS := wSeq (wRet (wCmp .Eq (wAttr X (Str.ofString "kind") (wIdx (wAttr X (Str.ofString "infos") (wAttr X (Str.ofString "plan") (wLoc 0))) (wLoc 1))) (wConst (.str (Str.ofString "perm"))))) wEnd
theorem d2904 (ok : X.Ok) (cl : X.Cls) (pf : PF X fa tk) {q : Str} {dc pm co : Value} {L : Addr} : SS X d (fiOf (mkFd (fnOf 2904) q dc pm co) (nms 26) (fa 2904) L) (fnB (fnOf 2904)) (p2904 X d fa) :=
  have s0 : Slot (fiOf (mkFd (fnOf 2904) q dc pm co) (nms 26) (fa 2904) L) 0 (Str.ofString "self") := .loc (by rfl) (by kernel_rfl) (by decide)
  have s1 : Slot (fiOf (mkFd (fnOf 2904) q dc pm co) (nms 26) (fa 2904) L) 1 (Str.ofString "k") := .loc (by rfl) (by kernel_rfl) (by decide)
  (SS.cons (SX.ret (SE.cmp ok (SE.attr ok cl (SE.idx (SE.attr ok cl (SE.attr ok cl (SE.loc s0))) (SE.loc s1))) SE.str)) SS.nil)
theorem c2904 (ok : X.Ok) (cl : X.Cls) (pf : PF X fa tk) {E : Em} {H : MH} {rows : List MV} {nt k : Int} {Q : MV → MH → Prop} (e : Emit E H rows nt) (hk : k ∈ E.ks)
    (K : Q (.bool (decide ((E.vi k).kind = .perm))) H) : CallsTo X (d + 1) (.ref (fa 2904)) [.inst 5 E.s, .int k] Q H := by
  obtain ⟨q, dc, pm, co, ff⟩ := pf.fn 26 _ _ _ rfl; refine callsTo_def ok ff (fun L => d2904 ok cl pf) rfl 0 ?_
  walk_at "s"
  exact e.kind pf hk ⟨_, .eq .str, by rw [kd_perm]; exact K⟩
noncomputable def Em.place (E : Em) (k : Int) : MV := if (E.vi k).kind = .perm then .tup [.str (Str.ofString "y"), .int (E.vi k).slot] else .tup [.str (Str.ofString "t"), .int k]
noncomputable def p2905_2 (X : Ctx) (d : Nat) (fa : Nat → Addr) : WS := wSeq (wRet (wTup (wCons (wConst (.str (Str.ofString "y"))) (wCons (wAttr X (Str.ofString "slot") (wLoc 2)) wNil)))) wEnd
noncomputable def p2905_3 (X : Ctx) (d : Nat) (fa : Nat → Addr) : WS := wSeq (wRet (wTup (wCons (wConst (.str (Str.ofString "t"))) (wCons (wLoc 1) wNil)))) wEnd
noncomputable def p2905_1 (X : Ctx) (d : Nat) (fa : Nat → Addr) : WS := wSeq (wIf (wTCmp .Eq (wAttr X (Str.ofString "kind") (wLoc 2)) (wConst (.str (Str.ofString "perm")))) (p2905_2 X d fa) wEnd) (p2905_3 X d fa)
noncomputable def p2905 (X : Ctx) (d : Nat) (fa : Nat → Addr) : WS := wSeq (wAsg (wIdx (wAttr X (Str.ofString "infos") (wAttr X (Str.ofString "plan") (wLoc 0))) (wLoc 1)) (wStore 2)) (p2905_1 X d fa)
theorem d2905 (ok : X.Ok) (cl : X.Cls) (pf : PF X fa tk) {q : Str} {dc pm co : Value} {L : Addr} : SS X d (fiOf (mkFd (fnOf 2905) q dc pm co) (nms 27) (fa 2905) L) (fnB (fnOf 2905)) (p2905 X d fa) :=
  have s0 : Slot (fiOf (mkFd (fnOf 2905) q dc pm co) (nms 27) (fa 2905) L) 0 (Str.ofString "self") := .loc (by rfl) (by kernel_rfl) (by decide)
  have s1 : Slot (fiOf (mkFd (fnOf 2905) q dc pm co) (nms 27) (fa 2905) L) 1 (Str.ofString "k") := .loc (by rfl) (by kernel_rfl) (by decide)
  have s2 : Slot (fiOf (mkFd (fnOf 2905) q dc pm co) (nms 27) (fa 2905) L) 2 (Str.ofString "info") := .loc (by rfl) (by kernel_rfl) (by decide)
  (SS.cons (SX.asgName (SE.idx (SE.attr ok cl (SE.attr ok cl (SE.loc s0))) (SE.loc s1)) s2) (SS.cons (SX.if (ST.cmp ok (SE.attr ok cl (SE.loc s2)) SE.str) (SS.cons (SX.ret (SE.tup (SEs.cons SE.str (SEs.cons (SE.attr ok cl (SE.loc s2)) SEs.nil)))) SS.nil) SS.nil) (SS.cons (SX.ret (SE.tup (SEs.cons SE.str (SEs.cons (SE.loc s1) SEs.nil)))) SS.nil)))
theorem c2905 (ok : X.Ok) (cl : X.Cls) (pf : PF X fa tk) {E : Em} {H : MH} {rows : List MV} {nt k : Int} {Q : MV → MH → Prop} (e : Emit E H rows nt) (hk : k ∈ E.ks)
    (K : Q (E.place k) H) : CallsTo X (d + 1) (.ref (fa 2905)) [.inst 5 E.s, .int k] Q H := by
  obtain ⟨x1, x2, x3, x4, hp⟩ := e.plan
  obtain ⟨kvs, o, hD, hd⟩ := e.infos
  obtain ⟨y0, y3, y6, y7, y8, hi⟩ := e.ias k hk
  unfold Em.place at K
  obtain ⟨q, dc, pm, co, ff⟩ := pf.fn 27 _ _ _ rfl; refine callsTo_def ok ff (fun L => d2905 ok cl pf) rfl 1 ?_
  walk_at "s"
  refine ⟨_, .mk e.self (ai5_plan pf) rfl, _, .mk hp (ai8_infos pf) rfl, _, .dict hD .i (hd k hk), ?_⟩
  walk_at "s"
  refine ⟨_, .mk hi (ai7_kind pf) rfl, _, .eq .str, ?_⟩
  rw [kd_perm]
  refine .dec (fun h => ?_) fun h => ?_
  · walk_at "s"
    rw [if_pos h] at K
    exact ⟨_, .mk hi (ai7_slot pf) rfl, K⟩
  · walk_at "s"
    rw [if_neg h] at K; exact K
end
section
variable {X : Ctx} {fa : Nat → Addr} {tk : Nat → Tok} {d : Nat}
noncomputable def Reg (lo hi : Int) (p : MV) : Prop := (∃ n : Int, p = .tup [.str (Str.ofString "a"), .int n]) ∨ ∃ n : Int, lo ≤ n ∧ n < hi ∧ p = .tup [.str (Str.ofString "t"), .int n]
noncomputable def Part (E : Em) (V : Int → Prop) (lo hi : Int) (p : MV) : Prop :=
  (∃ n, p = .int n) ∨ (∃ a b, p = .tup [.int a, .int b]) ∨ Reg lo hi p ∨ ∃ k, V k ∧ (E.vi k).kind ≠ .void ∧ p = E.place k
noncomputable def benign (nm : String) : Bool := !["call", "execute", "proceed", "allocate", "deallocate"].contains nm
noncomputable def RowOk (E : Em) (V : Int → Prop) (lo hi : Int) (r : MV) : Prop := ∃ (nm : String) (ps : List MV), r = .tup (.str (Str.ofString nm) :: ps) ∧ benign nm = true ∧ ps.length ≤ 3 ∧ ∀ p ∈ ps, Part E V lo hi p
noncomputable def RowsOk (E : Em) (V : Int → Prop) (lo hi : Int) (ns : List MV) : Prop := lo ≤ hi ∧ ∀ r ∈ ns, RowOk E V lo hi r
noncomputable def Cov (E : Em) (U : Int → Prop) (ns : List MV) : Prop := ∀ k, U k → (E.vi k).kind ≠ .void → ∃ nm ps, MV.tup (nm :: ps) ∈ ns ∧ E.place k ∈ ps
theorem Reg.mono {lo hi lo' hi' : Int} {p : MV} (h : Reg lo hi p) (a : lo' ≤ lo) (b : hi ≤ hi') : Reg lo' hi' p := by
  rcases h with h | ⟨n, h1, h2, h3⟩
  · exact .inl h
  · exact .inr ⟨n, by (first | lia | omega), by (first | lia | omega), h3⟩
theorem Part.mono {E : Em} {V V' : Int → Prop} {lo hi lo' hi' : Int} {p : MV} (h : Part E V lo hi p) (v : ∀ k, V k → V' k) (a : lo' ≤ lo) (b : hi ≤ hi') : Part E V' lo' hi' p := by
  rcases h with h | h | h | ⟨k, h1, h2, h3⟩
  · exact .inl h
  · exact .inr (.inl h)
  · exact .inr (.inr (.inl (h.mono a b)))
  · exact .inr (.inr (.inr ⟨k, v k h1, h2, h3⟩))
theorem RowOk.mono {E : Em} {V V' : Int → Prop} {lo hi lo' hi' : Int} {r : MV} (h : RowOk E V lo hi r) (v : ∀ k, V k → V' k) (a : lo' ≤ lo) (b : hi ≤ hi') : RowOk E V' lo' hi' r := by
  obtain ⟨nm, ps, h1, h2, h3, h4⟩ := h
  exact ⟨nm, ps, h1, h2, h3, fun p hp => (h4 p hp).mono v a b⟩
theorem RowsOk.nil {E : Em} {V : Int → Prop} {lo : Int} : RowsOk E V lo lo [] := ⟨Int.le_refl _, by simp⟩
theorem RowsOk.append {E : Em} {V : Int → Prop} {lo mi hi : Int} {a b : List MV} (h : RowsOk E V lo mi a) (h' : RowsOk E V mi hi b) : RowsOk E V lo hi (a ++ b) := by
  refine ⟨Int.le_trans h.1 h'.1, fun r hr => ?_⟩
  rcases List.mem_append.mp hr with q | q
  · exact (h.2 r q).mono (fun _ z => z) (Int.le_refl _) h'.1
  · exact (h'.2 r q).mono (fun _ z => z) h.1 (Int.le_refl _)
theorem RowsOk.mono {E : Em} {V V' : Int → Prop} {lo hi : Int} {a : List MV} (h : RowsOk E V lo hi a) (v : ∀ k, V k → V' k) : RowsOk E V' lo hi a := ⟨h.1, fun r hr => (h.2 r hr).mono v (Int.le_refl _) (Int.le_refl _)⟩
theorem RowsOk.one {E : Em} {V : Int → Prop} {lo hi : Int} (nm : String) (ps : List MV) (h : lo ≤ hi) (hb : benign nm = true) (hl : ps.length ≤ 3) (hp : ∀ p ∈ ps, Part E V lo hi p) : RowsOk E V lo hi [.tup (.str (Str.ofString nm) :: ps)] :=
  ⟨h, fun r hr => by simp only [List.mem_singleton] at hr; exact ⟨nm, ps, hr, hb, hl, hp⟩⟩
theorem Cov.append {E : Em} {U U' : Int → Prop} {a b : List MV} (h : Cov E U a) (h' : Cov E U' b) : Cov E (fun k => U k ∨ U' k) (a ++ b) := by
  intro k hk hv
  rcases hk with hk | hk
  · obtain ⟨nm, ps, h1, h2⟩ := h k hk hv; exact ⟨nm, ps, List.mem_append_left _ h1, h2⟩
  · obtain ⟨nm, ps, h1, h2⟩ := h' k hk hv; exact ⟨nm, ps, List.mem_append_right _ h1, h2⟩
theorem Cov.mono {E : Em} {U U' : Int → Prop} {a : List MV} (h : Cov E U a) (v : ∀ k, U' k → U k) : Cov E U' a := fun k hk => h k (v k hk)
theorem Cov.none {E : Em} {a : List MV} : Cov E (fun _ => False) a := fun _ h => h.elim
theorem Cov.one {E : Em} (nm : MV) (ps : List MV) {k : Int} (h : E.place k ∈ ps) : Cov E (fun x => x = k) [.tup (nm :: ps)] := fun x hx _ => by subst hx; exact ⟨nm, ps, by simp, h⟩
noncomputable abbrev EW (E : Em) : Addr → Prop := fun b => b = E.s ∨ b = E.code ∨ b = E.seen ∨ b = E.loc
theorem nodup_le {α : Type} [DecidableEq α] : ∀ (l m : List α), l.Nodup → (∀ x ∈ l, x ∈ m) → l.length ≤ m.length
  | [], _, _, _ => Nat.zero_le _
  | x :: l, m, hn, h => by
    have hx := h x (.head _)
    have ih := nodup_le l (m.erase x) (List.nodup_cons.mp hn).2 fun y hy => (List.mem_erase_of_ne (by rintro rfl; exact (List.nodup_cons.mp hn).1 hy)).mpr (h y (.tail _ hy))
    rw [List.length_erase_of_mem hx] at ih
    exact Nat.le_trans (Nat.succ_le_succ ih) (Nat.le_of_eq (Nat.succ_pred_eq_of_pos (List.length_pos_of_mem hx)))
theorem setOk.small {H : MH} {a : Addr} (h : setOk H a) : ∃ l, H a = some (.S l) ∧ l.length ≤ 1000 ∧ l.Nodup ∧ ∀ x ∈ l, 0 ≤ x ∧ x < 7 := by
  obtain ⟨l, h1, h2, h3⟩ := h
  exact ⟨l, h1, Nat.le_trans (nodup_le l ((List.range 7).map fun (i : Nat) => (i : Int)) h2 fun x hx => List.mem_map.mpr ⟨x.toNat, List.mem_range.mpr (by have := h3 x hx; (first | lia | omega)), Int.toNat_of_nonneg (h3 x hx).1⟩) (by decide), h2, h3⟩
theorem ok_add {l : List Int} {k : Int} (h3 : ∀ x ∈ l, 0 ≤ x ∧ x < 7) (hk : 0 ≤ k ∧ k < 7) : ∀ x ∈ sadd l k, 0 ≤ x ∧ x < 7 := fun x hx => (mem_sadd.mp hx).elim (h3 x) fun e => e ▸ hk
structure Gives (E : Em) (V U : Int → Prop) (W : Addr → Prop) (H : MH) (rows : List MV) (nt : Int) (sz : Nat) (Q : MH → Prop) : Prop where
  go : ∀ ns nt' H', Emit E H' (rows ++ ns) nt' → Keep W H H' → RowsOk E V nt nt' ns → Cov E U ns → ns.length ≤ sz → Q H'
theorem Gives.row {E : Em} {V U : Int → Prop} {W : Addr → Prop} {H H' : MH} {rows : List MV} {nt : Int} {sz : Nat} {Q : MH → Prop} (K : Gives E V U W H rows nt (sz + 1) Q) {nm : String} {ps : List MV} (e : Emit E H' (rows ++ [.tup (.str (Str.ofString nm) :: ps)]) nt) (kp : Keep W H H') (hb : benign nm = true) (hl : ps.length ≤ 3) (hp : ∀ p ∈ ps, Part E V nt nt p) (hc : ∀ k, U k → (E.vi k).kind ≠ .void → E.place k ∈ ps) : Q H' :=
  K.go _ nt H' e kp (RowsOk.one nm ps (Int.le_refl _) hb hl hp) (fun k hk hv => ⟨_, ps, .head _, hc k hk hv⟩) (Nat.succ_le_succ (Nat.zero_le _))
theorem Gives.one {E : Em} {V : Int → Prop} {W : Addr → Prop} {H H' : MH} {rows : List MV} {nt k : Int} {Q : MH → Prop} (K : Gives E V (fun x => x = k) W H rows nt 1 Q) {nm : String} {r : List MV} (hv : V k) (nv : (E.vi k).kind ≠ .void) (e : Emit E H' (rows ++ [.tup (.str (Str.ofString nm) :: E.place k :: r)]) nt) (hr : ∀ p ∈ r, Reg nt nt p) (kp : Keep W H H') (hb : benign nm = true) (hl : r.length ≤ 2) : Q H' :=
  K.row e kp hb (Nat.succ_le_succ hl) (fun p hp => (List.mem_cons.mp hp).elim (fun e => .inr (.inr (.inr ⟨k, hv, nv, e⟩))) fun hp => .inr (.inr (.inl (hr p hp)))) fun j hj _ => by cases hj; exact .head _
theorem Gives.nil {E : Em} {V U : Int → Prop} {W : Addr → Prop} {H : MH} {rows : List MV} {nt : Int} {sz : Nat} {Q : MH → Prop} (K : Gives E V U W H rows nt sz Q) (e : Emit E H rows nt) (h : ∀ k, U k → (E.vi k).kind = .void) : Q H :=
  K.go [] nt H (by rw [List.append_nil]; exact e) (.refl ..) .nil (fun k hk hv => absurd (h k hk) hv) (Nat.zero_le _)
theorem Emit.push1 {E : Em} {H : MH} {rows : List MV} {nt : Int} (e : Emit E H rows nt) (hz : rows.length + 1 ≤ 50000) {r : MV} : Emit E (H.set E.code (.L (rows ++ [r]))) (rows ++ [r]) nt := e.push (by rw [List.length_append]; exact hz)
theorem kCode {E : Em} {H : MH} {c : Cell} : Keep (EW E) H (H.set E.code c) := .set (.inl (.inr (.inl rfl)))
theorem kSeen {E : Em} {H : MH} {c : Cell} : Keep (EW E) H (H.set E.seen c) := .set (.inl (.inr (.inr (.inl rfl))))
theorem kLoc {E : Em} {H : MH} {c : Cell} : Keep (EW E) H (H.set E.loc c) := .set (.inl (.inr (.inr (.inr rfl))))
theorem kSelf {E : Em} {H : MH} {c : Cell} : Keep (EW E) H (H.set E.s c) := .set (.inl (.inl rfl))
theorem ix0 {H : MH} {x : MV} {l : List MV} : IdxR H (.tup (x :: l)) (.int 0) x := .tup ⟨by decide, by decide, rfl⟩
theorem ix1 {H : MH} {x y : MV} {l : List MV} : IdxR H (.tup (x :: y :: l)) (.int 1) y := .tup ⟨by decide, by decide, rfl⟩
theorem ix2 {H : MH} {x y z : MV} {l : List MV} : IdxR H (.tup (x :: y :: z :: l)) (.int 2) z := .tup ⟨by decide, by decide, rfl⟩
noncomputable def p3104_2 (X : Ctx) (d : Nat) (fa : Nat → Addr) : WS := wSeq (wExpr (wMeth X d (mtab fa) (wLoc 0) (Str.ofString "emit") (wCons (wTup (wCons (wConst (.str (Str.ofString "set_variable"))) (wCons (wMeth X d (mtab fa) (wLoc 0) (Str.ofString "place") (wCons (wLoc 1) wNil)) wNil))) wNil))) wEnd
noncomputable def p3104_1 (X : Ctx) (d : Nat) (fa : Nat → Addr) : WS := wSeq (wExpr (wMethB "set" bSadd (wAttr X (Str.ofString "seen") (wLoc 0)) (wCons (wLoc 1) wNil))) (p3104_2 X d fa)
noncomputable def p3104_6 (X : Ctx) (d : Nat) (fa : Nat → Addr) : WS := wSeq (wExpr (wMethB "set" bSdisc (wAttr X (Str.ofString "local") (wLoc 0)) (wCons (wLoc 1) wNil))) wEnd
noncomputable def p3104_5 (X : Ctx) (d : Nat) (fa : Nat → Addr) : WS := wSeq (wIf (wTNot (wTVal (wMeth X d (mtab fa) (wLoc 0) (Str.ofString "is_permanent") (wCons (wLoc 1) wNil)))) (p3104_6 X d fa) wEnd) wEnd
noncomputable def p3104_4 (X : Ctx) (d : Nat) (fa : Nat → Addr) : WS := wSeq (wExpr (wMeth X d (mtab fa) (wLoc 0) (Str.ofString "emit") (wCons (wTup (wCons (wConst (.str (Str.ofString "set_local_value"))) (wCons (wMeth X d (mtab fa) (wLoc 0) (Str.ofString "place") (wCons (wLoc 1) wNil)) wNil))) wNil))) (p3104_5 X d fa)
noncomputable def p3104_7 (X : Ctx) (d : Nat) (fa : Nat → Addr) : WS := wSeq (wExpr (wMeth X d (mtab fa) (wLoc 0) (Str.ofString "emit") (wCons (wTup (wCons (wConst (.str (Str.ofString "set_value"))) (wCons (wMeth X d (mtab fa) (wLoc 0) (Str.ofString "place") (wCons (wLoc 1) wNil)) wNil))) wNil))) wEnd
noncomputable def p3104_3 (X : Ctx) (d : Nat) (fa : Nat → Addr) : WS := wSeq (wIf (wTCmp .In (wLoc 1) (wAttr X (Str.ofString "local") (wLoc 0))) (p3104_4 X d fa) (p3104_7 X d fa)) wEnd
noncomputable def p3104 (X : Ctx) (d : Nat) (fa : Nat → Addr) : WS := wSeq (wIf (wTCmp .NotIn (wLoc 1) (wAttr X (Str.ofString "seen") (wLoc 0))) (p3104_1 X d fa) (p3104_3 X d fa)) wEnd
theorem d3104 (ok : X.Ok) (cl : X.Cls) (pf : PF X fa tk) {q : Str} {dc pm co : Value} {L : Addr} : SS X d (fiOf (mkFd (fnOf 3104) q dc pm co) (nms 36) (fa 3104) L) (fnB (fnOf 3104)) (p3104 X d fa) :=
  have s0 : Slot (fiOf (mkFd (fnOf 3104) q dc pm co) (nms 36) (fa 3104) L) 0 (Str.ofString "self") := .loc (by rfl) (by kernel_rfl) (by decide)
  have s1 : Slot (fiOf (mkFd (fnOf 3104) q dc pm co) (nms 36) (fa 3104) L) 1 (Str.ofString "k") := .loc (by rfl) (by kernel_rfl) (by decide)
  (SS.cons (SX.if (ST.cmp ok (SE.loc s1) (SE.attr ok cl (SE.loc s0))) (SS.cons (SX.expr (SE.methB (SE.attr ok cl (SE.loc s0)) (SEs.cons (SE.loc s1) SEs.nil) (by decide) PySem.F.plainAttrs_set PySem.F.slot_set_add PySem.F.type_set_add okSadd (by rfl) (by rfl) (by rfl))) (SS.cons (SX.expr (SE.meth ok pf.mt (SE.loc s0) (SEs.cons (SE.tup (SEs.cons SE.str (SEs.cons (SE.meth ok pf.mt (SE.loc s0) (SEs.cons (SE.loc s1) SEs.nil)) SEs.nil))) SEs.nil))) SS.nil)) (SS.cons (SX.if (ST.cmp ok (SE.loc s1) (SE.attr ok cl (SE.loc s0))) (SS.cons (SX.expr (SE.meth ok pf.mt (SE.loc s0) (SEs.cons (SE.tup (SEs.cons SE.str (SEs.cons (SE.meth ok pf.mt (SE.loc s0) (SEs.cons (SE.loc s1) SEs.nil)) SEs.nil))) SEs.nil))) (SS.cons (SX.if (ST.not (ST.val (SE.meth ok pf.mt (SE.loc s0) (SEs.cons (SE.loc s1) SEs.nil)))) (SS.cons (SX.expr (SE.methB (SE.attr ok cl (SE.loc s0)) (SEs.cons (SE.loc s1) SEs.nil) (by decide) PySem.F.plainAttrs_set PySem.F.slot_set_discard PySem.F.type_set_discard okSdisc (by rfl) (by rfl) (by rfl))) SS.nil) SS.nil) SS.nil)) (SS.cons (SX.expr (SE.meth ok pf.mt (SE.loc s0) (SEs.cons (SE.tup (SEs.cons SE.str (SEs.cons (SE.meth ok pf.mt (SE.loc s0) (SEs.cons (SE.loc s1) SEs.nil)) SEs.nil))) SEs.nil))) SS.nil)) SS.nil)) SS.nil)
theorem c3104 (ok : X.Ok) (cl : X.Cls) (pf : PF X fa tk) {E : Em} {V : Int → Prop} {H : MH} {rows : List MV} {nt k : Int} {Q : MV → MH → Prop} (e : Emit E H rows nt) (hk : k ∈ E.ks) (hv : V k) (nv : (E.vi k).kind ≠ .void) (hz : rows.length + 1 ≤ 50000)
    (K : Gives E V (fun x => x = k) (EW E) H rows nt 1 (Q .none)) : CallsTo X (d + 2) (.ref (fa 3104)) [.inst 5 E.s, .int k] Q H := by
  obtain ⟨l, hS, hl7, hn, hr⟩ := e.seen.small
  obtain ⟨l2, hS2, hl72, hn2, hr2⟩ := e.loc.small
  obtain ⟨q, dc, pm, co, ff⟩ := pf.fn 36 _ _ _ rfl; refine callsTo_def ok ff (fun L => d3104 ok cl pf) rfl 0 ?_
  walk_at "s"
  refine ⟨_, .mk e.self (ai5_seen pf) rfl, _, .nmem (.set hS), .neg (fun hm => ?_) fun hm => ?_⟩
  · walk_at "s"
    refine ⟨_, .mk e.self (ai5_seen pf) rfl, _, .mk hS rfl, .mk hS hl7 ?_⟩
    have e1 := e.setSeen (nodup_sadd (n := k) hn) (ok_add hr (e.ks k hk))
    walk_at "s"
    refine ⟨_, .mk mt5_emit e1.self, _, .mk mt5_place e1.self, c2905 ok cl pf e1 hk (c2901 ok cl pf e1 ?_)⟩
    exact K.one hv nv (e1.push1 hz) nofun (kSeen.trans kCode) (by decide) (Nat.zero_le _)
  · walk_at "s"
    refine ⟨_, .mk e.self (ai5_local pf) rfl, _, .mem (.set hS2), .dec (fun hm => ?_) fun hm => ?_⟩
    · walk_at "s"
      refine ⟨_, .mk mt5_emit e.self, _, .mk mt5_place e.self, c2905 ok cl pf e hk (c2901 ok cl pf e ?_)⟩
      have e1 := e.push1 hz (r := .tup [.str (Str.ofString "set_local_value"), E.place k])
      walk_at "s"
      refine ⟨_, .mk mt5_is_permanent e1.self, c2904 ok cl pf e1 hk ⟨_, .bool, .neg (fun hp => ?_) fun hp => ?_⟩⟩
      · walk_at "s"
        have hS3 := set_at (c' := .L (rows ++ [.tup [.str (Str.ofString "set_local_value"), E.place k]])) hS2 (e.loc.apart e.code nofun)
        refine ⟨_, .mk e1.self (ai5_local pf) rfl, _, .mk hS3 rfl, .mk hS3 ?_⟩
        exact K.one hv nv (e1.setLoc (hn2.filter _) fun x hx => hr2 x (List.mem_filter.mp hx).1) nofun (kCode.trans kLoc) (by decide) (Nat.zero_le _)
      · walk_at "s"
        exact K.one hv nv e1 nofun kCode (by decide) (Nat.zero_le _)
    · walk_at "s"
      refine ⟨_, .mk mt5_emit e.self, _, .mk mt5_place e.self, c2905 ok cl pf e hk (c2901 ok cl pf e ?_)⟩
      exact K.one hv nv (e.push1 hz) nofun kCode (by decide) (Nat.zero_le _)
noncomputable def p3003_2 (X : Ctx) (d : Nat) (fa : Nat → Addr) : WS := wSeq (wExpr (wMeth X d (mtab fa) (wLoc 0) (Str.ofString "emit") (wCons (wTup (wCons (wConst (.str (Str.ofString "unify_variable"))) (wCons (wMeth X d (mtab fa) (wLoc 0) (Str.ofString "place") (wCons (wLoc 1) wNil)) wNil))) wNil))) wEnd
noncomputable def p3003_1 (X : Ctx) (d : Nat) (fa : Nat → Addr) : WS := wSeq (wExpr (wMethB "set" bSadd (wAttr X (Str.ofString "seen") (wLoc 0)) (wCons (wLoc 1) wNil))) (p3003_2 X d fa)
noncomputable def p3003_4 (X : Ctx) (d : Nat) (fa : Nat → Addr) : WS := wSeq (wExpr (wMeth X d (mtab fa) (wLoc 0) (Str.ofString "emit") (wCons (wTup (wCons (wConst (.str (Str.ofString "unify_local_value"))) (wCons (wMeth X d (mtab fa) (wLoc 0) (Str.ofString "place") (wCons (wLoc 1) wNil)) wNil))) wNil))) wEnd
noncomputable def p3003_5 (X : Ctx) (d : Nat) (fa : Nat → Addr) : WS := wSeq (wExpr (wMeth X d (mtab fa) (wLoc 0) (Str.ofString "emit") (wCons (wTup (wCons (wConst (.str (Str.ofString "unify_value"))) (wCons (wMeth X d (mtab fa) (wLoc 0) (Str.ofString "place") (wCons (wLoc 1) wNil)) wNil))) wNil))) wEnd
noncomputable def p3003_3 (X : Ctx) (d : Nat) (fa : Nat → Addr) : WS := wSeq (wIf (wTCmp .In (wLoc 1) (wAttr X (Str.ofString "local") (wLoc 0))) (p3003_4 X d fa) (p3003_5 X d fa)) wEnd
noncomputable def p3003 (X : Ctx) (d : Nat) (fa : Nat → Addr) : WS := wSeq (wIf (wTCmp .NotIn (wLoc 1) (wAttr X (Str.ofString "seen") (wLoc 0))) (p3003_1 X d fa) (p3003_3 X d fa)) wEnd
theorem d3003 (ok : X.Ok) (cl : X.Cls) (pf : PF X fa tk) {q : Str} {dc pm co : Value} {L : Addr} : SS X d (fiOf (mkFd (fnOf 3003) q dc pm co) (nms 31) (fa 3003) L) (fnB (fnOf 3003)) (p3003 X d fa) :=
  have s0 : Slot (fiOf (mkFd (fnOf 3003) q dc pm co) (nms 31) (fa 3003) L) 0 (Str.ofString "self") := .loc (by rfl) (by kernel_rfl) (by decide)
  have s1 : Slot (fiOf (mkFd (fnOf 3003) q dc pm co) (nms 31) (fa 3003) L) 1 (Str.ofString "k") := .loc (by rfl) (by kernel_rfl) (by decide)
  (SS.cons (SX.if (ST.cmp ok (SE.loc s1) (SE.attr ok cl (SE.loc s0))) (SS.cons (SX.expr (SE.methB (SE.attr ok cl (SE.loc s0)) (SEs.cons (SE.loc s1) SEs.nil) (by decide) PySem.F.plainAttrs_set PySem.F.slot_set_add PySem.F.type_set_add okSadd (by rfl) (by rfl) (by rfl))) (SS.cons (SX.expr (SE.meth ok pf.mt (SE.loc s0) (SEs.cons (SE.tup (SEs.cons SE.str (SEs.cons (SE.meth ok pf.mt (SE.loc s0) (SEs.cons (SE.loc s1) SEs.nil)) SEs.nil))) SEs.nil))) SS.nil)) (SS.cons (SX.if (ST.cmp ok (SE.loc s1) (SE.attr ok cl (SE.loc s0))) (SS.cons (SX.expr (SE.meth ok pf.mt (SE.loc s0) (SEs.cons (SE.tup (SEs.cons SE.str (SEs.cons (SE.meth ok pf.mt (SE.loc s0) (SEs.cons (SE.loc s1) SEs.nil)) SEs.nil))) SEs.nil))) SS.nil) (SS.cons (SX.expr (SE.meth ok pf.mt (SE.loc s0) (SEs.cons (SE.tup (SEs.cons SE.str (SEs.cons (SE.meth ok pf.mt (SE.loc s0) (SEs.cons (SE.loc s1) SEs.nil)) SEs.nil))) SEs.nil))) SS.nil)) SS.nil)) SS.nil)
theorem c3003 (ok : X.Ok) (cl : X.Cls) (pf : PF X fa tk) {E : Em} {V : Int → Prop} {H : MH} {rows : List MV} {nt k : Int} {Q : MV → MH → Prop} (e : Emit E H rows nt) (hk : k ∈ E.ks) (hv : V k) (nv : (E.vi k).kind ≠ .void) (hz : rows.length + 1 ≤ 50000)
    (K : Gives E V (fun x => x = k) (EW E) H rows nt 1 (Q .none)) : CallsTo X (d + 2) (.ref (fa 3003)) [.inst 5 E.s, .int k] Q H := by
  obtain ⟨l, hS, hl7, hn, hr⟩ := e.seen.small
  obtain ⟨l2, hS2, hl72, hn2, hr2⟩ := e.loc.small
  obtain ⟨q, dc, pm, co, ff⟩ := pf.fn 31 _ _ _ rfl; refine callsTo_def ok ff (fun L => d3003 ok cl pf) rfl 0 ?_
  walk_at "s"
  refine ⟨_, .mk e.self (ai5_seen pf) rfl, _, .nmem (.set hS), .neg (fun hm => ?_) fun hm => ?_⟩
  · walk_at "s"
    refine ⟨_, .mk e.self (ai5_seen pf) rfl, _, .mk hS rfl, .mk hS hl7 ?_⟩
    have e1 := e.setSeen (nodup_sadd (n := k) hn) (ok_add hr (e.ks k hk))
    walk_at "s"
    exact ⟨_, .mk mt5_emit e1.self, _, .mk mt5_place e1.self, c2905 ok cl pf e1 hk (c2901 ok cl pf e1 (K.one hv nv (e1.push1 hz) nofun (kSeen.trans kCode) (by decide) (Nat.zero_le _)))⟩
  · walk_at "s"
    refine ⟨_, .mk e.self (ai5_local pf) rfl, _, .mem (.set hS2), .dec (fun hm => ?_) fun hm => ?_⟩
    all_goals
      walk_at "s"
      exact ⟨_, .mk mt5_emit e.self, _, .mk mt5_place e.self, c2905 ok cl pf e hk (c2901 ok cl pf e (K.one hv nv (e.push1 hz) nofun kCode (by decide) (Nat.zero_le _)))⟩
noncomputable def p3302_1 (X : Ctx) (d : Nat) (fa : Nat → Addr) : WS := wSeq (wCtl (.ret .none)) wEnd
noncomputable def p3302_3 (X : Ctx) (d : Nat) (fa : Nat → Addr) : WS := wSeq (wExpr (wMeth X d (mtab fa) (wLoc 0) (Str.ofString "emit") (wCons (wTup (wCons (wLoc 1) (wCons (wMeth X d (mtab fa) (wLoc 0) (Str.ofString "place") (wCons (wLoc 2) wNil)) wNil))) wNil))) wEnd
noncomputable def p3302_2 (X : Ctx) (d : Nat) (fa : Nat → Addr) : WS := wSeq (wExpr (wMethB "set" bSadd (wAttr X (Str.ofString "seen") (wLoc 0)) (wCons (wLoc 2) wNil))) (p3302_3 X d fa)
noncomputable def p3302 (X : Ctx) (d : Nat) (fa : Nat → Addr) : WS := wSeq (wIf (wTVal (wMeth X d (mtab fa) (wLoc 0) (Str.ofString "is_void") (wCons (wLoc 2) wNil))) (p3302_1 X d fa) wEnd) (p3302_2 X d fa)
theorem d3302 (ok : X.Ok) (cl : X.Cls) (pf : PF X fa tk) {q : Str} {dc pm co : Value} {L : Addr} : SS X d (fiOf (mkFd (fnOf 3302) q dc pm co) (nms 39) (fa 3302) L) (fnB (fnOf 3302)) (p3302 X d fa) :=
  have s0 : Slot (fiOf (mkFd (fnOf 3302) q dc pm co) (nms 39) (fa 3302) L) 0 (Str.ofString "self") := .loc (by rfl) (by kernel_rfl) (by decide)
  have s1 : Slot (fiOf (mkFd (fnOf 3302) q dc pm co) (nms 39) (fa 3302) L) 1 (Str.ofString "name") := .loc (by rfl) (by kernel_rfl) (by decide)
  have s2 : Slot (fiOf (mkFd (fnOf 3302) q dc pm co) (nms 39) (fa 3302) L) 2 (Str.ofString "k") := .loc (by rfl) (by kernel_rfl) (by decide)
  (SS.cons (SX.if (ST.val (SE.meth ok pf.mt (SE.loc s0) (SEs.cons (SE.loc s2) SEs.nil))) (SS.cons SX.ret0 SS.nil) SS.nil) (SS.cons (SX.expr (SE.methB (SE.attr ok cl (SE.loc s0)) (SEs.cons (SE.loc s2) SEs.nil) (by decide) PySem.F.plainAttrs_set PySem.F.slot_set_add PySem.F.type_set_add okSadd (by rfl) (by rfl) (by rfl))) (SS.cons (SX.expr (SE.meth ok pf.mt (SE.loc s0) (SEs.cons (SE.tup (SEs.cons (SE.loc s1) (SEs.cons (SE.meth ok pf.mt (SE.loc s0) (SEs.cons (SE.loc s2) SEs.nil)) SEs.nil))) SEs.nil))) SS.nil)))
theorem c3302 (ok : X.Ok) (cl : X.Cls) (pf : PF X fa tk) {E : Em} {V : Int → Prop} {H : MH} {rows : List MV} {nt k : Int} {nm : String} {Q : MV → MH → Prop} (e : Emit E H rows nt) (hk : k ∈ E.ks) (hv : V k) (hb : benign nm = true) (hz : rows.length + 1 ≤ 50000)
    (K : Gives E V (fun x => x = k) (EW E) H rows nt 1 (Q .none)) : CallsTo X (d + 2) (.ref (fa 3302)) [.inst 5 E.s, .str (Str.ofString nm), .int k] Q H := by
  obtain ⟨l, hS, hl7, hn, hr⟩ := e.seen.small
  obtain ⟨q, dc, pm, co, ff⟩ := pf.fn 39 _ _ _ rfl; refine callsTo_def ok ff (fun L => d3302 ok cl pf) rfl 0 ?_
  walk_at "s"
  refine ⟨_, .mk mt5_is_void e.self, c2903 ok cl pf e hk ⟨_, .bool, .dec (fun nv => ?_) fun nv => ?_⟩⟩
  · walk_at "s"
    exact K.nil e fun j hj => hj ▸ nv
  · walk_at "s"
    refine ⟨_, .mk e.self (ai5_seen pf) rfl, _, .mk hS rfl, .mk hS hl7 ?_⟩
    have e1 := e.setSeen (nodup_sadd (n := k) hn) (ok_add hr (e.ks k hk))
    walk_at "s"
    exact ⟨_, .mk mt5_emit e1.self, _, .mk mt5_place e1.self, c2905 ok cl pf e1 hk (c2901 ok cl pf e1 (K.one hv nv (e1.push1 hz) nofun (kSeen.trans kCode) hb (Nat.zero_le _)))⟩
noncomputable def p3301_2 (X : Ctx) (d : Nat) (fa : Nat → Addr) : WS := wSeq (wExpr (wMeth X d (mtab fa) (wLoc 0) (Str.ofString "emit") (wCons (wTup (wCons (wConst (.str (Str.ofString "put_void"))) (wCons (wLoc 2) wNil))) wNil))) wEnd
noncomputable def p3301_6 (X : Ctx) (d : Nat) (fa : Nat → Addr) : WS := wSeq (wExpr (wMethB "set" bSadd (wAttr X (Str.ofString "local") (wLoc 0)) (wCons (wLoc 1) wNil))) wEnd
noncomputable def p3301_7 (X : Ctx) (d : Nat) (fa : Nat → Addr) : WS := wSeq (wExpr (wMeth X d (mtab fa) (wLoc 0) (Str.ofString "emit") (wCons (wTup (wCons (wConst (.str (Str.ofString "put_variable"))) (wCons (wMeth X d (mtab fa) (wLoc 0) (Str.ofString "place") (wCons (wLoc 1) wNil)) (wCons (wLoc 2) wNil)))) wNil))) wEnd
noncomputable def p3301_5 (X : Ctx) (d : Nat) (fa : Nat → Addr) : WS := wSeq (wIf (wTCmp .Eq (wAttr X (Str.ofString "kind") (wLoc 4)) (wConst (.str (Str.ofString "perm")))) (p3301_6 X d fa) wEnd) (p3301_7 X d fa)
noncomputable def p3301_4 (X : Ctx) (d : Nat) (fa : Nat → Addr) : WS := wSeq (wExpr (wMethB "set" bSadd (wAttr X (Str.ofString "seen") (wLoc 0)) (wCons (wLoc 1) wNil))) (p3301_5 X d fa)
noncomputable def p3301_9 (X : Ctx) (d : Nat) (fa : Nat → Addr) : WS := wSeq (wExpr (wMeth X d (mtab fa) (wLoc 0) (Str.ofString "emit") (wCons (wTup (wCons (wConst (.str (Str.ofString "put_unsafe_value"))) (wCons (wMeth X d (mtab fa) (wLoc 0) (Str.ofString "place") (wCons (wLoc 1) wNil)) (wCons (wLoc 2) wNil)))) wNil))) wEnd
noncomputable def p3301_10 (X : Ctx) (d : Nat) (fa : Nat → Addr) : WS := wSeq (wExpr (wMeth X d (mtab fa) (wLoc 0) (Str.ofString "emit") (wCons (wTup (wCons (wConst (.str (Str.ofString "put_value"))) (wCons (wMeth X d (mtab fa) (wLoc 0) (Str.ofString "place") (wCons (wLoc 1) wNil)) (wCons (wLoc 2) wNil)))) wNil))) wEnd
noncomputable def p3301_8 (X : Ctx) (d : Nat) (fa : Nat → Addr) : WS := wSeq (wIf (wTAnd (wTVal (wAttr X (Str.ofString "unsafe") (wLoc 4))) (wTAnd (wTCmp .GtE (wLoc 3) (wConst (.int 0))) (wTAnd (wTCmp .Eq (wAttr X (Str.ofString "last_goal") (wLoc 4)) (wLoc 3)) (wB true)))) (p3301_9 X d fa) (p3301_10 X d fa)) wEnd
noncomputable def p3301_3 (X : Ctx) (d : Nat) (fa : Nat → Addr) : WS := wSeq (wIf (wTCmp .NotIn (wLoc 1) (wAttr X (Str.ofString "seen") (wLoc 0))) (p3301_4 X d fa) (p3301_8 X d fa)) wEnd
noncomputable def p3301_1 (X : Ctx) (d : Nat) (fa : Nat → Addr) : WS := wSeq (wIf (wTCmp .Eq (wAttr X (Str.ofString "kind") (wLoc 4)) (wConst (.str (Str.ofString "void")))) (p3301_2 X d fa) (p3301_3 X d fa)) wEnd
noncomputable def p3301 (X : Ctx) (d : Nat) (fa : Nat → Addr) : WS := wSeq (wAsg (wIdx (wAttr X (Str.ofString "infos") (wAttr X (Str.ofString "plan") (wLoc 0))) (wLoc 1)) (wStore 4)) (p3301_1 X d fa)
theorem d3301 (ok : X.Ok) (cl : X.Cls) (pf : PF X fa tk) {q : Str} {dc pm co : Value} {L : Addr} : SS X d (fiOf (mkFd (fnOf 3301) q dc pm co) (nms 38) (fa 3301) L) (fnB (fnOf 3301)) (p3301 X d fa) :=
  have s0 : Slot (fiOf (mkFd (fnOf 3301) q dc pm co) (nms 38) (fa 3301) L) 0 (Str.ofString "self") := .loc (by rfl) (by kernel_rfl) (by decide)
  have s1 : Slot (fiOf (mkFd (fnOf 3301) q dc pm co) (nms 38) (fa 3301) L) 1 (Str.ofString "k") := .loc (by rfl) (by kernel_rfl) (by decide)
  have s2 : Slot (fiOf (mkFd (fnOf 3301) q dc pm co) (nms 38) (fa 3301) L) 2 (Str.ofString "target") := .loc (by rfl) (by kernel_rfl) (by decide)
  have s3 : Slot (fiOf (mkFd (fnOf 3301) q dc pm co) (nms 38) (fa 3301) L) 3 (Str.ofString "leaving") := .loc (by rfl) (by kernel_rfl) (by decide)
  have s4 : Slot (fiOf (mkFd (fnOf 3301) q dc pm co) (nms 38) (fa 3301) L) 4 (Str.ofString "info") := .loc (by rfl) (by kernel_rfl) (by decide)
  (SS.cons (SX.asgName (SE.idx (SE.attr ok cl (SE.attr ok cl (SE.loc s0))) (SE.loc s1)) s4) (SS.cons (SX.if (ST.cmp ok (SE.attr ok cl (SE.loc s4)) SE.str) (SS.cons (SX.expr (SE.meth ok pf.mt (SE.loc s0) (SEs.cons (SE.tup (SEs.cons SE.str (SEs.cons (SE.loc s2) SEs.nil))) SEs.nil))) SS.nil) (SS.cons (SX.if (ST.cmp ok (SE.loc s1) (SE.attr ok cl (SE.loc s0))) (SS.cons (SX.expr (SE.methB (SE.attr ok cl (SE.loc s0)) (SEs.cons (SE.loc s1) SEs.nil) (by decide) PySem.F.plainAttrs_set PySem.F.slot_set_add PySem.F.type_set_add okSadd (by rfl) (by rfl) (by rfl))) (SS.cons (SX.if (ST.cmp ok (SE.attr ok cl (SE.loc s4)) SE.str) (SS.cons (SX.expr (SE.methB (SE.attr ok cl (SE.loc s0)) (SEs.cons (SE.loc s1) SEs.nil) (by decide) PySem.F.plainAttrs_set PySem.F.slot_set_add PySem.F.type_set_add okSadd (by rfl) (by rfl) (by rfl))) SS.nil) SS.nil) (SS.cons (SX.expr (SE.meth ok pf.mt (SE.loc s0) (SEs.cons (SE.tup (SEs.cons SE.str (SEs.cons (SE.meth ok pf.mt (SE.loc s0) (SEs.cons (SE.loc s1) SEs.nil)) (SEs.cons (SE.loc s2) SEs.nil)))) SEs.nil))) SS.nil))) (SS.cons (SX.if (ST.bool (SA.and (ST.val (SE.attr ok cl (SE.loc s4))) (SA.and (ST.cmp ok (SE.loc s3) SE.int) (SA.and (ST.cmp ok (SE.attr ok cl (SE.loc s4)) (SE.loc s3)) SA.nil_and)))) (SS.cons (SX.expr (SE.meth ok pf.mt (SE.loc s0) (SEs.cons (SE.tup (SEs.cons SE.str (SEs.cons (SE.meth ok pf.mt (SE.loc s0) (SEs.cons (SE.loc s1) SEs.nil)) (SEs.cons (SE.loc s2) SEs.nil)))) SEs.nil))) SS.nil) (SS.cons (SX.expr (SE.meth ok pf.mt (SE.loc s0) (SEs.cons (SE.tup (SEs.cons SE.str (SEs.cons (SE.meth ok pf.mt (SE.loc s0) (SEs.cons (SE.loc s1) SEs.nil)) (SEs.cons (SE.loc s2) SEs.nil)))) SEs.nil))) SS.nil)) SS.nil)) SS.nil)) SS.nil))
theorem c3301 (ok : X.Ok) (cl : X.Cls) (pf : PF X fa tk) {E : Em} {V : Int → Prop} {H : MH} {rows : List MV} {nt k lv : Int} {tg : MV} {Q : MV → MH → Prop} (e : Emit E H rows nt) (hk : k ∈ E.ks) (hv : V k) (ht : Reg nt nt tg) (hz : rows.length + 1 ≤ 50000)
    (K : Gives E V (fun x => x = k) (EW E) H rows nt 1 (Q .none)) : CallsTo X (d + 2) (.ref (fa 3301)) [.inst 5 E.s, .int k, tg, .int lv] Q H := by
  obtain ⟨l, hS, hl7, hn, hr⟩ := e.seen.small
  obtain ⟨x1, x2, x3, x4, hp⟩ := e.plan
  obtain ⟨kvs, o, hD, hd⟩ := e.infos
  obtain ⟨y0, y3, y6, y7, y8, hi⟩ := e.ias k hk
  have tgr : ∀ p ∈ [tg], Reg nt nt p := fun p hp => by cases List.mem_singleton.mp hp; exact ht
  obtain ⟨q, dc, pm, co, ff⟩ := pf.fn 38 _ _ _ rfl; refine callsTo_def ok ff (fun L => d3301 ok cl pf) rfl 1 ?_
  walk_at "s"
  refine ⟨_, .mk e.self (ai5_plan pf) rfl, _, .mk hp (ai8_infos pf) rfl, _, .dict hD .i (hd k hk), ?_⟩
  walk_at "s"
  refine ⟨_, .mk hi (ai7_kind pf) rfl, _, .eq .str, ?_⟩
  rw [kd_void]
  refine .dec (fun nv => ?_) fun nv => ?_
  · walk_at "s"
    exact ⟨_, .mk mt5_emit e.self, c2901 ok cl pf e (K.row (e.push1 hz) kCode (by decide) (leB rfl) (fun p hp => .inr (.inr (.inl (tgr p hp)))) fun j hj w => absurd (hj ▸ nv) w)⟩
  · walk_at "s"
    refine ⟨_, .mk e.self (ai5_seen pf) rfl, _, .nmem (.set hS), .neg (fun hm => ?_) fun hm => ?_⟩
    · walk_at "s"
      refine ⟨_, .mk e.self (ai5_seen pf) rfl, _, .mk hS rfl, .mk hS hl7 ?_⟩
      have e1 := e.setSeen (nodup_sadd (n := k) hn) (ok_add hr (e.ks k hk))
      have hi1 : ∃ y0 y3 y6 y7 y8, _ := e1.ias k hk
      obtain ⟨z0, z3, z6, z7, z8, hi1⟩ := hi1
      obtain ⟨l2, hS2, hl72, hn2, hr2⟩ := e1.loc.small
      walk_at "s"
      refine ⟨_, .mk hi1 (ai7_kind pf) rfl, _, .eq .str, ?_⟩
      rw [kd_perm]
      refine .dec (fun pv => ?_) fun pv => ?_
      · walk_at "s"
        refine ⟨_, .mk e1.self (ai5_local pf) rfl, _, .mk hS2 rfl, .mk hS2 hl72 ?_⟩
        have e2 := e1.setLoc (nodup_sadd (n := k) hn2) (ok_add hr2 (e.ks k hk))
        walk_at "s"
        exact ⟨_, .mk mt5_emit e2.self, _, .mk mt5_place e2.self, c2905 ok cl pf e2 hk (c2901 ok cl pf e2 (K.one hv nv (e2.push1 hz) tgr ((kSeen.trans kLoc).trans kCode) (by decide) (Nat.le_succ _)))⟩
      · walk_at "s"
        exact ⟨_, .mk mt5_emit e1.self, _, .mk mt5_place e1.self, c2905 ok cl pf e1 hk (c2901 ok cl pf e1 (K.one hv nv (e1.push1 hz) tgr (kSeen.trans kCode) (by decide) (Nat.le_succ _)))⟩
    · walk_at "s"
      have fin : ∀ nm, benign nm = true → Q .none (H.set E.code (.L (rows ++ [.tup [.str (Str.ofString nm), E.place k, tg]]))) := fun nm hb => K.one hv nv (e.push1 hz) tgr kCode hb (Nat.le_succ _)
      have fin9 : p3301_9 X (d + 1) fa (seqQ wEnd (seqQ wEnd (seqQ wEnd fun m σ => Q (retOf m) σ.H))) ⟨[some (.inst 5 E.s), some (.int k), some tg, some (.int lv), some (.inst 7 (E.ia k))], H⟩ := by
        walk_at "s"
        exact ⟨_, .mk mt5_emit e.self, _, .mk mt5_place e.self, c2905 ok cl pf e hk (c2901 ok cl pf e (fin _ (by decide)))⟩
      have fin10 : p3301_10 X (d + 1) fa (seqQ wEnd (seqQ wEnd (seqQ wEnd fun m σ => Q (retOf m) σ.H))) ⟨[some (.inst 5 E.s), some (.int k), some tg, some (.int lv), some (.inst 7 (E.ia k))], H⟩ := by
        walk_at "s"
        exact ⟨_, .mk mt5_emit e.self, _, .mk mt5_place e.self, c2905 ok cl pf e hk (c2901 ok cl pf e (fin _ (by decide)))⟩
      exact ⟨_, .mk hi (ai7_unsafe pf) rfl, _, .bool, .any (fun u => ⟨_, .ge, .dec (fun g => ⟨_, .mk hi (ai7_last_goal pf) rfl, _, .eq .int, .dec (fun w => .t fin9) fun w => .f fin10⟩) fun g => .f fin10⟩) fun u => .f fin10⟩
end
section
variable {X : Ctx} {fa : Nat → Addr} {tk : Nat → Tok} {d : Nat}
structure Tape (H : MH) (t a : Addr) : Prop where
  ne : t ≠ a
  go : ∃ (l : List Int) (p c : Int), H t = some (.L [.ref a, .int p, .int c]) ∧ H a = some (.L (l.map .int)) ∧ 0 ≤ p ∧ l.length ≤ 60
noncomputable abbrev TW (t a : Addr) : Addr → Prop := fun b => b = t ∨ b = a
theorem Tape.apart {H : MH} {t a b : Addr} (T : Tape H t a) (h : H b = none) : b ≠ t ∧ b ≠ a := by
  obtain ⟨_, l, p, c, hT, hA, _⟩ := T
  exact ⟨(by rintro rfl; rw [h] at hT; cases hT), (by rintro rfl; rw [h] at hA; cases hA)⟩
theorem Tape.upd {H : MH} {t a b : Addr} {c : Cell} (T : Tape H t a) (h : b ≠ t) (h' : b ≠ a) : Tape (H.set b c) t a :=
  ⟨T.ne, let ⟨l, p, n, hT, hA, r⟩ := T.go; ⟨l, p, n, set_at hT h.symm, set_at hA h'.symm, r⟩⟩
noncomputable def p38_1 (X : Ctx) (d : Nat) (fa : Nat → Addr) : WS := wSeq (wRet (wConst (.int 0))) wEnd
noncomputable def p38_8 (X : Ctx) (d : Nat) (fa : Nat → Addr) : WS := wSeq (wAsgIdx (wConst (.int 0)) (wLoc 0) (wConst (.int 2))) wEnd
noncomputable def p38_7 (X : Ctx) (d : Nat) (fa : Nat → Addr) : WS := wSeq (wAugIdx (wLoc 0) (wConst (.int 1)) .Add (wConst (.int 1))) (p38_8 X d fa)
noncomputable def p38_9 (X : Ctx) (d : Nat) (fa : Nat → Addr) : WS := wSeq (wAsgIdx (wLoc 4) (wIdx (wLoc 0) (wConst (.int 0))) (wIdx (wLoc 0) (wConst (.int 1)))) wEnd
noncomputable def p38_10 (X : Ctx) (d : Nat) (fa : Nat → Addr) : WS := wSeq (wRet (wLoc 3)) wEnd
noncomputable def p38_6 (X : Ctx) (d : Nat) (fa : Nat → Addr) : WS := wSeq (wIf (wTOr (wTCmp .Eq (wLoc 4) (wConst (.int 0))) (wTOr (wTCmp .Eq (wLoc 4) (wNeg (wConst (.int 1)))) (wTOr (wTCmp .Eq (wIdx (wLoc 0) (wConst (.int 2))) (wConst (.int 30))) (wB false)))) (p38_7 X d fa) (p38_9 X d fa)) (p38_10 X d fa)
noncomputable def p38_5 (X : Ctx) (d : Nat) (fa : Nat → Addr) : WS := wSeq (wAugIdx (wLoc 0) (wConst (.int 2)) .Add (wConst (.int 1))) (p38_6 X d fa)
noncomputable def p38_4 (X : Ctx) (d : Nat) (fa : Nat → Addr) : WS := wSeq (wAsg (wBin .FloorDiv (wLoc 2) (wLoc 1)) (wStore 4)) (p38_5 X d fa)
noncomputable def p38_3 (X : Ctx) (d : Nat) (fa : Nat → Addr) : WS := wSeq (wAsg (wBin .Mod (wLoc 2) (wLoc 1)) (wStore 3)) (p38_4 X d fa)
noncomputable def p38_2 (X : Ctx) (d : Nat) (fa : Nat → Addr) : WS := wSeq (wAsg (wIdx (wIdx (wLoc 0) (wConst (.int 0))) (wIdx (wLoc 0) (wConst (.int 1)))) (wStore 2)) (p38_3 X d fa)
noncomputable def p38 (X : Ctx) (d : Nat) (fa : Nat → Addr) : WS := wSeq (wIf (wTCmp .GtE (wIdx (wLoc 0) (wConst (.int 1))) (wOB bLen (wCons (wIdx (wLoc 0) (wConst (.int 0))) wNil))) (p38_1 X d fa) wEnd) (p38_2 X d fa)
theorem d38 (ok : X.Ok) (cl : X.Cls) (pf : PF X fa tk) {q : Str} {dc pm co : Value} {L : Addr} : SS X d (fiOf (mkFd (fnOf 38) q dc pm co) (nms 13) (fa 38) L) (fnB (fnOf 38)) (p38 X d fa) :=
  have s0 : Slot (fiOf (mkFd (fnOf 38) q dc pm co) (nms 13) (fa 38) L) 0 (Str.ofString "tape") := .loc (by rfl) (by kernel_rfl) (by decide)
  have s1 : Slot (fiOf (mkFd (fnOf 38) q dc pm co) (nms 13) (fa 38) L) 1 (Str.ofString "limit") := .loc (by rfl) (by kernel_rfl) (by decide)
  have s2 : Slot (fiOf (mkFd (fnOf 38) q dc pm co) (nms 13) (fa 38) L) 2 (Str.ofString "cell") := .loc (by rfl) (by kernel_rfl) (by decide)
  have s3 : Slot (fiOf (mkFd (fnOf 38) q dc pm co) (nms 13) (fa 38) L) 3 (Str.ofString "figure") := .loc (by rfl) (by kernel_rfl) (by decide)
  have s4 : Slot (fiOf (mkFd (fnOf 38) q dc pm co) (nms 13) (fa 38) L) 4 (Str.ofString "rest") := .loc (by rfl) (by kernel_rfl) (by decide)
  have g_len : GlobV X (fiOf (mkFd (fnOf 38) q dc pm co) (nms 13) (fa 38) L) (Str.ofString "len") (.builtin "len") := ⟨by kernel_rfl, pf.g 30 _ _ rfl, by decide⟩
  (SS.cons (SX.if (ST.cmp ok (SE.idx (SE.loc s0) SE.int) (SE.callB ok g_len (SEs.cons (SE.idx (SE.loc s0) SE.int) SEs.nil) okLen)) (SS.cons (SX.ret SE.int) SS.nil) SS.nil) (SS.cons (SX.asgName (SE.idx (SE.idx (SE.loc s0) SE.int) (SE.idx (SE.loc s0) SE.int)) s2) (SS.cons (SX.asgName (SE.bin (SE.loc s2) (SE.loc s1)) s3) (SS.cons (SX.asgName (SE.bin (SE.loc s2) (SE.loc s1)) s4) (SS.cons (SX.augIdx (SE.loc s0) SE.int SE.int) (SS.cons (SX.if (ST.bool (SA.or (ST.cmp ok (SE.loc s4) SE.int) (SA.or (ST.cmp ok (SE.loc s4) (SE.neg SE.int)) (SA.or (ST.cmp ok (SE.idx (SE.loc s0) SE.int) SE.int) SA.nil_or)))) (SS.cons (SX.augIdx (SE.loc s0) SE.int SE.int) (SS.cons (SX.asgIdx SE.int (SE.loc s0) SE.int) SS.nil)) (SS.cons (SX.asgIdx (SE.loc s4) (SE.idx (SE.loc s0) SE.int) (SE.idx (SE.loc s0) SE.int)) SS.nil)) (SS.cons (SX.ret (SE.loc s3)) SS.nil)))))))
theorem c38 (ok : X.Ok) (cl : X.Cls) (pf : PF X fa tk) {H : MH} {t a : Addr} {n : Int} {Q : MV → MH → Prop} (T : Tape H t a) (h0 : 0 < n) (h1 : n ≤ 10 ^ 20)
    (K : ∀ r H', 0 ≤ r → r < n → Tape H' t a → Keep (TW t a) H H' → Q (.int r) H') : CallsTo X (d + 1) (.ref (fa 38)) [.ref t, .int n] Q H := by
  obtain ⟨hne, l, p, c, hT, hA, hp, hl⟩ := id T
  have z : (l.map MV.int).length < 2 ^ 62 := Nat.lt_of_le_of_lt (by rw [List.length_map]; exact hl) (by decide)
  have kt : ∀ {H : MH} {c : Cell}, Keep (TW t a) H (H.set t c) := .set (.inl (.inl rfl))
  have ka : ∀ {H : MH} {c : Cell}, Keep (TW t a) H (H.set a c) := .set (.inl (.inr rfl))
  obtain ⟨q, dc, pm, co, ff⟩ := pf.fn 13 _ _ _ rfl; refine callsTo_def ok ff (fun L => d38 ok cl pf) rfl 3 ?_
  walk_at "s"
  refine ⟨_, .list hT ⟨by decide, by decide, rfl⟩, _, .list hT ⟨by decide, by decide, rfl⟩, .list hA z ⟨_, .ge, .dec (fun hge => ?_) fun hlt => ?_⟩⟩
  · walk_at "s"
    exact K 0 H (Int.le_refl _) h0 T (.refl ..)
  · rw [List.length_map] at hlt
    have hlt' : p.toNat < l.length := by (first | lia | omega)
    have hx : (l.map MV.int)[p.toNat]? = some (.int l[p.toNat]) := by rw [List.getElem?_map, List.getElem?_eq_getElem hlt']; rfl
    generalize l[p.toNat] = x at hx
    have r0 := Int.emod_nonneg x (Int.ne_of_gt h0)
    have r1 := Int.emod_lt_of_pos x h0
    have p62 : p < 2 ^ 62 := by (first | lia | omega)
    walk_at "s"
    refine ⟨_, .list hT ⟨by decide, by decide, rfl⟩, _, .list hT ⟨by decide, by decide, rfl⟩, _, .list hA ⟨hp, p62, hx⟩, ?_⟩
    walk_at "s"
    refine ⟨_, .mod h0, ?_⟩
    walk_at "s"
    refine ⟨_, .fdiv h0 h1, ?_⟩
    walk_at "s"
    refine ⟨_, .list hT ⟨by decide, by decide, rfl⟩, _, .add, _, _, .list hT (by decide) (by decide) (ltB rfl), fun _ => ?_⟩
    have hT1 := H.set_self t (.L [.ref a, .int p, .int (c + 1)])
    have hA1 := set_at (c' := .L [.ref a, .int p, .int (c + 1)]) hA hne.symm
    have f7 : p38_7 X d fa (seqQ (p38_10 X d fa) fun m σ => Q (retOf m) σ.H) ⟨[some (.ref t), some (.int n), some (.int x), some (.int (x % n)), some (.int (x / n))], H.set t (.L [.ref a, .int p, .int (c + 1)])⟩ := by
      walk_at "s"
      refine ⟨_, .list hT1 ⟨by decide, by decide, rfl⟩, _, .add, _, _, .list hT1 (by decide) (by decide) (ltB rfl), fun _ => ?_⟩
      walk_at "s"
      refine ⟨_, _, .list (MH.set_self ..) (by decide) (by decide) (ltB rfl), fun _ => ?_⟩
      walk_at "s"
      exact K _ _ r0 r1 ⟨hne, l, p + 1, 0, MH.set_self .., set_at (set_at hA1 hne.symm) hne.symm, Int.le_trans hp (Int.le_add_one (Int.le_refl p)), hl⟩ ((kt.trans kt).trans kt)
    have f9 : p38_9 X d fa (seqQ (p38_10 X d fa) fun m σ => Q (retOf m) σ.H) ⟨[some (.ref t), some (.int n), some (.int x), some (.int (x % n)), some (.int (x / n))], H.set t (.L [.ref a, .int p, .int (c + 1)])⟩ := by
      walk_at "s"
      refine ⟨_, .list hT1 ⟨by decide, by decide, rfl⟩, _, .list hT1 ⟨by decide, by decide, rfl⟩, _, _, .list hA1 hp p62 (by rw [List.length_map]; exact hlt'), fun _ => ?_⟩
      walk_at "s"
      exact K _ _ r0 r1 ⟨hne, l.set p.toNat (x / n), p, c + 1, set_at hT1 hne, by rw [List.map_set]; exact MH.set_self .., hp, by rw [List.length_set]; exact hl⟩ (kt.trans ka)
    walk_at "s"
    exact ⟨_, .eq .int, .dec (fun _ => .t f7) fun _ => ⟨_, .mk, _, .eq .int, .dec (fun _ => .t f7) fun _ => ⟨_, .list hT1 ⟨by decide, by decide, rfl⟩, _, .eq .int, .dec (fun _ => .t f7) fun _ => .f f9⟩⟩⟩
inductive Tm where
  | a (x : Int)
  | i (x : Int)
  | v (k : Int)
  | s1 (f : Int) (x : Tm)
  | s2 (f : Int) (x y : Tm)
noncomputable def Tm.enc : Tm → MV
  | .a x => .tup [.str (Str.ofString "a"), .int x]
  | .i x => .tup [.str (Str.ofString "i"), .int x]
  | .v k => .tup [.str (Str.ofString "v"), .int k]
  | .s1 f x => .tup [.str (Str.ofString "s"), .int f, .tup [x.enc]]
  | .s2 f x y => .tup [.str (Str.ofString "s"), .int f, .tup [x.enc, y.enc]]
inductive Tm.Ok : Nat → Tm → Prop
  | a {n : Nat} {x : Int} : Ok n (.a x)
  | i {n : Nat} {x : Int} : Ok n (.i x)
  | v {n : Nat} {k : Int} (h0 : 0 ≤ k) (h1 : k < 5) : Ok n (.v k)
  | s1 {n : Nat} {f : Int} {x : Tm} (h : Ok n x) : Ok (n + 1) (.s1 f x)
  | s2 {n : Nat} {f : Int} {x y : Tm} (h : Ok n x) (h' : Ok n y) : Ok (n + 1) (.s2 f x y)
noncomputable def p39_2 (X : Ctx) (d : Nat) (fa : Nat → Addr) : WS := wSeq (wRet (wTup (wCons (wConst (.str (Str.ofString "a"))) (wCons (wCall X d (.ref (fa 38)) (wCons (wLoc 0) (wCons (wConst (.int 4)) wNil))) wNil)))) wEnd
noncomputable def p39_4 (X : Ctx) (d : Nat) (fa : Nat → Addr) : WS := wSeq (wRet (wTup (wCons (wConst (.str (Str.ofString "i"))) (wCons (wBin .Sub (wCall X d (.ref (fa 38)) (wCons (wLoc 0) (wCons (wBin .Pow (wConst (.int 10)) (wConst (.int 20))) wNil))) (wConst (.int 5))) wNil)))) wEnd
noncomputable def p39_6 (X : Ctx) (d : Nat) (fa : Nat → Addr) : WS := wSeq (wRet (wTup (wCons (wConst (.str (Str.ofString "s"))) (wCons (wConst (.int 12)) (wCons (wTup (wCons (wCall X d (.ref (fa 39)) (wCons (wLoc 0) (wCons (wBin .Sub (wLoc 1) (wConst (.int 1))) wNil))) wNil)) wNil))))) wEnd
noncomputable def p39_10 (X : Ctx) (d : Nat) (fa : Nat → Addr) : WS := wSeq (wRet (wTup (wCons (wConst (.str (Str.ofString "s"))) (wCons (wIdx (wList (wCons (wConst (.int 0)) (wCons (wConst (.int 14)) wNil))) (wCall X d (.ref (fa 38)) (wCons (wLoc 0) (wCons (wConst (.int 2)) wNil)))) (wCons (wTup (wCons (wLoc 3) (wCons (wLoc 4) wNil))) wNil))))) wEnd
noncomputable def p39_9 (X : Ctx) (d : Nat) (fa : Nat → Addr) : WS := wSeq (wAsg (wCall X d (.ref (fa 39)) (wCons (wLoc 0) (wCons (wBin .Sub (wLoc 1) (wConst (.int 1))) wNil))) (wStore 4)) (p39_10 X d fa)
noncomputable def p39_8 (X : Ctx) (d : Nat) (fa : Nat → Addr) : WS := wSeq (wAsg (wCall X d (.ref (fa 39)) (wCons (wLoc 0) (wCons (wBin .Sub (wLoc 1) (wConst (.int 1))) wNil))) (wStore 3)) (p39_9 X d fa)
noncomputable def p39_11 (X : Ctx) (d : Nat) (fa : Nat → Addr) : WS := wSeq (wRet (wTup (wCons (wConst (.str (Str.ofString "v"))) (wCons (wCall X d (.ref (fa 38)) (wCons (wLoc 0) (wCons (wConst (.int 5)) wNil))) wNil)))) wEnd
noncomputable def p39_7 (X : Ctx) (d : Nat) (fa : Nat → Addr) : WS := wSeq (wIf (wTAnd (wTCmp .Eq (wLoc 2) (wConst (.int 5))) (wTAnd (wTCmp .Gt (wLoc 1) (wConst (.int 0))) (wB true))) (p39_8 X d fa) wEnd) (p39_11 X d fa)
noncomputable def p39_5 (X : Ctx) (d : Nat) (fa : Nat → Addr) : WS := wSeq (wIf (wTAnd (wTCmp .Eq (wLoc 2) (wConst (.int 4))) (wTAnd (wTCmp .Gt (wLoc 1) (wConst (.int 0))) (wB true))) (p39_6 X d fa) wEnd) (p39_7 X d fa)
noncomputable def p39_3 (X : Ctx) (d : Nat) (fa : Nat → Addr) : WS := wSeq (wIf (wTCmp .Eq (wLoc 2) (wConst (.int 3))) (p39_4 X d fa) wEnd) (p39_5 X d fa)
noncomputable def p39_1 (X : Ctx) (d : Nat) (fa : Nat → Addr) : WS := wSeq (wIf (wTCmp .Eq (wLoc 2) (wConst (.int 2))) (p39_2 X d fa) wEnd) (p39_3 X d fa)
noncomputable def p39 (X : Ctx) (d : Nat) (fa : Nat → Addr) : WS := wSeq (wAsg (wCall X d (.ref (fa 38)) (wCons (wLoc 0) (wCons (wConst (.int 6)) wNil))) (wStore 2)) (p39_1 X d fa)
theorem d39 (ok : X.Ok) (cl : X.Cls) (pf : PF X fa tk) {q : Str} {dc pm co : Value} {L : Addr} : SS X d (fiOf (mkFd (fnOf 39) q dc pm co) (nms 14) (fa 39) L) (fnB (fnOf 39)) (p39 X d fa) :=
  have s0 : Slot (fiOf (mkFd (fnOf 39) q dc pm co) (nms 14) (fa 39) L) 0 (Str.ofString "tape") := .loc (by rfl) (by kernel_rfl) (by decide)
  have s1 : Slot (fiOf (mkFd (fnOf 39) q dc pm co) (nms 14) (fa 39) L) 1 (Str.ofString "deep") := .loc (by rfl) (by kernel_rfl) (by decide)
  have s2 : Slot (fiOf (mkFd (fnOf 39) q dc pm co) (nms 14) (fa 39) L) 2 (Str.ofString "way") := .loc (by rfl) (by kernel_rfl) (by decide)
  have s3 : Slot (fiOf (mkFd (fnOf 39) q dc pm co) (nms 14) (fa 39) L) 3 (Str.ofString "one") := .loc (by rfl) (by kernel_rfl) (by decide)
  have s4 : Slot (fiOf (mkFd (fnOf 39) q dc pm co) (nms 14) (fa 39) L) 4 (Str.ofString "two") := .loc (by rfl) (by kernel_rfl) (by decide)
  have g_F_DOT : GlobV X (fiOf (mkFd (fnOf 39) q dc pm co) (nms 14) (fa 39) L) (Str.ofString "F_DOT") (.int 0 (tk 5)) := ⟨by kernel_rfl, pf.g 5 _ _ rfl, by decide⟩
  have g_F_MINUS1 : GlobV X (fiOf (mkFd (fnOf 39) q dc pm co) (nms 14) (fa 39) L) (Str.ofString "F_MINUS1") (.int 12 (tk 7)) := ⟨by kernel_rfl, pf.g 7 _ _ rfl, by decide⟩
  have g_F_PLUS : GlobV X (fiOf (mkFd (fnOf 39) q dc pm co) (nms 14) (fa 39) L) (Str.ofString "F_PLUS") (.int 14 (tk 8)) := ⟨by kernel_rfl, pf.g 8 _ _ rfl, by decide⟩
  have g__law_digit : GlobV X (fiOf (mkFd (fnOf 39) q dc pm co) (nms 14) (fa 39) L) (Str.ofString "_law_digit") (.ref (fa 38)) := ⟨by kernel_rfl, pf.g 14 _ _ rfl, by decide⟩
  have g__law_term : GlobV X (fiOf (mkFd (fnOf 39) q dc pm co) (nms 14) (fa 39) L) (Str.ofString "_law_term") (.ref (fa 39)) := ⟨by kernel_rfl, pf.g 19 _ _ rfl, by decide⟩
  (SS.cons (SX.asgName (SE.callF ok g__law_digit (pf.kf 14 _ _ rfl) (SEs.cons (SE.loc s0) (SEs.cons SE.int SEs.nil))) s2) (SS.cons (SX.if (ST.cmp ok (SE.loc s2) SE.int) (SS.cons (SX.ret (SE.tup (SEs.cons SE.str (SEs.cons (SE.callF ok g__law_digit (pf.kf 14 _ _ rfl) (SEs.cons (SE.loc s0) (SEs.cons SE.int SEs.nil))) SEs.nil)))) SS.nil) SS.nil) (SS.cons (SX.if (ST.cmp ok (SE.loc s2) SE.int) (SS.cons (SX.ret (SE.tup (SEs.cons SE.str (SEs.cons (SE.bin (SE.callF ok g__law_digit (pf.kf 14 _ _ rfl) (SEs.cons (SE.loc s0) (SEs.cons (SE.bin SE.int SE.int) SEs.nil))) SE.int) SEs.nil)))) SS.nil) SS.nil) (SS.cons (SX.if (ST.bool (SA.and (ST.cmp ok (SE.loc s2) SE.int) (SA.and (ST.cmp ok (SE.loc s1) SE.int) SA.nil_and))) (SS.cons (SX.ret (SE.tup (SEs.cons SE.str (SEs.cons (SE.globInt ok g_F_MINUS1) (SEs.cons (SE.tup (SEs.cons (SE.callF ok g__law_term (pf.kf 19 _ _ rfl) (SEs.cons (SE.loc s0) (SEs.cons (SE.bin (SE.loc s1) SE.int) SEs.nil))) SEs.nil)) SEs.nil))))) SS.nil) SS.nil) (SS.cons (SX.if (ST.bool (SA.and (ST.cmp ok (SE.loc s2) SE.int) (SA.and (ST.cmp ok (SE.loc s1) SE.int) SA.nil_and))) (SS.cons (SX.asgName (SE.callF ok g__law_term (pf.kf 19 _ _ rfl) (SEs.cons (SE.loc s0) (SEs.cons (SE.bin (SE.loc s1) SE.int) SEs.nil))) s3) (SS.cons (SX.asgName (SE.callF ok g__law_term (pf.kf 19 _ _ rfl) (SEs.cons (SE.loc s0) (SEs.cons (SE.bin (SE.loc s1) SE.int) SEs.nil))) s4) (SS.cons (SX.ret (SE.tup (SEs.cons SE.str (SEs.cons (SE.idx (SE.list (SEs.cons (SE.globInt ok g_F_DOT) (SEs.cons (SE.globInt ok g_F_PLUS) SEs.nil))) (SE.callF ok g__law_digit (pf.kf 14 _ _ rfl) (SEs.cons (SE.loc s0) (SEs.cons SE.int SEs.nil)))) (SEs.cons (SE.tup (SEs.cons (SE.loc s3) (SEs.cons (SE.loc s4) SEs.nil))) SEs.nil))))) SS.nil))) SS.nil) (SS.cons (SX.ret (SE.tup (SEs.cons SE.str (SEs.cons (SE.callF ok g__law_digit (pf.kf 14 _ _ rfl) (SEs.cons (SE.loc s0) (SEs.cons SE.int SEs.nil))) SEs.nil)))) SS.nil))))))
theorem c39 (ok : X.Ok) (cl : X.Cls) (pf : PF X fa tk) : ∀ (n : Nat) {H : MH} {t a : Addr} {Q : MV → MH → Prop} (T : Tape H t a)
    (K : ∀ (tm : Tm) H', tm.Ok n → Tape H' t a → Keep (TW t a) H H' → Q tm.enc H'), CallsTo X (d + n + 2) (.ref (fa 39)) [.ref t, .int n] Q H := by
  intro n
  induction n with
  | zero =>
    intro H t a Q T K
    obtain ⟨q, dc, pm, co, ff⟩ := pf.fn 14 _ _ _ rfl; refine callsTo_def ok ff (fun L => d39 ok cl pf) rfl 3 ?_
    walk_at "s"
    refine c38 ok cl pf T (by decide) (by decide) fun r H1 r0 r1 T1 K1 => ?_
    have d38 : ∀ {n : Int} {K' : MV → MH → Prop}, 0 < n → n ≤ 10 ^ 20 → (∀ r H', 0 ≤ r → r < n → Tape H' t a → Keep (TW t a) H H' → K' (.int r) H') → CallsTo X (d + 1) (.ref (fa 38)) [.ref t, .int n] K' H1 := fun h h' k => c38 ok cl pf T1 h h' fun r H2 a b T2 K2 => k r H2 a b T2 (K1.trans K2)
    walk_at "s"
    refine ⟨_, .eq .int, .dec (fun h => ?_) fun _ => ?_⟩
    · walk_at "s"
      exact d38 (by decide) (by decide) fun k H2 _ _ T2 K2 => K (.a k) H2 .a T2 K2
    walk_at "s"
    refine ⟨_, .eq .int, .dec (fun h => ?_) fun _ => ?_⟩
    · walk_at "s"
      exact ⟨_, .pow, d38 (by decide) (by decide) fun k H2 _ _ T2 K2 => ⟨_, .sub, K (.i (k - 5)) H2 .i T2 K2⟩⟩
    have no : ¬ ((0 : Nat) : Int) > 0 := by decide
    have leaf : p39_11 X (d + 1) fa (fun m σ => Q (retOf m) σ.H) ⟨[some (.ref t), some (.int ((0 : Nat) : Int)), some (.int r), none, none], H1⟩ := by
      walk_at "s"
      exact d38 (by decide) (by decide) fun k H2 k0 k1 T2 K2 => K (.v k) H2 (.v k0 k1) T2 K2
    walk_at "s"
    have c5 : p39_7 X (d + 1) fa (fun m σ => Q (retOf m) σ.H) ⟨[some (.ref t), some (.int ((0 : Nat) : Int)), some (.int r), none, none], H1⟩ := by
      walk_at "s"
      exact ⟨_, .eq .int, .dec (fun _ => ⟨_, .gt, .dec (fun z => (no z).elim) fun _ => .f leaf⟩) fun _ => .f leaf⟩
    exact ⟨_, .eq .int, .dec (fun _ => ⟨_, .gt, .dec (fun z => (no z).elim) fun _ => .f c5⟩) fun _ => .f c5⟩
  | succ n ih =>
    intro H t a Q T K
    obtain ⟨q, dc, pm, co, ff⟩ := pf.fn 14 _ _ _ rfl; refine callsTo_def ok ff (fun L => d39 ok cl pf) rfl 3 ?_
    walk_at "s"
    refine c38 ok cl pf T (by decide) (by decide) fun r H1 r0 r1 T1 K1 => ?_
    have d38 : ∀ {n' : Int} {K' : MV → MH → Prop}, 0 < n' → n' ≤ 10 ^ 20 → (∀ r H', 0 ≤ r → r < n' → Tape H' t a → Keep (TW t a) H H' → K' (.int r) H') → CallsTo X (d + (n + 1) + 1) (.ref (fa 38)) [.ref t, .int n'] K' H1 := fun h h' k => c38 ok cl pf T1 h h' fun r H2 a b T2 K2 => k r H2 a b T2 (K1.trans K2)
    have e1 : ((n + 1 : Nat) : Int) - 1 = (n : Int) := by (first | lia | omega)
    have yes : ((n + 1 : Nat) : Int) > 0 := by (first | lia | omega)
    walk_at "s"
    refine ⟨_, .eq .int, .dec (fun h => ?_) fun _ => ?_⟩
    · walk_at "s"
      exact d38 (by decide) (by decide) fun k H2 _ _ T2 K2 => K (.a k) H2 .a T2 K2
    walk_at "s"
    refine ⟨_, .eq .int, .dec (fun h => ?_) fun _ => ?_⟩
    · walk_at "s"
      exact ⟨_, .pow, d38 (by decide) (by decide) fun k H2 _ _ T2 K2 => ⟨_, .sub, K (.i (k - 5)) H2 .i T2 K2⟩⟩
    walk_at "s"
    refine ⟨_, .eq .int, .dec (fun _ => ⟨_, .gt, .dec (fun _ => .t ?_) fun z => (z yes).elim⟩) fun _ => .f ?_⟩
    · walk_at "s"
      refine ⟨_, .sub, ?_⟩
      rw [e1]
      exact ih T1 fun tm H2 ht T2 K2 => K (.s1 12 tm) H2 (.s1 ht) T2 (K1.trans K2)
    walk_at "s"
    refine ⟨_, .eq .int, .dec (fun _ => ⟨_, .gt, .dec (fun _ => .t ?_) fun z => (z yes).elim⟩) fun _ => .f ?_⟩
    · walk_at "s"
      refine ⟨_, .sub, ?_⟩
      rw [e1]
      refine ih T1 fun x H2 hx T2 K2 => ?_
      walk_at "s"
      refine ⟨_, .sub, ?_⟩
      rw [e1]
      refine ih T2 fun y H3 hy T3 K3 => ?_
      walk_at "s"
      intro ad nd
      have ap := T3.apart nd
      refine c38 ok cl pf (T3.upd ap.1 ap.2) (by decide) (by decide) fun j H4 j0 j1 T4 K4 => ?_
      have hL := K4.at (H3.set_self ad (.L [.int 0, .int 14])) (fun z => z.elim ap.1 ap.2)
      have kk : Keep (TW t a) H H4 := (((K1.trans K2).trans K3).trans (.set (.inr nd))).trans K4
      have : j = 0 ∨ j = 1 := by (first | lia | omega)
      rcases this with rfl | rfl
      · exact ⟨_, .list hL ⟨by decide, by decide, rfl⟩, K (.s2 0 x y) H4 (.s2 hx hy) T4 kk⟩
      · exact ⟨_, .list hL ⟨by decide, by decide, rfl⟩, K (.s2 14 x y) H4 (.s2 hx hy) T4 kk⟩
    walk_at "s"
    exact d38 (by decide) (by decide) fun k H2 k0 k1 T2 K2 => K (.v k) H2 (.v k0 k1) T2 K2
noncomputable def p18_1 (X : Ctx) (d : Nat) (fa : Nat → Addr) : WS := wSeq (wRet (wTup (wCons (wConst (.int 4)) (wCons (wIdx (wLoc 0) (wConst (.int 1))) wNil)))) wEnd
noncomputable def p18_2 (X : Ctx) (d : Nat) (fa : Nat → Addr) : WS := wSeq (wRet (wTup (wCons (wConst (.int 5)) (wCons (wIdx (wLoc 0) (wConst (.int 1))) wNil)))) wEnd
noncomputable def p18 (X : Ctx) (d : Nat) (fa : Nat → Addr) : WS := wSeq (wIf (wTCmp .Eq (wIdx (wLoc 0) (wConst (.int 0))) (wConst (.str (Str.ofString "a")))) (p18_1 X d fa) wEnd) (p18_2 X d fa)
theorem d18 (ok : X.Ok) (cl : X.Cls) (pf : PF X fa tk) {q : Str} {dc pm co : Value} {L : Addr} : SS X d (fiOf (mkFd (fnOf 18) q dc pm co) (nms 5) (fa 18) L) (fnB (fnOf 18)) (p18 X d fa) :=
  have s0 : Slot (fiOf (mkFd (fnOf 18) q dc pm co) (nms 5) (fa 18) L) 0 (Str.ofString "term") := .loc (by rfl) (by kernel_rfl) (by decide)
  have g_CON : GlobV X (fiOf (mkFd (fnOf 18) q dc pm co) (nms 5) (fa 18) L) (Str.ofString "CON") (.int 4 (tk 0)) := ⟨by kernel_rfl, pf.g 0 _ _ rfl, by decide⟩
  have g_INT : GlobV X (fiOf (mkFd (fnOf 18) q dc pm co) (nms 5) (fa 18) L) (Str.ofString "INT") (.int 5 (tk 9)) := ⟨by kernel_rfl, pf.g 9 _ _ rfl, by decide⟩
  (SS.cons (SX.if (ST.cmp ok (SE.idx (SE.loc s0) SE.int) SE.str) (SS.cons (SX.ret (SE.tup (SEs.cons (SE.globInt ok g_CON) (SEs.cons (SE.idx (SE.loc s0) SE.int) SEs.nil)))) SS.nil) SS.nil) (SS.cons (SX.ret (SE.tup (SEs.cons (SE.globInt ok g_INT) (SEs.cons (SE.idx (SE.loc s0) SE.int) SEs.nil)))) SS.nil))
theorem c18 (ok : X.Ok) (cl : X.Cls) (pf : PF X fa tk) {H : MH} {tm : Tm} {Q : MV → MH → Prop} (h : (∃ x, tm = .a x) ∨ ∃ x, tm = .i x)
    (K : ∀ c x : Int, Q (.tup [.int c, .int x]) H) : CallsTo X (d + 1) (.ref (fa 18)) [tm.enc] Q H := by
  obtain ⟨q, dc, pm, co, ff⟩ := pf.fn 5 _ _ _ rfl; refine callsTo_def ok ff (fun L => d18 ok cl pf) rfl 0 ?_
  walk_at "s"
  rcases h with ⟨x, rfl⟩ | ⟨x, rfl⟩
  · refine ⟨_, ix0, _, .eq .str, .yes (by kernel_rfl!) ?_⟩
    walk_at "s"
    exact ⟨_, ix1, K _ _⟩
  · refine ⟨_, ix0, _, .eq .str, .no (by kernel_rfl!) ?_⟩
    walk_at "s"
    exact ⟨_, ix1, K _ _⟩
end
section
variable {X : Ctx} {fa : Nat → Addr} {tk : Nat → Tok} {d : Nat}
structure Prog (E : Em) (V U : Int → Prop) (W : Addr → Prop) (H : MH) (rows : List MV) (nt : Int) (sz : Nat) (H' : MH) (nt' : Int) : Prop where
  ex : ∃ ns, Emit E H' (rows ++ ns) nt' ∧ RowsOk E V nt nt' ns ∧ Cov E U ns ∧ ns.length ≤ sz
  keep : Keep W H H'
section
variable {E : Em} {V U : Int → Prop} {W : Addr → Prop} {H H2 : MH} {rows : List MV} {nt nt2 : Int} {sz : Nat}
theorem Prog.start (e : Emit E H rows nt) : Prog E V (fun _ => False) W H rows nt 0 H nt := ⟨⟨[], by rw [List.append_nil]; exact e, .nil, .none, Nat.le_refl _⟩, .refl ..⟩
theorem Gives.prog {Q : MH → Prop} (K : ∀ H' nt', Prog E V U W H rows nt sz H' nt' → Q H') : Gives E V U W H rows nt sz Q := ⟨fun ns nt' H' a b c d e => K H' nt' ⟨⟨ns, a, c, d, e⟩, b⟩⟩
theorem Gives.of {Q : MH → Prop} (K : Gives E V U W H rows nt sz Q) (p : Prog E V U W H rows nt sz H2 nt2) : Q H2 := let ⟨⟨ns, a, c, d, e⟩, b⟩ := p; K.go ns nt2 H2 a b c d e
theorem Prog.weak {U' : Int → Prop} {sz' : Nat} (p : Prog E V U W H rows nt sz H2 nt2) (h : ∀ k, U' k → (E.vi k).kind ≠ .void → U k) (hs : sz ≤ sz') : Prog E V U' W H rows nt sz' H2 nt2 :=
  let ⟨⟨ns, a, b, c, d⟩, e⟩ := p; ⟨⟨ns, a, b, fun k hk hv => c k (h k hk hv) hv, Nat.le_trans d hs⟩, e⟩
theorem Prog.grow2 (p : Prog E V U W H rows nt sz H2 nt2) : Prog E V U W H rows nt (sz + 2) H2 nt2 := p.weak (fun _ h _ => h) (Nat.le_add_right ..)
theorem Prog.at (p : Prog E V U W H rows nt sz H2 nt2) : ∃ r, Emit E H2 r nt2 ∧ r.length ≤ rows.length + sz ∧ nt ≤ nt2 :=
  let ⟨⟨ns, a, b, c, d⟩, e⟩ := p; ⟨_, a, by rw [List.length_append]; exact Nat.add_le_add_left d _, b.1⟩
theorem Prog.le (p : Prog E V U W H rows nt sz H2 nt2) : nt ≤ nt2 := let ⟨⟨_, _, b, _⟩, _⟩ := p; b.1
theorem Prog.then {U' : Int → Prop} {W' : Addr → Prop} {sz' sz2 : Nat} {Q : MH → Prop} {P : Prop} (p : Prog E V U W H rows nt sz H2 nt2) (hw : ∀ b, W' b → W b) (c : ∀ r, Emit E H2 r nt2 → r.length ≤ rows.length + sz → Gives E V U' W' H2 r nt2 sz' Q → P)
    (hs : sz + sz' ≤ sz2) (k : ∀ H3 nt3, Prog E V (fun k => U k ∨ U' k) W H rows nt sz2 H3 nt3 → Keep W' H2 H3 → nt2 ≤ nt3 → Q H3) : P := by
  obtain ⟨⟨ns, a, b, co, hl⟩, kp⟩ := p
  refine c _ a (by rw [List.length_append]; exact Nat.add_le_add_left hl _) ⟨fun ns' nt3 H3 a' k' b' c' d' => k H3 nt3 ⟨⟨ns ++ ns', by rw [← List.append_assoc]; exact a', b.append b', co.append c', ?_⟩, kp.trans (k'.mono hw)⟩ k' b'.1⟩
  rw [List.length_append]; exact Nat.le_trans (Nat.add_le_add hl d') hs
theorem Prog.comp (p : Prog E V U W H rows nt sz H2 nt2) : ∃ r, Emit E H2 r nt2 ∧ r.length ≤ rows.length + sz ∧ ∀ {U' : Int → Prop} {W' : Addr → Prop} {sz' : Nat} {H3 : MH} {nt3 : Int}, (∀ b, W' b → W b) → Prog E V U' W' H2 r nt2 sz' H3 nt3 → nt2 ≤ nt3 ∧ Prog E V (fun k => U k ∨ U' k) W H rows nt (sz + sz') H3 nt3 := by
  obtain ⟨⟨ns, a, b, co, hl⟩, kp⟩ := p
  refine ⟨_, a, by rw [List.length_append]; exact Nat.add_le_add_left hl _, fun hw q => ?_⟩
  obtain ⟨⟨ns', a', b', c', d'⟩, k'⟩ := q
  exact ⟨b'.1, ⟨ns ++ ns', by rw [← List.append_assoc]; exact a', b.append b', co.append c', by rw [List.length_append]; exact Nat.add_le_add hl d'⟩, kp.trans (k'.mono hw)⟩
theorem Prog.emit (ok : X.Ok) (cl : X.Cls) (pf : PF X fa tk) {Q : MV → MH → Prop} (p : Prog E V U W H rows nt sz H2 nt2) {nm : String} {ps : List MV} (hw : ∀ b, EW E b → W b) (hz : rows.length + sz + 1 ≤ 50000) (hb : benign nm = true) (hl : ps.length ≤ 3) (hp : ∀ q ∈ ps, Part E V nt nt2 q)
    (k : ∀ H3, Prog E V U W H rows nt (sz + 1) H3 nt2 → Keep (EW E) H2 H3 → Q .none H3) : CallsTo X (d + 1) (.ref (fa 2901)) [.inst 5 E.s, .tup (.str (Str.ofString nm) :: ps)] Q H2 := by
  obtain ⟨⟨ns, a, b, co, hs⟩, kp⟩ := p
  refine c2901 ok cl pf a (k _ ⟨⟨ns ++ [.tup (.str (Str.ofString nm) :: ps)], ?_, ⟨b.1, fun r hr => ?_⟩, fun k hk hv => ?_, ?_⟩, kp.trans (kCode.mono hw)⟩ kCode)
  · rw [← List.append_assoc]; exact a.push1 (by rw [List.length_append]; (first | lia | omega))
  · exact (List.mem_append.mp hr).elim (b.2 r) fun h => ⟨nm, ps, List.mem_singleton.mp h, hb, hl, hp⟩
  · obtain ⟨n', p', h1, h2⟩ := co k hk hv
    exact ⟨n', p', List.mem_append_left _ h1, h2⟩
  · rw [List.length_append]; exact Nat.succ_le_succ hs
theorem Prog.temp (ok : X.Ok) (cl : X.Cls) (pf : PF X fa tk) {Q : MV → MH → Prop} (p : Prog E V U W H rows nt sz H2 nt2) (hw : ∀ b, EW E b → W b)
    (k : ∀ H3, Prog E V U W H rows nt sz H3 (nt2 + 1) → Keep (EW E) H2 H3 → Q (.tup [.str (Str.ofString "t"), .int nt2]) H3) : CallsTo X (d + 1) (.ref (fa 2902)) [.inst 5 E.s] Q H2 := by
  obtain ⟨⟨ns, a, b, co, hs⟩, kp⟩ := p
  have le : nt2 ≤ nt2 + 1 := Int.le_add_one (Int.le_refl _)
  exact c2902 ok cl pf a fun c e => k _ ⟨⟨ns, e, ⟨Int.le_trans b.1 le, fun r hr => (b.2 r hr).mono (fun _ z => z) (Int.le_refl _) le⟩, co, hs⟩, kp.trans (kSelf.mono hw)⟩ kSelf
theorem Emit.apart {a : Addr} (e : Emit E H rows nt) (h : H a = none) : ¬ EW E a := by
  rintro (rfl | rfl | rfl | rfl)
  · rw [e.self] at h; cases h
  · rw [e.code] at h; cases h
  · obtain ⟨l, q, _⟩ := e.seen; rw [q] at h; cases h
  · obtain ⟨l, q, _⟩ := e.loc; rw [q] at h; cases h
theorem Emit.list {a : Addr} {l l' : List MV} (e : Emit E H rows nt) (h : H a = some (.L l)) (n : ¬ EW E a) : Emit E (H.set a (.L l')) rows nt :=
  e.upd (fun z => n (.inl z)) (fun z => n (.inr (.inl z))) (fun z => n (.inr (.inr (.inl z)))) (fun z => n (.inr (.inr (.inr z)))) (fun c l z => nomatch h.symm.trans z) (fun v o z => nomatch h.symm.trans z)
theorem Emit.new {a : Addr} {c : Cell} (e : Emit E H rows nt) (h : H a = none) : Emit E (H.set a c) rows nt :=
  have n := e.apart h
  e.upd (fun z => n (.inl z)) (fun z => n (.inr (.inl z))) (fun z => n (.inr (.inr (.inl z)))) (fun z => n (.inr (.inr (.inr z)))) (fun c l z => nomatch h.symm.trans z) (fun v o z => nomatch h.symm.trans z)
theorem Prog.list {a : Addr} {l l' : List MV} (p : Prog E V U W H rows nt sz H2 nt2) (h : H2 a = some (.L l)) (n : ¬ EW E a) (hw : W a) : Prog E V U W H rows nt sz (H2.set a (.L l')) nt2 :=
  let ⟨⟨ns, em, b, c, d⟩, e⟩ := p; ⟨⟨ns, em.list h n, b, c, d⟩, e.trans (.set (.inl hw))⟩
theorem Prog.new {a : Addr} {c : Cell} (p : Prog E V U W H rows nt sz H2 nt2) (h : H2 a = none) : Prog E V U W H rows nt sz (H2.set a c) nt2 :=
  let ⟨⟨ns, em, b, c, d⟩, e⟩ := p; ⟨⟨ns, em.new h, b, c, d⟩, e.trans (.set (.inr h))⟩
end
noncomputable def Tm.isS : Tm → Bool
  | .s1 _ _ => true
  | .s2 _ _ _ => true
  | _ => false
noncomputable def Tm.vars : Tm → List Int
  | .v k => [k]
  | .s1 _ x => x.vars
  | .s2 _ x y => x.vars ++ y.vars
  | _ => []
noncomputable def encI (p : Tm × MV) : MV := .tup [p.1.enc, p.2]
noncomputable abbrev W2 (E : Em) (w nl : Addr) : Addr → Prop := fun b => EW E b ∨ b = w ∨ b = nl
noncomputable def Tm.nodes : Tm → Nat
  | .s1 _ x => x.nodes + 1
  | .s2 _ x y => x.nodes + y.nodes + 1
  | _ => 1
theorem Tm.nodes_pos (t : Tm) : 1 ≤ t.nodes := by cases t <;> simp [Tm.nodes]
noncomputable def Tm.args : Tm → List Tm
  | .s1 _ x => [x]
  | .s2 _ x y => [x, y]
  | _ => []
noncomputable def Tm.fn : Tm → Int
  | .s1 f _ => f
  | .s2 f _ _ => f
  | _ => 0
theorem Tm.enc_s {t : Tm} (h : t.isS = true) : t.enc = .tup [.str (Str.ofString "s"), .int t.fn, .tup (t.args.map Tm.enc)] := by cases t <;> first | rfl | cases h
theorem Tm.args_len (t : Tm) : t.args.length ≤ 2 := by cases t <;> first | exact leB rfl | exact Nat.zero_le _
theorem Tm.leaf {t : Tm} (h : t.isS = false) : (∃ k, t = .v k) ∨ ∃ s z, t.enc = .tup [.str s, .int z] ∧ (s == Str.ofString "v") = false ∧ (s == Str.ofString "s") = false ∧ t.vars = [] ∧ ((∃ y, t = .a y) ∨ ∃ y, t = .i y) := by
  cases t with
  | v k => exact .inl ⟨k, rfl⟩
  | a x => exact .inr ⟨_, _, rfl, by kernel_rfl!, by kernel_rfl!, rfl, .inl ⟨x, rfl⟩⟩
  | i x => exact .inr ⟨_, _, rfl, by kernel_rfl!, by kernel_rfl!, rfl, .inr ⟨x, rfl⟩⟩
  | _ => cases h
theorem ixE0 {H : MH} {m x : MV} {l : List MV} (h : m = .tup (x :: l)) : IdxR H m (.int 0) x := h ▸ ix0
theorem ixE1 {H : MH} {m x y : MV} {l : List MV} (h : m = .tup (x :: y :: l)) : IdxR H m (.int 1) y := h ▸ ix1
theorem ixE2 {H : MH} {m x y z : MV} {l : List MV} (h : m = .tup (x :: y :: z :: l)) : IdxR H m (.int 2) z := h ▸ ix2
theorem lt_one (n : Int) : n < n + 1 := Int.lt_add_one_of_le (Int.le_refl n)
theorem le_one (n : Int) : n ≤ n + 1 := Int.le_add_one (Int.le_refl n)
theorem v_mem {k : Int} {done : List Tm} {x : Tm} (h : Tm.v k ∈ done ++ [x]) : Tm.v k ∈ done ∨ x = .v k := (List.mem_append.mp h).imp id fun z => (List.mem_singleton.mp z).symm
structure MA (E : Em) (V : Int → Prop) (H : MH) (rows wl : List MV) (nt : Int) (w nl : Addr) (l done : List Tm) (σ : St) : Prop where
  ex : ∃ (H1 : MH) (nt' v : Int) (x y : Option MV) (its : List (Tm × MV)), σ = ⟨[some (.inst 5 E.s), some (.tup (l.map Tm.enc)), some (.ref w), some (.ref nl), some (.int v), x, y], H1⟩ ∧ 0 ≤ v ∧
    Prog E V (fun k => Tm.v k ∈ done) (W2 E w nl) H rows nt (2 * done.length) H1 nt' ∧ H1 nl = some (.L (its.map encI)) ∧ H1 w = some (.L wl) ∧ (∀ p ∈ its, Reg nt nt' p.2) ∧ its.map (·.1) = done.filter Tm.isS
noncomputable def DR (E : Em) (V : Int → Prop) (H : MH) (rows wl : List MV) (nt : Int) (w nl : Addr) (l : List Tm) (H2 : MH) (nt' v : Int) (x1 y1 : Option MV) (its : List (Tm × MV)) (n : Nat) (σ : St) : Prop :=
  ∃ a b H3, its = a ++ b ∧ σ = ⟨[some (.inst 5 E.s), some (.tup (l.map Tm.enc)), some (.ref w), some (.ref nl), some (.int v), x1, y1], H3⟩ ∧ H3 nl = some (.L (a.map encI)) ∧ H3 w = some (.L (wl ++ b.reverse.map encI)) ∧ Prog E V (fun k => Tm.v k ∈ l) (W2 E w nl) H rows nt 5 H3 nt' ∧ n = a.length
noncomputable def p3002_5 (X : Ctx) (d : Nat) (fa : Nat → Addr) : WS := wSeq (wCtl .cont) wEnd
noncomputable def p3002_4 (X : Ctx) (d : Nat) (fa : Nat → Addr) : WS := wSeq (wAugName 4 .Add (wConst (.int 1))) (p3002_5 X d fa)
noncomputable def p3002_8 (X : Ctx) (d : Nat) (fa : Nat → Addr) : WS := wSeq (wAsg (wConst (.int 0)) (wStore 4)) wEnd
noncomputable def p3002_7 (X : Ctx) (d : Nat) (fa : Nat → Addr) : WS := wSeq (wExpr (wMeth X d (mtab fa) (wLoc 0) (Str.ofString "emit") (wCons (wTup (wCons (wConst (.str (Str.ofString "unify_void"))) (wCons (wLoc 4) wNil))) wNil))) (p3002_8 X d fa)
noncomputable def p3002_10 (X : Ctx) (d : Nat) (fa : Nat → Addr) : WS := wSeq (wExpr (wMeth X d (mtab fa) (wLoc 0) (Str.ofString "match_variable") (wCons (wIdx (wLoc 5) (wConst (.int 1))) wNil))) wEnd
noncomputable def p3002_14 (X : Ctx) (d : Nat) (fa : Nat → Addr) : WS := wSeq (wExpr (wMethB "list" bAppend (wLoc 3) (wCons (wTup (wCons (wLoc 5) (wCons (wLoc 6) wNil))) wNil))) wEnd
noncomputable def p3002_13 (X : Ctx) (d : Nat) (fa : Nat → Addr) : WS := wSeq (wExpr (wMeth X d (mtab fa) (wLoc 0) (Str.ofString "emit") (wCons (wTup (wCons (wConst (.str (Str.ofString "unify_variable"))) (wCons (wLoc 6) wNil))) wNil))) (p3002_14 X d fa)
noncomputable def p3002_12 (X : Ctx) (d : Nat) (fa : Nat → Addr) : WS := wSeq (wAsg (wMeth X d (mtab fa) (wLoc 0) (Str.ofString "new_temporary") wNil) (wStore 6)) (p3002_13 X d fa)
noncomputable def p3002_15 (X : Ctx) (d : Nat) (fa : Nat → Addr) : WS := wSeq (wExpr (wMeth X d (mtab fa) (wLoc 0) (Str.ofString "emit") (wCons (wTup (wCons (wConst (.str (Str.ofString "unify_constant"))) (wCons (wCall X d (.ref (fa 18)) (wCons (wLoc 5) wNil)) wNil))) wNil))) wEnd
noncomputable def p3002_11 (X : Ctx) (d : Nat) (fa : Nat → Addr) : WS := wSeq (wIf (wTCmp .Eq (wIdx (wLoc 5) (wConst (.int 0))) (wConst (.str (Str.ofString "s")))) (p3002_12 X d fa) (p3002_15 X d fa)) wEnd
noncomputable def p3002_9 (X : Ctx) (d : Nat) (fa : Nat → Addr) : WS := wSeq (wIf (wTCmp .Eq (wIdx (wLoc 5) (wConst (.int 0))) (wConst (.str (Str.ofString "v")))) (p3002_10 X d fa) (p3002_11 X d fa)) wEnd
noncomputable def p3002_6 (X : Ctx) (d : Nat) (fa : Nat → Addr) : WS := wSeq (wIf (wTCmp .Gt (wLoc 4) (wConst (.int 0))) (p3002_7 X d fa) wEnd) (p3002_9 X d fa)
noncomputable def p3002_3 (X : Ctx) (d : Nat) (fa : Nat → Addr) : WS := wSeq (wIf (wTAnd (wTCmp .Eq (wIdx (wLoc 5) (wConst (.int 0))) (wConst (.str (Str.ofString "v")))) (wTAnd (wTVal (wMeth X d (mtab fa) (wLoc 0) (Str.ofString "is_void") (wCons (wIdx (wLoc 5) (wConst (.int 1))) wNil))) (wB true))) (p3002_4 X d fa) wEnd) (p3002_6 X d fa)
noncomputable def p3002_17 (X : Ctx) (d : Nat) (fa : Nat → Addr) : WS := wSeq (wExpr (wMeth X d (mtab fa) (wLoc 0) (Str.ofString "emit") (wCons (wTup (wCons (wConst (.str (Str.ofString "unify_void"))) (wCons (wLoc 4) wNil))) wNil))) wEnd
noncomputable def p3002_19 (X : Ctx) (d : Nat) (fa : Nat → Addr) : WS := wSeq (wExpr (wMethB "list" bAppend (wLoc 2) (wCons (wMethB "list" bPop (wLoc 3) wNil) wNil))) wEnd
noncomputable def p3002_18 (X : Ctx) (d : Nat) (fa : Nat → Addr) : WS := wSeq (wWhile (wTCmp .Gt (wOB bLen (wCons (wLoc 3) wNil)) (wConst (.int 0))) (p3002_19 X d fa)) wEnd
noncomputable def p3002_16 (X : Ctx) (d : Nat) (fa : Nat → Addr) : WS := wSeq (wIf (wTCmp .Gt (wLoc 4) (wConst (.int 0))) (p3002_17 X d fa) wEnd) (p3002_18 X d fa)
noncomputable def p3002_2 (X : Ctx) (d : Nat) (fa : Nat → Addr) : WS := wSeq (wFor (wSrc (wLoc 1)) (wStore 5) (p3002_3 X d fa)) (p3002_16 X d fa)
noncomputable def p3002_1 (X : Ctx) (d : Nat) (fa : Nat → Addr) : WS := wSeq (wAsg (wConst (.int 0)) (wStore 4)) (p3002_2 X d fa)
noncomputable def p3002 (X : Ctx) (d : Nat) (fa : Nat → Addr) : WS := wSeq (wAsg (wList wNil) (wStore 3)) (p3002_1 X d fa)
theorem d3002 (ok : X.Ok) (cl : X.Cls) (pf : PF X fa tk) {q : Str} {dc pm co : Value} {L : Addr} : SS X d (fiOf (mkFd (fnOf 3002) q dc pm co) (nms 30) (fa 3002) L) (fnB (fnOf 3002)) (p3002 X d fa) :=
  have s0 : Slot (fiOf (mkFd (fnOf 3002) q dc pm co) (nms 30) (fa 3002) L) 0 (Str.ofString "self") := .loc (by rfl) (by kernel_rfl) (by decide)
  have s1 : Slot (fiOf (mkFd (fnOf 3002) q dc pm co) (nms 30) (fa 3002) L) 1 (Str.ofString "args") := .loc (by rfl) (by kernel_rfl) (by decide)
  have s2 : Slot (fiOf (mkFd (fnOf 3002) q dc pm co) (nms 30) (fa 3002) L) 2 (Str.ofString "waiting") := .loc (by rfl) (by kernel_rfl) (by decide)
  have s3 : Slot (fiOf (mkFd (fnOf 3002) q dc pm co) (nms 30) (fa 3002) L) 3 (Str.ofString "nested") := .loc (by rfl) (by kernel_rfl) (by decide)
  have s4 : Slot (fiOf (mkFd (fnOf 3002) q dc pm co) (nms 30) (fa 3002) L) 4 (Str.ofString "voids") := .loc (by rfl) (by kernel_rfl) (by decide)
  have s5 : Slot (fiOf (mkFd (fnOf 3002) q dc pm co) (nms 30) (fa 3002) L) 5 (Str.ofString "arg") := .loc (by rfl) (by kernel_rfl) (by decide)
  have s6 : Slot (fiOf (mkFd (fnOf 3002) q dc pm co) (nms 30) (fa 3002) L) 6 (Str.ofString "temporary") := .loc (by rfl) (by kernel_rfl) (by decide)
  have g_constant_cell : GlobV X (fiOf (mkFd (fnOf 3002) q dc pm co) (nms 30) (fa 3002) L) (Str.ofString "constant_cell") (.ref (fa 18)) := ⟨by kernel_rfl, pf.g 23 _ _ rfl, by decide⟩
  have g_len : GlobV X (fiOf (mkFd (fnOf 3002) q dc pm co) (nms 30) (fa 3002) L) (Str.ofString "len") (.builtin "len") := ⟨by kernel_rfl, pf.g 30 _ _ rfl, by decide⟩
  (SS.cons (SX.asgName (SE.list SEs.nil) s3) (SS.cons (SX.asgName SE.int s4) (SS.cons (SX.for (SI.val ok (SE.loc s1)) (SAs.name s5) (SS.cons (SX.if (ST.bool (SA.and (ST.cmp ok (SE.idx (SE.loc s5) SE.int) SE.str) (SA.and (ST.val (SE.meth ok pf.mt (SE.loc s0) (SEs.cons (SE.idx (SE.loc s5) SE.int) SEs.nil))) SA.nil_and))) (SS.cons (SX.augName s4 SE.int) (SS.cons SX.cont SS.nil)) SS.nil) (SS.cons (SX.if (ST.cmp ok (SE.loc s4) SE.int) (SS.cons (SX.expr (SE.meth ok pf.mt (SE.loc s0) (SEs.cons (SE.tup (SEs.cons SE.str (SEs.cons (SE.loc s4) SEs.nil))) SEs.nil))) (SS.cons (SX.asgName SE.int s4) SS.nil)) SS.nil) (SS.cons (SX.if (ST.cmp ok (SE.idx (SE.loc s5) SE.int) SE.str) (SS.cons (SX.expr (SE.meth ok pf.mt (SE.loc s0) (SEs.cons (SE.idx (SE.loc s5) SE.int) SEs.nil))) SS.nil) (SS.cons (SX.if (ST.cmp ok (SE.idx (SE.loc s5) SE.int) SE.str) (SS.cons (SX.asgName (SE.meth ok pf.mt (SE.loc s0) SEs.nil) s6) (SS.cons (SX.expr (SE.meth ok pf.mt (SE.loc s0) (SEs.cons (SE.tup (SEs.cons SE.str (SEs.cons (SE.loc s6) SEs.nil))) SEs.nil))) (SS.cons (SX.expr (SE.methB (SE.loc s3) (SEs.cons (SE.tup (SEs.cons (SE.loc s5) (SEs.cons (SE.loc s6) SEs.nil))) SEs.nil) (by decide) PySem.F.plainAttrs_list PySem.F.slot_list_append PySem.F.type_list_append okAppend (by rfl) (by rfl) (by rfl))) SS.nil))) (SS.cons (SX.expr (SE.meth ok pf.mt (SE.loc s0) (SEs.cons (SE.tup (SEs.cons SE.str (SEs.cons (SE.callF ok g_constant_cell (pf.kf 23 _ _ rfl) (SEs.cons (SE.loc s5) SEs.nil)) SEs.nil))) SEs.nil))) SS.nil)) SS.nil)) SS.nil)))) (SS.cons (SX.if (ST.cmp ok (SE.loc s4) SE.int) (SS.cons (SX.expr (SE.meth ok pf.mt (SE.loc s0) (SEs.cons (SE.tup (SEs.cons SE.str (SEs.cons (SE.loc s4) SEs.nil))) SEs.nil))) SS.nil) SS.nil) (SS.cons (SX.while (ST.cmp ok (SE.callB ok g_len (SEs.cons (SE.loc s3) SEs.nil) okLen) SE.int) (SS.cons (SX.expr (SE.methB (SE.loc s2) (SEs.cons (SE.methB (SE.loc s3) SEs.nil (by decide) PySem.F.plainAttrs_list PySem.F.slot_list_pop PySem.F.type_list_pop okPop (by rfl) (by rfl) (by rfl)) SEs.nil) (by decide) PySem.F.plainAttrs_list PySem.F.slot_list_append PySem.F.type_list_append okAppend (by rfl) (by rfl) (by rfl))) SS.nil)) SS.nil)))))
theorem c3002 (ok : X.Ok) (cl : X.Cls) (pf : PF X fa tk) {E : Em} {V : Int → Prop} {H : MH} {rows wl : List MV} {nt : Int} {l : List Tm} {w : Addr} {Q : MV → MH → Prop} (e : Emit E H rows nt) (hl : l.length ≤ 2) (hW : H w = some (.L wl)) (wE : ¬ EW E w)
    (hks : ∀ t ∈ l, ∀ k ∈ t.vars, k ∈ E.ks ∧ V k) (hz : rows.length + 10 ≤ 50000) (hwl : wl.length ≤ 10000)
    (K : ∀ (nt' : Int) (H' : MH) (its : List (Tm × MV)), Prog E V (fun k => Tm.v k ∈ l) (fun b => EW E b ∨ b = w) H rows nt 5 H' nt' → H' w = some (.L (wl ++ its.map encI)) → (∀ p ∈ its, Reg nt nt' p.2) → its.map (·.1) = (l.filter Tm.isS).reverse → Q .none H') : CallsTo X (d + 3) (.ref (fa 3002)) [.inst 5 E.s, .tup (l.map Tm.enc), .ref w] Q H := by
  obtain ⟨q, dc, pm, co, ff⟩ := pf.fn 30 _ _ _ rfl; refine callsTo_def ok ff (fun L => d3002 ok cl pf) rfl 4 ?_
  walk_at "s"
  intro nl nd
  have nlE := e.apart nd
  have nlw : nl ≠ w := by rintro rfl; rw [hW] at nd; cases nd
  walk_at "s"
  walk_at "s"
  refine ⟨_, .tup, .inv Tm.enc (fun done rest σ => l = done ++ rest ∧ MA E V H rows wl nt w nl l done σ) ⟨rfl, ⟨_, nt, 0, none, none, [], rfl, Int.le_refl _, (Prog.start e).new nd |>.weak (fun k h => nomatch h) (Nat.zero_le _), H.set_self .., set_at hW nlw.symm, nofun, rfl⟩⟩ ?_ ?_ rfl⟩
  · rintro done x rest σ G ⟨hd, ⟨H1, nt', v, x1, y1, its, rfl, hv0, p, hnl, hw, hi, hi4⟩⟩ hG
    refine ⟨trivial, ?_⟩
    walk_at "s"
    have lin := congrArg List.length hd
    rw [List.length_append, List.length_cons] at lin
    have iln : its.length ≤ done.length := by
      have := congrArg List.length hi4
      rw [List.length_map] at this
      exact this ▸ List.length_filter_le ..
    have xin : x ∈ l := by rw [hd]; exact List.mem_append_right _ (.head _)
    have hd' : l = done ++ [x] ++ rest := by rw [hd, List.append_assoc]; rfl
    have main : (∀ k, x = .v k → (E.vi k).kind ≠ .void) → ∀ H2, Prog E V (fun k => Tm.v k ∈ done) (W2 E w nl) H rows nt (2 * done.length + 1) H2 nt' → H2 nl = some (.L (its.map encI)) → H2 w = some (.L wl) → p3002_9 X (d + 2) fa G ⟨[some (.inst 5 E.s), some (.tup (l.map Tm.enc)), some (.ref w), some (.ref nl), some (.int 0), some x.enc, y1], H2⟩ := by
      intro nv H2 p2 hnl2 hw2
      have rl : rows.length + (2 * done.length + 1) + 1 ≤ 50000 := by (first | lia | omega)
      cases hx : x.isS with
      | true =>
        have hen := Tm.enc_s hx
        rw [hen]
        walk_at "s"
        refine ⟨_, ix0, _, .eq .str, .no (by kernel_rfl!) ?_⟩
        walk_at "s"
        refine ⟨_, ix0, _, .eq .str, .yes (by kernel_rfl!) ?_⟩
        walk_at "s"
        obtain ⟨r2, e2, _, nn⟩ := p2.at
        refine ⟨_, .mk mt5_new_temporary e2.self, p2.temp ok cl pf (fun b z => .inl z) fun H3 p3 k3 => ?_⟩
        walk_at "s"
        obtain ⟨r3, e3, _, nn3⟩ := p3.at
        refine ⟨_, .mk mt5_emit e3.self, p3.emit ok cl pf (fun b z => .inl z) rl (by decide) (leB rfl) (fun q hq => .inr (.inr (.inl (.inr ⟨nt', nn, lt_one _, List.mem_singleton.mp hq⟩)))) fun H4 p4 k4 => ?_⟩
        have hnl4 := k4.at (k3.at hnl2 nlE) nlE
        walk_at "s"
        refine ⟨_, .mk hnl4 rfl, .mk hnl4 (by rw [List.length_map]; (first | lia | omega)) ?_⟩
        rw [← hen]
        refine hG.next _ ⟨hd', ⟨_, nt' + 1, 0, _, _, its ++ [(x, .tup [.str (Str.ofString "t"), .int nt'])], rfl, Int.le_refl _, (p4.list hnl4 nlE (.inr (.inr rfl))).weak (fun k hk _ => (v_mem hk).elim id fun z => by rw [z] at hx; cases hx) (by rw [List.length_append]; exact Nat.le_refl _), ?_, set_at (k4.at (k3.at hw2 wE) wE) nlw.symm, fun q hq => ?_, ?_⟩⟩
        · rw [List.map_append]; exact MH.set_self ..
        · exact (List.mem_append.mp hq).elim (fun h => (hi q h).mono (Int.le_refl _) (le_one _)) fun h => by cases List.mem_singleton.mp h; exact .inr ⟨nt', nn, lt_one _, rfl⟩
        · rw [List.map_append, hi4, List.filter_append, List.filter_cons_of_pos hx]; rfl
      | false =>
        have hf : its.map (·.1) = (done ++ [x]).filter Tm.isS := by rw [List.filter_append, List.filter_cons_of_neg (by rw [hx]; nofun), List.filter_nil, List.append_nil]; exact hi4
        obtain ⟨r2, e2, hr2, nn⟩ := p2.at
        rcases Tm.leaf hx with ⟨k, rfl⟩ | ⟨s, z, hen, s1, s2, hv, hc⟩
        · walk_at "s"
          refine ⟨_, ix0, _, .eq .str, .yes (by kernel_rfl!) ?_⟩
          walk_at "s"
          have hk := hks _ xin k (.head _)
          refine ⟨_, .mk mt5_match_variable e2.self, _, ix1, p2.then (fun b z => .inl z) (fun r e hr K' => c3003 ok cl pf e hk.1 hk.2 (nv k rfl) (by (first | lia | omega)) K') (Nat.le_refl _) fun H3 nt3 p3 k3 n3 => ?_⟩
          exact hG.next _ ⟨hd', ⟨_, nt3, 0, _, _, its, rfl, Int.le_refl _, p3.weak (fun j hj _ => (v_mem hj).imp id fun z => (Tm.v.inj z).symm) (by rw [List.length_append]; exact Nat.le_refl _), k3.at hnl2 nlE, k3.at hw2 wE, fun q hq => (hi q hq).mono (Int.le_refl _) n3, hf⟩⟩
        · rw [hen]
          walk_at "s"
          refine ⟨_, ix0, _, .eq .str, .no s1 ?_⟩
          walk_at "s"
          refine ⟨_, ix0, _, .eq .str, .no s2 ?_⟩
          walk_at "s"
          rw [← hen]
          refine ⟨_, .mk mt5_emit e2.self, c18 ok cl pf hc fun c y => p2.emit ok cl pf (fun b z => .inl z) rl (by decide) (leB rfl) (fun q hq => .inr (.inl ⟨_, _, List.mem_singleton.mp hq⟩)) fun H3 p3 k3 => ?_⟩
          exact hG.next _ ⟨hd', ⟨_, nt', 0, _, _, its, rfl, Int.le_refl _, p3.weak (fun j hj _ => (v_mem hj).elim id fun z => by rw [z] at hv; cases hv) (by rw [List.length_append]; exact Nat.le_refl _), k3.at hnl2 nlE, k3.at hw2 wE, hi, hf⟩⟩
    have next : (∀ k, x = .v k → (E.vi k).kind ≠ .void) → p3002_6 X (d + 2) fa G ⟨[some (.inst 5 E.s), some (.tup (l.map Tm.enc)), some (.ref w), some (.ref nl), some (.int v), some x.enc, y1], H1⟩ := by
      intro nv
      walk_at "s"
      refine ⟨_, .gt, .dec (fun h => ?_) fun h => ?_⟩
      · walk_at "s"
        obtain ⟨r, e1, _, _⟩ := p.at
        refine ⟨_, .mk mt5_emit e1.self, p.emit ok cl pf (fun b z => .inl z) (by (first | lia | omega)) (by decide) (leB rfl) (fun q hq => .inl ⟨_, List.mem_singleton.mp hq⟩) fun H3 p3 k3 => ?_⟩
        exact main nv H3 p3 (k3.at hnl nlE) (k3.at hw wE)
      · cases (show v = 0 by (first | lia | omega))
        exact main nv H1 (p.weak (fun _ h _ => h) (Nat.le_succ _)) hnl hw
    obtain ⟨r1, e1, _, _⟩ := p.at
    cases hx : x.isS with
    | true =>
      rw [Tm.enc_s hx] at next ⊢
      refine ⟨_, ix0, _, .eq .str, .no (by kernel_rfl!) (.f (next fun k z => ?_))⟩
      rw [z] at hx; cases hx
    | false =>
      rcases Tm.leaf hx with ⟨k, rfl⟩ | ⟨s, z, hen, s1, s2, hv, hc⟩
      · refine ⟨_, ix0, _, .eq .str, .yes (by kernel_rfl!) ⟨_, .mk mt5_is_void e1.self, _, ix1, c2903 ok cl pf e1 (hks _ xin k (.head _)).1 ⟨_, .bool, .dec (fun kv => ?_) fun kv => .f (next fun j h => by cases h; exact kv)⟩⟩⟩
        walk_at "s"
        refine .t ⟨_, .add, ?_⟩
        exact hG.cont _ ⟨hd', ⟨_, nt', v + 1, _, _, its, rfl, by (first | lia | omega), p.weak (fun j hj hnv => (v_mem hj).elim id fun z => by cases z; exact absurd kv hnv) (by rw [List.length_append]; (first | lia | omega)), hnl, hw, hi, by rw [List.filter_append]; exact hi4.trans (List.append_nil _).symm⟩⟩
      · rw [hen] at next ⊢
        refine ⟨_, ix0, _, .eq .str, .no s1 (.f (next fun k z => ?_))⟩
        rw [z] at hv; cases hv
  · rintro done σ ⟨hd, ⟨H1, nt', v, x1, y1, its, rfl, hv0, p, hnl, hw, hi, hi4⟩⟩
    refine ⟨trivial, ?_⟩
    rw [List.append_nil] at hd; subst hd
    have lin : its.length ≤ l.length := by
      have := congrArg List.length hi4
      rw [List.length_map] at this
      exact this ▸ List.length_filter_le ..
    have main : ∀ H2, Prog E V (fun k => Tm.v k ∈ l) (W2 E w nl) H rows nt 5 H2 nt' → H2 nl = some (.L (its.map encI)) → H2 w = some (.L wl) → p3002_18 X (d + 2) fa (fun m σ => Q (retOf m) σ.H) ⟨[some (.inst 5 E.s), some (.tup (l.map Tm.enc)), some (.ref w), some (.ref nl), some (.int v), x1, y1], H2⟩ := by
      intro H2 p2 hnl2 hw2
      walk_at "s"
      refine .inv (DR E V H rows wl nt w nl l H2 nt' v x1 y1 its) ⟨its, [], _, (List.append_nil _).symm, rfl, hnl2, by rw [hw2, List.reverse_nil, List.map_nil, List.append_nil], p2, rfl⟩ ?_
      rintro n σ G ⟨a, b, H3, rfl, rfl, hn3, hw3, p3, rfl⟩ hG
      walk_at "s"
      rw [List.length_append] at lin
      refine .list hn3 (by rw [List.length_map]; (first | lia | omega)) ⟨_, .gt, .dec (fun h => ?_) fun h => ?_⟩
      · rw [List.length_map] at h
        obtain ⟨a', y, rfl⟩ : ∃ a' y, a = a' ++ [y] := ⟨_, _, (List.dropLast_concat_getLast (by rintro rfl; exact absurd h (by decide))).symm⟩
        rw [List.length_append] at lin
        walk_at "s"
        refine ⟨_, .mk hw3 rfl, _, .mk hn3 rfl, .mk (l := a'.map encI) (v := encI y) (by rw [hn3, List.map_append]; rfl) (by rw [List.length_map]; (first | lia | omega)) (.mk (set_at hw3 nlw.symm) (by rw [List.length_append, List.length_map, List.length_reverse]; (first | lia | omega)) (hG.next _ ⟨a'.length, by rw [List.length_append]; exact Nat.lt_succ_self _, a', y :: b, _, by rw [List.append_assoc]; rfl, rfl, set_at (MH.set_self ..) nlw, ?_, (p3.list hn3 nlE (.inr (.inr rfl))).list (set_at hw3 nlw.symm) wE (.inr (.inl rfl)), rfl⟩))⟩
        rw [MH.set_self, List.reverse_cons, List.map_append, List.append_assoc]; rfl
      · rw [List.length_map] at h
        cases a with
        | cons y a => exact absurd (Int.ofNat_lt.mpr (Nat.succ_pos a.length)) h
        | nil =>
          refine K nt' H3 b.reverse ⟨p3.ex, (p3.keep.mono fun b z => z.elim (fun z => .inl (.inl z)) (·.imp .inr id)).off nd⟩ hw3 (fun q hq => hi q (List.mem_reverse.mp hq)) ?_
          rw [List.map_reverse]; exact congrArg List.reverse hi4
    walk_at "s"
    refine ⟨_, .gt, .dec (fun h => ?_) fun h => main H1 (p.weak (fun _ h _ => h) (by (first | lia | omega))) hnl hw⟩
    walk_at "s"
    obtain ⟨r, e1, _, _⟩ := p.at
    refine ⟨_, .mk mt5_emit e1.self, p.emit ok cl pf (fun b z => .inl z) (by (first | lia | omega)) (by decide) (leB rfl) (fun q hq => .inl ⟨_, List.mem_singleton.mp hq⟩) fun H3 p3 k3 => ?_⟩
    exact main H3 (p3.weak (fun _ h _ => h) (by (first | lia | omega))) (k3.at hnl nlE) (k3.at hw wE)
theorem Tm.vars_args {t : Tm} {k : Int} (h : t.isS = true) : k ∈ t.vars ↔ ∃ x ∈ t.args, k ∈ x.vars := by
  cases t with
  | s1 f x => exact ⟨fun h => ⟨x, .head _, h⟩, fun ⟨y, hy, h⟩ => by cases List.mem_singleton.mp hy; exact h⟩
  | s2 f x y =>
    refine ⟨fun h => (List.mem_append.mp h).elim (fun h => ⟨x, .head _, h⟩) fun h => ⟨y, .tail _ (.head _), h⟩, fun ⟨z, hz, hk⟩ => ?_⟩
    rcases List.mem_cons.mp hz with rfl | hz
    · exact List.mem_append_left _ hk
    · cases List.mem_singleton.mp hz; exact List.mem_append_right _ hk
  | _ => cases h
noncomputable def sumN : List (Tm × MV) → Nat
  | [] => 0
  | p :: r => p.1.nodes + sumN r
theorem sumN_append : ∀ (a b : List (Tm × MV)), sumN (a ++ b) = sumN a + sumN b
  | [], b => (Nat.zero_add _).symm
  | x :: r, b => by rw [List.cons_append, sumN, sumN, sumN_append r b, Nat.add_assoc]
theorem sumN_map : ∀ l : List (Tm × MV), sumN l = ((l.map (·.1)).map Tm.nodes).sum
  | [] => rfl
  | x :: r => by rw [sumN, sumN_map r]; rfl
theorem sumN_len : ∀ l : List (Tm × MV), l.length ≤ sumN l
  | [] => Nat.le_refl _
  | x :: r => by have := sumN_len r; have := x.1.nodes_pos; rw [List.length_cons, sumN]; (first | lia | omega)
theorem sum_args {t : Tm} (h : t.isS = true) {l : List (Tm × MV)} (e : l.map (·.1) = (t.args.filter Tm.isS).reverse) : sumN l + 1 ≤ t.nodes := by
  rw [sumN_map, e]
  cases t with
  | s1 f x => cases hx : x.isS <;> simp [Tm.args, Tm.nodes, List.filter, hx]
  | s2 f x y => cases hx : x.isS <;> cases hy : y.isS <;> simp [Tm.args, Tm.nodes, List.filter, hx, hy] <;> (first | lia | omega)
  | _ => cases h
theorem its_of {t : Tm} {l : List (Tm × MV)} (e : l.map (·.1) = (t.args.filter Tm.isS).reverse) {p : Tm × MV} (h : p ∈ l) : p.1 ∈ t.args ∧ p.1.isS = true :=
  List.mem_filter.mp (List.mem_reverse.mp (e ▸ List.mem_map_of_mem h))
theorem its_all {t : Tm} {l : List (Tm × MV)} (hs : t.isS = true) (e : l.map (·.1) = (t.args.filter Tm.isS).reverse) {k : Int} (h : k ∈ t.vars) : Tm.v k ∈ t.args ∨ ∃ p ∈ l, k ∈ p.1.vars := by
  obtain ⟨x, hx, hk⟩ := (Tm.vars_args hs).mp h
  cases hS : x.isS with
  | true =>
    have : x ∈ l.map (·.1) := by rw [e]; exact List.mem_reverse.mpr (List.mem_filter.mpr ⟨hx, hS⟩)
    obtain ⟨p, hp, rfl⟩ := List.mem_map.mp this
    exact .inr ⟨p, hp, hk⟩
  | false =>
    rcases Tm.leaf hS with ⟨j, rfl⟩ | ⟨_, _, _, _, _, hv, _⟩
    · cases List.mem_singleton.mp hk; exact .inl hx
    · rw [hv] at hk; cases hk
noncomputable def MW (E : Em) (V : Int → Prop) (H : MH) (rows : List MV) (nt : Int) (tm : Tm) (src : MV) (wa : Addr) (n : Nat) (σ : St) : Prop :=
  ∃ (H1 : MH) (nt' : Int) (its : List (Tm × MV)) (x y : Option MV) (m : Nat), σ = ⟨[some (.inst 5 E.s), some tm.enc, some src, some (.ref wa), x, y], H1⟩ ∧ Prog E V (fun k => k ∈ tm.vars ∧ ∀ p ∈ its, k ∉ p.1.vars) (fun b => EW E b ∨ b = wa) H rows nt m H1 nt' ∧ m + 6 * sumN its ≤ 6 * tm.nodes ∧
    H1 wa = some (.L (its.map encI)) ∧ (∀ p ∈ its, p.1.isS = true ∧ Reg nt nt' p.2 ∧ ∀ k ∈ p.1.vars, k ∈ E.ks ∧ V k) ∧ n = sumN its
noncomputable def p3001_4 (X : Ctx) (d : Nat) (fa : Nat → Addr) : WS := wSeq (wExpr (wMeth X d (mtab fa) (wLoc 0) (Str.ofString "emit") (wCons (wTup (wCons (wConst (.str (Str.ofString "get_list"))) (wCons (wLoc 5) wNil))) wNil))) wEnd
noncomputable def p3001_5 (X : Ctx) (d : Nat) (fa : Nat → Addr) : WS := wSeq (wExpr (wMeth X d (mtab fa) (wLoc 0) (Str.ofString "emit") (wCons (wTup (wCons (wConst (.str (Str.ofString "get_structure"))) (wCons (wIdx (wLoc 4) (wConst (.int 1))) (wCons (wLoc 5) wNil)))) wNil))) wEnd
noncomputable def p3001_6 (X : Ctx) (d : Nat) (fa : Nat → Addr) : WS := wSeq (wExpr (wMeth X d (mtab fa) (wLoc 0) (Str.ofString "match_arguments") (wCons (wIdx (wLoc 4) (wConst (.int 2))) (wCons (wLoc 3) wNil)))) wEnd
noncomputable def p3001_3 (X : Ctx) (d : Nat) (fa : Nat → Addr) : WS := wSeq (wIf (wTCmp .Eq (wIdx (wLoc 4) (wConst (.int 1))) (wConst (.int 0))) (p3001_4 X d fa) (p3001_5 X d fa)) (p3001_6 X d fa)
noncomputable def p3001_2 (X : Ctx) (d : Nat) (fa : Nat → Addr) : WS := wSeq (wAsg (wMethB "list" bPop (wLoc 3) wNil) (wUnpack 2 (wSt2 (wStore 4) (wSt2 (wStore 5) wSt0)))) (p3001_3 X d fa)
noncomputable def p3001_1 (X : Ctx) (d : Nat) (fa : Nat → Addr) : WS := wSeq (wWhile (wTCmp .Gt (wOB bLen (wCons (wLoc 3) wNil)) (wConst (.int 0))) (p3001_2 X d fa)) wEnd
noncomputable def p3001 (X : Ctx) (d : Nat) (fa : Nat → Addr) : WS := wSeq (wAsg (wList (wCons (wTup (wCons (wLoc 1) (wCons (wLoc 2) wNil))) wNil)) (wStore 3)) (p3001_1 X d fa)
theorem d3001 (ok : X.Ok) (cl : X.Cls) (pf : PF X fa tk) {q : Str} {dc pm co : Value} {L : Addr} : SS X d (fiOf (mkFd (fnOf 3001) q dc pm co) (nms 29) (fa 3001) L) (fnB (fnOf 3001)) (p3001 X d fa) :=
  have s0 : Slot (fiOf (mkFd (fnOf 3001) q dc pm co) (nms 29) (fa 3001) L) 0 (Str.ofString "self") := .loc (by rfl) (by kernel_rfl) (by decide)
  have s1 : Slot (fiOf (mkFd (fnOf 3001) q dc pm co) (nms 29) (fa 3001) L) 1 (Str.ofString "term") := .loc (by rfl) (by kernel_rfl) (by decide)
  have s2 : Slot (fiOf (mkFd (fnOf 3001) q dc pm co) (nms 29) (fa 3001) L) 2 (Str.ofString "source") := .loc (by rfl) (by kernel_rfl) (by decide)
  have s3 : Slot (fiOf (mkFd (fnOf 3001) q dc pm co) (nms 29) (fa 3001) L) 3 (Str.ofString "waiting") := .loc (by rfl) (by kernel_rfl) (by decide)
  have s4 : Slot (fiOf (mkFd (fnOf 3001) q dc pm co) (nms 29) (fa 3001) L) 4 (Str.ofString "node") := .loc (by rfl) (by kernel_rfl) (by decide)
  have s5 : Slot (fiOf (mkFd (fnOf 3001) q dc pm co) (nms 29) (fa 3001) L) 5 (Str.ofString "register") := .loc (by rfl) (by kernel_rfl) (by decide)
  have g_F_DOT : GlobV X (fiOf (mkFd (fnOf 3001) q dc pm co) (nms 29) (fa 3001) L) (Str.ofString "F_DOT") (.int 0 (tk 5)) := ⟨by kernel_rfl, pf.g 5 _ _ rfl, by decide⟩
  have g_len : GlobV X (fiOf (mkFd (fnOf 3001) q dc pm co) (nms 29) (fa 3001) L) (Str.ofString "len") (.builtin "len") := ⟨by kernel_rfl, pf.g 30 _ _ rfl, by decide⟩
  (SS.cons (SX.asgName (SE.list (SEs.cons (SE.tup (SEs.cons (SE.loc s1) (SEs.cons (SE.loc s2) SEs.nil))) SEs.nil)) s3) (SS.cons (SX.while (ST.cmp ok (SE.callB ok g_len (SEs.cons (SE.loc s3) SEs.nil) okLen) SE.int) (SS.cons (SX.asgTup (SE.methB (SE.loc s3) SEs.nil (by decide) PySem.F.plainAttrs_list PySem.F.slot_list_pop PySem.F.type_list_pop okPop (by rfl) (by rfl) (by rfl)) (SAL.cons (SAs.name s4) (SAL.cons (SAs.name s5) SAL.nil))) (SS.cons (SX.if (ST.cmp ok (SE.idx (SE.loc s4) SE.int) (SE.globInt ok g_F_DOT)) (SS.cons (SX.expr (SE.meth ok pf.mt (SE.loc s0) (SEs.cons (SE.tup (SEs.cons SE.str (SEs.cons (SE.loc s5) SEs.nil))) SEs.nil))) SS.nil) (SS.cons (SX.expr (SE.meth ok pf.mt (SE.loc s0) (SEs.cons (SE.tup (SEs.cons SE.str (SEs.cons (SE.idx (SE.loc s4) SE.int) (SEs.cons (SE.loc s5) SEs.nil)))) SEs.nil))) SS.nil)) (SS.cons (SX.expr (SE.meth ok pf.mt (SE.loc s0) (SEs.cons (SE.idx (SE.loc s4) SE.int) (SEs.cons (SE.loc s3) SEs.nil)))) SS.nil)))) SS.nil))
theorem c3001 (ok : X.Ok) (cl : X.Cls) (pf : PF X fa tk) {E : Em} {V : Int → Prop} {H : MH} {rows : List MV} {nt : Int} {tm : Tm} {src : MV} {Q : MV → MH → Prop} (e : Emit E H rows nt) (hs : tm.isS = true) (hr : Reg nt nt src) (hks : ∀ k ∈ tm.vars, k ∈ E.ks ∧ V k) (hz : rows.length + 6 * tm.nodes + 20 ≤ 50000)
    (K : Gives E V (fun k => k ∈ tm.vars) (EW E) H rows nt (6 * tm.nodes) (Q .none)) : CallsTo X (d + 4) (.ref (fa 3001)) [.inst 5 E.s, tm.enc, src] Q H := by
  obtain ⟨q, dc, pm, co, ff⟩ := pf.fn 29 _ _ _ rfl; refine callsTo_def ok ff (fun L => d3001 ok cl pf) rfl 3 ?_
  walk_at "s"
  intro wa nd
  have wE := e.apart nd
  walk_at "s"
  refine .inv (MW E V H rows nt tm src wa) (n := tm.nodes) ⟨_, nt, [(tm, src)], _, _, 0, rfl, ((Prog.start e).new nd).weak (fun k h _ => (h.2 _ (.head _) h.1).elim) (Nat.le_refl _), Nat.le_of_eq (by rw [Nat.zero_add]; rfl), MH.set_self .., fun p hp => by cases List.mem_singleton.mp hp; exact ⟨hs, hr, hks⟩, rfl⟩ ?_
  rintro n σ G ⟨H1, nt', its, x1, y1, m, rfl, p, hm, hw, hi, rfl⟩ hG
  have sl := sumN_len its
  walk_at "s"
  refine .list hw (by rw [List.length_map]; (first | lia | omega)) ⟨_, .gt, .dec (fun h => ?_) fun h => ?_⟩
  · rw [List.length_map] at h
    obtain ⟨init, it, rfl⟩ : ∃ a' y, its = a' ++ [y] := ⟨_, _, (List.dropLast_concat_getLast (by rintro rfl; exact absurd h (by decide))).symm⟩
    obtain ⟨h1, h2, h3⟩ := hi it (List.mem_append_right _ (.head _))
    have hen := Tm.enc_s h1
    have np := it.1.nodes_pos
    rw [sumN_append, sumN, sumN, Nat.add_zero] at hm sl hG
    rw [List.length_append] at sl
    walk_at "s"
    refine ⟨_, .mk hw rfl, .mk (l := init.map encI) (v := encI it) (by rw [hw, List.map_append]; rfl) (by rw [List.length_map]; (first | lia | omega)) ⟨_, .mk rfl, ?_⟩⟩
    walk_at "s"
    rw [hen]
    have p1 := p.list hw wE (.inr rfl) (l' := init.map encI)
    have hw1 := H1.set_self wa (.L (init.map encI))
    generalize H1.set wa (.L (init.map encI)) = H2 at p1 hw1
    have fin : ∀ H3, Prog E V (fun k => k ∈ tm.vars ∧ ∀ p ∈ init ++ [it], k ∉ p.1.vars) (fun b => EW E b ∨ b = wa) H rows nt (m + 1) H3 nt' → Keep (EW E) H2 H3 →
        p3001_6 X (d + 3) fa G ⟨[some (.inst 5 E.s), some tm.enc, some src, some (.ref wa), some (.tup [.str (Str.ofString "s"), .int it.1.fn, .tup (it.1.args.map Tm.enc)]), some it.2], H3⟩ := by
      intro H3 p3 k3
      obtain ⟨r3, e3, hr3, c3⟩ := p3.comp
      have hw3 := k3.at hw1 wE
      walk_at "s"
      refine ⟨_, .mk mt5_match_arguments e3.self, _, ix2, c3002 ok cl pf e3 it.1.args_len hw3 wE (fun t ht k hk => h3 k ((Tm.vars_args h1).mpr ⟨t, ht, hk⟩)) (by (first | lia | omega)) (by rw [List.length_map]; (first | lia | omega)) fun nt4 H4 its2 p4 hw4 hi4 hm4 => ?_⟩
      obtain ⟨n4, p4⟩ := c3 (fun _ z => z) p4
      have s4 := sum_args h1 hm4
      refine hG.next _ ⟨sumN (init ++ its2), by rw [sumN_append]; (first | lia | omega), _, nt4, init ++ its2, _, _, _, rfl, p4.weak (fun k hk _ => ?_) (Nat.le_refl _), by rw [sumN_append]; (first | lia | omega), by rw [List.map_append]; exact hw4, fun q hq => ?_, rfl⟩
      · by_cases z : k ∈ it.1.vars
        · exact .inr ((its_all h1 hm4 z).elim id fun ⟨q, a, b⟩ => (hk.2 q (List.mem_append_right _ a) b).elim)
        · exact .inl ⟨hk.1, fun q hq => (List.mem_append.mp hq).elim (fun hq => hk.2 q (List.mem_append_left _ hq)) fun hq => by cases List.mem_singleton.mp hq; exact z⟩
      · rcases List.mem_append.mp hq with hq | hq
        · obtain ⟨a1, a2, a3⟩ := hi q (List.mem_append_left _ hq)
          exact ⟨a1, a2.mono (Int.le_refl _) n4, a3⟩
        · obtain ⟨b1, b2⟩ := its_of hm4 hq
          exact ⟨b2, (hi4 q hq).mono p3.le (Int.le_refl _), fun k hk => h3 k ((Tm.vars_args h1).mpr ⟨_, b1, hk⟩)⟩
    obtain ⟨r1, e1, hr1, _⟩ := p1.at
    refine ⟨_, ix1, _, .eq .int, .dec (fun hf => ?_) fun hf => ?_⟩
    · walk_at "s"
      exact ⟨_, .mk mt5_emit e1.self, p1.emit ok cl pf (fun b z => .inl z) (by (first | lia | omega)) (by decide) (leB rfl) (fun q hq => by cases List.mem_singleton.mp hq; exact .inr (.inr (.inl h2))) fin⟩
    · walk_at "s"
      exact ⟨_, .mk mt5_emit e1.self, _, ix1, p1.emit ok cl pf (fun b z => .inl z) (by (first | lia | omega)) (by decide) (leB rfl) (fun q hq => (List.mem_cons.mp hq).elim (fun z => .inl ⟨_, z⟩) fun hq => by cases List.mem_singleton.mp hq; exact .inr (.inr (.inl h2))) fin⟩
  · rw [List.length_map] at h
    cases its with
    | cons y a => exact absurd (Int.ofNat_lt.mpr (Nat.succ_pos a.length)) h
    | nil => exact K.of ⟨(p.weak (fun k hk _ => ⟨hk, nofun⟩) (by (first | lia | omega))).ex, p.keep.off nd⟩
noncomputable def p3000_3 (X : Ctx) (d : Nat) (fa : Nat → Addr) : WS := wSeq (wCtl (.ret .none)) wEnd
noncomputable def p3000_5 (X : Ctx) (d : Nat) (fa : Nat → Addr) : WS := wSeq (wExpr (wMeth X d (mtab fa) (wLoc 0) (Str.ofString "emit") (wCons (wTup (wCons (wConst (.str (Str.ofString "get_value"))) (wCons (wMeth X d (mtab fa) (wLoc 0) (Str.ofString "place") (wCons (wLoc 3) wNil)) (wCons (wLoc 2) wNil)))) wNil))) wEnd
noncomputable def p3000_8 (X : Ctx) (d : Nat) (fa : Nat → Addr) : WS := wSeq (wExpr (wMeth X d (mtab fa) (wLoc 0) (Str.ofString "emit") (wCons (wTup (wCons (wConst (.str (Str.ofString "get_variable"))) (wCons (wMeth X d (mtab fa) (wLoc 0) (Str.ofString "place") (wCons (wLoc 3) wNil)) (wCons (wLoc 2) wNil)))) wNil))) wEnd
noncomputable def p3000_7 (X : Ctx) (d : Nat) (fa : Nat → Addr) : WS := wSeq (wExpr (wMethB "set" bSadd (wAttr X (Str.ofString "local") (wLoc 0)) (wCons (wLoc 3) wNil))) (p3000_8 X d fa)
noncomputable def p3000_6 (X : Ctx) (d : Nat) (fa : Nat → Addr) : WS := wSeq (wExpr (wMethB "set" bSadd (wAttr X (Str.ofString "seen") (wLoc 0)) (wCons (wLoc 3) wNil))) (p3000_7 X d fa)
noncomputable def p3000_4 (X : Ctx) (d : Nat) (fa : Nat → Addr) : WS := wSeq (wIf (wTCmp .In (wLoc 3) (wAttr X (Str.ofString "seen") (wLoc 0))) (p3000_5 X d fa) (p3000_6 X d fa)) wEnd
noncomputable def p3000_2 (X : Ctx) (d : Nat) (fa : Nat → Addr) : WS := wSeq (wIf (wTVal (wMeth X d (mtab fa) (wLoc 0) (Str.ofString "is_void") (wCons (wLoc 3) wNil))) (p3000_3 X d fa) wEnd) (p3000_4 X d fa)
noncomputable def p3000_1 (X : Ctx) (d : Nat) (fa : Nat → Addr) : WS := wSeq (wAsg (wIdx (wLoc 1) (wConst (.int 1))) (wStore 3)) (p3000_2 X d fa)
noncomputable def p3000_10 (X : Ctx) (d : Nat) (fa : Nat → Addr) : WS := wSeq (wExpr (wMeth X d (mtab fa) (wLoc 0) (Str.ofString "match") (wCons (wLoc 1) (wCons (wLoc 2) wNil)))) wEnd
noncomputable def p3000_11 (X : Ctx) (d : Nat) (fa : Nat → Addr) : WS := wSeq (wExpr (wMeth X d (mtab fa) (wLoc 0) (Str.ofString "emit") (wCons (wTup (wCons (wConst (.str (Str.ofString "get_constant"))) (wCons (wCall X d (.ref (fa 18)) (wCons (wLoc 1) wNil)) (wCons (wLoc 2) wNil)))) wNil))) wEnd
noncomputable def p3000_9 (X : Ctx) (d : Nat) (fa : Nat → Addr) : WS := wSeq (wIf (wTCmp .Eq (wIdx (wLoc 1) (wConst (.int 0))) (wConst (.str (Str.ofString "s")))) (p3000_10 X d fa) (p3000_11 X d fa)) wEnd
noncomputable def p3000 (X : Ctx) (d : Nat) (fa : Nat → Addr) : WS := wSeq (wIf (wTCmp .Eq (wIdx (wLoc 1) (wConst (.int 0))) (wConst (.str (Str.ofString "v")))) (p3000_1 X d fa) (p3000_9 X d fa)) wEnd
theorem d3000 (ok : X.Ok) (cl : X.Cls) (pf : PF X fa tk) {q : Str} {dc pm co : Value} {L : Addr} : SS X d (fiOf (mkFd (fnOf 3000) q dc pm co) (nms 28) (fa 3000) L) (fnB (fnOf 3000)) (p3000 X d fa) :=
  have s0 : Slot (fiOf (mkFd (fnOf 3000) q dc pm co) (nms 28) (fa 3000) L) 0 (Str.ofString "self") := .loc (by rfl) (by kernel_rfl) (by decide)
  have s1 : Slot (fiOf (mkFd (fnOf 3000) q dc pm co) (nms 28) (fa 3000) L) 1 (Str.ofString "term") := .loc (by rfl) (by kernel_rfl) (by decide)
  have s2 : Slot (fiOf (mkFd (fnOf 3000) q dc pm co) (nms 28) (fa 3000) L) 2 (Str.ofString "source") := .loc (by rfl) (by kernel_rfl) (by decide)
  have s3 : Slot (fiOf (mkFd (fnOf 3000) q dc pm co) (nms 28) (fa 3000) L) 3 (Str.ofString "k") := .loc (by rfl) (by kernel_rfl) (by decide)
  have g_constant_cell : GlobV X (fiOf (mkFd (fnOf 3000) q dc pm co) (nms 28) (fa 3000) L) (Str.ofString "constant_cell") (.ref (fa 18)) := ⟨by kernel_rfl, pf.g 23 _ _ rfl, by decide⟩
  (SS.cons (SX.if (ST.cmp ok (SE.idx (SE.loc s1) SE.int) SE.str) (SS.cons (SX.asgName (SE.idx (SE.loc s1) SE.int) s3) (SS.cons (SX.if (ST.val (SE.meth ok pf.mt (SE.loc s0) (SEs.cons (SE.loc s3) SEs.nil))) (SS.cons SX.ret0 SS.nil) SS.nil) (SS.cons (SX.if (ST.cmp ok (SE.loc s3) (SE.attr ok cl (SE.loc s0))) (SS.cons (SX.expr (SE.meth ok pf.mt (SE.loc s0) (SEs.cons (SE.tup (SEs.cons SE.str (SEs.cons (SE.meth ok pf.mt (SE.loc s0) (SEs.cons (SE.loc s3) SEs.nil)) (SEs.cons (SE.loc s2) SEs.nil)))) SEs.nil))) SS.nil) (SS.cons (SX.expr (SE.methB (SE.attr ok cl (SE.loc s0)) (SEs.cons (SE.loc s3) SEs.nil) (by decide) PySem.F.plainAttrs_set PySem.F.slot_set_add PySem.F.type_set_add okSadd (by rfl) (by rfl) (by rfl))) (SS.cons (SX.expr (SE.methB (SE.attr ok cl (SE.loc s0)) (SEs.cons (SE.loc s3) SEs.nil) (by decide) PySem.F.plainAttrs_set PySem.F.slot_set_add PySem.F.type_set_add okSadd (by rfl) (by rfl) (by rfl))) (SS.cons (SX.expr (SE.meth ok pf.mt (SE.loc s0) (SEs.cons (SE.tup (SEs.cons SE.str (SEs.cons (SE.meth ok pf.mt (SE.loc s0) (SEs.cons (SE.loc s3) SEs.nil)) (SEs.cons (SE.loc s2) SEs.nil)))) SEs.nil))) SS.nil)))) SS.nil))) (SS.cons (SX.if (ST.cmp ok (SE.idx (SE.loc s1) SE.int) SE.str) (SS.cons (SX.expr (SE.meth ok pf.mt (SE.loc s0) (SEs.cons (SE.loc s1) (SEs.cons (SE.loc s2) SEs.nil)))) SS.nil) (SS.cons (SX.expr (SE.meth ok pf.mt (SE.loc s0) (SEs.cons (SE.tup (SEs.cons SE.str (SEs.cons (SE.callF ok g_constant_cell (pf.kf 23 _ _ rfl) (SEs.cons (SE.loc s1) SEs.nil)) (SEs.cons (SE.loc s2) SEs.nil)))) SEs.nil))) SS.nil)) SS.nil)) SS.nil)
theorem c3000 (ok : X.Ok) (cl : X.Cls) (pf : PF X fa tk) {E : Em} {V : Int → Prop} {H : MH} {rows : List MV} {nt : Int} {tm : Tm} {src : MV} {Q : MV → MH → Prop} (e : Emit E H rows nt) (hr : Reg nt nt src) (hks : ∀ k ∈ tm.vars, k ∈ E.ks ∧ V k) (hz : rows.length + 6 * tm.nodes + 20 ≤ 50000)
    (K : Gives E V (fun k => k ∈ tm.vars) (EW E) H rows nt (6 * tm.nodes) (Q .none)) : CallsTo X (d + 5) (.ref (fa 3000)) [.inst 5 E.s, tm.enc, src] Q H := by
  have np := tm.nodes_pos
  have K1 : Gives E V (fun k => k ∈ tm.vars) (EW E) H rows nt 1 (Q .none) := .prog fun _ _ p => K.of (p.weak (fun _ h _ => h) (by (first | lia | omega)))
  have pr : ∀ p ∈ [src], Reg nt nt p := fun p hp => by cases List.mem_singleton.mp hp; exact hr
  obtain ⟨q, dc, pm, co, ff⟩ := pf.fn 28 _ _ _ rfl; refine callsTo_def ok ff (fun L => d3000 ok cl pf) rfl 1 ?_
  walk_at "s"
  cases hx : tm.isS with
  | true =>
    have hen := Tm.enc_s hx
    refine ⟨_, ixE0 hen, _, .eq .str, .no (by kernel_rfl!) ?_⟩
    walk_at "s"
    refine ⟨_, ixE0 hen, _, .eq .str, .yes (by kernel_rfl!) ?_⟩
    walk_at "s"
    exact ⟨_, .mk mt5_match e.self, c3001 ok cl pf e hx hr hks hz K⟩
  | false =>
    rcases Tm.leaf hx with ⟨k, hen⟩ | ⟨s, z, hen, s1, s2, hv, hc⟩
    · have hk := hks k (hen ▸ .head _)
      have K2 : Gives E V (fun x => x = k) (EW E) H rows nt 1 (Q .none) := .prog fun _ _ p => K1.of (p.weak (fun _ h _ => by rw [hen] at h; exact List.mem_singleton.mp h) (Nat.le_refl _))
      have hen := congrArg Tm.enc hen
      obtain ⟨l, hS, hl7, hn, hr7⟩ := e.seen.small
      refine ⟨_, ixE0 hen, _, .eq .str, .yes (by kernel_rfl!) ?_⟩
      walk_at "s"
      refine ⟨_, ixE1 hen, ?_⟩
      walk_at "s"
      refine ⟨_, .mk mt5_is_void e.self, c2903 ok cl pf e hk.1 ⟨_, .bool, .dec (fun nv => ?_) fun nv => ?_⟩⟩
      · walk_at "s"
        exact K2.nil e fun j hj => hj ▸ nv
      · walk_at "s"
        refine ⟨_, .mk e.self (ai5_seen pf) rfl, _, .mem (.set hS), .dec (fun hm => ?_) fun hm => ?_⟩
        · walk_at "s"
          exact ⟨_, .mk mt5_emit e.self, _, .mk mt5_place e.self, c2905 ok cl pf e hk.1 (c2901 ok cl pf e (K2.one hk.2 nv (e.push1 (by (first | lia | omega))) pr kCode (by decide) (Nat.le_succ _)))⟩
        · walk_at "s"
          refine ⟨_, .mk e.self (ai5_seen pf) rfl, _, .mk hS rfl, .mk hS hl7 ?_⟩
          have e1 := e.setSeen (nodup_sadd (n := k) hn) (ok_add hr7 (e.ks k hk.1))
          obtain ⟨l2, hS2, hl72, hn2, hr2⟩ := e1.loc.small
          walk_at "s"
          refine ⟨_, .mk e1.self (ai5_local pf) rfl, _, .mk hS2 rfl, .mk hS2 hl72 ?_⟩
          have e2 := e1.setLoc (nodup_sadd (n := k) hn2) (ok_add hr2 (e.ks k hk.1))
          walk_at "s"
          exact ⟨_, .mk mt5_emit e2.self, _, .mk mt5_place e2.self, c2905 ok cl pf e2 hk.1 (c2901 ok cl pf e2 (K2.one hk.2 nv (e2.push1 (by (first | lia | omega))) pr ((kSeen.trans kLoc).trans kCode) (by decide) (Nat.le_succ _)))⟩
    · refine ⟨_, ixE0 hen, _, .eq .str, .no s1 ?_⟩
      walk_at "s"
      refine ⟨_, ixE0 hen, _, .eq .str, .no s2 ?_⟩
      walk_at "s"
      refine ⟨_, .mk mt5_emit e.self, c18 ok cl pf hc fun c y => c2901 ok cl pf e (K1.row (e.push1 (by (first | lia | omega))) kCode (by decide) (leB rfl) (fun p hp => ?_) fun j hj _ => by rw [hv] at hj; cases hj)⟩
      exact (List.mem_cons.mp hp).elim (fun z => .inr (.inl ⟨_, _, z⟩)) fun hp => .inr (.inr (.inl (pr p hp)))
end
section
variable {X : Ctx} {fa : Nat → Addr} {tk : Nat → Tok} {d : Nat}
inductive Pc where
  | tm (t : Tm)
  | r (n : Int)
noncomputable def Pc.enc : Pc → MV
  | .tm t => t.enc
  | .r n => .tup [.str (Str.ofString "t"), .int n]
inductive Pc.Ok (E : Em) (V : Int → Prop) (lo hi : Int) : Pc → Prop
  | tm {t : Tm} (h : t.isS = false) (k : ∀ k ∈ t.vars, k ∈ E.ks ∧ V k) : Ok E V lo hi (.tm t)
  | r {n : Int} (h : lo ≤ n) (h' : n < hi) : Ok E V lo hi (.r n)
theorem Pc.view {E : Em} {V : Int → Prop} {lo hi : Int} {p : Pc} (h : p.Ok E V lo hi) : (∃ k, p = .tm (.v k) ∧ p.enc = .tup [.str (Str.ofString "v"), .int k] ∧ k ∈ E.ks ∧ V k) ∨ (∃ n, p.enc = .tup [.str (Str.ofString "t"), .int n] ∧ lo ≤ n ∧ n < hi ∧ ∀ k, p ≠ .tm (.v k)) ∨
    ∃ (t : Tm) (s : Str) (z : Int), p.enc = t.enc ∧ t.enc = .tup [.str s, .int z] ∧ (s == Str.ofString "v") = false ∧ (s == Str.ofString "t") = false ∧ ((∃ y, t = .a y) ∨ ∃ y, t = .i y) ∧ ∀ k, p ≠ .tm (.v k) := by
  cases h with
  | r h h' => exact .inr (.inl ⟨_, rfl, h, h', nofun⟩)
  | @tm t h k =>
    cases t with
    | v j => exact .inl ⟨j, rfl, rfl, k j (.head _)⟩
    | a x => exact .inr (.inr ⟨_, _, _, rfl, rfl, by kernel_rfl!, by kernel_rfl!, .inl ⟨x, rfl⟩, nofun⟩)
    | i x => exact .inr (.inr ⟨_, _, _, rfl, rfl, by kernel_rfl!, by kernel_rfl!, .inr ⟨x, rfl⟩, nofun⟩)
    | _ => cases h
theorem pv_mem {k : Int} {done : List Pc} {x : Pc} (h : Pc.tm (.v k) ∈ done ++ [x]) : Pc.tm (.v k) ∈ done ∨ x = .tm (.v k) := (List.mem_append.mp h).imp id fun z => (List.mem_singleton.mp z).symm
inductive MS (E : Em) (V U : Int → Prop) (W : Addr → Prop) (H : MH) (rows : List MV) (nt : Int) (sz : Nat) (H0 : MH) (nt0 : Int) (pa : Addr) (l done : List Pc) : St → Prop
  | mk {H1 : MH} {nt' v : Int} {x : Option MV} (hv : 0 ≤ v) (p : Prog E V (fun k => U k ∨ Pc.tm (.v k) ∈ done) W H rows nt (sz + 2 * done.length) H1 nt') (hl : H1 pa = some (.L (l.map Pc.enc))) (k : Keep (EW E) H0 H1) (hn : nt0 ≤ nt') :
    MS E V U W H rows nt sz H0 nt0 pa l done ⟨[some (.inst 5 E.s), some (.ref pa), some (.int v), x], H1⟩
noncomputable def p3103_4 (X : Ctx) (d : Nat) (fa : Nat → Addr) : WS := wSeq (wCtl .cont) wEnd
noncomputable def p3103_3 (X : Ctx) (d : Nat) (fa : Nat → Addr) : WS := wSeq (wAugName 2 .Add (wConst (.int 1))) (p3103_4 X d fa)
noncomputable def p3103_7 (X : Ctx) (d : Nat) (fa : Nat → Addr) : WS := wSeq (wAsg (wConst (.int 0)) (wStore 2)) wEnd
noncomputable def p3103_6 (X : Ctx) (d : Nat) (fa : Nat → Addr) : WS := wSeq (wExpr (wMeth X d (mtab fa) (wLoc 0) (Str.ofString "emit") (wCons (wTup (wCons (wConst (.str (Str.ofString "set_void"))) (wCons (wLoc 2) wNil))) wNil))) (p3103_7 X d fa)
noncomputable def p3103_9 (X : Ctx) (d : Nat) (fa : Nat → Addr) : WS := wSeq (wExpr (wMeth X d (mtab fa) (wLoc 0) (Str.ofString "set_variable") (wCons (wIdx (wLoc 3) (wConst (.int 1))) wNil))) wEnd
noncomputable def p3103_11 (X : Ctx) (d : Nat) (fa : Nat → Addr) : WS := wSeq (wExpr (wMeth X d (mtab fa) (wLoc 0) (Str.ofString "emit") (wCons (wTup (wCons (wConst (.str (Str.ofString "set_value"))) (wCons (wLoc 3) wNil))) wNil))) wEnd
noncomputable def p3103_12 (X : Ctx) (d : Nat) (fa : Nat → Addr) : WS := wSeq (wExpr (wMeth X d (mtab fa) (wLoc 0) (Str.ofString "emit") (wCons (wTup (wCons (wConst (.str (Str.ofString "set_constant"))) (wCons (wCall X d (.ref (fa 18)) (wCons (wLoc 3) wNil)) wNil))) wNil))) wEnd
noncomputable def p3103_10 (X : Ctx) (d : Nat) (fa : Nat → Addr) : WS := wSeq (wIf (wTCmp .Eq (wIdx (wLoc 3) (wConst (.int 0))) (wConst (.str (Str.ofString "t")))) (p3103_11 X d fa) (p3103_12 X d fa)) wEnd
noncomputable def p3103_8 (X : Ctx) (d : Nat) (fa : Nat → Addr) : WS := wSeq (wIf (wTCmp .Eq (wIdx (wLoc 3) (wConst (.int 0))) (wConst (.str (Str.ofString "v")))) (p3103_9 X d fa) (p3103_10 X d fa)) wEnd
noncomputable def p3103_5 (X : Ctx) (d : Nat) (fa : Nat → Addr) : WS := wSeq (wIf (wTCmp .Gt (wLoc 2) (wConst (.int 0))) (p3103_6 X d fa) wEnd) (p3103_8 X d fa)
noncomputable def p3103_2 (X : Ctx) (d : Nat) (fa : Nat → Addr) : WS := wSeq (wIf (wTAnd (wTCmp .Eq (wIdx (wLoc 3) (wConst (.int 0))) (wConst (.str (Str.ofString "v")))) (wTAnd (wTVal (wMeth X d (mtab fa) (wLoc 0) (Str.ofString "is_void") (wCons (wIdx (wLoc 3) (wConst (.int 1))) wNil))) (wB true))) (p3103_3 X d fa) wEnd) (p3103_5 X d fa)
noncomputable def p3103_14 (X : Ctx) (d : Nat) (fa : Nat → Addr) : WS := wSeq (wExpr (wMeth X d (mtab fa) (wLoc 0) (Str.ofString "emit") (wCons (wTup (wCons (wConst (.str (Str.ofString "set_void"))) (wCons (wLoc 2) wNil))) wNil))) wEnd
noncomputable def p3103_13 (X : Ctx) (d : Nat) (fa : Nat → Addr) : WS := wSeq (wIf (wTCmp .Gt (wLoc 2) (wConst (.int 0))) (p3103_14 X d fa) wEnd) wEnd
noncomputable def p3103_1 (X : Ctx) (d : Nat) (fa : Nat → Addr) : WS := wSeq (wFor (wSrc (wLoc 1)) (wStore 3) (p3103_2 X d fa)) (p3103_13 X d fa)
noncomputable def p3103 (X : Ctx) (d : Nat) (fa : Nat → Addr) : WS := wSeq (wAsg (wConst (.int 0)) (wStore 2)) (p3103_1 X d fa)
theorem d3103 (ok : X.Ok) (cl : X.Cls) (pf : PF X fa tk) {q : Str} {dc pm co : Value} {L : Addr} : SS X d (fiOf (mkFd (fnOf 3103) q dc pm co) (nms 35) (fa 3103) L) (fnB (fnOf 3103)) (p3103 X d fa) :=
  have s0 : Slot (fiOf (mkFd (fnOf 3103) q dc pm co) (nms 35) (fa 3103) L) 0 (Str.ofString "self") := .loc (by rfl) (by kernel_rfl) (by decide)
  have s1 : Slot (fiOf (mkFd (fnOf 3103) q dc pm co) (nms 35) (fa 3103) L) 1 (Str.ofString "pieces") := .loc (by rfl) (by kernel_rfl) (by decide)
  have s2 : Slot (fiOf (mkFd (fnOf 3103) q dc pm co) (nms 35) (fa 3103) L) 2 (Str.ofString "voids") := .loc (by rfl) (by kernel_rfl) (by decide)
  have s3 : Slot (fiOf (mkFd (fnOf 3103) q dc pm co) (nms 35) (fa 3103) L) 3 (Str.ofString "piece") := .loc (by rfl) (by kernel_rfl) (by decide)
  have g_constant_cell : GlobV X (fiOf (mkFd (fnOf 3103) q dc pm co) (nms 35) (fa 3103) L) (Str.ofString "constant_cell") (.ref (fa 18)) := ⟨by kernel_rfl, pf.g 23 _ _ rfl, by decide⟩
  (SS.cons (SX.asgName SE.int s2) (SS.cons (SX.for (SI.val ok (SE.loc s1)) (SAs.name s3) (SS.cons (SX.if (ST.bool (SA.and (ST.cmp ok (SE.idx (SE.loc s3) SE.int) SE.str) (SA.and (ST.val (SE.meth ok pf.mt (SE.loc s0) (SEs.cons (SE.idx (SE.loc s3) SE.int) SEs.nil))) SA.nil_and))) (SS.cons (SX.augName s2 SE.int) (SS.cons SX.cont SS.nil)) SS.nil) (SS.cons (SX.if (ST.cmp ok (SE.loc s2) SE.int) (SS.cons (SX.expr (SE.meth ok pf.mt (SE.loc s0) (SEs.cons (SE.tup (SEs.cons SE.str (SEs.cons (SE.loc s2) SEs.nil))) SEs.nil))) (SS.cons (SX.asgName SE.int s2) SS.nil)) SS.nil) (SS.cons (SX.if (ST.cmp ok (SE.idx (SE.loc s3) SE.int) SE.str) (SS.cons (SX.expr (SE.meth ok pf.mt (SE.loc s0) (SEs.cons (SE.idx (SE.loc s3) SE.int) SEs.nil))) SS.nil) (SS.cons (SX.if (ST.cmp ok (SE.idx (SE.loc s3) SE.int) SE.str) (SS.cons (SX.expr (SE.meth ok pf.mt (SE.loc s0) (SEs.cons (SE.tup (SEs.cons SE.str (SEs.cons (SE.loc s3) SEs.nil))) SEs.nil))) SS.nil) (SS.cons (SX.expr (SE.meth ok pf.mt (SE.loc s0) (SEs.cons (SE.tup (SEs.cons SE.str (SEs.cons (SE.callF ok g_constant_cell (pf.kf 23 _ _ rfl) (SEs.cons (SE.loc s3) SEs.nil)) SEs.nil))) SEs.nil))) SS.nil)) SS.nil)) SS.nil)))) (SS.cons (SX.if (ST.cmp ok (SE.loc s2) SE.int) (SS.cons (SX.expr (SE.meth ok pf.mt (SE.loc s0) (SEs.cons (SE.tup (SEs.cons SE.str (SEs.cons (SE.loc s2) SEs.nil))) SEs.nil))) SS.nil) SS.nil) SS.nil)))
theorem c3103 (ok : X.Ok) (cl : X.Cls) (pf : PF X fa tk) {E : Em} {V U : Int → Prop} {W : Addr → Prop} {H H0 : MH} {rows : List MV} {nt nt0 : Int} {sz : Nat} {l : List Pc} {pa : Addr} {Q : MV → MH → Prop} (p : Prog E V U W H rows nt sz H0 nt0) (hW : ∀ b, EW E b → W b) (hl : l.length ≤ 2) (hpa : H0 pa = some (.L (l.map Pc.enc))) (pE : ¬ EW E pa)
    (hks : ∀ q ∈ l, q.Ok E V nt nt0) (hz : rows.length + sz + 10 ≤ 50000)
    (K : ∀ (nt' : Int) (H' : MH), Prog E V (fun k => U k ∨ Pc.tm (.v k) ∈ l) W H rows nt (sz + 5) H' nt' → Keep (EW E) H0 H' → nt0 ≤ nt' → Q .none H') : CallsTo X (d + 3) (.ref (fa 3103)) [.inst 5 E.s, .ref pa] Q H0 := by
  obtain ⟨q, dc, pm, co, ff⟩ := pf.fn 35 _ _ _ rfl; refine callsTo_def ok ff (fun L => d3103 ok cl pf) rfl 2 ?_
  walk_at "s"
  walk_at "s"
  refine ⟨_, .lst hpa, .inv Pc.enc (fun done rest σ => l = done ++ rest ∧ MS E V U W H rows nt sz H0 nt0 pa l done σ) ⟨rfl, .mk (Int.le_refl _) (p.weak (fun k h _ => h.elim id nofun) (Nat.le_refl _)) hpa (.refl ..) (Int.le_refl _)⟩ ?_ ?_ rfl⟩
  · rintro done x rest σ G ⟨hd, ⟨hv0, p, hp, kp, hn⟩⟩ hG
    rename_i H1 nt' v x1
    refine ⟨hp, ?_⟩
    have xin : x ∈ l := by rw [hd]; exact List.mem_append_right _ (.head _)
    have lin : done.length + 1 ≤ 2 := by
      have := congrArg List.length hd
      rw [List.length_append, List.length_cons] at this; (first | lia | omega)
    have hd' : l = done ++ [x] ++ rest := by rw [hd, List.append_assoc]; rfl
    have view := Pc.view (hks x xin)
    have one : ∀ {U' : Int → Prop} {H2 : MH} {nt2 : Int}, Prog E V U' W H rows nt (sz + 2 * done.length + 2) H2 nt2 → (∀ k, U k ∨ Pc.tm (.v k) ∈ done ∨ x = .tm (.v k) → (E.vi k).kind ≠ .void → U' k) → Keep (EW E) H1 H2 → nt' ≤ nt2 → ∀ v, 0 ≤ v → l = done ++ [x] ++ rest ∧ MS E V U W H rows nt sz H0 nt0 pa l (done ++ [x]) ⟨[some (.inst 5 E.s), some (.ref pa), some (.int v), some x.enc], H2⟩ :=
      fun p' hU k' n' v hv => ⟨hd', .mk hv (p'.weak (fun k hk nv => hU k (hk.imp id pv_mem) nv) (by rw [List.length_append]; exact Nat.le_refl _)) (k'.at hp pE) (kp.trans k') (Int.le_trans hn n')⟩
    have main : (∀ k, x = .tm (.v k) → (E.vi k).kind ≠ .void) → ∀ H2, Prog E V (fun k => U k ∨ Pc.tm (.v k) ∈ done) W H rows nt (sz + 2 * done.length + 1) H2 nt' → Keep (EW E) H1 H2 → p3103_8 X (d + 2) fa G ⟨[some (.inst 5 E.s), some (.ref pa), some (.int 0), some x.enc], H2⟩ := by
      intro nv H2 p2 k2
      obtain ⟨r2, e2, hr2, nn⟩ := p2.at
      walk_at "s"
      rcases view with ⟨k, hx, hen, hk, hv⟩ | ⟨n, hen, n1, n2, hx⟩ | ⟨t, s, z, het, hen, s1, s2, hc, hx⟩
      · refine ⟨_, ixE0 hen, _, .eq .str, .yes (by kernel_rfl!) ?_⟩
        walk_at "s"
        exact ⟨_, .mk mt5_set_variable e2.self, _, ixE1 hen, p2.then hW (fun r e hr K' => c3104 ok cl pf e hk hv (nv k hx) (by (first | lia | omega)) K') (Nat.le_refl _) fun H3 nt3 p3 k3 n3 =>
          hG.next _ (one p3 (fun j hj _ => hj.elim (fun h => .inl (.inl h)) fun h => h.elim (fun h => .inl (.inr h)) fun h => .inr (by rw [hx] at h; cases h; rfl)) (k2.trans k3) n3 _ (Int.le_refl _))⟩
      · refine ⟨_, ixE0 hen, _, .eq .str, .no (by kernel_rfl!) ?_⟩
        walk_at "s"
        refine ⟨_, ixE0 hen, _, .eq .str, .yes (by kernel_rfl!) ?_⟩
        walk_at "s"
        exact ⟨_, .mk mt5_emit e2.self, p2.emit ok cl pf hW (by (first | lia | omega)) (by decide) (leB rfl) (fun q hq => .inr (.inr (.inl (.inr ⟨n, n1, Int.lt_of_lt_of_le n2 hn, (List.mem_singleton.mp hq).trans hen⟩)))) fun H3 p3 k3 =>
          hG.next _ (one p3 (fun j hj _ => hj.imp id fun h => h.elim id fun h => (hx j h).elim) (k2.trans k3) (Int.le_refl _) _ (Int.le_refl _))⟩
      · have hen' := het.trans hen
        refine ⟨_, ixE0 hen', _, .eq .str, .no s1 ?_⟩
        walk_at "s"
        refine ⟨_, ixE0 hen', _, .eq .str, .no s2 ?_⟩
        walk_at "s"
        refine ⟨_, .mk mt5_emit e2.self, ?_⟩
        have c := c18 (d := d + 1) ok cl pf (H := H2) hc (Q := fun m H' => CallsTo X (d + 2) (.ref (fa 2901)) [.inst 5 E.s, .tup [.str (Str.ofString "set_constant"), m]] (fun m H' => G .next ⟨[some (.inst 5 E.s), some (.ref pa), some (.int 0), some x.enc], H'⟩) H') fun c y => p2.emit ok cl pf hW (by (first | lia | omega)) (by decide) (leB rfl) (fun q hq => .inr (.inl ⟨_, _, List.mem_singleton.mp hq⟩)) fun H3 p3 k3 =>
          hG.next _ (one p3 (fun j hj _ => hj.imp id fun h => h.elim id fun h => (hx j h).elim) (k2.trans k3) (Int.le_refl _) _ (Int.le_refl _))
        rw [← het] at c
        exact c
    have next : (∀ k, x = .tm (.v k) → (E.vi k).kind ≠ .void) → p3103_5 X (d + 2) fa G ⟨[some (.inst 5 E.s), some (.ref pa), some (.int v), some x.enc], H1⟩ := by
      intro nv
      walk_at "s"
      refine ⟨_, .gt, .dec (fun h => ?_) fun h => ?_⟩
      · walk_at "s"
        obtain ⟨r, e1, _, _⟩ := p.at
        exact ⟨_, .mk mt5_emit e1.self, p.emit ok cl pf hW (by (first | lia | omega)) (by decide) (leB rfl) (fun q hq => .inl ⟨_, List.mem_singleton.mp hq⟩) fun H3 p3 k3 => main nv H3 p3 k3⟩
      · cases (show v = 0 by (first | lia | omega))
        exact main nv H1 (p.weak (fun _ h _ => h) (Nat.le_succ _)) (.refl ..)
    obtain ⟨r1, e1, _, _⟩ := p.at
    walk_at "s"
    rcases view with ⟨k, hx, hen, hk, hv⟩ | ⟨n, hen, n1, n2, hx⟩ | ⟨t, s, z, het, hen, s1, s2, hc, hx⟩
    · refine ⟨_, ixE0 hen, _, .eq .str, .yes (by kernel_rfl!) ⟨_, .mk mt5_is_void e1.self, _, ixE1 hen, c2903 ok cl pf e1 hk ⟨_, .bool, .dec (fun kv => .t ?_) fun kv => .f (next fun j h => by rw [hx] at h; cases h; exact kv)⟩⟩⟩
      walk_at "s"
      exact ⟨_, .add, hG.cont _ (one p.grow2 (fun j hj nv => hj.imp id fun h => h.elim id fun h => by rw [hx] at h; cases h; exact absurd kv nv) (.refl ..) (Int.le_refl _) _ (Int.le_add_one hv0))⟩
    · exact ⟨_, ixE0 hen, _, .eq .str, .no (by kernel_rfl!) (.f (next fun k h => (hx k h).elim))⟩
    · exact ⟨_, ixE0 (het.trans hen), _, .eq .str, .no s1 (.f (next fun k h => (hx k h).elim))⟩
  · rintro done σ ⟨hd, ⟨hv0, p, hp, kp, hn⟩⟩
    rename_i H1 nt' v x1
    refine ⟨hp, ?_⟩
    rw [List.append_nil] at hd; subst hd
    walk_at "s"
    refine ⟨_, .gt, .dec (fun h => ?_) fun h => K nt' H1 (p.weak (fun _ h _ => h) (by (first | lia | omega))) kp hn⟩
    walk_at "s"
    obtain ⟨r, e1, _, _⟩ := p.at
    exact ⟨_, .mk mt5_emit e1.self, p.emit ok cl pf hW (by (first | lia | omega)) (by decide) (leB rfl) (fun q hq => .inl ⟨_, List.mem_singleton.mp hq⟩) fun H3 p3 k3 => K nt' H3 (p3.weak (fun _ h _ => h) (by (first | lia | omega))) (kp.trans k3) hn⟩
theorem Tm.head (t : Tm) : ∃ s r, t.enc = .tup (.str s :: r) ∧ (s == Str.ofString "s") = t.isS := by
  cases t with
  | s1 f x => exact ⟨_, _, rfl, by kernel_rfl!⟩
  | s2 f x y => exact ⟨_, _, rfl, by kernel_rfl!⟩
  | _ => exact ⟨_, _, rfl, by kernel_rfl!⟩
noncomputable def encW (p : Bool × Tm) : MV := .tup [.bool p.1, p.2.enc]
noncomputable def wk (l : List Tm) : List (Bool × Tm) := (l.filter Tm.isS).map fun t => (false, t)
theorem wk_y {t : Tm} (h : t.isS = true) (l : List Tm) : wk (t :: l) = (false, t) :: wk l := by unfold wk; rw [List.filter_cons_of_pos h]; rfl
theorem wk_n {t : Tm} (h : t.isS = false) (l : List Tm) : wk (t :: l) = wk l := by unfold wk; rw [List.filter_cons_of_neg (by rw [h]; nofun)]
inductive WN (E : Em) (H : MH) (w : Addr) (wl : List MV) (x y : Tm) : Nat → St → Prop
  | one : WN E H w wl x y 1 ⟨[some (.inst 5 E.s), some (.tup [x.enc, y.enc]), some (.ref w), some (.int 1), some (.int 0)], H⟩
  | zero {H1 : MH} (h : H1 w = some (.L (wl ++ (wk [x]).map encW))) (k : Keep (fun b => b = w) H H1) : WN E H w wl x y 0 ⟨[some (.inst 5 E.s), some (.tup [x.enc, y.enc]), some (.ref w), some (.int 1), some (.int (-1))], H1⟩
noncomputable def p3101_4 (X : Ctx) (d : Nat) (fa : Nat → Addr) : WS := wSeq (wExpr (wMethB "list" bAppend (wLoc 2) (wCons (wTup (wCons (wConst (.bool false)) (wCons (wIdx (wLoc 1) (wLoc 4)) wNil))) wNil))) wEnd
noncomputable def p3101_5 (X : Ctx) (d : Nat) (fa : Nat → Addr) : WS := wSeq (wAugName 4 .Sub (wConst (.int 1))) wEnd
noncomputable def p3101_3 (X : Ctx) (d : Nat) (fa : Nat → Addr) : WS := wSeq (wIf (wTCmp .Eq (wIdx (wIdx (wLoc 1) (wLoc 4)) (wConst (.int 0))) (wConst (.str (Str.ofString "s")))) (p3101_4 X d fa) wEnd) (p3101_5 X d fa)
noncomputable def p3101_7 (X : Ctx) (d : Nat) (fa : Nat → Addr) : WS := wSeq (wExpr (wMethB "list" bAppend (wLoc 2) (wCons (wTup (wCons (wConst (.bool false)) (wCons (wIdx (wLoc 1) (wLoc 3)) wNil))) wNil))) wEnd
noncomputable def p3101_6 (X : Ctx) (d : Nat) (fa : Nat → Addr) : WS := wSeq (wIf (wTCmp .Eq (wIdx (wIdx (wLoc 1) (wLoc 3)) (wConst (.int 0))) (wConst (.str (Str.ofString "s")))) (p3101_7 X d fa) wEnd) wEnd
noncomputable def p3101_2 (X : Ctx) (d : Nat) (fa : Nat → Addr) : WS := wSeq (wWhile (wTCmp .GtE (wLoc 4) (wConst (.int 0))) (p3101_3 X d fa)) (p3101_6 X d fa)
noncomputable def p3101_1 (X : Ctx) (d : Nat) (fa : Nat → Addr) : WS := wSeq (wAsg (wBin .Sub (wLoc 3) (wConst (.int 1))) (wStore 4)) (p3101_2 X d fa)
noncomputable def p3101 (X : Ctx) (d : Nat) (fa : Nat → Addr) : WS := wSeq (wAsg (wBin .Sub (wOB bLen (wCons (wLoc 1) wNil)) (wConst (.int 1))) (wStore 3)) (p3101_1 X d fa)
theorem d3101 (ok : X.Ok) (cl : X.Cls) (pf : PF X fa tk) {q : Str} {dc pm co : Value} {L : Addr} : SS X d (fiOf (mkFd (fnOf 3101) q dc pm co) (nms 33) (fa 3101) L) (fnB (fnOf 3101)) (p3101 X d fa) :=
  have s0 : Slot (fiOf (mkFd (fnOf 3101) q dc pm co) (nms 33) (fa 3101) L) 0 (Str.ofString "self") := .loc (by rfl) (by kernel_rfl) (by decide)
  have s1 : Slot (fiOf (mkFd (fnOf 3101) q dc pm co) (nms 33) (fa 3101) L) 1 (Str.ofString "args") := .loc (by rfl) (by kernel_rfl) (by decide)
  have s2 : Slot (fiOf (mkFd (fnOf 3101) q dc pm co) (nms 33) (fa 3101) L) 2 (Str.ofString "work") := .loc (by rfl) (by kernel_rfl) (by decide)
  have s3 : Slot (fiOf (mkFd (fnOf 3101) q dc pm co) (nms 33) (fa 3101) L) 3 (Str.ofString "last") := .loc (by rfl) (by kernel_rfl) (by decide)
  have s4 : Slot (fiOf (mkFd (fnOf 3101) q dc pm co) (nms 33) (fa 3101) L) 4 (Str.ofString "at") := .loc (by rfl) (by kernel_rfl) (by decide)
  have g_len : GlobV X (fiOf (mkFd (fnOf 3101) q dc pm co) (nms 33) (fa 3101) L) (Str.ofString "len") (.builtin "len") := ⟨by kernel_rfl, pf.g 30 _ _ rfl, by decide⟩
  (SS.cons (SX.asgName (SE.bin (SE.callB ok g_len (SEs.cons (SE.loc s1) SEs.nil) okLen) SE.int) s3) (SS.cons (SX.asgName (SE.bin (SE.loc s3) SE.int) s4) (SS.cons (SX.while (ST.cmp ok (SE.loc s4) SE.int) (SS.cons (SX.if (ST.cmp ok (SE.idx (SE.idx (SE.loc s1) (SE.loc s4)) SE.int) SE.str) (SS.cons (SX.expr (SE.methB (SE.loc s2) (SEs.cons (SE.tup (SEs.cons SE.bool (SEs.cons (SE.idx (SE.loc s1) (SE.loc s4)) SEs.nil))) SEs.nil) (by decide) PySem.F.plainAttrs_list PySem.F.slot_list_append PySem.F.type_list_append okAppend (by rfl) (by rfl) (by rfl))) SS.nil) SS.nil) (SS.cons (SX.augName s4 SE.int) SS.nil))) (SS.cons (SX.if (ST.cmp ok (SE.idx (SE.idx (SE.loc s1) (SE.loc s3)) SE.int) SE.str) (SS.cons (SX.expr (SE.methB (SE.loc s2) (SEs.cons (SE.tup (SEs.cons SE.bool (SEs.cons (SE.idx (SE.loc s1) (SE.loc s3)) SEs.nil))) SEs.nil) (by decide) PySem.F.plainAttrs_list PySem.F.slot_list_append PySem.F.type_list_append okAppend (by rfl) (by rfl) (by rfl))) SS.nil) SS.nil) SS.nil))))
theorem c3101 (ok : X.Ok) (cl : X.Cls) (pf : PF X fa tk) {E : Em} {H : MH} {t : Tm} {w : Addr} {wl : List MV} {Q : MV → MH → Prop} (hs : t.isS = true) (hw : H w = some (.L wl)) (hz : wl.length ≤ 90000)
    (K : ∀ H', H' w = some (.L (wl ++ (wk t.args).map encW)) → Keep (fun b => b = w) H H' → Q .none H') : CallsTo X (d + 1) (.ref (fa 3101)) [.inst 5 E.s, .tup (t.args.map Tm.enc), .ref w] Q H := by
  have kw : ∀ {H : MH} {c : Cell}, Keep (fun b => b = w) H (H.set w c) := .set (.inl rfl)
  obtain ⟨q, dc, pm, co, ff⟩ := pf.fn 33 _ _ _ rfl; refine callsTo_def ok ff (fun L => d3101 ok cl pf) rfl 2 ?_
  cases t with
  | s1 f x =>
    obtain ⟨s, r, hen, hh⟩ := x.head
    walk_at "s"
    refine .tup (ltB rfl) ⟨_, .sub, ?_⟩
    walk_at "s"
    refine ⟨_, .sub, ?_⟩
    walk_at "s"
    refine .inv (fun n σ => σ = ⟨[some (.inst 5 E.s), some (.tup [x.enc]), some (.ref w), some (.int 0), some (.int (-1))], H⟩) (n := 0) rfl ?_
    rintro n σ G rfl hG
    walk_at "s"
    refine ⟨_, .ge, .no rfl ?_⟩
    walk_at "s"
    refine ⟨_, .tup ⟨by decide, by decide, rfl⟩, _, ixE0 hen, _, .eq .str, .any (fun b => ?_) fun b => ?_⟩
    · walk_at "s"
      exact ⟨_, .mk hw rfl, _, .tup ⟨by decide, by decide, rfl⟩, .mk hw (by (first | lia | omega)) (K _ (by rw [show Tm.args (.s1 f x) = [x] from rfl, wk_y (hh.symm.trans b)]; exact MH.set_self ..) kw)⟩
    · exact K _ (by rw [show Tm.args (.s1 f x) = [x] from rfl, wk_n (hh.symm.trans b)]; rw [hw]; exact congrArg some (congrArg Cell.L (List.append_nil _).symm)) (.refl ..)
  | s2 f x y =>
    obtain ⟨s, r, hen, hh⟩ := x.head
    obtain ⟨s', r', hen', hh'⟩ := y.head
    walk_at "s"
    refine .tup (ltB rfl) ⟨_, .sub, ?_⟩
    walk_at "s"
    refine ⟨_, .sub, ?_⟩
    walk_at "s"
    refine .inv (WN E H w wl x y) (n := 1) .one ?_
    rintro n σ G (_ | ⟨h, k⟩) hG
    · walk_at "s"
      refine ⟨_, .ge, .yes rfl ?_⟩
      walk_at "s"
      refine ⟨_, .tup ⟨by decide, by decide, rfl⟩, _, ixE0 hen, _, .eq .str, .any (fun b => ?_) fun b => ?_⟩
      · walk_at "s"
        refine ⟨_, .mk hw rfl, _, .tup ⟨by decide, by decide, rfl⟩, .mk hw (by (first | lia | omega)) ?_⟩
        walk_at "s"
        exact ⟨_, .sub, hG.next _ ⟨0, Nat.zero_lt_one, .zero (by rw [wk_y (hh.symm.trans b)]; exact MH.set_self ..) kw⟩⟩
      · walk_at "s"
        exact ⟨_, .sub, hG.next _ ⟨0, Nat.zero_lt_one, .zero (by rw [wk_n (hh.symm.trans b), hw]; exact congrArg some (congrArg Cell.L (List.append_nil _).symm)) (.refl ..)⟩⟩
    · rename_i H1
      walk_at "s"
      refine ⟨_, .ge, .no rfl ?_⟩
      walk_at "s"
      have e : (wk [x]).length ≤ 1 := by unfold wk; rw [List.length_map]; exact List.length_filter_le _ [x]
      refine ⟨_, .tup ⟨by decide, by decide, rfl⟩, _, ixE0 hen', _, .eq .str, .any (fun b => ?_) fun b => ?_⟩
      · walk_at "s"
        refine ⟨_, .mk h rfl, _, .tup ⟨by decide, by decide, rfl⟩, .mk h (by rw [List.length_append, List.length_map]; (first | lia | omega)) (K _ ((MH.set_self ..).trans ?_) (k.trans kw))⟩
        rw [List.append_assoc]
        refine congrArg (fun l => some (Cell.L (wl ++ l))) ?_
        cases hx : x.isS
        · rw [show Tm.args (.s2 f x y) = [x, y] from rfl, wk_n hx, wk_n hx, wk_y (hh'.symm.trans b)]; rfl
        · rw [show Tm.args (.s2 f x y) = [x, y] from rfl, wk_y hx, wk_y hx, wk_y (hh'.symm.trans b)]; rfl
      · refine K _ (h.trans ?_) k
        refine congrArg (fun l => some (Cell.L (wl ++ l))) ?_
        cases hx : x.isS
        · rw [show Tm.args (.s2 f x y) = [x, y] from rfl, wk_n hx, wk_n hx, wk_n (hh'.symm.trans b)]
        · rw [show Tm.args (.s2 f x y) = [x, y] from rfl, wk_y hx, wk_y hx, wk_n (hh'.symm.trans b)]
  | _ => cases hs
noncomputable def rE (n : Int) : MV := (Pc.r n).enc
inductive PP (regs : List Int) : Tm → Pc → Prop
  | s {x : Tm} {n : Int} (h : x.isS = true) (hn : n ∈ regs) : PP regs x (.r n)
  | t {x : Tm} (h : x.isS = false) : PP regs x (.tm x)
inductive PPs (regs : List Int) : List Tm → List Pc → Prop
  | nil : PPs regs [] []
  | cons {x : Tm} {p : Pc} {l : List Tm} {ps : List Pc} (h : PP regs x p) (r : PPs regs l ps) : PPs regs (x :: l) (p :: ps)
inductive TN (E : Em) (H : MH) (b pa : Addr) (regs : List Int) (x y : Tm) : Nat → St → Prop
  | one {H1 : MH} (hp : H1 pa = some (.L [x.enc, y.enc])) (hb : H1 b = some (.L (regs.map rE))) (k : Keep (fun z => z = b ∨ z = pa) H H1) :
    TN E H b pa regs x y 1 ⟨[some (.inst 5 E.s), some (.tup [x.enc, y.enc]), some (.ref b), some (.ref pa), some (.int 1), some (.int 0)], H1⟩
  | zero {H1 : MH} {p0 : Pc} {rs : List Int} (hp : H1 pa = some (.L [p0.enc, y.enc])) (hb : H1 b = some (.L (rs.map rE))) (k : Keep (fun z => z = b ∨ z = pa) H H1) (pp : PP regs x p0) (hl : regs.length = rs.length + (wk [x]).length) (sub : ∀ n ∈ rs, n ∈ regs) :
    TN E H b pa regs x y 0 ⟨[some (.inst 5 E.s), some (.tup [x.enc, y.enc]), some (.ref b), some (.ref pa), some (.int 1), some (.int (-1))], H1⟩
theorem last_of {α : Type} {l : List α} (h : 0 < l.length) : ∃ a y, l = a ++ [y] := ⟨_, _, (List.dropLast_concat_getLast (List.ne_nil_of_length_pos h)).symm⟩
noncomputable def p3102_5 (X : Ctx) (d : Nat) (fa : Nat → Addr) : WS := wSeq (wAsgIdx (wMethB "list" bPop (wLoc 2) wNil) (wLoc 3) (wLoc 5)) wEnd
noncomputable def p3102_6 (X : Ctx) (d : Nat) (fa : Nat → Addr) : WS := wSeq (wAugName 5 .Sub (wConst (.int 1))) wEnd
noncomputable def p3102_4 (X : Ctx) (d : Nat) (fa : Nat → Addr) : WS := wSeq (wIf (wTCmp .Eq (wIdx (wIdx (wLoc 1) (wLoc 5)) (wConst (.int 0))) (wConst (.str (Str.ofString "s")))) (p3102_5 X d fa) wEnd) (p3102_6 X d fa)
noncomputable def p3102_8 (X : Ctx) (d : Nat) (fa : Nat → Addr) : WS := wSeq (wAsgIdx (wMethB "list" bPop (wLoc 2) wNil) (wLoc 3) (wLoc 4)) wEnd
noncomputable def p3102_9 (X : Ctx) (d : Nat) (fa : Nat → Addr) : WS := wSeq (wRet (wLoc 3)) wEnd
noncomputable def p3102_7 (X : Ctx) (d : Nat) (fa : Nat → Addr) : WS := wSeq (wIf (wTCmp .Eq (wIdx (wIdx (wLoc 1) (wLoc 4)) (wConst (.int 0))) (wConst (.str (Str.ofString "s")))) (p3102_8 X d fa) wEnd) (p3102_9 X d fa)
noncomputable def p3102_3 (X : Ctx) (d : Nat) (fa : Nat → Addr) : WS := wSeq (wWhile (wTCmp .GtE (wLoc 5) (wConst (.int 0))) (p3102_4 X d fa)) (p3102_7 X d fa)
noncomputable def p3102_2 (X : Ctx) (d : Nat) (fa : Nat → Addr) : WS := wSeq (wAsg (wBin .Sub (wLoc 4) (wConst (.int 1))) (wStore 5)) (p3102_3 X d fa)
noncomputable def p3102_1 (X : Ctx) (d : Nat) (fa : Nat → Addr) : WS := wSeq (wAsg (wBin .Sub (wOB bLen (wCons (wLoc 1) wNil)) (wConst (.int 1))) (wStore 4)) (p3102_2 X d fa)
noncomputable def p3102 (X : Ctx) (d : Nat) (fa : Nat → Addr) : WS := wSeq (wAsg (wOB bList (wCons (wLoc 1) wNil)) (wStore 3)) (p3102_1 X d fa)
theorem d3102 (ok : X.Ok) (cl : X.Cls) (pf : PF X fa tk) {q : Str} {dc pm co : Value} {L : Addr} : SS X d (fiOf (mkFd (fnOf 3102) q dc pm co) (nms 34) (fa 3102) L) (fnB (fnOf 3102)) (p3102 X d fa) :=
  have s0 : Slot (fiOf (mkFd (fnOf 3102) q dc pm co) (nms 34) (fa 3102) L) 0 (Str.ofString "self") := .loc (by rfl) (by kernel_rfl) (by decide)
  have s1 : Slot (fiOf (mkFd (fnOf 3102) q dc pm co) (nms 34) (fa 3102) L) 1 (Str.ofString "args") := .loc (by rfl) (by kernel_rfl) (by decide)
  have s2 : Slot (fiOf (mkFd (fnOf 3102) q dc pm co) (nms 34) (fa 3102) L) 2 (Str.ofString "built") := .loc (by rfl) (by kernel_rfl) (by decide)
  have s3 : Slot (fiOf (mkFd (fnOf 3102) q dc pm co) (nms 34) (fa 3102) L) 3 (Str.ofString "pieces") := .loc (by rfl) (by kernel_rfl) (by decide)
  have s4 : Slot (fiOf (mkFd (fnOf 3102) q dc pm co) (nms 34) (fa 3102) L) 4 (Str.ofString "last") := .loc (by rfl) (by kernel_rfl) (by decide)
  have s5 : Slot (fiOf (mkFd (fnOf 3102) q dc pm co) (nms 34) (fa 3102) L) 5 (Str.ofString "at") := .loc (by rfl) (by kernel_rfl) (by decide)
  have g_len : GlobV X (fiOf (mkFd (fnOf 3102) q dc pm co) (nms 34) (fa 3102) L) (Str.ofString "len") (.builtin "len") := ⟨by kernel_rfl, pf.g 30 _ _ rfl, by decide⟩
  have g_list : GlobV X (fiOf (mkFd (fnOf 3102) q dc pm co) (nms 34) (fa 3102) L) (Str.ofString "list") (.type "list") := ⟨by kernel_rfl, pf.g 31 _ _ rfl, by decide⟩
  (SS.cons (SX.asgName (SE.callT ok g_list (SEs.cons (SE.loc s1) SEs.nil) okList) s3) (SS.cons (SX.asgName (SE.bin (SE.callB ok g_len (SEs.cons (SE.loc s1) SEs.nil) okLen) SE.int) s4) (SS.cons (SX.asgName (SE.bin (SE.loc s4) SE.int) s5) (SS.cons (SX.while (ST.cmp ok (SE.loc s5) SE.int) (SS.cons (SX.if (ST.cmp ok (SE.idx (SE.idx (SE.loc s1) (SE.loc s5)) SE.int) SE.str) (SS.cons (SX.asgIdx (SE.methB (SE.loc s2) SEs.nil (by decide) PySem.F.plainAttrs_list PySem.F.slot_list_pop PySem.F.type_list_pop okPop (by rfl) (by rfl) (by rfl)) (SE.loc s3) (SE.loc s5)) SS.nil) SS.nil) (SS.cons (SX.augName s5 SE.int) SS.nil))) (SS.cons (SX.if (ST.cmp ok (SE.idx (SE.idx (SE.loc s1) (SE.loc s4)) SE.int) SE.str) (SS.cons (SX.asgIdx (SE.methB (SE.loc s2) SEs.nil (by decide) PySem.F.plainAttrs_list PySem.F.slot_list_pop PySem.F.type_list_pop okPop (by rfl) (by rfl) (by rfl)) (SE.loc s3) (SE.loc s4)) SS.nil) SS.nil) (SS.cons (SX.ret (SE.loc s3)) SS.nil))))))
theorem c3102 (ok : X.Ok) (cl : X.Cls) (pf : PF X fa tk) {E : Em} {H : MH} {t : Tm} {b : Addr} {regs : List Int} {Q : MV → MH → Prop} (hs : t.isS = true) (hb : H b = some (.L (regs.map rE))) (hz : regs.length ≤ 90000) (hn : (wk t.args).length ≤ regs.length)
    (K : ∀ (H' : MH) (pa : Addr) (ps : List Pc) (rs : List Int), H pa = none → H' pa = some (.L (ps.map Pc.enc)) → H' b = some (.L (rs.map rE)) → regs.length = rs.length + (wk t.args).length → (∀ n ∈ rs, n ∈ regs) → Keep (fun z => z = b) H H' → PPs regs t.args ps → Q (.ref pa) H') : CallsTo X (d + 1) (.ref (fa 3102)) [.inst 5 E.s, .tup (t.args.map Tm.enc), .ref b] Q H := by
  have kb : ∀ {H : MH} {pa : Addr} {c : Cell}, Keep (fun z => z = b ∨ z = pa) H (H.set b c) := .set (.inl (.inl rfl))
  have kp : ∀ {H : MH} {pa : Addr} {c : Cell}, Keep (fun z => z = b ∨ z = pa) H (H.set pa c) := .set (.inl (.inr rfl))
  obtain ⟨q, dc, pm, co, ff⟩ := pf.fn 34 _ _ _ rfl; refine callsTo_def ok ff (fun L => d3102 ok cl pf) rfl 3 ?_
  cases t with
  | s1 f x =>
    obtain ⟨s, r, hen, hh⟩ := x.head
    walk_at "s"
    refine .mk (leB rfl) fun pa nd => ?_
    have nb : pa ≠ b := by rintro rfl; rw [hb] at nd; cases nd
    have hp0 := H.set_self pa (.L [x.enc])
    have hb0 := set_at (c' := .L [x.enc]) hb nb.symm
    have k0 : Keep (fun z => z = b ∨ z = pa) H (H.set pa (.L [x.enc])) := .set (.inr nd)
    show p3102_1 X d fa _ ⟨_, H.set pa (.L [x.enc])⟩
    generalize H.set pa (.L [x.enc]) = H0 at hp0 hb0 k0
    walk_at "s"
    refine .tup (ltB rfl) ⟨_, .sub, ?_⟩
    walk_at "s"
    refine ⟨_, .sub, ?_⟩
    walk_at "s"
    refine .inv (fun n σ => σ = ⟨[some (.inst 5 E.s), some (.tup [x.enc]), some (.ref b), some (.ref pa), some (.int 0), some (.int (-1))], H0⟩) (n := 0) rfl ?_
    rintro n σ G rfl hG
    walk_at "s"
    refine ⟨_, .ge, .no rfl ?_⟩
    walk_at "s"
    refine ⟨_, .tup ⟨by decide, by decide, rfl⟩, _, ixE0 hen, _, .eq .str, .any (fun t => ?_) fun t => ?_⟩
    · rw [show Tm.args (.s1 f x) = [x] from rfl, wk_y (hh.symm.trans t)] at hn K
      obtain ⟨rs, n, rfl⟩ := last_of (Nat.lt_of_lt_of_le (Nat.succ_pos _) hn)
      walk_at "s"
      refine ⟨_, .mk hb0 rfl, .mk (l := rs.map rE) (v := rE n) (by rw [hb0, List.map_append]; rfl) (by rw [List.length_append] at hz; rw [List.length_map]; exact Nat.lt_of_lt_of_le hz (leB rfl)) ⟨_, _, .list (set_at hp0 nb) (by decide) (by decide) (ltB rfl), fun _ => ?_⟩⟩
      walk_at "s"
      exact K _ pa [.r n] rs nd (MH.set_self ..) (set_at (MH.set_self ..) nb.symm) (List.length_append ..) (fun m h => List.mem_append_left _ h) (((k0.trans kb).trans kp).off nd) (.cons (.s (hh.symm.trans t) (List.mem_append_right _ (.head _))) .nil)
    · rw [show Tm.args (.s1 f x) = [x] from rfl, wk_n (hh.symm.trans t)] at K
      walk_at "s"
      exact K _ pa [.tm x] regs nd hp0 hb0 rfl (fun _ h => h) (k0.off nd) (.cons (.t (hh.symm.trans t)) .nil)
  | s2 f x y =>
    obtain ⟨s, r, hen, hh⟩ := x.head
    obtain ⟨s', r', hen', hh'⟩ := y.head
    walk_at "s"
    refine .mk (leB rfl) fun pa nd => ?_
    have nb : pa ≠ b := by rintro rfl; rw [hb] at nd; cases nd
    show p3102_1 X d fa _ ⟨_, H.set pa (.L [x.enc, y.enc])⟩
    walk_at "s"
    refine .tup (ltB rfl) ⟨_, .sub, ?_⟩
    walk_at "s"
    refine ⟨_, .sub, ?_⟩
    walk_at "s"
    refine .inv (TN E H b pa regs x y) (n := 1) (.one (H.set_self pa (.L [x.enc, y.enc])) (set_at (c' := .L [x.enc, y.enc]) hb nb.symm) (.set (.inr nd))) ?_
    rw [show Tm.args (.s2 f x y) = [x, y] from rfl] at hn K
    rintro n σ G (⟨hp, hb, k⟩ | ⟨hp, hb, k, pp, hl, sub⟩) hG
    · walk_at "s"
      refine ⟨_, .ge, .yes rfl ?_⟩
      walk_at "s"
      refine ⟨_, .tup ⟨by decide, by decide, rfl⟩, _, ixE0 hen, _, .eq .str, .any (fun t => ?_) fun t => ?_⟩
      · rw [wk_y (hh.symm.trans t)] at hn
        have e := wk_y (hh.symm.trans t) []
        obtain ⟨rs, n, rfl⟩ := last_of (Nat.lt_of_lt_of_le (Nat.succ_pos _) hn)
        walk_at "s"
        refine ⟨_, .mk hb rfl, .mk (l := rs.map rE) (v := rE n) (by rw [hb, List.map_append]; rfl) (by rw [List.length_append] at hz; rw [List.length_map]; exact Nat.lt_of_lt_of_le hz (leB rfl)) ⟨_, _, .list (set_at hp nb) (by decide) (by decide) (ltB rfl), fun _ => ?_⟩⟩
        walk_at "s"
        exact ⟨_, .sub, hG.next _ ⟨0, Nat.zero_lt_one, .zero (p0 := .r n) (MH.set_self ..) (set_at (MH.set_self ..) nb.symm) ((k.trans kb).trans kp) (.s (hh.symm.trans t) (List.mem_append_right _ (.head _))) (by rw [e]; exact List.length_append ..) fun m h => List.mem_append_left _ h⟩⟩
      · walk_at "s"
        exact ⟨_, .sub, hG.next _ ⟨0, Nat.zero_lt_one, .zero (p0 := .tm x) hp hb k (.t (hh.symm.trans t)) (by rw [wk_n (hh.symm.trans t)]; rfl) fun _ h => h⟩⟩
    · rename_i H1 p0 rs
      have le : (wk [x, y]).length = (wk [x]).length + (wk [y]).length := by unfold wk; rw [List.length_map, List.length_map, List.length_map, ← List.length_append, ← List.filter_append]; rfl
      rw [le] at hn K
      walk_at "s"
      refine ⟨_, .ge, .no rfl ?_⟩
      walk_at "s"
      refine ⟨_, .tup ⟨by decide, by decide, rfl⟩, _, ixE0 hen', _, .eq .str, .any (fun t => ?_) fun t => ?_⟩
      · rw [wk_y (hh'.symm.trans t)] at hn K
        obtain ⟨rs, n, rfl⟩ := last_of (show 0 < rs.length by rw [List.length_cons] at hn; (first | lia | omega))
        have hl' : regs.length = rs.length + 1 + (wk [x]).length := by rw [hl, List.length_append]; rfl
        walk_at "s"
        refine ⟨_, .mk hb rfl, .mk (l := rs.map rE) (v := rE n) (by rw [hb, List.map_append]; rfl) (by rw [List.length_map]; (first | lia | omega)) ⟨_, _, .list (set_at hp nb) (by decide) (by decide) (ltB rfl), fun _ => ?_⟩⟩
        walk_at "s"
        exact K _ pa [p0, .r n] rs nd (MH.set_self ..) (set_at (MH.set_self ..) nb.symm) (by show _ = rs.length + ((wk [x]).length + 1); (first | lia | omega)) (fun m h => sub m (List.mem_append_left _ h)) (((k.trans kb).trans kp).off nd) (.cons pp (.cons (.s (hh'.symm.trans t) (sub _ (List.mem_append_right _ (.head _)))) .nil))
      · rw [wk_n (hh'.symm.trans t)] at K
        walk_at "s"
        exact K _ pa [p0, .tm y] rs nd hp hb hl sub (k.off nd) (.cons pp (.cons (.t (hh'.symm.trans t)) .nil))
  | _ => cases hs
end
section
variable {X : Ctx} {fa : Nat → Addr} {tk : Nat → Tok} {d : Nat}
noncomputable def sumB (c : Nat) : List (Bool × Tm) → Nat
  | [] => 0
  | (true, _) :: r => 1 + sumB c r
  | (false, t) :: r => c * t.nodes + sumB c r
theorem sumB_append (c : Nat) : ∀ a b, sumB c (a ++ b) = sumB c a + sumB c b
  | [], b => (Nat.zero_add _).symm
  | (true, _) :: r, b => by rw [List.cons_append, sumB, sumB, sumB_append c r b, Nat.add_assoc]
  | (false, _) :: r, b => by rw [List.cons_append, sumB, sumB, sumB_append c r b, Nat.add_assoc]
theorem sumB_len {c : Nat} (hc : 1 ≤ c) : ∀ l : List (Bool × Tm), l.length ≤ sumB c l
  | [] => Nat.le_refl _
  | (true, _) :: r => by have := sumB_len hc r; rw [List.length_cons, sumB]; (first | lia | omega)
  | (false, t) :: r => by have := sumB_len hc r; have := Nat.mul_le_mul hc t.nodes_pos; rw [List.length_cons, sumB]; (first | lia | omega)
theorem sumB_one (c : Nat) (x : Tm) (l : List Tm) : sumB c (wk (x :: l)) ≤ c * x.nodes + sumB c (wk l) := by
  cases h : x.isS
  · rw [wk_n h]; exact Nat.le_add_left ..
  · rw [wk_y h, sumB]; exact Nat.le_refl _
theorem sumB_wk (c : Nat) {t : Tm} (h : t.isS = true) : sumB c (wk t.args) + c ≤ c * t.nodes := by
  cases t with
  | s1 f x => have := sumB_one c x []; rw [show wk [] = [] from rfl, sumB] at this; rw [Tm.args, Tm.nodes, Nat.mul_succ]; (first | lia | omega)
  | s2 f x y => have := sumB_one c x [y]; have := sumB_one c y []; rw [show wk [] = [] from rfl, sumB] at this; rw [Tm.args, Tm.nodes, Nat.mul_succ, Nat.mul_add]; (first | lia | omega)
  | _ => cases h
noncomputable def sim : List (Bool × Tm) → Nat → Prop
  | [], _ => True
  | (true, t) :: r, b => (wk t.args).length ≤ b ∧ sim r (b - (wk t.args).length + 1)
  | (false, _) :: r, b => sim r (b + 1)
theorem sim_false : ∀ {l r : List (Bool × Tm)} {b : Nat}, (∀ p ∈ l, p.1 = false) → sim r (b + l.length) → sim (l ++ r) b
  | [], _, _, _, h => h
  | (true, _) :: l, _, _, hf, _ => nomatch hf _ (.head _)
  | (false, _) :: l, _, b, hf, h => sim_false (l := l) (b := b + 1) (fun p hp => hf p (.tail _ hp)) (by rw [List.length_cons, Nat.add_comm l.length 1, ← Nat.add_assoc] at h; exact h)
theorem mem_wk {p : Bool × Tm} {l : List Tm} (h : p ∈ wk l) : p.1 = false ∧ p.2 ∈ l ∧ p.2.isS = true := by
  obtain ⟨t, ht, rfl⟩ := List.mem_map.mp h
  exact ⟨rfl, List.mem_filter.mp ht⟩
noncomputable def pend (p : Bool × Tm) (k : Int) : Prop := if p.1 then Tm.v k ∈ p.2.args else k ∈ p.2.vars
theorem pend_t {t : Tm} {k : Int} : pend (true, t) k = (Tm.v k ∈ t.args) := if_pos rfl
theorem pend_f {t : Tm} {k : Int} : pend (false, t) k = (k ∈ t.vars) := if_neg nofun
theorem vars_split {t : Tm} {k : Int} (hs : t.isS = true) (h : k ∈ t.vars) : Tm.v k ∈ t.args ∨ ∃ p ∈ wk t.args, pend p k := by
  obtain ⟨x, hx, hk⟩ := (Tm.vars_args hs).mp h
  cases hS : x.isS with
  | true => exact .inr ⟨(false, x), List.mem_map.mpr ⟨x, List.mem_filter.mpr ⟨hx, hS⟩, rfl⟩, by rw [pend_f]; exact hk⟩
  | false =>
    rcases Tm.leaf hS with ⟨j, rfl⟩ | ⟨_, _, _, _, _, hv, _⟩
    · cases List.mem_singleton.mp hk; exact .inl hx
    · rw [hv] at hk; cases hk
theorem PPs.len {regs : List Int} {l : List Tm} {ps : List Pc} (h : PPs regs l ps) : ps.length = l.length := by
  induction h with
  | nil => rfl
  | cons _ _ ih => exact congrArg (· + 1) ih
theorem PPs.v {regs : List Int} {l : List Tm} {ps : List Pc} (h : PPs regs l ps) {k : Int} (hk : Tm.v k ∈ l) : Pc.tm (.v k) ∈ ps := by
  induction h with
  | nil => cases hk
  | cons h _ ih =>
    rcases List.mem_cons.mp hk with rfl | hk
    · cases h with
      | s h _ => cases h
      | t _ => exact .head _
    · exact .tail _ (ih hk)
theorem PPs.ok {E : Em} {V : Int → Prop} {lo hi : Int} {regs : List Int} {l : List Tm} {ps : List Pc} (h : PPs regs l ps) (hr : ∀ n ∈ regs, lo ≤ n ∧ n < hi) (hk : ∀ t ∈ l, ∀ k ∈ t.vars, k ∈ E.ks ∧ V k) : ∀ p ∈ ps, p.Ok E V lo hi := by
  induction h with
  | nil => exact nofun
  | cons h _ ih =>
    intro p hp
    rcases List.mem_cons.mp hp with rfl | hp
    · cases h with
      | s _ hn => exact .r (hr _ hn).1 (hr _ hn).2
      | t h => exact .tm h (hk _ (.head _))
    · exact ih (fun t ht => hk t (.tail _ ht)) p hp
theorem Emit.move {E : Em} {H H' : MH} {rows : List MV} {nt : Int} {W : Addr → Prop} (e : Emit E H rows nt) (k : Keep W H H') (h : ∀ a, W a → ¬ EW E a ∧ ∀ c, H a = some c → ∃ l, c = .L l) : Emit E H' rows nt := by
  obtain ⟨x1, x2, x3, x4, hp⟩ := e.plan
  obtain ⟨kvs, o, hi, hg⟩ := e.infos
  have nA : ∀ {a : Addr} {c : Cell}, H a = some c → (∀ l, c ≠ .L l) → ¬ W a := fun hc n w => let ⟨l, z⟩ := (h _ w).2 _ hc; n l z
  have sm : ∀ {a : Addr}, setOk H a → setOk H' a := fun ⟨l, q, r⟩ => ⟨l, k.at q (nA q nofun), r⟩
  exact ⟨k.at e.self (nA e.self nofun), k.at e.code fun w => (h _ w).1 (.inr (.inl rfl)), sm e.seen, sm e.loc, ⟨x1, x2, x3, x4, k.at hp (nA hp nofun)⟩, ⟨kvs, o, k.at hi (nA hi nofun), hg⟩, fun j hj => let ⟨y0, y3, y6, y7, y8, hy⟩ := e.ias j hj; ⟨y0, y3, y6, y7, y8, k.at hy (nA hy nofun)⟩, e.ks, e.sl, e.bound⟩
theorem Prog.move {E : Em} {V U : Int → Prop} {W W' : Addr → Prop} {H H2 H3 : MH} {rows : List MV} {nt nt2 : Int} {sz : Nat} (p : Prog E V U W H rows nt sz H2 nt2) (k : Keep W' H2 H3) (h : ∀ a, W' a → ¬ EW E a ∧ ∀ c, H2 a = some c → ∃ l, c = .L l) (hw : ∀ a, W' a → W a) : Prog E V U W H rows nt sz H3 nt2 :=
  let ⟨⟨ns, em, b, c, d⟩, e⟩ := p; ⟨⟨ns, em.move k h, b, c, d⟩, e.trans (k.mono hw)⟩
theorem isL {H : MH} {w : Addr} {l : List MV} {E : Em} (h : H w = some (.L l)) (n : ¬ EW E w) : ∀ a, a = w → ¬ EW E a ∧ ∀ c, H a = some c → ∃ l, c = .L l := by
  rintro a rfl
  exact ⟨n, fun c hc => ⟨l, Option.some.inj (hc.symm.trans h)⟩⟩
inductive BW (E : Em) (V : Int → Prop) (H : MH) (rows : List MV) (nt : Int) (tm : Tm) (tg : MV) (wa ba : Addr) : Nat → St → Prop
  | mk {H1 : MH} {nt' : Int} {its : List (Bool × Tm)} {bl : List MV} {x5 x6 x7 x8 : Option MV} {m n : Nat} (p : Prog E V (fun k => k ∈ tm.vars ∧ ∀ it ∈ its, ¬ pend it k) (fun b => (EW E b ∨ b = wa) ∨ b = ba) H rows nt m H1 nt') (hm : m + 6 * sumB 1 its ≤ 6 * tm.nodes)
    (hw : H1 wa = some (.L (its.map encW))) (hb : H1 ba = some (.L bl)) (hr : its ≠ [] → ∃ regs : List Int, bl = regs.map rE ∧ (∀ n ∈ regs, nt ≤ n ∧ n < nt') ∧ sim its.reverse regs.length ∧ regs.length ≤ m)
    (hi : ∀ it ∈ its, it.2.isS = true ∧ ∀ k ∈ it.2.vars, k ∈ E.ks ∧ V k) (e : n = sumB 2 its) : BW E V H rows nt tm tg wa ba n ⟨[some (.inst 5 E.s), some tm.enc, some tg, some (.ref wa), some (.ref ba), x5, x6, x7, x8], H1⟩
noncomputable def p3100_7 (X : Ctx) (d : Nat) (fa : Nat → Addr) : WS := wSeq (wCtl .cont) wEnd
noncomputable def p3100_6 (X : Ctx) (d : Nat) (fa : Nat → Addr) : WS := wSeq (wExpr (wMeth X d (mtab fa) (wLoc 0) (Str.ofString "wait_for_nested") (wCons (wIdx (wLoc 6) (wConst (.int 2))) (wCons (wLoc 3) wNil)))) (p3100_7 X d fa)
noncomputable def p3100_5 (X : Ctx) (d : Nat) (fa : Nat → Addr) : WS := wSeq (wExpr (wMethB "list" bAppend (wLoc 3) (wCons (wTup (wCons (wConst (.bool true)) (wCons (wLoc 6) wNil))) wNil))) (p3100_6 X d fa)
noncomputable def p3100_10 (X : Ctx) (d : Nat) (fa : Nat → Addr) : WS := wSeq (wAsg (wLoc 2) (wStore 8)) wEnd
noncomputable def p3100_11 (X : Ctx) (d : Nat) (fa : Nat → Addr) : WS := wSeq (wAsg (wMeth X d (mtab fa) (wLoc 0) (Str.ofString "new_temporary") wNil) (wStore 8)) wEnd
noncomputable def p3100_13 (X : Ctx) (d : Nat) (fa : Nat → Addr) : WS := wSeq (wExpr (wMeth X d (mtab fa) (wLoc 0) (Str.ofString "emit") (wCons (wTup (wCons (wConst (.str (Str.ofString "put_list"))) (wCons (wLoc 8) wNil))) wNil))) wEnd
noncomputable def p3100_14 (X : Ctx) (d : Nat) (fa : Nat → Addr) : WS := wSeq (wExpr (wMeth X d (mtab fa) (wLoc 0) (Str.ofString "emit") (wCons (wTup (wCons (wConst (.str (Str.ofString "put_structure"))) (wCons (wIdx (wLoc 6) (wConst (.int 1))) (wCons (wLoc 8) wNil)))) wNil))) wEnd
noncomputable def p3100_16 (X : Ctx) (d : Nat) (fa : Nat → Addr) : WS := wSeq (wExpr (wMethB "list" bAppend (wLoc 4) (wCons (wLoc 8) wNil))) wEnd
noncomputable def p3100_15 (X : Ctx) (d : Nat) (fa : Nat → Addr) : WS := wSeq (wExpr (wMeth X d (mtab fa) (wLoc 0) (Str.ofString "set_arguments") (wCons (wLoc 7) wNil))) (p3100_16 X d fa)
noncomputable def p3100_12 (X : Ctx) (d : Nat) (fa : Nat → Addr) : WS := wSeq (wIf (wTCmp .Eq (wIdx (wLoc 6) (wConst (.int 1))) (wConst (.int 0))) (p3100_13 X d fa) (p3100_14 X d fa)) (p3100_15 X d fa)
noncomputable def p3100_9 (X : Ctx) (d : Nat) (fa : Nat → Addr) : WS := wSeq (wIf (wTCmp .Eq (wOB bLen (wCons (wLoc 3) wNil)) (wConst (.int 0))) (p3100_10 X d fa) (p3100_11 X d fa)) (p3100_12 X d fa)
noncomputable def p3100_8 (X : Ctx) (d : Nat) (fa : Nat → Addr) : WS := wSeq (wAsg (wMeth X d (mtab fa) (wLoc 0) (Str.ofString "take_nested") (wCons (wIdx (wLoc 6) (wConst (.int 2))) (wCons (wLoc 4) wNil))) (wStore 7)) (p3100_9 X d fa)
noncomputable def p3100_4 (X : Ctx) (d : Nat) (fa : Nat → Addr) : WS := wSeq (wIf (wTNot (wTVal (wLoc 5))) (p3100_5 X d fa) wEnd) (p3100_8 X d fa)
noncomputable def p3100_3 (X : Ctx) (d : Nat) (fa : Nat → Addr) : WS := wSeq (wAsg (wMethB "list" bPop (wLoc 3) wNil) (wUnpack 2 (wSt2 (wStore 5) (wSt2 (wStore 6) wSt0)))) (p3100_4 X d fa)
noncomputable def p3100_2 (X : Ctx) (d : Nat) (fa : Nat → Addr) : WS := wSeq (wWhile (wTCmp .Gt (wOB bLen (wCons (wLoc 3) wNil)) (wConst (.int 0))) (p3100_3 X d fa)) wEnd
noncomputable def p3100_1 (X : Ctx) (d : Nat) (fa : Nat → Addr) : WS := wSeq (wAsg (wList wNil) (wStore 4)) (p3100_2 X d fa)
noncomputable def p3100 (X : Ctx) (d : Nat) (fa : Nat → Addr) : WS := wSeq (wAsg (wList (wCons (wTup (wCons (wConst (.bool false)) (wCons (wLoc 1) wNil))) wNil)) (wStore 3)) (p3100_1 X d fa)
theorem d3100 (ok : X.Ok) (cl : X.Cls) (pf : PF X fa tk) {q : Str} {dc pm co : Value} {L : Addr} : SS X d (fiOf (mkFd (fnOf 3100) q dc pm co) (nms 32) (fa 3100) L) (fnB (fnOf 3100)) (p3100 X d fa) :=
  have s0 : Slot (fiOf (mkFd (fnOf 3100) q dc pm co) (nms 32) (fa 3100) L) 0 (Str.ofString "self") := .loc (by rfl) (by kernel_rfl) (by decide)
  have s1 : Slot (fiOf (mkFd (fnOf 3100) q dc pm co) (nms 32) (fa 3100) L) 1 (Str.ofString "term") := .loc (by rfl) (by kernel_rfl) (by decide)
  have s2 : Slot (fiOf (mkFd (fnOf 3100) q dc pm co) (nms 32) (fa 3100) L) 2 (Str.ofString "target") := .loc (by rfl) (by kernel_rfl) (by decide)
  have s3 : Slot (fiOf (mkFd (fnOf 3100) q dc pm co) (nms 32) (fa 3100) L) 3 (Str.ofString "work") := .loc (by rfl) (by kernel_rfl) (by decide)
  have s4 : Slot (fiOf (mkFd (fnOf 3100) q dc pm co) (nms 32) (fa 3100) L) 4 (Str.ofString "built") := .loc (by rfl) (by kernel_rfl) (by decide)
  have s5 : Slot (fiOf (mkFd (fnOf 3100) q dc pm co) (nms 32) (fa 3100) L) 5 (Str.ofString "ready") := .loc (by rfl) (by kernel_rfl) (by decide)
  have s6 : Slot (fiOf (mkFd (fnOf 3100) q dc pm co) (nms 32) (fa 3100) L) 6 (Str.ofString "node") := .loc (by rfl) (by kernel_rfl) (by decide)
  have s7 : Slot (fiOf (mkFd (fnOf 3100) q dc pm co) (nms 32) (fa 3100) L) 7 (Str.ofString "pieces") := .loc (by rfl) (by kernel_rfl) (by decide)
  have s8 : Slot (fiOf (mkFd (fnOf 3100) q dc pm co) (nms 32) (fa 3100) L) 8 (Str.ofString "register") := .loc (by rfl) (by kernel_rfl) (by decide)
  have g_F_DOT : GlobV X (fiOf (mkFd (fnOf 3100) q dc pm co) (nms 32) (fa 3100) L) (Str.ofString "F_DOT") (.int 0 (tk 5)) := ⟨by kernel_rfl, pf.g 5 _ _ rfl, by decide⟩
  have g_len : GlobV X (fiOf (mkFd (fnOf 3100) q dc pm co) (nms 32) (fa 3100) L) (Str.ofString "len") (.builtin "len") := ⟨by kernel_rfl, pf.g 30 _ _ rfl, by decide⟩
  (SS.cons (SX.asgName (SE.list (SEs.cons (SE.tup (SEs.cons SE.bool (SEs.cons (SE.loc s1) SEs.nil))) SEs.nil)) s3) (SS.cons (SX.asgName (SE.list SEs.nil) s4) (SS.cons (SX.while (ST.cmp ok (SE.callB ok g_len (SEs.cons (SE.loc s3) SEs.nil) okLen) SE.int) (SS.cons (SX.asgTup (SE.methB (SE.loc s3) SEs.nil (by decide) PySem.F.plainAttrs_list PySem.F.slot_list_pop PySem.F.type_list_pop okPop (by rfl) (by rfl) (by rfl)) (SAL.cons (SAs.name s5) (SAL.cons (SAs.name s6) SAL.nil))) (SS.cons (SX.if (ST.not (ST.val (SE.loc s5))) (SS.cons (SX.expr (SE.methB (SE.loc s3) (SEs.cons (SE.tup (SEs.cons SE.bool (SEs.cons (SE.loc s6) SEs.nil))) SEs.nil) (by decide) PySem.F.plainAttrs_list PySem.F.slot_list_append PySem.F.type_list_append okAppend (by rfl) (by rfl) (by rfl))) (SS.cons (SX.expr (SE.meth ok pf.mt (SE.loc s0) (SEs.cons (SE.idx (SE.loc s6) SE.int) (SEs.cons (SE.loc s3) SEs.nil)))) (SS.cons SX.cont SS.nil))) SS.nil) (SS.cons (SX.asgName (SE.meth ok pf.mt (SE.loc s0) (SEs.cons (SE.idx (SE.loc s6) SE.int) (SEs.cons (SE.loc s4) SEs.nil))) s7) (SS.cons (SX.if (ST.cmp ok (SE.callB ok g_len (SEs.cons (SE.loc s3) SEs.nil) okLen) SE.int) (SS.cons (SX.asgName (SE.loc s2) s8) SS.nil) (SS.cons (SX.asgName (SE.meth ok pf.mt (SE.loc s0) SEs.nil) s8) SS.nil)) (SS.cons (SX.if (ST.cmp ok (SE.idx (SE.loc s6) SE.int) (SE.globInt ok g_F_DOT)) (SS.cons (SX.expr (SE.meth ok pf.mt (SE.loc s0) (SEs.cons (SE.tup (SEs.cons SE.str (SEs.cons (SE.loc s8) SEs.nil))) SEs.nil))) SS.nil) (SS.cons (SX.expr (SE.meth ok pf.mt (SE.loc s0) (SEs.cons (SE.tup (SEs.cons SE.str (SEs.cons (SE.idx (SE.loc s6) SE.int) (SEs.cons (SE.loc s8) SEs.nil)))) SEs.nil))) SS.nil)) (SS.cons (SX.expr (SE.meth ok pf.mt (SE.loc s0) (SEs.cons (SE.loc s7) SEs.nil))) (SS.cons (SX.expr (SE.methB (SE.loc s4) (SEs.cons (SE.loc s8) SEs.nil) (by decide) PySem.F.plainAttrs_list PySem.F.slot_list_append PySem.F.type_list_append okAppend (by rfl) (by rfl) (by rfl))) SS.nil)))))))) SS.nil)))
theorem c3100 (ok : X.Ok) (cl : X.Cls) (pf : PF X fa tk) {E : Em} {V : Int → Prop} {H : MH} {rows : List MV} {nt : Int} {tm : Tm} {tg : MV} {Q : MV → MH → Prop} (e : Emit E H rows nt) (hs : tm.isS = true) (hr0 : Reg nt nt tg) (hks : ∀ k ∈ tm.vars, k ∈ E.ks ∧ V k) (hz : rows.length + 6 * tm.nodes + 20 ≤ 50000)
    (K : Gives E V (fun k => k ∈ tm.vars) (EW E) H rows nt (6 * tm.nodes) (Q .none)) : CallsTo X (d + 4) (.ref (fa 3100)) [.inst 5 E.s, tm.enc, tg] Q H := by
  obtain ⟨q, dc, pm, co, ff⟩ := pf.fn 32 _ _ _ rfl; refine callsTo_def ok ff (fun L => d3100 ok cl pf) rfl 6 ?_
  walk_at "s"
  intro wa nd
  have wE := e.apart nd
  walk_at "s"
  intro ba nd2
  have p0 := ((Prog.start (V := V) (W := fun b => (EW E b ∨ b = wa) ∨ b = ba) e).new nd (c := .L [encW (false, tm)]))
  have bw : ba ≠ wa := by rintro rfl; rw [MH.set_self] at nd2; cases nd2
  have nb : H ba = none := (H.set_ne _ bw).symm.trans nd2
  have bE := e.apart nb
  walk_at "s"
  refine .inv (BW E V H rows nt tm tg wa ba) (n := sumB 2 [(false, tm)]) (.mk (its := [(false, tm)]) (m := 0) ((p0.new nd2).weak (fun k h _ => (h.2 _ (.head _) (by rw [pend_f]; exact h.1)).elim) (Nat.le_refl _)) (by rw [sumB, sumB]; (first | lia | omega)) (set_at (MH.set_self ..) bw.symm) (MH.set_self ..) (fun _ => ⟨[], rfl, nofun, trivial, Nat.le_refl _⟩) (fun p hp => by cases List.mem_singleton.mp hp; exact ⟨hs, hks⟩) rfl) ?_
  rintro n σ G ⟨p, hm, hw, hb, hr, hi, rfl⟩ hG
  rename_i H1 nt' its bl x5 x6 x7 x8 m
  have sl := sumB_len (c := 1) (Nat.le_refl _) its
  walk_at "s"
  refine .list hw (by rw [List.length_map]; (first | lia | omega)) ⟨_, .gt, .dec (fun h => ?_) fun h => ?_⟩
  · rw [List.length_map] at h
    obtain ⟨init, ⟨rd, t⟩, rfl⟩ := last_of (Int.ofNat_lt.mp h)
    obtain ⟨regs, hbl, hrr, hsim, hlen⟩ := hr (by simp)
    obtain ⟨h1, h3⟩ := hi (rd, t) (List.mem_append_right _ (.head _))
    replace h1 : t.isS = true := h1
    have hen := Tm.enc_s h1
    rw [sumB_append] at hm hG sl
    rw [List.length_append] at sl
    rw [List.reverse_append] at hsim
    walk_at "s"
    refine ⟨_, .mk hw rfl, .mk (l := init.map encW) (v := encW (rd, t)) (by rw [hw, List.map_append]; rfl) (by rw [List.length_map]; (first | lia | omega)) ⟨_, .mk rfl, ?_⟩⟩
    have p1 := p.list hw wE (.inl (.inr rfl)) (l' := init.map encW)
    have hw1 := H1.set_self wa (.L (init.map encW))
    have hb1 := set_at (c' := .L (init.map encW)) hb bw
    walk_at "s"
    generalize H1.set wa (.L (init.map encW)) = H2 at p1 hw1 hb1
    refine ⟨_, .bool, ?_⟩
    cases rd with
    | false =>
      refine .t ?_
      have e2 : sumB 2 [(false, t)] = 2 * t.nodes := by rw [sumB, sumB]; rfl
      have e1 : sumB 1 [(false, t)] = 1 * t.nodes := by rw [sumB, sumB]; rfl
      rw [e2] at hG
      rw [e1] at hm sl
      have w1 := sumB_wk 1 h1
      have w2 := sumB_wk 2 h1
      walk_at "s"
      refine ⟨_, .mk hw1 rfl, .mk hw1 (by rw [List.length_map]; (first | lia | omega)) ?_⟩
      have p2 := p1.list hw1 wE (.inl (.inr rfl)) (l' := init.map encW ++ [encW (true, t)])
      obtain ⟨r2, em2, _, _⟩ := p2.at
      have hw2 := H2.set_self wa (.L (init.map encW ++ [encW (true, t)]))
      have hb2 := set_at (c' := .L (init.map encW ++ [encW (true, t)])) hb1 bw
      walk_at "s"
      refine ⟨_, .mk mt5_wait_for_nested em2.self, _, ixE2 hen, c3101 ok cl pf h1 hw2 (by rw [List.length_append, List.length_map, List.length_singleton]; (first | lia | omega)) fun H3 hw3 k3 => ?_⟩
      walk_at "s"
      refine hG.cont _ ⟨_, ?_, .mk (its := init ++ (true, t) :: wk t.args) ((p2.move k3 (isL hw2 wE) (fun a z => .inl (.inr z))).weak (fun k hk _ => ⟨hk.1, fun it hit hp => ?_⟩) (Nat.le_refl _)) ?_ ?_ (k3.at hb2 bw) (fun _ => ⟨regs, hbl, hrr, ?_, hlen⟩) (fun it hit => ?_) rfl⟩
      · rw [sumB_append, sumB]; (first | lia | omega)
      · rcases List.mem_append.mp hit with hit | hit
        · exact hk.2 it (List.mem_append_left _ hit) hp
        · cases List.mem_singleton.mp hit
          rw [pend_f] at hp
          rcases vars_split h1 hp with q | ⟨q, hq, hp⟩
          · exact hk.2 _ (List.mem_append_right _ (.head _)) (by rw [pend_t]; exact q)
          · exact hk.2 q (List.mem_append_right _ (.tail _ hq)) hp
      · rw [sumB_append, sumB]; (first | lia | omega)
      · rw [hw3, List.map_append, List.map_cons, List.append_assoc]; rfl
      · rw [List.reverse_append, List.reverse_cons, List.append_assoc]
        refine sim_false (fun p hp => (mem_wk (List.mem_reverse.mp hp)).1) ⟨?_, ?_⟩
        · rw [List.length_reverse]; exact Nat.le_add_left ..
        · rw [List.length_reverse, Nat.add_sub_cancel]; exact hsim
      · rcases List.mem_append.mp hit with hit | hit
        · exact hi it (List.mem_append_left _ hit)
        · rcases List.mem_cons.mp hit with rfl | hit
          · exact ⟨h1, h3⟩
          · obtain ⟨_, a, b⟩ := mem_wk hit
            exact ⟨b, fun k hk => h3 k ((Tm.vars_args h1).mpr ⟨_, a, hk⟩)⟩
    | true =>
      refine .f ?_
      have e2 : ∀ c, sumB c [(true, t)] = 1 := fun c => by rw [sumB, sumB]
      rw [e2] at hG hm sl
      obtain ⟨r1, em1, _, _⟩ := p1.at
      subst hbl
      walk_at "s"
      refine ⟨_, .mk mt5_take_nested em1.self, _, ixE2 hen, c3102 ok cl pf h1 hb1 (by (first | lia | omega)) hsim.1 fun H3 pa ps rs npa hpa hb3 hl3 hs3 k3 pps => ?_⟩
      have p3 := p1.move k3 (isL hb1 bE) fun a z => .inr z
      have hw3 := k3.at hw1 bw.symm
      obtain ⟨r3, em3, _, nn3⟩ := p3.at
      have paE := fun z => em1.apart npa z
      have pab : pa ≠ ba := by rintro rfl; rw [hb1] at npa; cases npa
      have psl : ps.length ≤ 2 := pps.len ▸ t.args_len
      have reg : ∀ (rg : MV) (H4 : MH) (nt4 : Int), Prog E V (fun k => k ∈ tm.vars ∧ ∀ it ∈ init ++ [(true, t)], ¬ pend it k) (fun b => (EW E b ∨ b = wa) ∨ b = ba) H rows nt m H4 nt4 → Keep (EW E) H3 H4 → nt' ≤ nt4 → Reg nt nt4 rg → (init ≠ [] → ∃ n, rg = rE n ∧ nt ≤ n ∧ n < nt4) →
          p3100_12 X (d + 3) fa G ⟨[some (.inst 5 E.s), some tm.enc, some tg, some (.ref wa), some (.ref ba), some (.bool true), some t.enc, some (.ref pa), some rg], H4⟩ := by
        intro rg H4 nt4 p4 k4 n4 hrg hin
        have fin : ∀ H5, Prog E V (fun k => k ∈ tm.vars ∧ ∀ it ∈ init ++ [(true, t)], ¬ pend it k) (fun b => (EW E b ∨ b = wa) ∨ b = ba) H rows nt (m + 1) H5 nt4 → Keep (EW E) H4 H5 →
            p3100_15 X (d + 3) fa G ⟨[some (.inst 5 E.s), some tm.enc, some tg, some (.ref wa), some (.ref ba), some (.bool true), some t.enc, some (.ref pa), some rg], H5⟩ := by
          intro H5 p5 k5
          obtain ⟨r5, em5, _, _⟩ := p5.at
          have k35 := k4.trans k5
          walk_at "s"
          refine ⟨_, .mk mt5_set_arguments em5.self, c3103 ok cl pf p5 (fun b z => .inl (.inl z)) psl (k35.at hpa paE) paE (pps.ok (fun n hn => ⟨(hrr n hn).1, Int.lt_of_lt_of_le (hrr n hn).2 n4⟩) fun x hx k hk => h3 k ((Tm.vars_args h1).mpr ⟨x, hx, hk⟩)) (by (first | lia | omega)) fun nt6 H6 p6 k6 n6 => ?_⟩
          have k36 := k35.trans k6
          have hb6 := k36.at hb3 bE
          walk_at "s"
          refine ⟨_, .mk hb6 rfl, .mk hb6 (by rw [List.length_map]; (first | lia | omega)) ?_⟩
          refine hG.next _ ⟨_, ?_, .mk (its := init) (m := m + 6) ((p6.list hb6 bE (.inr rfl)).weak (fun k hk _ => ?_) (Nat.le_refl _)) ?_ (set_at (k36.at hw3 wE) bw.symm) (MH.set_self ..) (fun ne => ?_) (fun it hit => hi it (List.mem_append_left _ hit)) rfl⟩
          · exact Nat.lt_succ_self _
          · by_cases q : Tm.v k ∈ t.args
            · exact .inr (pps.v q)
            · refine .inl ⟨hk.1, fun it hit hp => (List.mem_append.mp hit).elim (fun hit => hk.2 it hit hp) fun hit => ?_⟩
              cases List.mem_singleton.mp hit
              rw [pend_t] at hp
              exact q hp
          · (first | lia | omega)
          · obtain ⟨n, rfl, n1, n2⟩ := hin ne
            refine ⟨rs ++ [n], by rw [List.map_append]; rfl, fun x hx => ?_, ?_, by rw [List.length_append, List.length_singleton]; (first | lia | omega)⟩
            · rcases List.mem_append.mp hx with hx | hx
              · have := hrr x (hs3 x hx); (first | lia | omega)
              · cases List.mem_singleton.mp hx; (first | lia | omega)
            · have := hsim.2
              rw [hl3, Nat.add_sub_cancel] at this
              rw [List.length_append]; exact this
        obtain ⟨r4, em4, _, _⟩ := p4.at
        have prg : ∀ q ∈ [rg], Part E V nt nt4 q := fun q hq => by cases List.mem_singleton.mp hq; exact .inr (.inr (.inl hrg))
        walk_at "s"
        refine ⟨_, ixE1 hen, _, .eq .int, .dec (fun hf => ?_) fun hf => ?_⟩
        · walk_at "s"
          exact ⟨_, .mk mt5_emit em4.self, p4.emit ok cl pf (fun b z => .inl (.inl z)) (by (first | lia | omega)) (by decide) (leB rfl) prg fin⟩
        · walk_at "s"
          exact ⟨_, .mk mt5_emit em4.self, _, ixE1 hen, p4.emit ok cl pf (fun b z => .inl (.inl z)) (by (first | lia | omega)) (by decide) (leB rfl) (fun q hq => (List.mem_cons.mp hq).elim (fun z => .inl ⟨_, z⟩) (prg q)) fin⟩
      walk_at "s"
      walk_at "s"
      refine .list hw3 (by rw [List.length_map]; (first | lia | omega)) ⟨_, .eq .int, .dec (fun z => ?_) fun z => ?_⟩
      · walk_at "s"
        exact reg tg H3 nt' p3 (.refl ..) (Int.le_refl _) (hr0.mono (Int.le_refl _) nn3) fun ne => absurd (List.length_eq_zero_iff.mp (by rw [List.length_map] at z; exact Int.ofNat.inj z)) ne
      · walk_at "s"
        refine ⟨_, .mk mt5_new_temporary em3.self, p3.temp ok cl pf (fun b z => .inl (.inl z)) fun H4 p4 k4 => ?_⟩
        walk_at "s"
        exact reg _ H4 (nt' + 1) p4 k4 (le_one _) (.inr ⟨nt', nn3, lt_one _, rfl⟩) fun _ => ⟨nt', rfl, nn3, lt_one _⟩
  · rw [List.length_map] at h
    cases its with
    | cons y a => exact absurd (Int.ofNat_lt.mpr (Nat.succ_pos a.length)) h
    | nil => exact K.of ⟨(p.weak (fun k hk _ => ⟨hk, nofun⟩) (by (first | lia | omega))).ex, (p.keep.off nb).off nd⟩
end
section
variable {X : Ctx} {fa : Nat → Addr} {tk : Nat → Tok} {d : Nat}
inductive Gl where
  | call (x y : Tm)
  | blt (x y : Tm)
  | cut
  | num (n : Nat) (k : Int)
noncomputable def numName : Nat → String
  | 0 => "level"
  | 1 => "mark"
  | _ => "cutto"
noncomputable def numRow : Nat → String
  | 0 => "get_level"
  | 1 => "mark"
  | _ => "cut_to"
noncomputable def Gl.enc : Gl → MV
  | .call x y => .tup [.str (Str.ofString "call"), .int 25, .tup [x.enc, y.enc]]
  | .blt x y => .tup [.str (Str.ofString "builtin"), .int 13, .tup [x.enc, y.enc]]
  | .cut => .tup [.str (Str.ofString "cut")]
  | .num n k => .tup [.str (Str.ofString (numName n)), .int k]
noncomputable def Gl.V : Gl → Int → Prop
  | .call x y, k => k ∈ x.vars ∨ k ∈ y.vars
  | .blt x y, k => k ∈ x.vars ∨ k ∈ y.vars
  | .cut, _ => False
  | .num _ j, k => k = j
inductive Gl.Ok (E : Em) : Gl → Prop
  | call {x y : Tm} (hx : x.nodes ≤ 7) (hy : y.nodes ≤ 7) (h : ∀ k, k ∈ x.vars ∨ k ∈ y.vars → k ∈ E.ks) : Ok E (.call x y)
  | blt {x y : Tm} (hx : x.nodes ≤ 7) (hy : y.nodes ≤ 7) (h : ∀ k, k ∈ x.vars ∨ k ∈ y.vars → k ∈ E.ks) : Ok E (.blt x y)
  | cut : Ok E .cut
  | num {n : Nat} {k : Int} (hn : n < 3) (h : k ∈ E.ks) : Ok E (.num n k)
inductive ML (E : Em) (V : Int → Prop) (H : MH) (rows : List MV) (nt : Int) (l : List Tm) (lv : Int) (done : List Tm) : St → Prop
  | mk {H1 : MH} {nt' : Int} {x4 x5 : Option MV} (p : Prog E V (fun k => ∃ t ∈ done, k ∈ t.vars) (EW E) H rows nt (42 * done.length) H1 nt') :
    ML E V H rows nt l lv done ⟨[some (.inst 5 E.s), some (.tup (l.map Tm.enc)), some (.int lv), some (.int done.length), x4, x5], H1⟩
noncomputable def p3300_5 (X : Ctx) (d : Nat) (fa : Nat → Addr) : WS := wSeq (wExpr (wMeth X d (mtab fa) (wLoc 0) (Str.ofString "load_variable") (wCons (wIdx (wLoc 4) (wConst (.int 1))) (wCons (wLoc 5) (wCons (wLoc 2) wNil))))) wEnd
noncomputable def p3300_7 (X : Ctx) (d : Nat) (fa : Nat → Addr) : WS := wSeq (wExpr (wMeth X d (mtab fa) (wLoc 0) (Str.ofString "build") (wCons (wLoc 4) (wCons (wLoc 5) wNil)))) wEnd
noncomputable def p3300_8 (X : Ctx) (d : Nat) (fa : Nat → Addr) : WS := wSeq (wExpr (wMeth X d (mtab fa) (wLoc 0) (Str.ofString "emit") (wCons (wTup (wCons (wConst (.str (Str.ofString "put_constant"))) (wCons (wCall X d (.ref (fa 18)) (wCons (wLoc 4) wNil)) (wCons (wLoc 5) wNil)))) wNil))) wEnd
noncomputable def p3300_6 (X : Ctx) (d : Nat) (fa : Nat → Addr) : WS := wSeq (wIf (wTCmp .Eq (wIdx (wLoc 4) (wConst (.int 0))) (wConst (.str (Str.ofString "s")))) (p3300_7 X d fa) (p3300_8 X d fa)) wEnd
noncomputable def p3300_4 (X : Ctx) (d : Nat) (fa : Nat → Addr) : WS := wSeq (wIf (wTCmp .Eq (wIdx (wLoc 4) (wConst (.int 0))) (wConst (.str (Str.ofString "v")))) (p3300_5 X d fa) (p3300_6 X d fa)) wEnd
noncomputable def p3300_3 (X : Ctx) (d : Nat) (fa : Nat → Addr) : WS := wSeq (wAsg (wTup (wCons (wConst (.str (Str.ofString "a"))) (wCons (wLoc 3) wNil))) (wStore 5)) (p3300_4 X d fa)
noncomputable def p3300_2 (X : Ctx) (d : Nat) (fa : Nat → Addr) : WS := wSeq (wAugName 3 .Add (wConst (.int 1))) (p3300_3 X d fa)
noncomputable def p3300_1 (X : Ctx) (d : Nat) (fa : Nat → Addr) : WS := wSeq (wFor (wSrc (wLoc 1)) (wStore 4) (p3300_2 X d fa)) wEnd
noncomputable def p3300 (X : Ctx) (d : Nat) (fa : Nat → Addr) : WS := wSeq (wAsg (wConst (.int 0)) (wStore 3)) (p3300_1 X d fa)
theorem d3300 (ok : X.Ok) (cl : X.Cls) (pf : PF X fa tk) {q : Str} {dc pm co : Value} {L : Addr} : SS X d (fiOf (mkFd (fnOf 3300) q dc pm co) (nms 37) (fa 3300) L) (fnB (fnOf 3300)) (p3300 X d fa) :=
  have s0 : Slot (fiOf (mkFd (fnOf 3300) q dc pm co) (nms 37) (fa 3300) L) 0 (Str.ofString "self") := .loc (by rfl) (by kernel_rfl) (by decide)
  have s1 : Slot (fiOf (mkFd (fnOf 3300) q dc pm co) (nms 37) (fa 3300) L) 1 (Str.ofString "args") := .loc (by rfl) (by kernel_rfl) (by decide)
  have s2 : Slot (fiOf (mkFd (fnOf 3300) q dc pm co) (nms 37) (fa 3300) L) 2 (Str.ofString "leaving") := .loc (by rfl) (by kernel_rfl) (by decide)
  have s3 : Slot (fiOf (mkFd (fnOf 3300) q dc pm co) (nms 37) (fa 3300) L) 3 (Str.ofString "number") := .loc (by rfl) (by kernel_rfl) (by decide)
  have s4 : Slot (fiOf (mkFd (fnOf 3300) q dc pm co) (nms 37) (fa 3300) L) 4 (Str.ofString "arg") := .loc (by rfl) (by kernel_rfl) (by decide)
  have s5 : Slot (fiOf (mkFd (fnOf 3300) q dc pm co) (nms 37) (fa 3300) L) 5 (Str.ofString "target") := .loc (by rfl) (by kernel_rfl) (by decide)
  have g_constant_cell : GlobV X (fiOf (mkFd (fnOf 3300) q dc pm co) (nms 37) (fa 3300) L) (Str.ofString "constant_cell") (.ref (fa 18)) := ⟨by kernel_rfl, pf.g 23 _ _ rfl, by decide⟩
  (SS.cons (SX.asgName SE.int s3) (SS.cons (SX.for (SI.val ok (SE.loc s1)) (SAs.name s4) (SS.cons (SX.augName s3 SE.int) (SS.cons (SX.asgName (SE.tup (SEs.cons SE.str (SEs.cons (SE.loc s3) SEs.nil))) s5) (SS.cons (SX.if (ST.cmp ok (SE.idx (SE.loc s4) SE.int) SE.str) (SS.cons (SX.expr (SE.meth ok pf.mt (SE.loc s0) (SEs.cons (SE.idx (SE.loc s4) SE.int) (SEs.cons (SE.loc s5) (SEs.cons (SE.loc s2) SEs.nil))))) SS.nil) (SS.cons (SX.if (ST.cmp ok (SE.idx (SE.loc s4) SE.int) SE.str) (SS.cons (SX.expr (SE.meth ok pf.mt (SE.loc s0) (SEs.cons (SE.loc s4) (SEs.cons (SE.loc s5) SEs.nil)))) SS.nil) (SS.cons (SX.expr (SE.meth ok pf.mt (SE.loc s0) (SEs.cons (SE.tup (SEs.cons SE.str (SEs.cons (SE.callF ok g_constant_cell (pf.kf 23 _ _ rfl) (SEs.cons (SE.loc s4) SEs.nil)) (SEs.cons (SE.loc s5) SEs.nil)))) SEs.nil))) SS.nil)) SS.nil)) SS.nil)))) SS.nil))
theorem c3300 (ok : X.Ok) (cl : X.Cls) (pf : PF X fa tk) {E : Em} {V : Int → Prop} {H : MH} {rows : List MV} {nt lv : Int} {l : List Tm} {Q : MV → MH → Prop} (e : Emit E H rows nt) (hl : l.length ≤ 2) (hks : ∀ t ∈ l, t.nodes ≤ 7 ∧ ∀ k ∈ t.vars, k ∈ E.ks ∧ V k) (hz : rows.length + 200 ≤ 50000)
    (K : Gives E V (fun k => ∃ t ∈ l, k ∈ t.vars) (EW E) H rows nt 84 (Q .none)) : CallsTo X (d + 5) (.ref (fa 3300)) [.inst 5 E.s, .tup (l.map Tm.enc), .int lv] Q H := by
  obtain ⟨q, dc, pm, co, ff⟩ := pf.fn 37 _ _ _ rfl; refine callsTo_def ok ff (fun L => d3300 ok cl pf) rfl 3 ?_
  walk_at "s"
  walk_at "s"
  refine ⟨_, .tup, .inv Tm.enc (fun done rest σ => l = done ++ rest ∧ ML E V H rows nt l lv done σ) ⟨rfl, .mk ((Prog.start e).weak (fun _ ⟨_, h, _⟩ _ => nomatch h) (Nat.zero_le _))⟩ ?_ ?_ rfl⟩
  · rintro done x rest σ G ⟨hd, ⟨p⟩⟩ hG
    rename_i H1 nt' x4 x5
    refine ⟨trivial, ?_⟩
    have lin : done.length + 1 ≤ 2 := by
      have := congrArg List.length hd
      rw [List.length_append, List.length_cons] at this; (first | lia | omega)
    obtain ⟨nx, hx⟩ := hks x (by rw [hd]; exact List.mem_append_right _ (.head _))
    obtain ⟨r1, e1, hr1, nn⟩ := p.at
    walk_at "s"
    refine ⟨_, .add, ?_⟩
    walk_at "s"
    have fin : ∀ H2 nt2, Prog E V (fun k => (∃ t ∈ done, k ∈ t.vars) ∨ k ∈ x.vars) (EW E) H rows nt (42 * done.length + 42) H2 nt2 → G .next ⟨[some (.inst 5 E.s), some (.tup (l.map Tm.enc)), some (.int lv), some (.int (done.length + 1)), some x.enc, some (.tup [.str (Str.ofString "a"), .int (done.length + 1)])], H2⟩ := by
      intro H2 nt2 p2
      have q : ML E V H rows nt l lv (done ++ [x]) ⟨[some (.inst 5 E.s), some (.tup (l.map Tm.enc)), some (.int lv), some (.int ((done ++ [x]).length : Nat)), some x.enc, some (.tup [.str (Str.ofString "a"), .int (done.length + 1)])], H2⟩ :=
        .mk (p2.weak (fun k ⟨t, ht, hk⟩ _ => (List.mem_append.mp ht).imp (fun ht => ⟨t, ht, hk⟩) fun ht => by cases List.mem_singleton.mp ht; exact hk) (by rw [List.length_append]; exact Nat.le_refl _))
      rw [List.length_append] at q
      exact hG.next _ ⟨by rw [hd, List.append_assoc]; rfl, q⟩
    walk_at "s"
    cases hS : x.isS with
    | true =>
      have hen := Tm.enc_s hS
      refine ⟨_, ixE0 hen, _, .eq .str, .no (by kernel_rfl!) ?_⟩
      walk_at "s"
      refine ⟨_, ixE0 hen, _, .eq .str, .yes (by kernel_rfl!) ?_⟩
      walk_at "s"
      exact ⟨_, .mk mt5_build e1.self, p.then (fun _ z => z) (fun r e hr K' => c3100 ok cl pf e hS (.inl ⟨_, rfl⟩) hx (by (first | lia | omega)) (.prog fun _ _ p => K'.of p)) (by (first | lia | omega)) fun H3 nt3 p3 _ _ => fin H3 nt3 p3⟩
    | false =>
      rcases Tm.leaf hS with ⟨k, hxk⟩ | ⟨s, z, hen, s1, s2, hv, hc⟩
      · have hk := hx k (by rw [hxk]; exact .head _)
        have hen := congrArg Tm.enc hxk
        refine ⟨_, ixE0 hen, _, .eq .str, .yes (by kernel_rfl!) ?_⟩
        walk_at "s"
        exact ⟨_, .mk mt5_load_variable e1.self, _, ixE1 hen, p.then (fun _ z => z) (fun r e hr K' => c3301 ok cl pf e hk.1 hk.2 (.inl ⟨_, rfl⟩) (by (first | lia | omega)) K') (by (first | lia | omega)) fun H3 nt3 p3 _ _ => fin H3 nt3 (p3.weak (fun j hj _ => hj.imp id fun h => by rw [hxk] at h; exact List.mem_singleton.mp h) (Nat.le_refl _))⟩
      · refine ⟨_, ixE0 hen, _, .eq .str, .no s1 ?_⟩
        walk_at "s"
        refine ⟨_, ixE0 hen, _, .eq .str, .no s2 ?_⟩
        walk_at "s"
        refine ⟨_, .mk mt5_emit e1.self, c18 ok cl pf hc fun c y => p.emit ok cl pf (fun _ z => z) (by (first | lia | omega)) (by decide) (leB rfl) (fun q hq => ?_) fun H3 p3 _ => fin H3 nt' (p3.weak (fun j hj _ => hj.elim id fun h => by rw [hv] at h; cases h) (by (first | lia | omega)))⟩
        exact (List.mem_cons.mp hq).elim (fun z => .inr (.inl ⟨_, _, z⟩)) fun hq => by cases List.mem_singleton.mp hq; exact .inr (.inr (.inl (.inl ⟨_, rfl⟩)))
  · rintro done σ ⟨hd, ⟨p⟩⟩
    rw [List.append_nil] at hd; subst hd
    exact ⟨trivial, K.of (p.weak (fun _ h _ => h) (by (first | lia | omega)))⟩
theorem get_map {α : Type} {f : α → MV} {l : List α} {i : Nat} {x : α} (h : l[i]? = some x) : (l.map f)[i]? = some (f x) := by rw [List.getElem?_map, h]; rfl
noncomputable def p3303_3 (X : Ctx) (d : Nat) (fa : Nat → Addr) : WS := wSeq (wExpr (wMeth X d (mtab fa) (wLoc 0) (Str.ofString "load_arguments") (wCons (wIdx (wLoc 2) (wConst (.int 2))) (wCons (wLoc 1) wNil)))) wEnd
noncomputable def p3303_6 (X : Ctx) (d : Nat) (fa : Nat → Addr) : WS := wSeq (wExpr (wMeth X d (mtab fa) (wLoc 0) (Str.ofString "emit") (wCons (wTup (wCons (wConst (.str (Str.ofString "builtin"))) (wCons (wIdx (wLoc 2) (wConst (.int 1))) wNil))) wNil))) wEnd
noncomputable def p3303_5 (X : Ctx) (d : Nat) (fa : Nat → Addr) : WS := wSeq (wExpr (wMeth X d (mtab fa) (wLoc 0) (Str.ofString "load_arguments") (wCons (wIdx (wLoc 2) (wConst (.int 2))) (wCons (wNeg (wConst (.int 1))) wNil)))) (p3303_6 X d fa)
noncomputable def p3303_8 (X : Ctx) (d : Nat) (fa : Nat → Addr) : WS := wSeq (wExpr (wMeth X d (mtab fa) (wLoc 0) (Str.ofString "unify_goal") (wCons (wIdx (wLoc 2) (wConst (.int 1))) (wCons (wIdx (wLoc 2) (wConst (.int 2))) wNil)))) wEnd
noncomputable def p3303_10 (X : Ctx) (d : Nat) (fa : Nat → Addr) : WS := wSeq (wExpr (wMeth X d (mtab fa) (wLoc 0) (Str.ofString "emit") (wCons (wTup (wCons (wConst (.str (Str.ofString "neck_cut"))) wNil)) wNil))) wEnd
noncomputable def p3303_12 (X : Ctx) (d : Nat) (fa : Nat → Addr) : WS := wSeq (wExpr (wMeth X d (mtab fa) (wLoc 0) (Str.ofString "number_goal") (wCons (wConst (.str (Str.ofString "get_level"))) (wCons (wIdx (wLoc 2) (wConst (.int 1))) wNil)))) wEnd
noncomputable def p3303_14 (X : Ctx) (d : Nat) (fa : Nat → Addr) : WS := wSeq (wExpr (wMeth X d (mtab fa) (wLoc 0) (Str.ofString "number_goal") (wCons (wConst (.str (Str.ofString "mark"))) (wCons (wIdx (wLoc 2) (wConst (.int 1))) wNil)))) wEnd
noncomputable def p3303_16 (X : Ctx) (d : Nat) (fa : Nat → Addr) : WS := wSeq (wExpr (wMeth X d (mtab fa) (wLoc 0) (Str.ofString "number_goal") (wCons (wConst (.str (Str.ofString "cut_to"))) (wCons (wIdx (wLoc 2) (wConst (.int 1))) wNil)))) wEnd
noncomputable def p3303_17 (X : Ctx) (d : Nat) (fa : Nat → Addr) : WS := wSeq (wExpr (wMeth X d (mtab fa) (wLoc 0) (Str.ofString "emit") (wCons (wTup (wCons (wConst (.str (Str.ofString "fail"))) wNil)) wNil))) wEnd
noncomputable def p3303_15 (X : Ctx) (d : Nat) (fa : Nat → Addr) : WS := wSeq (wIf (wTCmp .Eq (wLoc 3) (wConst (.str (Str.ofString "cutto")))) (p3303_16 X d fa) (p3303_17 X d fa)) wEnd
noncomputable def p3303_13 (X : Ctx) (d : Nat) (fa : Nat → Addr) : WS := wSeq (wIf (wTCmp .Eq (wLoc 3) (wConst (.str (Str.ofString "mark")))) (p3303_14 X d fa) (p3303_15 X d fa)) wEnd
noncomputable def p3303_11 (X : Ctx) (d : Nat) (fa : Nat → Addr) : WS := wSeq (wIf (wTCmp .Eq (wLoc 3) (wConst (.str (Str.ofString "level")))) (p3303_12 X d fa) (p3303_13 X d fa)) wEnd
noncomputable def p3303_9 (X : Ctx) (d : Nat) (fa : Nat → Addr) : WS := wSeq (wIf (wTCmp .Eq (wLoc 3) (wConst (.str (Str.ofString "cut")))) (p3303_10 X d fa) (p3303_11 X d fa)) wEnd
noncomputable def p3303_7 (X : Ctx) (d : Nat) (fa : Nat → Addr) : WS := wSeq (wIf (wTCmp .Eq (wLoc 3) (wConst (.str (Str.ofString "unify")))) (p3303_8 X d fa) (p3303_9 X d fa)) wEnd
noncomputable def p3303_4 (X : Ctx) (d : Nat) (fa : Nat → Addr) : WS := wSeq (wIf (wTCmp .Eq (wLoc 3) (wConst (.str (Str.ofString "builtin")))) (p3303_5 X d fa) (p3303_7 X d fa)) wEnd
noncomputable def p3303_2 (X : Ctx) (d : Nat) (fa : Nat → Addr) : WS := wSeq (wIf (wTCmp .Eq (wLoc 3) (wConst (.str (Str.ofString "call")))) (p3303_3 X d fa) (p3303_4 X d fa)) wEnd
noncomputable def p3303_1 (X : Ctx) (d : Nat) (fa : Nat → Addr) : WS := wSeq (wAsg (wIdx (wLoc 2) (wConst (.int 0))) (wStore 3)) (p3303_2 X d fa)
noncomputable def p3303 (X : Ctx) (d : Nat) (fa : Nat → Addr) : WS := wSeq (wAsg (wIdx (wAttr X (Str.ofString "goals") (wAttr X (Str.ofString "kernel") (wLoc 0))) (wLoc 1)) (wStore 2)) (p3303_1 X d fa)
theorem d3303 (ok : X.Ok) (cl : X.Cls) (pf : PF X fa tk) {q : Str} {dc pm co : Value} {L : Addr} : SS X d (fiOf (mkFd (fnOf 3303) q dc pm co) (nms 40) (fa 3303) L) (fnB (fnOf 3303)) (p3303 X d fa) :=
  have s0 : Slot (fiOf (mkFd (fnOf 3303) q dc pm co) (nms 40) (fa 3303) L) 0 (Str.ofString "self") := .loc (by rfl) (by kernel_rfl) (by decide)
  have s1 : Slot (fiOf (mkFd (fnOf 3303) q dc pm co) (nms 40) (fa 3303) L) 1 (Str.ofString "index") := .loc (by rfl) (by kernel_rfl) (by decide)
  have s2 : Slot (fiOf (mkFd (fnOf 3303) q dc pm co) (nms 40) (fa 3303) L) 2 (Str.ofString "goal") := .loc (by rfl) (by kernel_rfl) (by decide)
  have s3 : Slot (fiOf (mkFd (fnOf 3303) q dc pm co) (nms 40) (fa 3303) L) 3 (Str.ofString "kind") := .loc (by rfl) (by kernel_rfl) (by decide)
  (SS.cons (SX.asgName (SE.idx (SE.attr ok cl (SE.attr ok cl (SE.loc s0))) (SE.loc s1)) s2) (SS.cons (SX.asgName (SE.idx (SE.loc s2) SE.int) s3) (SS.cons (SX.if (ST.cmp ok (SE.loc s3) SE.str) (SS.cons (SX.expr (SE.meth ok pf.mt (SE.loc s0) (SEs.cons (SE.idx (SE.loc s2) SE.int) (SEs.cons (SE.loc s1) SEs.nil)))) SS.nil) (SS.cons (SX.if (ST.cmp ok (SE.loc s3) SE.str) (SS.cons (SX.expr (SE.meth ok pf.mt (SE.loc s0) (SEs.cons (SE.idx (SE.loc s2) SE.int) (SEs.cons (SE.neg SE.int) SEs.nil)))) (SS.cons (SX.expr (SE.meth ok pf.mt (SE.loc s0) (SEs.cons (SE.tup (SEs.cons SE.str (SEs.cons (SE.idx (SE.loc s2) SE.int) SEs.nil))) SEs.nil))) SS.nil)) (SS.cons (SX.if (ST.cmp ok (SE.loc s3) SE.str) (SS.cons (SX.expr (SE.meth ok pf.mt (SE.loc s0) (SEs.cons (SE.idx (SE.loc s2) SE.int) (SEs.cons (SE.idx (SE.loc s2) SE.int) SEs.nil)))) SS.nil) (SS.cons (SX.if (ST.cmp ok (SE.loc s3) SE.str) (SS.cons (SX.expr (SE.meth ok pf.mt (SE.loc s0) (SEs.cons (SE.tup (SEs.cons SE.str SEs.nil)) SEs.nil))) SS.nil) (SS.cons (SX.if (ST.cmp ok (SE.loc s3) SE.str) (SS.cons (SX.expr (SE.meth ok pf.mt (SE.loc s0) (SEs.cons SE.str (SEs.cons (SE.idx (SE.loc s2) SE.int) SEs.nil)))) SS.nil) (SS.cons (SX.if (ST.cmp ok (SE.loc s3) SE.str) (SS.cons (SX.expr (SE.meth ok pf.mt (SE.loc s0) (SEs.cons SE.str (SEs.cons (SE.idx (SE.loc s2) SE.int) SEs.nil)))) SS.nil) (SS.cons (SX.if (ST.cmp ok (SE.loc s3) SE.str) (SS.cons (SX.expr (SE.meth ok pf.mt (SE.loc s0) (SEs.cons SE.str (SEs.cons (SE.idx (SE.loc s2) SE.int) SEs.nil)))) SS.nil) (SS.cons (SX.expr (SE.meth ok pf.mt (SE.loc s0) (SEs.cons (SE.tup (SEs.cons SE.str SEs.nil)) SEs.nil))) SS.nil)) SS.nil)) SS.nil)) SS.nil)) SS.nil)) SS.nil)) SS.nil)) SS.nil)))
theorem c3303 (ok : X.Ok) (cl : X.Cls) (pf : PF X fa tk) {E : Em} {H : MH} {rows : List MV} {nt : Int} {gs : List Gl} {ga : Addr} {f a c : Option MV} {i : Nat} {g : Gl} {Q : MV → MH → Prop} (e : Emit E H rows nt) (hk : H E.kA = some (.A 6 [f, a, some (.ref ga), c])) (hga : H ga = some (.L (gs.map Gl.enc)))
    (hg : gs[i]? = some g) (hok : g.Ok E) (hi : i ≤ 1000) (hz : rows.length + 300 ≤ 50000) (K : Gives E g.V g.V (EW E) H rows nt 100 (Q .none)) : CallsTo X (d + 6) (.ref (fa 3303)) [.inst 5 E.s, .int i] Q H := by
  obtain ⟨q, dc, pm, co, ff⟩ := pf.fn 40 _ _ _ rfl; refine callsTo_def ok ff (fun L => d3303 ok cl pf) rfl 2 ?_
  walk_at "s"
  refine ⟨_, .mk e.self (ai5_kernel pf) rfl, _, .mk hk (ai6_goals pf) rfl, _, .list hga (.nat (get_map hg) (by (first | lia | omega))), ?_⟩
  walk_at "s"
  cases hok with
  | @call x y hx hy h =>
    have hl : ∀ t ∈ [x, y], t.nodes ≤ 7 ∧ ∀ k ∈ t.vars, k ∈ E.ks ∧ (Gl.call x y).V k := fun t ht => by
      rcases List.mem_cons.mp ht with rfl | ht
      · exact ⟨hx, fun k hk => ⟨h k (.inl hk), .inl hk⟩⟩
      · cases List.mem_singleton.mp ht; exact ⟨hy, fun k hk => ⟨h k (.inr hk), .inr hk⟩⟩
    refine ⟨_, ix0, ?_⟩
    walk_at "s"
    refine ⟨_, .eq .str, .yes (by kernel_rfl!) ?_⟩
    walk_at "s"
    exact ⟨_, .mk mt5_load_arguments e.self, _, ix2, c3300 ok cl pf (l := [x, y]) e (leB rfl) hl (by (first | lia | omega)) (.prog fun _ _ p => K.of (p.weak (fun k hk _ => hk.elim (fun hk => ⟨x, .head _, hk⟩) fun hk => ⟨y, .tail _ (.head _), hk⟩) (leB rfl)))⟩
  | @blt x y hx hy h =>
    have hl : ∀ t ∈ [x, y], t.nodes ≤ 7 ∧ ∀ k ∈ t.vars, k ∈ E.ks ∧ (Gl.blt x y).V k := fun t ht => by
      rcases List.mem_cons.mp ht with rfl | ht
      · exact ⟨hx, fun k hk => ⟨h k (.inl hk), .inl hk⟩⟩
      · cases List.mem_singleton.mp ht; exact ⟨hy, fun k hk => ⟨h k (.inr hk), .inr hk⟩⟩
    refine ⟨_, ix0, ?_⟩
    walk_at "s"
    refine ⟨_, .eq .str, .no (by kernel_rfl!) ?_⟩
    walk_at "s"
    refine ⟨_, .eq .str, .yes (by kernel_rfl!) ?_⟩
    walk_at "s"
    refine ⟨_, .mk mt5_load_arguments e.self, _, ix2, _, .mk, c3300 ok cl pf (l := [x, y]) e (leB rfl) hl (by (first | lia | omega)) (.prog fun H1 nt1 p => ?_)⟩
    obtain ⟨r1, e1, _, _⟩ := p.at
    walk_at "s"
    exact ⟨_, .mk mt5_emit e1.self, _, ix1, p.emit ok cl pf (fun _ z => z) (by (first | lia | omega)) (by decide) (leB rfl) (fun q hq => .inl ⟨_, List.mem_singleton.mp hq⟩) fun H3 p3 _ => K.of (p3.weak (fun k hk _ => hk.elim (fun hk => ⟨x, .head _, hk⟩) fun hk => ⟨y, .tail _ (.head _), hk⟩) (leB rfl))⟩
  | cut =>
    refine ⟨_, ix0, ?_⟩
    walk_at "s"
    refine ⟨_, .eq .str, .no (by kernel_rfl!) ?_⟩
    walk_at "s"
    refine ⟨_, .eq .str, .no (by kernel_rfl!) ?_⟩
    walk_at "s"
    refine ⟨_, .eq .str, .no (by kernel_rfl!) ?_⟩
    walk_at "s"
    refine ⟨_, .eq .str, .yes (by kernel_rfl!) ?_⟩
    walk_at "s"
    exact ⟨_, .mk mt5_emit e.self, (Prog.start e).emit ok cl pf (fun _ z => z) (by (first | lia | omega)) (by decide) (leB rfl) nofun fun H3 p3 _ => K.of (p3.weak nofun (leB rfl))⟩
  | @num n k hn h =>
    have K' : Gives E (fun x => x = k) (fun x => x = k) (EW E) H rows nt 1 (Q .none) := .prog fun _ _ p => K.of (p.weak (fun _ h _ => h) (leB rfl))
    refine ⟨_, ix0, ?_⟩
    walk_at "s"
    refine ⟨_, .eq .str, .no (by rcases n with _ | _ | _ | n <;> kernel_rfl!) ?_⟩
    walk_at "s"
    refine ⟨_, .eq .str, .no (by rcases n with _ | _ | _ | n <;> kernel_rfl!) ?_⟩
    walk_at "s"
    refine ⟨_, .eq .str, .no (by rcases n with _ | _ | _ | n <;> kernel_rfl!) ?_⟩
    walk_at "s"
    refine ⟨_, .eq .str, .no (by rcases n with _ | _ | _ | n <;> kernel_rfl!) ?_⟩
    walk_at "s"
    rcases n with _ | _ | _ | n
    · refine ⟨_, .eq .str, .yes (by kernel_rfl!) ?_⟩
      walk_at "s"
      exact ⟨_, .mk mt5_number_goal e.self, _, ix1, c3302 ok cl pf (V := fun x => x = k) e h rfl (by decide) (by (first | lia | omega)) K'⟩
    · refine ⟨_, .eq .str, .no (by kernel_rfl!) ?_⟩
      walk_at "s"
      refine ⟨_, .eq .str, .yes (by kernel_rfl!) ?_⟩
      walk_at "s"
      exact ⟨_, .mk mt5_number_goal e.self, _, ix1, c3302 ok cl pf (V := fun x => x = k) e h rfl (by decide) (by (first | lia | omega)) K'⟩
    · refine ⟨_, .eq .str, .no (by kernel_rfl!) ?_⟩
      walk_at "s"
      refine ⟨_, .eq .str, .no (by kernel_rfl!) ?_⟩
      walk_at "s"
      refine ⟨_, .eq .str, .yes (by kernel_rfl!) ?_⟩
      walk_at "s"
      exact ⟨_, .mk mt5_number_goal e.self, _, ix1, c3302 ok cl pf (V := fun x => x = k) e h rfl (by decide) (by (first | lia | omega)) K'⟩
    · (first | lia | omega)
noncomputable def HV (hs : List Tm) (k : Int) : Prop := ∃ t ∈ hs, k ∈ t.vars
noncomputable def Gl.isC : Gl → Bool
  | .call _ _ => true
  | _ => false
noncomputable def callRow (gs : List Gl) (lv : List Int) (i : Nat) (g : Gl) : List MV := if g.isC = true ∧ i + 1 < gs.length then [.tup [.str (Str.ofString "call"), .int 25, .int (lv.getD i 0)]] else []
inductive GR (E : Em) (hs : List Tm) (gs : List Gl) (lv : List Int) : Nat → Int → List MV → Prop
  | zero {nt : Int} {rows : List MV} (h : RowsOk E (HV hs) 7 nt rows) (c : Cov E (HV hs) rows) : GR E hs gs lv 0 nt rows
  | step {i : Nat} {nt nt' : Int} {rows ns : List MV} {g : Gl} (r : GR E hs gs lv i nt rows) (hg : gs[i]? = some g) (h : RowsOk E g.V nt nt' ns) (c : Cov E g.V ns) : GR E hs gs lv (i + 1) nt' (rows ++ (ns ++ callRow gs lv i g))
structure Pre (E : Em) (hs : List Tm) (gs : List Gl) (lv : List Int) (nd : Bool) (n : Int) (ga la : Addr) (H : MH) : Prop where
  plan : ∃ x1, H E.pA = some (.A 8 [some (.ref E.inf), x1, some (.bool nd), some (.int n), some (.ref la)])
  lc : H la = some (.L (lv.map .int))
  ker : ∃ f c, H E.kA = some (.A 6 [f, some (.tup (hs.map Tm.enc)), some (.ref ga), c])
  gc : H ga = some (.L (gs.map Gl.enc))
  ne : ∀ b, b = E.pA ∨ b = la ∨ b = E.kA ∨ b = ga → ¬ EW E b
  hn : hs.length ≤ 3
  hok : ∀ t ∈ hs, t.nodes ≤ 7 ∧ ∀ k ∈ t.vars, k ∈ E.ks
  gn : gs.length ≤ 6
  gok : ∀ (i : Nat) (g : Gl), gs[i]? = some g → g.Ok E
  ln : lv.length = gs.length
theorem Pre.keep {E : Em} {hs : List Tm} {gs : List Gl} {lv : List Int} {nd : Bool} {n : Int} {ga la : Addr} {H H' : MH} (p : Pre E hs gs lv nd n ga la H) (k : Keep (EW E) H H') : Pre E hs gs lv nd n ga la H' :=
  let ⟨x, a⟩ := p.plan; let ⟨f, c, b⟩ := p.ker
  ⟨⟨x, k.at a (p.ne _ (.inl rfl))⟩, k.at p.lc (p.ne _ (.inr (.inl rfl))), ⟨f, c, k.at b (p.ne _ (.inr (.inr (.inl rfl))))⟩, k.at p.gc (p.ne _ (.inr (.inr (.inr rfl)))), p.ne, p.hn, p.hok, p.gn, p.gok, p.ln⟩
noncomputable def preOf (nd : Bool) (n : Int) : List MV := if nd then [.tup [.str (Str.ofString "allocate"), .int n]] else []
theorem Gl.head (g : Gl) : ∃ s r, g.enc = .tup (.str s :: r) ∧ (s == Str.ofString "call") = g.isC := by
  cases g with
  | num n k => refine ⟨_, _, rfl, ?_⟩; rcases n with _ | _ | n <;> kernel_rfl!
  | _ => exact ⟨_, _, rfl, by kernel_rfl!⟩
theorem Gl.c25 {g : Gl} (h : g.isC = true) : ∃ s r, g.enc = .tup (.str s :: .int 25 :: r) := by
  cases g with
  | call x y => exact ⟨_, _, rfl⟩
  | _ => cases h
structure At (E : Em) (hs : List Tm) (gs : List Gl) (lv : List Int) (nd : Bool) (n : Int) (ga la : Addr) (H0 : MH) (i : Nat) (H : MH) : Prop where
  ex : ∃ mid nt, Emit E H (preOf nd n ++ mid) nt ∧ GR E hs gs lv i nt mid ∧ mid.length ≤ 130 + 101 * i
  pr : Pre E hs gs lv nd n ga la H
  k : Keep (EW E) H0 H
structure Af (E : Em) (hs : List Tm) (gs : List Gl) (lv : List Int) (nd : Bool) (n : Int) (ga la : Addr) (H0 : MH) (i : Nat) (g : Gl) (H : MH) : Prop where
  ex : ∃ mid nt ns nt', Emit E H (preOf nd n ++ (mid ++ ns)) nt' ∧ GR E hs gs lv i nt mid ∧ RowsOk E g.V nt nt' ns ∧ Cov E g.V ns ∧ mid.length ≤ 130 + 101 * i ∧ ns.length ≤ 100
  pr : Pre E hs gs lv nd n ga la H
  k : Keep (EW E) H0 H
theorem pre_len (nd : Bool) (n : Int) : (preOf nd n).length ≤ 1 := by unfold preOf; cases nd <;> exact leB rfl
section
variable {E : Em} {hs : List Tm} {gs : List Gl} {lv : List Int} {nd : Bool} {n : Int} {ga la : Addr} {i : Nat} {g : Gl} {H0 H : MH} {Q : MV → MH → Prop}
theorem At.goal (ok : X.Ok) (cl : X.Cls) (pf : PF X fa tk) (a : At E hs gs lv nd n ga la H0 i H) (hg : gs[i]? = some g) (hi : i ≤ 6) (K : ∀ H', Af E hs gs lv nd n ga la H0 i g H' → Q .none H') : CallsTo X (d + 6) (.ref (fa 3303)) [.inst 5 E.s, .int i] Q H := by
  obtain ⟨⟨mid, nt, e, r, hl⟩, pr, k⟩ := a
  obtain ⟨f, c, hk⟩ := pr.ker
  have := pre_len nd n
  exact c3303 ok cl pf e hk pr.gc hg (pr.gok i g hg) (by (first | lia | omega)) (by rw [List.length_append]; (first | lia | omega)) ⟨fun ns nt' H' e' k' ro co hn => K H' ⟨⟨mid, nt, ns, nt', by rw [← List.append_assoc]; exact e', r, ro, co, hl, hn⟩, pr.keep k', k.trans k'⟩⟩
theorem Af.emit (a : Af E hs gs lv nd n ga la H0 i g H) : ∃ r nt, Emit E H r nt := let ⟨⟨_, _, _, _, e, _⟩, _, _⟩ := a; ⟨_, _, e⟩
theorem Af.call (ok : X.Ok) (cl : X.Cls) (pf : PF X fa tk) (a : Af E hs gs lv nd n ga la H0 i g H) (hg : gs[i]? = some g) (hi : i ≤ 6) (hc : g.isC = true) (hl : i + 1 < gs.length) (K : ∀ H', At E hs gs lv nd n ga la H0 (i + 1) H' → Q .none H') :
    CallsTo X (d + 1) (.ref (fa 2901)) [.inst 5 E.s, .tup [.str (Str.ofString "call"), .int 25, .int (lv.getD i 0)]] Q H := by
  obtain ⟨⟨mid, nt, ns, nt', e, r, ro, co, hm, hn⟩, pr, k⟩ := a
  have := pre_len nd n
  have gr := r.step hg ro co
  rw [callRow, if_pos ⟨hc, hl⟩, ← List.append_assoc] at gr
  refine c2901 ok cl pf e (K _ ⟨⟨_, nt', ?_, gr, ?_⟩, pr.keep kCode, k.trans kCode⟩)
  · rw [← List.append_assoc, ← List.append_assoc, List.append_assoc (preOf nd n)]; exact e.push1 (by rw [List.length_append, List.length_append]; (first | lia | omega))
  · rw [List.length_append, List.length_append, List.length_singleton]; (first | lia | omega)
theorem Af.done (a : Af E hs gs lv nd n ga la H0 i g H) (hg : gs[i]? = some g) (hc : ¬ (g.isC = true ∧ i + 1 < gs.length)) : At E hs gs lv nd n ga la H0 (i + 1) H := by
  obtain ⟨⟨mid, nt, ns, nt', e, r, ro, co, hm, hn⟩, pr, k⟩ := a
  have gr := r.step hg ro co
  rw [callRow, if_neg hc, List.append_nil] at gr
  exact ⟨⟨_, nt', e, gr, by rw [List.length_append]; (first | lia | omega)⟩, pr, k⟩
end
inductive MC (E : Em) (hs : List Tm) (H : MH) (rows : List MV) (ga : Addr) (done : List Tm) : St → Prop
  | mk {H1 : MH} {nt' : Int} {x4 : Option MV} (p : Prog E (HV hs) (HV done) (EW E) H rows 7 (42 * done.length) H1 nt') : MC E hs H rows ga done ⟨[some (.inst 5 E.s), some (.inst 8 E.pA), some (.ref ga), some (.int done.length), x4, none, none], H1⟩
inductive CW (E : Em) (hs : List Tm) (gs : List Gl) (lv : List Int) (nd : Bool) (n : Int) (ga la : Addr) (H0 : MH) : Nat → St → Prop
  | mk {i m : Nat} {H1 : MH} {x3 x4 : Option MV} (a : At E hs gs lv nd n ga la H0 i H1) (h : m = gs.length - i) (h' : i = 0 ∨ i + 1 ≤ gs.length) : CW E hs gs lv nd n ga la H0 m ⟨[some (.inst 5 E.s), some (.inst 8 E.pA), some (.ref ga), x3, x4, some (.int (gs.length - 1)), some (.int i)], H1⟩
noncomputable def postOf (nd : Bool) (gs : List Gl) : List MV := (if nd then [.tup [.str (Str.ofString "deallocate")]] else []) ++ [if (gs.getLast?.map Gl.isC) = some true then .tup [.str (Str.ofString "execute"), .int 25] else .tup [.str (Str.ofString "proceed")]]
noncomputable def p3304_3 (X : Ctx) (d : Nat) (fa : Nat → Addr) : WS := wSeq (wExpr (wMeth X d (mtab fa) (wLoc 0) (Str.ofString "emit") (wCons (wTup (wCons (wConst (.str (Str.ofString "allocate"))) (wCons (wAttr X (Str.ofString "env_size") (wLoc 1)) wNil))) wNil))) wEnd
noncomputable def p3304_7 (X : Ctx) (d : Nat) (fa : Nat → Addr) : WS := wSeq (wExpr (wMeth X d (mtab fa) (wLoc 0) (Str.ofString "head_argument") (wCons (wLoc 4) (wCons (wTup (wCons (wConst (.str (Str.ofString "a"))) (wCons (wLoc 3) wNil))) wNil)))) wEnd
noncomputable def p3304_6 (X : Ctx) (d : Nat) (fa : Nat → Addr) : WS := wSeq (wAugName 3 .Add (wConst (.int 1))) (p3304_7 X d fa)
noncomputable def p3304_13 (X : Ctx) (d : Nat) (fa : Nat → Addr) : WS := wSeq (wExpr (wMeth X d (mtab fa) (wLoc 0) (Str.ofString "emit") (wCons (wTup (wCons (wConst (.str (Str.ofString "call"))) (wCons (wIdx (wIdx (wLoc 2) (wLoc 6)) (wConst (.int 1))) (wCons (wIdx (wAttr X (Str.ofString "live_after") (wLoc 1)) (wLoc 6)) wNil)))) wNil))) wEnd
noncomputable def p3304_14 (X : Ctx) (d : Nat) (fa : Nat → Addr) : WS := wSeq (wAugName 6 .Add (wConst (.int 1))) wEnd
noncomputable def p3304_12 (X : Ctx) (d : Nat) (fa : Nat → Addr) : WS := wSeq (wIf (wTCmp .Eq (wIdx (wIdx (wLoc 2) (wLoc 6)) (wConst (.int 0))) (wConst (.str (Str.ofString "call")))) (p3304_13 X d fa) wEnd) (p3304_14 X d fa)
noncomputable def p3304_11 (X : Ctx) (d : Nat) (fa : Nat → Addr) : WS := wSeq (wExpr (wMeth X d (mtab fa) (wLoc 0) (Str.ofString "goal") (wCons (wLoc 6) wNil))) (p3304_12 X d fa)
noncomputable def p3304_16 (X : Ctx) (d : Nat) (fa : Nat → Addr) : WS := wSeq (wExpr (wMeth X d (mtab fa) (wLoc 0) (Str.ofString "goal") (wCons (wLoc 5) wNil))) wEnd
noncomputable def p3304_18 (X : Ctx) (d : Nat) (fa : Nat → Addr) : WS := wSeq (wExpr (wMeth X d (mtab fa) (wLoc 0) (Str.ofString "emit") (wCons (wTup (wCons (wConst (.str (Str.ofString "deallocate"))) wNil)) wNil))) wEnd
noncomputable def p3304_20 (X : Ctx) (d : Nat) (fa : Nat → Addr) : WS := wSeq (wExpr (wMeth X d (mtab fa) (wLoc 0) (Str.ofString "emit") (wCons (wTup (wCons (wConst (.str (Str.ofString "execute"))) (wCons (wIdx (wIdx (wLoc 2) (wLoc 5)) (wConst (.int 1))) wNil))) wNil))) wEnd
noncomputable def p3304_21 (X : Ctx) (d : Nat) (fa : Nat → Addr) : WS := wSeq (wExpr (wMeth X d (mtab fa) (wLoc 0) (Str.ofString "emit") (wCons (wTup (wCons (wConst (.str (Str.ofString "proceed"))) wNil)) wNil))) wEnd
noncomputable def p3304_22 (X : Ctx) (d : Nat) (fa : Nat → Addr) : WS := wSeq (wRet (wAttr X (Str.ofString "code") (wLoc 0))) wEnd
noncomputable def p3304_19 (X : Ctx) (d : Nat) (fa : Nat → Addr) : WS := wSeq (wIf (wTAnd (wTCmp .GtE (wLoc 5) (wConst (.int 0))) (wTAnd (wTCmp .Eq (wIdx (wIdx (wLoc 2) (wLoc 5)) (wConst (.int 0))) (wConst (.str (Str.ofString "call")))) (wB true))) (p3304_20 X d fa) (p3304_21 X d fa)) (p3304_22 X d fa)
noncomputable def p3304_17 (X : Ctx) (d : Nat) (fa : Nat → Addr) : WS := wSeq (wIf (wTVal (wAttr X (Str.ofString "needs_env") (wLoc 1))) (p3304_18 X d fa) wEnd) (p3304_19 X d fa)
noncomputable def p3304_15 (X : Ctx) (d : Nat) (fa : Nat → Addr) : WS := wSeq (wIf (wTCmp .GtE (wLoc 5) (wConst (.int 0))) (p3304_16 X d fa) wEnd) (p3304_17 X d fa)
noncomputable def p3304_10 (X : Ctx) (d : Nat) (fa : Nat → Addr) : WS := wSeq (wWhile (wTCmp .Lt (wLoc 6) (wLoc 5)) (p3304_11 X d fa)) (p3304_15 X d fa)
noncomputable def p3304_9 (X : Ctx) (d : Nat) (fa : Nat → Addr) : WS := wSeq (wAsg (wConst (.int 0)) (wStore 6)) (p3304_10 X d fa)
noncomputable def p3304_8 (X : Ctx) (d : Nat) (fa : Nat → Addr) : WS := wSeq (wAsg (wBin .Sub (wOB bLen (wCons (wLoc 2) wNil)) (wConst (.int 1))) (wStore 5)) (p3304_9 X d fa)
noncomputable def p3304_5 (X : Ctx) (d : Nat) (fa : Nat → Addr) : WS := wSeq (wFor (wSrc (wAttr X (Str.ofString "args") (wAttr X (Str.ofString "kernel") (wLoc 0)))) (wStore 4) (p3304_6 X d fa)) (p3304_8 X d fa)
noncomputable def p3304_4 (X : Ctx) (d : Nat) (fa : Nat → Addr) : WS := wSeq (wAsg (wConst (.int 0)) (wStore 3)) (p3304_5 X d fa)
noncomputable def p3304_2 (X : Ctx) (d : Nat) (fa : Nat → Addr) : WS := wSeq (wIf (wTVal (wAttr X (Str.ofString "needs_env") (wLoc 1))) (p3304_3 X d fa) wEnd) (p3304_4 X d fa)
noncomputable def p3304_1 (X : Ctx) (d : Nat) (fa : Nat → Addr) : WS := wSeq (wAsg (wAttr X (Str.ofString "goals") (wAttr X (Str.ofString "kernel") (wLoc 0))) (wStore 2)) (p3304_2 X d fa)
noncomputable def p3304 (X : Ctx) (d : Nat) (fa : Nat → Addr) : WS := wSeq (wAsg (wAttr X (Str.ofString "plan") (wLoc 0)) (wStore 1)) (p3304_1 X d fa)
theorem d3304 (ok : X.Ok) (cl : X.Cls) (pf : PF X fa tk) {q : Str} {dc pm co : Value} {L : Addr} : SS X d (fiOf (mkFd (fnOf 3304) q dc pm co) (nms 41) (fa 3304) L) (fnB (fnOf 3304)) (p3304 X d fa) :=
  have s0 : Slot (fiOf (mkFd (fnOf 3304) q dc pm co) (nms 41) (fa 3304) L) 0 (Str.ofString "self") := .loc (by rfl) (by kernel_rfl) (by decide)
  have s1 : Slot (fiOf (mkFd (fnOf 3304) q dc pm co) (nms 41) (fa 3304) L) 1 (Str.ofString "plan") := .loc (by rfl) (by kernel_rfl) (by decide)
  have s2 : Slot (fiOf (mkFd (fnOf 3304) q dc pm co) (nms 41) (fa 3304) L) 2 (Str.ofString "goals") := .loc (by rfl) (by kernel_rfl) (by decide)
  have s3 : Slot (fiOf (mkFd (fnOf 3304) q dc pm co) (nms 41) (fa 3304) L) 3 (Str.ofString "number") := .loc (by rfl) (by kernel_rfl) (by decide)
  have s4 : Slot (fiOf (mkFd (fnOf 3304) q dc pm co) (nms 41) (fa 3304) L) 4 (Str.ofString "arg") := .loc (by rfl) (by kernel_rfl) (by decide)
  have s5 : Slot (fiOf (mkFd (fnOf 3304) q dc pm co) (nms 41) (fa 3304) L) 5 (Str.ofString "last") := .loc (by rfl) (by kernel_rfl) (by decide)
  have s6 : Slot (fiOf (mkFd (fnOf 3304) q dc pm co) (nms 41) (fa 3304) L) 6 (Str.ofString "index") := .loc (by rfl) (by kernel_rfl) (by decide)
  have g_len : GlobV X (fiOf (mkFd (fnOf 3304) q dc pm co) (nms 41) (fa 3304) L) (Str.ofString "len") (.builtin "len") := ⟨by kernel_rfl, pf.g 30 _ _ rfl, by decide⟩
  (SS.cons (SX.asgName (SE.attr ok cl (SE.loc s0)) s1) (SS.cons (SX.asgName (SE.attr ok cl (SE.attr ok cl (SE.loc s0))) s2) (SS.cons (SX.if (ST.val (SE.attr ok cl (SE.loc s1))) (SS.cons (SX.expr (SE.meth ok pf.mt (SE.loc s0) (SEs.cons (SE.tup (SEs.cons SE.str (SEs.cons (SE.attr ok cl (SE.loc s1)) SEs.nil))) SEs.nil))) SS.nil) SS.nil) (SS.cons (SX.asgName SE.int s3) (SS.cons (SX.for (SI.val ok (SE.attr ok cl (SE.attr ok cl (SE.loc s0)))) (SAs.name s4) (SS.cons (SX.augName s3 SE.int) (SS.cons (SX.expr (SE.meth ok pf.mt (SE.loc s0) (SEs.cons (SE.loc s4) (SEs.cons (SE.tup (SEs.cons SE.str (SEs.cons (SE.loc s3) SEs.nil))) SEs.nil)))) SS.nil))) (SS.cons (SX.asgName (SE.bin (SE.callB ok g_len (SEs.cons (SE.loc s2) SEs.nil) okLen) SE.int) s5) (SS.cons (SX.asgName SE.int s6) (SS.cons (SX.while (ST.cmp ok (SE.loc s6) (SE.loc s5)) (SS.cons (SX.expr (SE.meth ok pf.mt (SE.loc s0) (SEs.cons (SE.loc s6) SEs.nil))) (SS.cons (SX.if (ST.cmp ok (SE.idx (SE.idx (SE.loc s2) (SE.loc s6)) SE.int) SE.str) (SS.cons (SX.expr (SE.meth ok pf.mt (SE.loc s0) (SEs.cons (SE.tup (SEs.cons SE.str (SEs.cons (SE.idx (SE.idx (SE.loc s2) (SE.loc s6)) SE.int) (SEs.cons (SE.idx (SE.attr ok cl (SE.loc s1)) (SE.loc s6)) SEs.nil)))) SEs.nil))) SS.nil) SS.nil) (SS.cons (SX.augName s6 SE.int) SS.nil)))) (SS.cons (SX.if (ST.cmp ok (SE.loc s5) SE.int) (SS.cons (SX.expr (SE.meth ok pf.mt (SE.loc s0) (SEs.cons (SE.loc s5) SEs.nil))) SS.nil) SS.nil) (SS.cons (SX.if (ST.val (SE.attr ok cl (SE.loc s1))) (SS.cons (SX.expr (SE.meth ok pf.mt (SE.loc s0) (SEs.cons (SE.tup (SEs.cons SE.str SEs.nil)) SEs.nil))) SS.nil) SS.nil) (SS.cons (SX.if (ST.bool (SA.and (ST.cmp ok (SE.loc s5) SE.int) (SA.and (ST.cmp ok (SE.idx (SE.idx (SE.loc s2) (SE.loc s5)) SE.int) SE.str) SA.nil_and))) (SS.cons (SX.expr (SE.meth ok pf.mt (SE.loc s0) (SEs.cons (SE.tup (SEs.cons SE.str (SEs.cons (SE.idx (SE.idx (SE.loc s2) (SE.loc s5)) SE.int) SEs.nil))) SEs.nil))) SS.nil) (SS.cons (SX.expr (SE.meth ok pf.mt (SE.loc s0) (SEs.cons (SE.tup (SEs.cons SE.str SEs.nil)) SEs.nil))) SS.nil)) (SS.cons (SX.ret (SE.attr ok cl (SE.loc s0))) SS.nil))))))))))))
theorem c3304 (ok : X.Ok) (cl : X.Cls) (pf : PF X fa tk) {E : Em} {H : MH} {hs : List Tm} {gs : List Gl} {lv : List Int} {nd : Bool} {n : Int} {ga la : Addr} {Q : MV → MH → Prop} (e : Emit E H [] 7) (pr : Pre E hs gs lv nd n ga la H)
    (K : ∀ H' mid nt, GR E hs gs lv gs.length nt mid → H' E.code = some (.L (preOf nd n ++ mid ++ postOf nd gs)) → mid.length ≤ 1000 → Keep (EW E) H H' → Q (.ref E.code) H') : CallsTo X (d + 7) (.ref (fa 3304)) [.inst 5 E.s] Q H := by
  obtain ⟨x1, hp⟩ := pr.plan
  obtain ⟨f, c, hk⟩ := pr.ker
  have hn := pr.hn
  have gn := pr.gn
  obtain ⟨q, dc, pm, co, ff⟩ := pf.fn 41 _ _ _ rfl; refine callsTo_def ok ff (fun L => d3304 ok cl pf) rfl 6 ?_
  walk_at "s"
  refine ⟨_, .mk e.self (ai5_plan pf) rfl, ?_⟩
  walk_at "s"
  refine ⟨_, .mk e.self (ai5_kernel pf) rfl, _, .mk hk (ai6_goals pf) rfl, ?_⟩
  walk_at "s"
  refine ⟨_, .mk hp (ai8_needs_env pf) rfl, _, .bool, ?_⟩
  have main : ∀ H1, Emit E H1 (preOf nd n) 7 → Keep (EW E) H H1 → p3304_4 X (d + 6) fa (fun m σ => Q (retOf m) σ.H) ⟨[some (.inst 5 E.s), some (.inst 8 E.pA), some (.ref ga), none, none, none, none], H1⟩ := by
    intro H1 e1 k1
    have lp : (preOf nd n).length ≤ 1 := by unfold preOf; cases nd <;> exact leB rfl
    have pr1 := pr.keep k1
    obtain ⟨f1, c1, hk1⟩ := pr1.ker
    walk_at "s"
    walk_at "s"
    refine ⟨_, .mk e1.self (ai5_kernel pf) rfl, _, .mk hk1 (ai6_args pf) rfl, _, .tup, .inv Tm.enc (fun done rest σ => hs = done ++ rest ∧ MC E hs H1 (preOf nd n) ga done σ) ⟨rfl, .mk ((Prog.start e1).weak (fun _ ⟨_, h, _⟩ _ => nomatch h) (Nat.zero_le _))⟩ ?_ ?_ rfl⟩
    · rintro done x rest σ G ⟨hd, ⟨p⟩⟩ hG
      rename_i H2 nt' x4
      have xin : x ∈ hs := by rw [hd]; exact List.mem_append_right _ (.head _)
      have lin : done.length + 1 ≤ 3 := by
        have := congrArg List.length hd
        rw [List.length_append, List.length_cons] at this; (first | lia | omega)
      refine ⟨trivial, ?_⟩
      obtain ⟨r1, e2, hr1, nn⟩ := p.at
      walk_at "s"
      refine ⟨_, .add, ?_⟩
      walk_at "s"
      obtain ⟨nx, hx⟩ := pr.hok x xin
      refine ⟨_, .mk mt5_head_argument e2.self, p.then (fun _ z => z) (fun r e hr K' => c3000 ok cl pf e (.inl ⟨_, rfl⟩) (fun k hk => ⟨hx k hk, x, xin, hk⟩) (by (first | lia | omega)) K') (sz2 := 42 * (done.length + 1)) (by (first | lia | omega)) fun H3 nt3 p3 _ _ => ?_⟩
      have q : MC E hs H1 (preOf nd n) ga (done ++ [x]) ⟨[some (.inst 5 E.s), some (.inst 8 E.pA), some (.ref ga), some (.int ((done ++ [x]).length : Nat)), some x.enc, none, none], H3⟩ :=
        .mk (p3.weak (fun k ⟨t, ht, hk⟩ _ => (List.mem_append.mp ht).imp (fun ht => ⟨t, ht, hk⟩) fun ht => by cases List.mem_singleton.mp ht; exact hk) (by rw [List.length_append]; exact Nat.le_refl _))
      rw [List.length_append] at q
      exact hG.next _ ⟨by rw [hd, List.append_assoc]; rfl, q⟩
    · rintro done σ ⟨hd, ⟨p⟩⟩
      rename_i H2 nt' x4
      rw [List.append_nil] at hd; subst hd
      refine ⟨trivial, ?_⟩
      have pr2 := pr1.keep p.keep
      have k2 := k1.trans p.keep
      have a0 : At E hs gs lv nd n ga la H 0 H2 := let ⟨⟨ns, a, b, c, d⟩, _⟩ := p; ⟨⟨ns, nt', a, .zero b c, by (first | lia | omega)⟩, pr2, k2⟩
      clear p
      walk_at "s"
      refine .list pr2.gc (by rw [List.length_map]; (first | lia | omega)) ⟨_, .sub, ?_⟩
      rw [List.length_map]
      have last : ∀ H3 x3 x4 (i : Nat), At E hs gs lv nd n ga la H gs.length H3 → p3304_17 X (d + 6) fa (fun m σ => Q (retOf m) σ.H) ⟨[some (.inst 5 E.s), some (.inst 8 E.pA), some (.ref ga), x3, x4, some (.int (gs.length - 1)), some (.int i)], H3⟩ := by
        rintro H3 x3 x4 i ⟨⟨mid, nt, e3, gr, hm⟩, pr3, k3⟩
        obtain ⟨x1, hp3⟩ := pr3.plan
        have fin : ∀ H4, Emit E H4 (preOf nd n ++ mid ++ if nd then [.tup [.str (Str.ofString "deallocate")]] else []) nt → Keep (EW E) H3 H4 → p3304_19 X (d + 6) fa (fun m σ => Q (retOf m) σ.H) ⟨[some (.inst 5 E.s), some (.inst 8 E.pA), some (.ref ga), x3, x4, some (.int (gs.length - 1)), some (.int i)], H4⟩ := by
          intro H4 e4 k4
          have pr4 := pr3.keep k4
          have z4 : (preOf nd n ++ mid ++ if nd then [MV.tup [.str (Str.ofString "deallocate")]] else []).length + 1 ≤ 50000 := by
            have : (if nd then [MV.tup [.str (Str.ofString "deallocate")]] else []).length ≤ 1 := by cases nd <;> exact leB rfl
            rw [List.length_append, List.length_append]; (first | lia | omega)
          have ret : ∀ r, postOf nd gs = (if nd then [.tup [.str (Str.ofString "deallocate")]] else []) ++ [r] → p3304_22 X (d + 6) fa (fun m σ => Q (retOf m) σ.H) ⟨[some (.inst 5 E.s), some (.inst 8 E.pA), some (.ref ga), x3, x4, some (.int (gs.length - 1)), some (.int i)], H4.set E.code (.L ((preOf nd n ++ mid ++ if nd then [.tup [.str (Str.ofString "deallocate")]] else []) ++ [r]))⟩ := by
            intro r hr
            have e5 := e4.push1 z4 (r := r)
            walk_at "s"
            exact ⟨_, .mk e5.self (ai5_code pf) rfl, K _ mid nt gr (by rw [hr, ← List.append_assoc]; exact e5.code) (by (first | lia | omega)) ((k3.trans k4).trans kCode)⟩
          walk_at "s"
          refine ⟨_, .ge, .dec (fun hge => ?_) fun hlt => .f ?_⟩
          · obtain ⟨gi, g, rfl⟩ := last_of (show 0 < gs.length by (first | lia | omega))
            have e0 : (((gi ++ [g]).length : Nat) : Int) - 1 = (gi.length : Nat) := by rw [List.length_append, List.length_singleton]; (first | lia | omega)
            have hg : (gi ++ [g])[gi.length]? = some g := by rw [List.getElem?_append_right (Nat.le_refl _), Nat.sub_self]; rfl
            have la : (gi ++ [g]).getLast?.map Gl.isC = some g.isC := by rw [List.getLast?_append]; rfl
            have gl : gi.length < 2 ^ 62 := by rw [List.length_append] at gn; (first | lia | omega)
            obtain ⟨s, r, hen, hh⟩ := g.head
            rw [e0] at ret ⊢
            refine ⟨_, .list pr4.gc (.nat (get_map hg) gl), _, ixE0 hen, _, .eq .str, .any (fun b => .t ?_) fun b => .f ?_⟩
            · obtain ⟨s', r', hen'⟩ := Gl.c25 (hh.symm.trans b)
              walk_at "s"
              exact ⟨_, .mk mt5_emit e4.self, _, .list pr4.gc (.nat (get_map hg) gl), _, ixE1 hen', c2901 ok cl pf e4 (ret _ (by rw [postOf, la, hh.symm.trans b]; rfl))⟩
            · walk_at "s"
              exact ⟨_, .mk mt5_emit e4.self, c2901 ok cl pf e4 (ret _ (by rw [postOf, la, hh.symm.trans b]; rfl))⟩
          · walk_at "s"
            refine ⟨_, .mk mt5_emit e4.self, c2901 ok cl pf e4 (ret _ ?_)⟩
            cases gs with
            | nil => rfl
            | cons g r => exact absurd (show (0 : Int) ≤ ((r.length + 1 : Nat) : Int) - 1 by (first | lia | omega)) hlt
        walk_at "s"
        refine ⟨_, .mk hp3 (ai8_needs_env pf) rfl, _, .bool, ?_⟩
        cases nd with
        | true =>
          refine .t ?_
          walk_at "s"
          have := pre_len true n
          exact ⟨_, .mk mt5_emit e3.self, c2901 ok cl pf e3 (fin _ (e3.push1 (by rw [List.length_append]; (first | lia | omega))) kCode)⟩
        | false => exact .f (fin H3 (by rw [if_neg nofun, List.append_nil]; exact e3) (.refl ..))
      walk_at "s"
      walk_at "s"
      refine .inv (CW E hs gs lv nd n ga la H) (.mk a0 rfl (.inl rfl)) ?_
      rintro m σ G ⟨a, rfl, hi⟩ hG
      rename_i i H3 x3 x4
      walk_at "s"
      refine ⟨_, .lt, .dec (fun hlt => ?_) fun hge => ?_⟩
      · have il : i < gs.length := by (first | lia | omega)
        have hg : gs[i]? = some gs[i] := List.getElem?_eq_getElem il
        generalize gs[i] = g at hg
        obtain ⟨r, nt, e3⟩ : ∃ r nt, Emit E H3 r nt := let ⟨⟨_, _, e, _⟩, _, _⟩ := a; ⟨_, _, e⟩
        walk_at "s"
        refine ⟨_, .mk mt5_goal e3.self, a.goal ok cl pf hg (by (first | lia | omega)) fun H4 af => ?_⟩
        obtain ⟨s, r, hen, hh⟩ := g.head
        obtain ⟨r4, nt4, e4⟩ := af.emit
        have inc : ∀ H5, At E hs gs lv nd n ga la H (i + 1) H5 → p3304_14 X (d + 6) fa G ⟨[some (.inst 5 E.s), some (.inst 8 E.pA), some (.ref ga), x3, x4, some (.int (gs.length - 1)), some (.int i)], H5⟩ := by
          intro H5 a5
          walk_at "s"
          exact ⟨_, .add, hG.next _ ⟨_, by (first | lia | omega), .mk (i := i + 1) a5 rfl (.inr (by (first | lia | omega)))⟩⟩
        walk_at "s"
        refine ⟨_, .list af.pr.gc (.nat (get_map hg) (by (first | lia | omega))), _, ixE0 hen, _, .eq .str, .any (fun b => ?_) fun b => ?_⟩
        · obtain ⟨s', r', hen'⟩ := Gl.c25 (hh.symm.trans b)
          obtain ⟨x1, hp4⟩ := af.pr.plan
          have hv : lv[i]? = some (lv.getD i 0) := by rw [List.getD_eq_getElem?_getD, List.getElem?_eq_getElem (show i < lv.length by rw [af.pr.ln]; exact il)]; rfl
          walk_at "s"
          exact ⟨_, .mk mt5_emit e4.self, _, .list af.pr.gc (.nat (get_map hg) (by (first | lia | omega))), _, ixE1 hen', _, .mk hp4 (ai8_live_after pf) rfl, _, .list af.pr.lc (.nat (get_map hv) (by (first | lia | omega))), af.call ok cl pf hg (by (first | lia | omega)) (hh.symm.trans b) (by (first | lia | omega)) inc⟩
        · exact inc H4 (af.done hg fun z => by rw [← hh, b] at z; cases z.1)
      · walk_at "s"
        refine ⟨_, .ge, .dec (fun hge0 => ?_) fun hlt0 => ?_⟩
        · have il : i < gs.length := by (first | lia | omega)
          have hg : gs[i]? = some gs[i] := List.getElem?_eq_getElem il
          generalize gs[i] = g at hg
          obtain ⟨r, nt, e3⟩ : ∃ r nt, Emit E H3 r nt := let ⟨⟨_, _, e, _⟩, _, _⟩ := a; ⟨_, _, e⟩
          have i1 : i + 1 = gs.length := by (first | lia | omega)
          have e0 : (gs.length : Int) - 1 = (i : Nat) := by (first | lia | omega)
          walk_at "s"
          refine ⟨_, .mk mt5_goal e3.self, ?_⟩
          rw [e0]
          refine a.goal ok cl pf hg (by (first | lia | omega)) fun H4 af => ?_
          have := last H4 x3 x4 i (i1 ▸ af.done hg (by (first | lia | omega)))
          rw [e0] at this
          exact this
        · exact last H3 x3 x4 i ((show i = gs.length by (first | lia | omega)) ▸ a)
  cases nd with
  | true =>
    refine .t ?_
    walk_at "s"
    exact ⟨_, .mk mt5_emit e.self, _, .mk hp (ai8_env_size pf) rfl, c2901 ok cl pf e (main _ (e.push1 (by decide)) kCode)⟩
  | false => exact .f (main H e (.refl ..))
end
section
variable {X : Ctx} {fa : Nat → Addr} {tk : Nat → Tok} {d : Nat}
structure Pin (E : Em) (hs : List Tm) (gs : List Gl) (lv : List Int) (nd : Bool) (n : Int) (ga la : Addr) (H : MH) : Prop where
  plan : ∃ x1, H E.pA = some (.A 8 [some (.ref E.inf), x1, some (.bool nd), some (.int n), some (.ref la)])
  lc : H la = some (.L (lv.map .int))
  ker : ∃ f, H E.kA = some (.A 6 [f, some (.tup (hs.map Tm.enc)), some (.ref ga), some (.int 7)])
  gc : H ga = some (.L (gs.map Gl.enc))
  infos : ∃ kvs o, H E.inf = some (.D (.v kvs) o) ∧ ∀ k ∈ E.ks, dget kvs (.i k) = some (.inst 7 (E.ia k))
  ias : ∀ k ∈ E.ks, ∃ x0 x3 x6 x7 x8, H (E.ia k) = some (.A 7 [x0, some (.str (E.vi k).kind.str), some (.int (E.vi k).slot), x3, some (.bool (E.vi k).unsafe_), some (.int (E.vi k).last), x6, x7, x8])
  ks : ∀ k ∈ E.ks, 0 ≤ k ∧ k < 7
  hn : hs.length ≤ 3
  hok : ∀ t ∈ hs, t.nodes ≤ 7 ∧ ∀ k ∈ t.vars, k ∈ E.ks
  gn : gs.length ≤ 6
  gok : ∀ (i : Nat) (g : Gl), gs[i]? = some g → g.Ok E
  ln : lv.length = gs.length
theorem Gl.Ok.em {E : Em} {s c l l' : Addr} {g : Gl} (h : g.Ok E) : g.Ok ⟨s, E.kA, E.pA, c, l, l', E.inf, E.ia, E.ks, E.vi⟩ := by
  cases h with
  | call a b c => exact .call a b c
  | blt a b c => exact .blt a b c
  | cut => exact .cut
  | num a b => exact .num a b
theorem Em.place_eq (E : Em) (s c l l' : Addr) (k : Int) : Em.place ⟨s, E.kA, E.pA, c, l, l', E.inf, E.ia, E.ks, E.vi⟩ k = E.place k := rfl
noncomputable def p2900_5 (X : Ctx) (d : Nat) (fa : Nat → Addr) : WS := wSeq (wAsgAttr X (wAttr X (Str.ofString "count") (wLoc 1)) (wLoc 0) (Str.ofString "next_temporary")) wEnd
noncomputable def p2900_4 (X : Ctx) (d : Nat) (fa : Nat → Addr) : WS := wSeq (wAsgAttr X (wOB bSet wNil) (wLoc 0) (Str.ofString "local")) (p2900_5 X d fa)
noncomputable def p2900_3 (X : Ctx) (d : Nat) (fa : Nat → Addr) : WS := wSeq (wAsgAttr X (wOB bSet wNil) (wLoc 0) (Str.ofString "seen")) (p2900_4 X d fa)
noncomputable def p2900_2 (X : Ctx) (d : Nat) (fa : Nat → Addr) : WS := wSeq (wAsgAttr X (wList wNil) (wLoc 0) (Str.ofString "code")) (p2900_3 X d fa)
noncomputable def p2900_1 (X : Ctx) (d : Nat) (fa : Nat → Addr) : WS := wSeq (wAsgAttr X (wLoc 2) (wLoc 0) (Str.ofString "plan")) (p2900_2 X d fa)
noncomputable def p2900 (X : Ctx) (d : Nat) (fa : Nat → Addr) : WS := wSeq (wAsgAttr X (wLoc 1) (wLoc 0) (Str.ofString "kernel")) (p2900_1 X d fa)
theorem d2900 (ok : X.Ok) (cl : X.Cls) (pf : PF X fa tk) {q : Str} {dc pm co : Value} {L : Addr} : SS X d (fiOf (mkFd (fnOf 2900) q dc pm co) (nms 22) (fa 2900) L) (fnB (fnOf 2900)) (p2900 X d fa) :=
  have s0 : Slot (fiOf (mkFd (fnOf 2900) q dc pm co) (nms 22) (fa 2900) L) 0 (Str.ofString "self") := .loc (by rfl) (by kernel_rfl) (by decide)
  have s1 : Slot (fiOf (mkFd (fnOf 2900) q dc pm co) (nms 22) (fa 2900) L) 1 (Str.ofString "kernel") := .loc (by rfl) (by kernel_rfl) (by decide)
  have s2 : Slot (fiOf (mkFd (fnOf 2900) q dc pm co) (nms 22) (fa 2900) L) 2 (Str.ofString "plan") := .loc (by rfl) (by kernel_rfl) (by decide)
  have g_set : GlobV X (fiOf (mkFd (fnOf 2900) q dc pm co) (nms 22) (fa 2900) L) (Str.ofString "set") (.type "set") := ⟨by kernel_rfl, pf.g 35 _ _ rfl, by decide⟩
  (SS.cons (SX.asgAttr ok cl (SE.loc s1) (SE.loc s0)) (SS.cons (SX.asgAttr ok cl (SE.loc s2) (SE.loc s0)) (SS.cons (SX.asgAttr ok cl (SE.list SEs.nil) (SE.loc s0)) (SS.cons (SX.asgAttr ok cl (SE.callT ok g_set SEs.nil okSet) (SE.loc s0)) (SS.cons (SX.asgAttr ok cl (SE.callT ok g_set SEs.nil okSet) (SE.loc s0)) (SS.cons (SX.asgAttr ok cl (SE.attr ok cl (SE.loc s1)) (SE.loc s0)) SS.nil))))))
noncomputable def p24 (X : Ctx) (d : Nat) (fa : Nat → Addr) : WS := wSeq (wRet (wMeth X d (mtab fa) (wCall X d (.ref (X.cls 5)) (wCons (wLoc 1) (wCons (wLoc 2) wNil))) (Str.ofString "clause") wNil)) wEnd
theorem d24 (ok : X.Ok) (cl : X.Cls) (pf : PF X fa tk) {q : Str} {dc pm co : Value} {L : Addr} : SS X d (fiOf (mkFd (fnOf 24) q dc pm co) (nms 6) (fa 24) L) (fnB (fnOf 24)) (p24 X d fa) :=
  have s0 : Slot (fiOf (mkFd (fnOf 24) q dc pm co) (nms 6) (fa 24) L) 0 (Str.ofString "symbols") := .loc (by rfl) (by kernel_rfl) (by decide)
  have s1 : Slot (fiOf (mkFd (fnOf 24) q dc pm co) (nms 6) (fa 24) L) 1 (Str.ofString "kernel") := .loc (by rfl) (by kernel_rfl) (by decide)
  have s2 : Slot (fiOf (mkFd (fnOf 24) q dc pm co) (nms 6) (fa 24) L) 2 (Str.ofString "plan") := .loc (by rfl) (by kernel_rfl) (by decide)
  have g_CodeMaker : GlobV X (fiOf (mkFd (fnOf 24) q dc pm co) (nms 6) (fa 24) L) (Str.ofString "CodeMaker") (.ref (X.cls 5)) := ⟨by kernel_rfl, pf.g 2 _ _ rfl, by decide⟩
  (SS.cons (SX.ret (SE.meth ok pf.mt (SE.callF ok g_CodeMaker (pf.kc 2 _ _ rfl) (SEs.cons (SE.loc s1) (SEs.cons (SE.loc s2) SEs.nil))) SEs.nil)) SS.nil)
theorem c24 (ok : X.Ok) (cl : X.Cls) (pf : PF X fa tk) {E : Em} {H : MH} {hs : List Tm} {gs : List Gl} {lv : List Int} {nd : Bool} {n : Int} {ga la : Addr} {sy : MV} {Q : MV → MH → Prop} (pin : Pin E hs gs lv nd n ga la H)
    (K : ∀ H' (s c l l' : Addr) mid nt, GR ⟨s, E.kA, E.pA, c, l, l', E.inf, E.ia, E.ks, E.vi⟩ hs gs lv gs.length nt mid → H' c = some (.L (preOf nd n ++ mid ++ postOf nd gs)) → mid.length ≤ 1000 → Q (.ref c) H') : CallsTo X (d + 8) (.ref (fa 24)) [sy, .inst 6 E.kA, .inst 8 E.pA] Q H := by
  obtain ⟨x1, hp⟩ := pin.plan
  obtain ⟨f, hk⟩ := pin.ker
  obtain ⟨q, dc, pm, co, ff⟩ := pf.fn 6 _ _ _ rfl; refine callsTo_def ok ff (fun L => d24 ok cl pf) rfl 0 ?_
  walk_at "s"
  refine callsTo_new ok (pf.nw 1 5 2900 rfl) fun s ns => ?_
  rw [no5 pf]
  have sk : ∀ {b : Addr} {c : Cell}, H b = some c → b ≠ s := fun h => by rintro rfl; rw [ns] at h; cases h
  have h0 := H.set_self s (.A 5 [none, none, none, none, none, none])
  have k0 : Keep (fun b => b = s) H (H.set s (.A 5 [none, none, none, none, none, none])) := .set (.inr ns)
  generalize H.set s (.A 5 [none, none, none, none, none, none]) = H0 at h0 k0
  obtain ⟨q, dc, pm, co, ff⟩ := pf.fn 22 _ _ _ rfl; refine callsTo_def ok ff (fun L => d2900 ok cl pf) rfl 0 ?_
  have ks : ∀ {H : MH} {c : Cell}, Keep (fun b => b = s) H (H.set s c) := .set (.inl rfl)
  walk_at "s"
  refine ⟨_, _, .mk h0 (ai5_kernel pf) (ltB rfl), ?_⟩
  walk_at "s"
  refine ⟨_, _, .mk (MH.set_self ..) (ai5_plan pf) (ltB rfl), ?_⟩
  have h1 := (H0.set s (.A 5 ([none, none, none, none, none, none].set 0 (some (.inst 6 E.kA))))).set_self s (.A 5 [some (.inst 6 E.kA), some (.inst 8 E.pA), none, none, none, none])
  have k1 := (k0.trans (ks (c := .A 5 ([none, none, none, none, none, none].set 0 (some (.inst 6 E.kA)))))).trans (ks (c := .A 5 [some (.inst 6 E.kA), some (.inst 8 E.pA), none, none, none, none]))
  show p2900_2 X (d + 5) fa _ ⟨_, (H0.set s (.A 5 ([none, none, none, none, none, none].set 0 (some (.inst 6 E.kA))))).set s (.A 5 [some (.inst 6 E.kA), some (.inst 8 E.pA), none, none, none, none])⟩
  generalize (H0.set s (.A 5 ([none, none, none, none, none, none].set 0 (some (.inst 6 E.kA))))).set s (.A 5 [some (.inst 6 E.kA), some (.inst 8 E.pA), none, none, none, none]) = H1 at h1 k1
  walk_at "s"
  intro c nc
  have cs : s ≠ c := by rintro rfl; rw [h1] at nc; cases nc
  refine ⟨_, _, .mk (set_at h1 cs) (ai5_code pf) (ltB rfl), ?_⟩
  have h2 := (H1.set c (.L [])).set_self s (.A 5 [some (.inst 6 E.kA), some (.inst 8 E.pA), some (.ref c), none, none, none])
  have c2 := set_at (c' := .A 5 [some (.inst 6 E.kA), some (.inst 8 E.pA), some (.ref c), none, none, none]) (H1.set_self c (.L [])) cs.symm
  have k2 := (k1.trans (.set (.inr nc))).trans (ks (H := H1.set c (.L [])) (c := .A 5 [some (.inst 6 E.kA), some (.inst 8 E.pA), some (.ref c), none, none, none]))
  show p2900_3 X (d + 5) fa _ ⟨_, (H1.set c (.L [])).set s (.A 5 [some (.inst 6 E.kA), some (.inst 8 E.pA), some (.ref c), none, none, none])⟩
  generalize (H1.set c (.L [])).set s (.A 5 [some (.inst 6 E.kA), some (.inst 8 E.pA), some (.ref c), none, none, none]) = H2 at h2 c2 k2
  walk_at "s"
  refine .mk fun l nl => ?_
  have ls : s ≠ l := by rintro rfl; rw [h2] at nl; cases nl
  have lc : c ≠ l := by rintro rfl; rw [c2] at nl; cases nl
  refine ⟨_, _, .mk (set_at h2 ls) (ai5_seen pf) (ltB rfl), ?_⟩
  have h3 := (H2.set l (.S [])).set_self s (.A 5 [some (.inst 6 E.kA), some (.inst 8 E.pA), some (.ref c), some (.ref l), none, none])
  have c3 := set_at (c' := .A 5 [some (.inst 6 E.kA), some (.inst 8 E.pA), some (.ref c), some (.ref l), none, none]) (set_at (c' := .S []) c2 lc) cs.symm
  have l3 := set_at (c' := .A 5 [some (.inst 6 E.kA), some (.inst 8 E.pA), some (.ref c), some (.ref l), none, none]) (H2.set_self l (.S [])) ls.symm
  have k3 := (k2.trans (.set (.inr nl))).trans (ks (H := H2.set l (.S [])) (c := .A 5 [some (.inst 6 E.kA), some (.inst 8 E.pA), some (.ref c), some (.ref l), none, none]))
  show p2900_4 X (d + 5) fa _ ⟨_, (H2.set l (.S [])).set s (.A 5 [some (.inst 6 E.kA), some (.inst 8 E.pA), some (.ref c), some (.ref l), none, none])⟩
  generalize (H2.set l (.S [])).set s (.A 5 [some (.inst 6 E.kA), some (.inst 8 E.pA), some (.ref c), some (.ref l), none, none]) = H3 at h3 c3 l3 k3
  walk_at "s"
  refine .mk fun l' nl' => ?_
  have ls' : s ≠ l' := by rintro rfl; rw [h3] at nl'; cases nl'
  have lc' : c ≠ l' := by rintro rfl; rw [c3] at nl'; cases nl'
  have ll' : l ≠ l' := by rintro rfl; rw [l3] at nl'; cases nl'
  refine ⟨_, _, .mk (set_at h3 ls') (ai5_local pf) (ltB rfl), ?_⟩
  have h4 := (H3.set l' (.S [])).set_self s (.A 5 [some (.inst 6 E.kA), some (.inst 8 E.pA), some (.ref c), some (.ref l), some (.ref l'), none])
  have c4 := set_at (c' := .A 5 [some (.inst 6 E.kA), some (.inst 8 E.pA), some (.ref c), some (.ref l), some (.ref l'), none]) (set_at (c' := .S []) c3 lc') cs.symm
  have l4 := set_at (c' := .A 5 [some (.inst 6 E.kA), some (.inst 8 E.pA), some (.ref c), some (.ref l), some (.ref l'), none]) (set_at (c' := .S []) l3 ll') ls.symm
  have l4' := set_at (c' := .A 5 [some (.inst 6 E.kA), some (.inst 8 E.pA), some (.ref c), some (.ref l), some (.ref l'), none]) (H3.set_self l' (.S [])) ls'.symm
  have k4 := (k3.trans (.set (.inr nl'))).trans (ks (H := H3.set l' (.S [])) (c := .A 5 [some (.inst 6 E.kA), some (.inst 8 E.pA), some (.ref c), some (.ref l), some (.ref l'), none]))
  show p2900_5 X (d + 5) fa _ ⟨_, (H3.set l' (.S [])).set s (.A 5 [some (.inst 6 E.kA), some (.inst 8 E.pA), some (.ref c), some (.ref l), some (.ref l'), none])⟩
  generalize (H3.set l' (.S [])).set s (.A 5 [some (.inst 6 E.kA), some (.inst 8 E.pA), some (.ref c), some (.ref l), some (.ref l'), none]) = H4 at h4 c4 l4 l4' k4
  walk_at "s"
  refine ⟨_, .mk (k4.at hk (sk hk)) (ai6_count pf) rfl, _, _, .mk h4 (ai5_next_temporary pf) (ltB rfl), ?_⟩
  have h5 := H4.set_self s (.A 5 [some (.inst 6 E.kA), some (.inst 8 E.pA), some (.ref c), some (.ref l), some (.ref l'), some (.int 7)])
  have k5 := k4.trans (ks (H := H4) (c := .A 5 [some (.inst 6 E.kA), some (.inst 8 E.pA), some (.ref c), some (.ref l), some (.ref l'), some (.int 7)]))
  have at5 : ∀ {b : Addr} {x : Cell}, H b = some x → (H4.set s (.A 5 [some (.inst 6 E.kA), some (.inst 8 E.pA), some (.ref c), some (.ref l), some (.ref l'), some (.int 7)])) b = some x := fun h => k5.at h (sk h)
  have ne : ∀ {b : Addr} {x : Cell}, H b = some x → ¬ (b = s ∨ b = c ∨ b = l ∨ b = l') := fun h => by
    rintro (rfl | rfl | rfl | rfl)
    · exact sk h rfl
    · exact k1.dom _ (ne_of_some h) nc
    · exact k2.dom _ (ne_of_some h) nl
    · exact k3.dom _ (ne_of_some h) nl'
  obtain ⟨kvs, o, hi, hg⟩ := pin.infos
  refine ⟨rfl, _, .mk mt5_clause h5, ?_⟩
  refine c3304 (E := ⟨s, E.kA, E.pA, c, l, l', E.inf, E.ia, E.ks, E.vi⟩) ok cl pf ⟨h5, set_at c4 cs.symm, ⟨[], set_at l4 ls.symm, List.nodup_nil, nofun⟩, ⟨[], set_at l4' ls'.symm, List.nodup_nil, nofun⟩, ⟨_, _, _, _, at5 hp⟩, ⟨kvs, o, at5 hi, hg⟩, fun k hk => ?_, pin.ks, ll', leB rfl⟩
    ⟨⟨_, at5 hp⟩, at5 pin.lc, ⟨_, _, at5 hk⟩, at5 pin.gc, ?_, pin.hn, pin.hok, pin.gn, fun i g h => (pin.gok i g h).em, pin.ln⟩ fun H' mid nt gr hc hm _ => K H' s c l l' mid nt gr hc hm
  · obtain ⟨y0, y3, y6, y7, y8, hy⟩ := pin.ias k hk
    exact ⟨y0, y3, y6, y7, y8, at5 hy⟩
  · rintro b (rfl | rfl | rfl | rfl)
    · exact ne hp
    · exact ne pin.lc
    · exact ne hk
    · exact ne pin.gc
end
section
variable {X : Ctx} {fa : Nat → Addr} {tk : Nat → Tok} {d : Nat}
theorem MH.set_set (H : MH) (a : Addr) (c c' : Cell) : (H.set a c).set a c' = H.set a c' := funext fun b => by
  by_cases h : b = a
  · subst h; rw [set_self, set_self]
  · rw [set_ne _ _ h, set_ne _ _ h, set_ne _ _ h]
noncomputable def p3600_3 (X : Ctx) (d : Nat) (fa : Nat → Addr) : WS := wSeq (wAsgAttr X (wLoc 4) (wLoc 0) (Str.ofString "count")) wEnd
noncomputable def p3600_2 (X : Ctx) (d : Nat) (fa : Nat → Addr) : WS := wSeq (wAsgAttr X (wLoc 3) (wLoc 0) (Str.ofString "goals")) (p3600_3 X d fa)
noncomputable def p3600_1 (X : Ctx) (d : Nat) (fa : Nat → Addr) : WS := wSeq (wAsgAttr X (wLoc 2) (wLoc 0) (Str.ofString "args")) (p3600_2 X d fa)
noncomputable def p3600 (X : Ctx) (d : Nat) (fa : Nat → Addr) : WS := wSeq (wAsgAttr X (wLoc 1) (wLoc 0) (Str.ofString "functor")) (p3600_1 X d fa)
theorem d3600 (ok : X.Ok) (cl : X.Cls) (pf : PF X fa tk) {q : Str} {dc pm co : Value} {L : Addr} : SS X d (fiOf (mkFd (fnOf 3600) q dc pm co) (nms 42) (fa 3600) L) (fnB (fnOf 3600)) (p3600 X d fa) :=
  have s0 : Slot (fiOf (mkFd (fnOf 3600) q dc pm co) (nms 42) (fa 3600) L) 0 (Str.ofString "self") := .loc (by rfl) (by kernel_rfl) (by decide)
  have s1 : Slot (fiOf (mkFd (fnOf 3600) q dc pm co) (nms 42) (fa 3600) L) 1 (Str.ofString "functor") := .loc (by rfl) (by kernel_rfl) (by decide)
  have s2 : Slot (fiOf (mkFd (fnOf 3600) q dc pm co) (nms 42) (fa 3600) L) 2 (Str.ofString "args") := .loc (by rfl) (by kernel_rfl) (by decide)
  have s3 : Slot (fiOf (mkFd (fnOf 3600) q dc pm co) (nms 42) (fa 3600) L) 3 (Str.ofString "goals") := .loc (by rfl) (by kernel_rfl) (by decide)
  have s4 : Slot (fiOf (mkFd (fnOf 3600) q dc pm co) (nms 42) (fa 3600) L) 4 (Str.ofString "count") := .loc (by rfl) (by kernel_rfl) (by decide)
  (SS.cons (SX.asgAttr ok cl (SE.loc s1) (SE.loc s0)) (SS.cons (SX.asgAttr ok cl (SE.loc s2) (SE.loc s0)) (SS.cons (SX.asgAttr ok cl (SE.loc s3) (SE.loc s0)) (SS.cons (SX.asgAttr ok cl (SE.loc s4) (SE.loc s0)) SS.nil))))
theorem c3600 (ok : X.Ok) (cl : X.Cls) (pf : PF X fa tk) {H : MH} {v1 v2 v3 v4 : MV} {Q : MV → MH → Prop} (K : ∀ a, H a = none → Q (.inst 6 a) (H.set a (.A 6 [some v1, some v2, some v3, some v4]))) : CallsTo X (d + 2) (.ref (X.cls 6)) [v1, v2, v3, v4] Q H := by
  refine callsTo_new ok (pf.nw 2 6 3600 rfl) fun a na => ?_
  rw [no6 pf]
  obtain ⟨q, dc, pm, co, ff⟩ := pf.fn 42 _ _ _ rfl; refine callsTo_def ok ff (fun L => d3600 ok cl pf) rfl 0 ?_
  walk_at "s"
  refine ⟨_, _, .mk (MH.set_self ..) (ai6_functor pf) (ltB rfl), ?_⟩
  rw [MH.set_set]
  walk_at "s"
  refine ⟨_, _, .mk (MH.set_self ..) (ai6_args pf) (ltB rfl), ?_⟩
  rw [MH.set_set]
  walk_at "s"
  refine ⟨_, _, .mk (MH.set_self ..) (ai6_goals pf) (ltB rfl), ?_⟩
  rw [MH.set_set]
  walk_at "s"
  refine ⟨_, _, .mk (MH.set_self ..) (ai6_count pf) (ltB rfl), ?_⟩
  rw [MH.set_set]
  exact ⟨rfl, K a na⟩
noncomputable def p4000_8 (X : Ctx) (d : Nat) (fa : Nat → Addr) : WS := wSeq (wAsgAttr X (wConst (.int 0)) (wLoc 0) (Str.ofString "last_chunk")) wEnd
noncomputable def p4000_7 (X : Ctx) (d : Nat) (fa : Nat → Addr) : WS := wSeq (wAsgAttr X (wConst (.int 0)) (wLoc 0) (Str.ofString "first_chunk")) (p4000_8 X d fa)
noncomputable def p4000_6 (X : Ctx) (d : Nat) (fa : Nat → Addr) : WS := wSeq (wAsgAttr X (wConst (.int 0)) (wLoc 0) (Str.ofString "count")) (p4000_7 X d fa)
noncomputable def p4000_5 (X : Ctx) (d : Nat) (fa : Nat → Addr) : WS := wSeq (wAsgAttr X (wNeg (wConst (.int 1))) (wLoc 0) (Str.ofString "last_goal")) (p4000_6 X d fa)
noncomputable def p4000_4 (X : Ctx) (d : Nat) (fa : Nat → Addr) : WS := wSeq (wAsgAttr X (wConst (.bool false)) (wLoc 0) (Str.ofString "unsafe")) (p4000_5 X d fa)
noncomputable def p4000_3 (X : Ctx) (d : Nat) (fa : Nat → Addr) : WS := wSeq (wAsgAttr X (wLoc 2) (wLoc 0) (Str.ofString "first")) (p4000_4 X d fa)
noncomputable def p4000_2 (X : Ctx) (d : Nat) (fa : Nat → Addr) : WS := wSeq (wAsgAttr X (wConst (.int 0)) (wLoc 0) (Str.ofString "slot")) (p4000_3 X d fa)
noncomputable def p4000_1 (X : Ctx) (d : Nat) (fa : Nat → Addr) : WS := wSeq (wAsgAttr X (wConst (.str (Str.ofString "temp"))) (wLoc 0) (Str.ofString "kind")) (p4000_2 X d fa)
noncomputable def p4000 (X : Ctx) (d : Nat) (fa : Nat → Addr) : WS := wSeq (wAsgAttr X (wLoc 1) (wLoc 0) (Str.ofString "var")) (p4000_1 X d fa)
theorem d4000 (ok : X.Ok) (cl : X.Cls) (pf : PF X fa tk) {q : Str} {dc pm co : Value} {L : Addr} : SS X d (fiOf (mkFd (fnOf 4000) q dc pm co) (nms 43) (fa 4000) L) (fnB (fnOf 4000)) (p4000 X d fa) :=
  have s0 : Slot (fiOf (mkFd (fnOf 4000) q dc pm co) (nms 43) (fa 4000) L) 0 (Str.ofString "self") := .loc (by rfl) (by kernel_rfl) (by decide)
  have s1 : Slot (fiOf (mkFd (fnOf 4000) q dc pm co) (nms 43) (fa 4000) L) 1 (Str.ofString "k") := .loc (by rfl) (by kernel_rfl) (by decide)
  have s2 : Slot (fiOf (mkFd (fnOf 4000) q dc pm co) (nms 43) (fa 4000) L) 2 (Str.ofString "first") := .loc (by rfl) (by kernel_rfl) (by decide)
  (SS.cons (SX.asgAttr ok cl (SE.loc s1) (SE.loc s0)) (SS.cons (SX.asgAttr ok cl SE.str (SE.loc s0)) (SS.cons (SX.asgAttr ok cl SE.int (SE.loc s0)) (SS.cons (SX.asgAttr ok cl (SE.loc s2) (SE.loc s0)) (SS.cons (SX.asgAttr ok cl SE.bool (SE.loc s0)) (SS.cons (SX.asgAttr ok cl (SE.neg SE.int) (SE.loc s0)) (SS.cons (SX.asgAttr ok cl SE.int (SE.loc s0)) (SS.cons (SX.asgAttr ok cl SE.int (SE.loc s0)) (SS.cons (SX.asgAttr ok cl SE.int (SE.loc s0)) SS.nil)))))))))
theorem c4000 (ok : X.Ok) (cl : X.Cls) (pf : PF X fa tk) {H : MH} {k f : MV} {Q : MV → MH → Prop} (K : ∀ a, H a = none → Q (.inst 7 a) (H.set a (.A 7 [some k, some (.str (Str.ofString "temp")), some (.int 0), some f, some (.bool false), some (.int (-1)), some (.int 0), some (.int 0), some (.int 0)]))) : CallsTo X (d + 2) (.ref (X.cls 7)) [k, f] Q H := by
  refine callsTo_new ok (pf.nw 3 7 4000 rfl) fun a na => ?_
  rw [no7 pf]
  obtain ⟨q, dc, pm, co, ff⟩ := pf.fn 43 _ _ _ rfl; refine callsTo_def ok ff (fun L => d4000 ok cl pf) rfl 0 ?_
  walk_at "s"
  refine ⟨_, _, .mk (MH.set_self ..) (ai7_var pf) (ltB rfl), ?_⟩
  rw [MH.set_set]
  walk_at "s"
  refine ⟨_, _, .mk (MH.set_self ..) (ai7_kind pf) (ltB rfl), ?_⟩
  rw [MH.set_set]
  walk_at "s"
  refine ⟨_, _, .mk (MH.set_self ..) (ai7_slot pf) (ltB rfl), ?_⟩
  rw [MH.set_set]
  walk_at "s"
  refine ⟨_, _, .mk (MH.set_self ..) (ai7_first pf) (ltB rfl), ?_⟩
  rw [MH.set_set]
  walk_at "s"
  refine ⟨_, _, .mk (MH.set_self ..) (ai7_unsafe pf) (ltB rfl), ?_⟩
  rw [MH.set_set]
  walk_at "s"
  refine ⟨_, .mk, _, _, .mk (MH.set_self ..) (ai7_last_goal pf) (ltB rfl), ?_⟩
  rw [MH.set_set]
  walk_at "s"
  refine ⟨_, _, .mk (MH.set_self ..) (ai7_count pf) (ltB rfl), ?_⟩
  rw [MH.set_set]
  walk_at "s"
  refine ⟨_, _, .mk (MH.set_self ..) (ai7_first_chunk pf) (ltB rfl), ?_⟩
  rw [MH.set_set]
  walk_at "s"
  refine ⟨_, _, .mk (MH.set_self ..) (ai7_last_chunk pf) (ltB rfl), ?_⟩
  rw [MH.set_set]
  exact ⟨rfl, K a na⟩
noncomputable def p4100_4 (X : Ctx) (d : Nat) (fa : Nat → Addr) : WS := wSeq (wAsgAttr X (wLoc 5) (wLoc 0) (Str.ofString "live_after")) wEnd
noncomputable def p4100_3 (X : Ctx) (d : Nat) (fa : Nat → Addr) : WS := wSeq (wAsgAttr X (wLoc 4) (wLoc 0) (Str.ofString "env_size")) (p4100_4 X d fa)
noncomputable def p4100_2 (X : Ctx) (d : Nat) (fa : Nat → Addr) : WS := wSeq (wAsgAttr X (wLoc 3) (wLoc 0) (Str.ofString "needs_env")) (p4100_3 X d fa)
noncomputable def p4100_1 (X : Ctx) (d : Nat) (fa : Nat → Addr) : WS := wSeq (wAsgAttr X (wLoc 2) (wLoc 0) (Str.ofString "chunks")) (p4100_2 X d fa)
noncomputable def p4100 (X : Ctx) (d : Nat) (fa : Nat → Addr) : WS := wSeq (wAsgAttr X (wLoc 1) (wLoc 0) (Str.ofString "infos")) (p4100_1 X d fa)
theorem d4100 (ok : X.Ok) (cl : X.Cls) (pf : PF X fa tk) {q : Str} {dc pm co : Value} {L : Addr} : SS X d (fiOf (mkFd (fnOf 4100) q dc pm co) (nms 44) (fa 4100) L) (fnB (fnOf 4100)) (p4100 X d fa) :=
  have s0 : Slot (fiOf (mkFd (fnOf 4100) q dc pm co) (nms 44) (fa 4100) L) 0 (Str.ofString "self") := .loc (by rfl) (by kernel_rfl) (by decide)
  have s1 : Slot (fiOf (mkFd (fnOf 4100) q dc pm co) (nms 44) (fa 4100) L) 1 (Str.ofString "infos") := .loc (by rfl) (by kernel_rfl) (by decide)
  have s2 : Slot (fiOf (mkFd (fnOf 4100) q dc pm co) (nms 44) (fa 4100) L) 2 (Str.ofString "chunks") := .loc (by rfl) (by kernel_rfl) (by decide)
  have s3 : Slot (fiOf (mkFd (fnOf 4100) q dc pm co) (nms 44) (fa 4100) L) 3 (Str.ofString "needs_env") := .loc (by rfl) (by kernel_rfl) (by decide)
  have s4 : Slot (fiOf (mkFd (fnOf 4100) q dc pm co) (nms 44) (fa 4100) L) 4 (Str.ofString "env_size") := .loc (by rfl) (by kernel_rfl) (by decide)
  have s5 : Slot (fiOf (mkFd (fnOf 4100) q dc pm co) (nms 44) (fa 4100) L) 5 (Str.ofString "live_after") := .loc (by rfl) (by kernel_rfl) (by decide)
  (SS.cons (SX.asgAttr ok cl (SE.loc s1) (SE.loc s0)) (SS.cons (SX.asgAttr ok cl (SE.loc s2) (SE.loc s0)) (SS.cons (SX.asgAttr ok cl (SE.loc s3) (SE.loc s0)) (SS.cons (SX.asgAttr ok cl (SE.loc s4) (SE.loc s0)) (SS.cons (SX.asgAttr ok cl (SE.loc s5) (SE.loc s0)) SS.nil)))))
theorem c4100 (ok : X.Ok) (cl : X.Cls) (pf : PF X fa tk) {H : MH} {v1 v2 v3 v4 v5 : MV} {Q : MV → MH → Prop} (K : ∀ a, H a = none → Q (.inst 8 a) (H.set a (.A 8 [some v1, some v2, some v3, some v4, some v5]))) : CallsTo X (d + 2) (.ref (X.cls 8)) [v1, v2, v3, v4, v5] Q H := by
  refine callsTo_new ok (pf.nw 4 8 4100 rfl) fun a na => ?_
  rw [no8 pf]
  obtain ⟨q, dc, pm, co, ff⟩ := pf.fn 44 _ _ _ rfl; refine callsTo_def ok ff (fun L => d4100 ok cl pf) rfl 0 ?_
  walk_at "s"
  refine ⟨_, _, .mk (MH.set_self ..) (ai8_infos pf) (ltB rfl), ?_⟩
  rw [MH.set_set]
  walk_at "s"
  refine ⟨_, _, .mk (MH.set_self ..) (ai8_chunks pf) (ltB rfl), ?_⟩
  rw [MH.set_set]
  walk_at "s"
  refine ⟨_, _, .mk (MH.set_self ..) (ai8_needs_env pf) (ltB rfl), ?_⟩
  rw [MH.set_set]
  walk_at "s"
  refine ⟨_, _, .mk (MH.set_self ..) (ai8_env_size pf) (ltB rfl), ?_⟩
  rw [MH.set_set]
  walk_at "s"
  refine ⟨_, _, .mk (MH.set_self ..) (ai8_live_after pf) (ltB rfl), ?_⟩
  rw [MH.set_set]
  exact ⟨rfl, K a na⟩
noncomputable def p4300 (X : Ctx) (d : Nat) (fa : Nat → Addr) : WS := wSeq (wAsgAttr X (wDict0 .v) (wLoc 0) (Str.ofString "infos")) wEnd
theorem d4300 (ok : X.Ok) (cl : X.Cls) (pf : PF X fa tk) {q : Str} {dc pm co : Value} {L : Addr} : SS X d (fiOf (mkFd (fnOf 4300) q dc pm co) (nms 45) (fa 4300) L) (fnB (fnOf 4300)) (p4300 X d fa) :=
  have s0 : Slot (fiOf (mkFd (fnOf 4300) q dc pm co) (nms 45) (fa 4300) L) 0 (Str.ofString "self") := .loc (by rfl) (by kernel_rfl) (by decide)
  (SS.cons (SX.asgAttr ok cl (SE.dict0 .v) (SE.loc s0)) SS.nil)
theorem c4300 (ok : X.Ok) (cl : X.Cls) (pf : PF X fa tk) {H : MH} {Q : MV → MH → Prop} (K : ∀ (H' : MH) (a b : Addr), H a = none → H b = none → a ≠ b → H' a = some (.A 9 [some (.ref b)]) → (∃ o, H' b = some (.D (.v []) o)) → Keep (fun _ => False) H H' → Q (.inst 9 a) H') : CallsTo X (d + 2) (.ref (X.cls 9)) [] Q H := by
  refine callsTo_new ok (pf.nw 5 9 4300 rfl) fun a na => ?_
  rw [no9 pf]
  obtain ⟨q, dc, pm, co, ff⟩ := pf.fn 45 _ _ _ rfl; refine callsTo_def ok ff (fun L => d4300 ok cl pf) rfl 0 ?_
  walk_at "s"
  intro b o nb
  have ba : b ≠ a := by rintro rfl; rw [MH.set_self] at nb; cases nb
  have nb' := (MH.set_ne _ _ ba).symm.trans nb
  refine ⟨_, _, .mk (set_at (MH.set_self ..) ba.symm) (ai9_infos pf) (ltB rfl), rfl, K _ a b na nb' ba.symm (MH.set_self ..) ⟨o, set_at (MH.set_self ..) ba⟩ (Keep.off (a := a) ?_ na)⟩
  exact (((Keep.set (.inr na)).trans (.set (.inr nb))).trans (.set (.inl (.inr rfl))))
noncomputable def Gl.terms : Gl → List Tm
  | .call x y => [x, y]
  | .blt x y => [x, y]
  | _ => []
noncomputable def Gl.special : Gl → Int
  | .num _ k => k
  | _ => -1
noncomputable def p27_2 (X : Ctx) (d : Nat) (fa : Nat → Addr) : WS := wSeq (wRet (wIdx (wLoc 0) (wConst (.int 2)))) wEnd
noncomputable def p27_4 (X : Ctx) (d : Nat) (fa : Nat → Addr) : WS := wSeq (wRet (wTup (wCons (wIdx (wLoc 0) (wConst (.int 1))) (wCons (wIdx (wLoc 0) (wConst (.int 2))) wNil)))) wEnd
noncomputable def p27_5 (X : Ctx) (d : Nat) (fa : Nat → Addr) : WS := wSeq (wRet (wTup wNil)) wEnd
noncomputable def p27_3 (X : Ctx) (d : Nat) (fa : Nat → Addr) : WS := wSeq (wIf (wTCmp .Eq (wLoc 1) (wConst (.str (Str.ofString "unify")))) (p27_4 X d fa) wEnd) (p27_5 X d fa)
noncomputable def p27_1 (X : Ctx) (d : Nat) (fa : Nat → Addr) : WS := wSeq (wIf (wTOr (wTCmp .Eq (wLoc 1) (wConst (.str (Str.ofString "call")))) (wTOr (wTCmp .Eq (wLoc 1) (wConst (.str (Str.ofString "builtin")))) (wB false))) (p27_2 X d fa) wEnd) (p27_3 X d fa)
noncomputable def p27 (X : Ctx) (d : Nat) (fa : Nat → Addr) : WS := wSeq (wAsg (wIdx (wLoc 0) (wConst (.int 0))) (wStore 1)) (p27_1 X d fa)
theorem d27 (ok : X.Ok) (cl : X.Cls) (pf : PF X fa tk) {q : Str} {dc pm co : Value} {L : Addr} : SS X d (fiOf (mkFd (fnOf 27) q dc pm co) (nms 7) (fa 27) L) (fnB (fnOf 27)) (p27 X d fa) :=
  have s0 : Slot (fiOf (mkFd (fnOf 27) q dc pm co) (nms 7) (fa 27) L) 0 (Str.ofString "goal") := .loc (by rfl) (by kernel_rfl) (by decide)
  have s1 : Slot (fiOf (mkFd (fnOf 27) q dc pm co) (nms 7) (fa 27) L) 1 (Str.ofString "kind") := .loc (by rfl) (by kernel_rfl) (by decide)
  (SS.cons (SX.asgName (SE.idx (SE.loc s0) SE.int) s1) (SS.cons (SX.if (ST.bool (SA.or (ST.cmp ok (SE.loc s1) SE.str) (SA.or (ST.cmp ok (SE.loc s1) SE.str) SA.nil_or))) (SS.cons (SX.ret (SE.idx (SE.loc s0) SE.int)) SS.nil) SS.nil) (SS.cons (SX.if (ST.cmp ok (SE.loc s1) SE.str) (SS.cons (SX.ret (SE.tup (SEs.cons (SE.idx (SE.loc s0) SE.int) (SEs.cons (SE.idx (SE.loc s0) SE.int) SEs.nil)))) SS.nil) SS.nil) (SS.cons (SX.ret (SE.tup SEs.nil)) SS.nil))))
theorem c27 (ok : X.Ok) (cl : X.Cls) (pf : PF X fa tk) {H : MH} {g : Gl} {Q : MV → MH → Prop} (K : Q (.tup (g.terms.map Tm.enc)) H) : CallsTo X (d + 1) (.ref (fa 27)) [g.enc] Q H := by
  obtain ⟨q, dc, pm, co, ff⟩ := pf.fn 7 _ _ _ rfl; refine callsTo_def ok ff (fun L => d27 ok cl pf) rfl 1 ?_
  cases g with
  | call x y =>
    walk_at "s"
    refine ⟨_, ix0, ?_⟩
    walk_at "s"
    refine ⟨_, .eq .str, .yes (by kernel_rfl!) (.t ?_)⟩
    walk_at "s"
    exact ⟨_, ix2, K⟩
  | blt x y =>
    walk_at "s"
    refine ⟨_, ix0, ?_⟩
    walk_at "s"
    refine ⟨_, .eq .str, .no (by kernel_rfl!) ⟨_, .eq .str, .yes (by kernel_rfl!) (.t ?_)⟩⟩
    walk_at "s"
    exact ⟨_, ix2, K⟩
  | cut =>
    walk_at "s"
    refine ⟨_, ix0, ?_⟩
    walk_at "s"
    refine ⟨_, .eq .str, .no (by kernel_rfl!) ⟨_, .eq .str, .no (by kernel_rfl!) (.f ?_)⟩⟩
    walk_at "s"
    refine ⟨_, .eq .str, .no (by kernel_rfl!) ?_⟩
    walk_at "s"
    exact K
  | num n k =>
    walk_at "s"
    refine ⟨_, ix0, ?_⟩
    walk_at "s"
    refine ⟨_, .eq .str, .no (by rcases n with _ | _ | n <;> kernel_rfl!) ⟨_, .eq .str, .no (by rcases n with _ | _ | n <;> kernel_rfl!) (.f ?_)⟩⟩
    walk_at "s"
    refine ⟨_, .eq .str, .no (by rcases n with _ | _ | n <;> kernel_rfl!) ?_⟩
    walk_at "s"
    exact K
noncomputable def p28_1 (X : Ctx) (d : Nat) (fa : Nat → Addr) : WS := wSeq (wRet (wIdx (wLoc 0) (wConst (.int 1)))) wEnd
noncomputable def p28_2 (X : Ctx) (d : Nat) (fa : Nat → Addr) : WS := wSeq (wRet (wNeg (wConst (.int 1)))) wEnd
noncomputable def p28 (X : Ctx) (d : Nat) (fa : Nat → Addr) : WS := wSeq (wIf (wTOr (wTCmp .Eq (wIdx (wLoc 0) (wConst (.int 0))) (wConst (.str (Str.ofString "level")))) (wTOr (wTCmp .Eq (wIdx (wLoc 0) (wConst (.int 0))) (wConst (.str (Str.ofString "mark")))) (wTOr (wTCmp .Eq (wIdx (wLoc 0) (wConst (.int 0))) (wConst (.str (Str.ofString "cutto")))) (wB false)))) (p28_1 X d fa) wEnd) (p28_2 X d fa)
theorem d28 (ok : X.Ok) (cl : X.Cls) (pf : PF X fa tk) {q : Str} {dc pm co : Value} {L : Addr} : SS X d (fiOf (mkFd (fnOf 28) q dc pm co) (nms 8) (fa 28) L) (fnB (fnOf 28)) (p28 X d fa) :=
  have s0 : Slot (fiOf (mkFd (fnOf 28) q dc pm co) (nms 8) (fa 28) L) 0 (Str.ofString "goal") := .loc (by rfl) (by kernel_rfl) (by decide)
  (SS.cons (SX.if (ST.bool (SA.or (ST.cmp ok (SE.idx (SE.loc s0) SE.int) SE.str) (SA.or (ST.cmp ok (SE.idx (SE.loc s0) SE.int) SE.str) (SA.or (ST.cmp ok (SE.idx (SE.loc s0) SE.int) SE.str) SA.nil_or)))) (SS.cons (SX.ret (SE.idx (SE.loc s0) SE.int)) SS.nil) SS.nil) (SS.cons (SX.ret (SE.neg SE.int)) SS.nil))
theorem c28 (ok : X.Ok) (cl : X.Cls) (pf : PF X fa tk) {H : MH} {g : Gl} {Q : MV → MH → Prop} (K : Q (.int g.special) H) : CallsTo X (d + 1) (.ref (fa 28)) [g.enc] Q H := by
  obtain ⟨q, dc, pm, co, ff⟩ := pf.fn 8 _ _ _ rfl; refine callsTo_def ok ff (fun L => d28 ok cl pf) rfl 0 ?_
  cases g with
  | num n k =>
    walk_at "s"
    have fin : p28_1 X d fa (seqQ (p28_2 X d fa) fun m σ => Q (retOf m) σ.H) ⟨[some (Gl.num n k).enc], H⟩ := by
      walk_at "s"
      exact ⟨_, ix1, K⟩
    rcases n with _ | _ | n
    · exact ⟨_, ix0, _, .eq .str, .yes (by kernel_rfl!) (.t fin)⟩
    · exact ⟨_, ix0, _, .eq .str, .no (by kernel_rfl!) ⟨_, ix0, _, .eq .str, .yes (by kernel_rfl!) (.t fin)⟩⟩
    · exact ⟨_, ix0, _, .eq .str, .no (by kernel_rfl!) ⟨_, ix0, _, .eq .str, .no (by kernel_rfl!) ⟨_, ix0, _, .eq .str, .yes (by kernel_rfl!) (.t fin)⟩⟩⟩
  | cut =>
    walk_at "s"
    refine ⟨_, ix0, _, .eq .str, .no (by kernel_rfl!) ⟨_, ix0, _, .eq .str, .no (by kernel_rfl!) ⟨_, ix0, _, .eq .str, .no (by kernel_rfl!) (.f ?_)⟩⟩⟩
    walk_at "s"
    exact ⟨_, .mk, K⟩
  | call x y =>
    walk_at "s"
    refine ⟨_, ix0, _, .eq .str, .no (by kernel_rfl!) ⟨_, ix0, _, .eq .str, .no (by kernel_rfl!) ⟨_, ix0, _, .eq .str, .no (by kernel_rfl!) (.f ?_)⟩⟩⟩
    walk_at "s"
    exact ⟨_, .mk, K⟩
  | blt x y =>
    walk_at "s"
    refine ⟨_, ix0, _, .eq .str, .no (by kernel_rfl!) ⟨_, ix0, _, .eq .str, .no (by kernel_rfl!) ⟨_, ix0, _, .eq .str, .no (by kernel_rfl!) (.f ?_)⟩⟩⟩
    walk_at "s"
    exact ⟨_, .mk, K⟩
noncomputable def kdOf (cnt lc fc : Int) : Kd := if cnt = 1 then .void else if lc > fc then .perm else .temp
noncomputable def p34_1 (X : Ctx) (d : Nat) (fa : Nat → Addr) : WS := wSeq (wRet (wConst (.str (Str.ofString "void")))) wEnd
noncomputable def p34_3 (X : Ctx) (d : Nat) (fa : Nat → Addr) : WS := wSeq (wRet (wConst (.str (Str.ofString "perm")))) wEnd
noncomputable def p34_4 (X : Ctx) (d : Nat) (fa : Nat → Addr) : WS := wSeq (wRet (wConst (.str (Str.ofString "temp")))) wEnd
noncomputable def p34_2 (X : Ctx) (d : Nat) (fa : Nat → Addr) : WS := wSeq (wIf (wTCmp .Gt (wAttr X (Str.ofString "last_chunk") (wLoc 0)) (wAttr X (Str.ofString "first_chunk") (wLoc 0))) (p34_3 X d fa) wEnd) (p34_4 X d fa)
noncomputable def p34 (X : Ctx) (d : Nat) (fa : Nat → Addr) : WS := wSeq (wIf (wTCmp .Eq (wAttr X (Str.ofString "count") (wLoc 0)) (wConst (.int 1))) (p34_1 X d fa) wEnd) (p34_2 X d fa)
theorem d34 (ok : X.Ok) (cl : X.Cls) (pf : PF X fa tk) {q : Str} {dc pm co : Value} {L : Addr} : SS X d (fiOf (mkFd (fnOf 34) q dc pm co) (nms 10) (fa 34) L) (fnB (fnOf 34)) (p34 X d fa) :=
  have s0 : Slot (fiOf (mkFd (fnOf 34) q dc pm co) (nms 10) (fa 34) L) 0 (Str.ofString "info") := .loc (by rfl) (by kernel_rfl) (by decide)
  (SS.cons (SX.if (ST.cmp ok (SE.attr ok cl (SE.loc s0)) SE.int) (SS.cons (SX.ret SE.str) SS.nil) SS.nil) (SS.cons (SX.if (ST.cmp ok (SE.attr ok cl (SE.loc s0)) (SE.attr ok cl (SE.loc s0))) (SS.cons (SX.ret SE.str) SS.nil) SS.nil) (SS.cons (SX.ret SE.str) SS.nil)))
theorem c34 (ok : X.Ok) (cl : X.Cls) (pf : PF X fa tk) {H : MH} {a : Addr} {x0 x1 x2 x3 x4 x5 : Option MV} {cnt lc fc : Int} {Q : MV → MH → Prop} (h : H a = some (.A 7 [x0, x1, x2, x3, x4, x5, some (.int cnt), some (.int fc), some (.int lc)])) (K : Q (.str (kdOf cnt lc fc).str) H) : CallsTo X (d + 1) (.ref (fa 34)) [.inst 7 a] Q H := by
  unfold kdOf at K
  obtain ⟨q, dc, pm, co, ff⟩ := pf.fn 10 _ _ _ rfl; refine callsTo_def ok ff (fun L => d34 ok cl pf) rfl 0 ?_
  walk_at "s"
  refine ⟨_, .mk h (ai7_count pf) rfl, _, .eq .int, .dec (fun q => ?_) fun q => ?_⟩
  · walk_at "s"
    rw [if_pos q] at K; exact K
  rw [if_neg q] at K
  walk_at "s"
  refine ⟨_, .mk h (ai7_last_chunk pf) rfl, _, .mk h (ai7_first_chunk pf) rfl, _, .gt, .dec (fun q => ?_) fun q => ?_⟩
  · walk_at "s"
    rw [if_pos q] at K; exact K
  · walk_at "s"
    rw [if_neg q] at K; exact K
noncomputable def chk (gs : List Gl) (i : Nat) : Nat := ((gs.take i).filter Gl.isC).length
theorem chk_step {gs : List Gl} {i : Nat} {g : Gl} (h : gs[i]? = some g) : chk gs (i + 1) = chk gs i + if g.isC then 1 else 0 := by
  unfold chk
  rw [List.take_add_one, h, List.filter_append, List.length_append]
  show _ + (List.filter _ [g]).length = _
  cases q : g.isC
  · rw [List.filter_cons_of_neg (by rw [q]; nofun)]; rfl
  · rw [List.filter_cons_of_pos q]; rfl
inductive MK (H : MH) (ga a : Addr) (gs done : List Gl) : St → Prop
  | mk {H1 : MH} {x : Option MV} (h : H1 a = some (.L ((List.range done.length).map fun i => .int (chk gs i)))) (k : Keep (fun _ => False) H H1) : MK H ga a gs done ⟨[some (.ref ga), some (.ref a), some (.int (chk gs done.length)), x], H1⟩
noncomputable def p32_5 (X : Ctx) (d : Nat) (fa : Nat → Addr) : WS := wSeq (wAugName 2 .Add (wConst (.int 1))) wEnd
noncomputable def p32_4 (X : Ctx) (d : Nat) (fa : Nat → Addr) : WS := wSeq (wIf (wTCmp .Eq (wIdx (wLoc 3) (wConst (.int 0))) (wConst (.str (Str.ofString "call")))) (p32_5 X d fa) wEnd) wEnd
noncomputable def p32_3 (X : Ctx) (d : Nat) (fa : Nat → Addr) : WS := wSeq (wExpr (wMethB "list" bAppend (wLoc 1) (wCons (wLoc 2) wNil))) (p32_4 X d fa)
noncomputable def p32_6 (X : Ctx) (d : Nat) (fa : Nat → Addr) : WS := wSeq (wRet (wLoc 1)) wEnd
noncomputable def p32_2 (X : Ctx) (d : Nat) (fa : Nat → Addr) : WS := wSeq (wFor (wSrc (wLoc 0)) (wStore 3) (p32_3 X d fa)) (p32_6 X d fa)
noncomputable def p32_1 (X : Ctx) (d : Nat) (fa : Nat → Addr) : WS := wSeq (wAsg (wConst (.int 0)) (wStore 2)) (p32_2 X d fa)
noncomputable def p32 (X : Ctx) (d : Nat) (fa : Nat → Addr) : WS := wSeq (wAsg (wList wNil) (wStore 1)) (p32_1 X d fa)
theorem d32 (ok : X.Ok) (cl : X.Cls) (pf : PF X fa tk) {q : Str} {dc pm co : Value} {L : Addr} : SS X d (fiOf (mkFd (fnOf 32) q dc pm co) (nms 9) (fa 32) L) (fnB (fnOf 32)) (p32 X d fa) :=
  have s0 : Slot (fiOf (mkFd (fnOf 32) q dc pm co) (nms 9) (fa 32) L) 0 (Str.ofString "goals") := .loc (by rfl) (by kernel_rfl) (by decide)
  have s1 : Slot (fiOf (mkFd (fnOf 32) q dc pm co) (nms 9) (fa 32) L) 1 (Str.ofString "chunks") := .loc (by rfl) (by kernel_rfl) (by decide)
  have s2 : Slot (fiOf (mkFd (fnOf 32) q dc pm co) (nms 9) (fa 32) L) 2 (Str.ofString "chunk") := .loc (by rfl) (by kernel_rfl) (by decide)
  have s3 : Slot (fiOf (mkFd (fnOf 32) q dc pm co) (nms 9) (fa 32) L) 3 (Str.ofString "goal") := .loc (by rfl) (by kernel_rfl) (by decide)
  (SS.cons (SX.asgName (SE.list SEs.nil) s1) (SS.cons (SX.asgName SE.int s2) (SS.cons (SX.for (SI.val ok (SE.loc s0)) (SAs.name s3) (SS.cons (SX.expr (SE.methB (SE.loc s1) (SEs.cons (SE.loc s2) SEs.nil) (by decide) PySem.F.plainAttrs_list PySem.F.slot_list_append PySem.F.type_list_append okAppend (by rfl) (by rfl) (by rfl))) (SS.cons (SX.if (ST.cmp ok (SE.idx (SE.loc s3) SE.int) SE.str) (SS.cons (SX.augName s2 SE.int) SS.nil) SS.nil) SS.nil))) (SS.cons (SX.ret (SE.loc s1)) SS.nil))))
theorem c32 (ok : X.Ok) (cl : X.Cls) (pf : PF X fa tk) {H : MH} {ga : Addr} {gs : List Gl} {Q : MV → MH → Prop} (hg : H ga = some (.L (gs.map Gl.enc))) (gn : gs.length ≤ 6)
    (K : ∀ (H' : MH) a, H a = none → H' a = some (.L ((List.range gs.length).map fun i => .int (chk gs i))) → Keep (fun _ => False) H H' → Q (.ref a) H') : CallsTo X (d + 1) (.ref (fa 32)) [.ref ga] Q H := by
  obtain ⟨q, dc, pm, co, ff⟩ := pf.fn 9 _ _ _ rfl; refine callsTo_def ok ff (fun L => d32 ok cl pf) rfl 3 ?_
  walk_at "s"
  intro a na
  walk_at "s"
  walk_at "s"
  have k0 : Keep (fun _ => False) H (H.set a (.L [])) := .set (.inr na)
  refine ⟨_, .lst (k0.at hg nofun), .inv Gl.enc (fun done rest σ => gs = done ++ rest ∧ MK H ga a gs done σ) ⟨rfl, .mk (MH.set_self ..) k0⟩ ?_ ?_ rfl⟩
  · rintro done x rest σ G ⟨hd, ⟨h, k⟩⟩ hG
    rename_i H1 x3
    refine ⟨k.at hg nofun, ?_⟩
    have hx : gs[done.length]? = some x := by rw [hd, List.getElem?_append_right (Nat.le_refl _), Nat.sub_self]; rfl
    have st := chk_step hx
    have dl : done.length ≤ 6 := by rw [hd, List.length_append] at gn; (first | lia | omega)
    have next : ∀ v, v = chk gs (done.length + 1) → G .next ⟨[some (.ref ga), some (.ref a), some (.int (v : Nat)), some x.enc], H1.set a (.L ((List.range done.length).map (fun i => MV.int (chk gs i)) ++ [.int (chk gs done.length)]))⟩ := by
      rintro v rfl
      have q : MK H ga a gs (done ++ [x]) ⟨[some (.ref ga), some (.ref a), some (.int (chk gs (done ++ [x]).length : Nat)), some x.enc], H1.set a (.L ((List.range done.length).map (fun i => MV.int (chk gs i)) ++ [.int (chk gs done.length)]))⟩ := by
        refine .mk ?_ (Keep.off (a := a) ((k.mono fun _ z => z.elim).trans (.set (.inl (.inr rfl)))) na)
        rw [MH.set_self, List.length_append, List.length_singleton, List.range_succ, List.map_append]; rfl
      rw [List.length_append, List.length_singleton] at q
      exact hG.next _ ⟨by rw [hd, List.append_assoc]; rfl, q⟩
    walk_at "s"
    refine ⟨_, .mk h rfl, .mk h (by rw [List.length_map, List.length_range]; (first | lia | omega)) ?_⟩
    obtain ⟨s, r, hen, hh⟩ := x.head
    walk_at "s"
    refine ⟨_, ixE0 hen, _, .eq .str, .any (fun b => ?_) fun b => ?_⟩
    · walk_at "s"
      exact ⟨_, .add, next (chk gs done.length + 1) (by rw [st, hh.symm.trans b]; rfl)⟩
    · exact next _ (by rw [st, hh.symm.trans b]; rfl)
  · rintro done σ ⟨hd, ⟨h, k⟩⟩
    rw [List.append_nil] at hd; subst hd
    exact ⟨k.at hg nofun, K _ a na h k⟩
end
section
variable {X : Ctx} {fa : Nat → Addr} {tk : Nat → Tok} {d : Nat}
theorem ne_new {H : MH} {a b : Addr} {c : Cell} (h : H a = some c) (h' : H b = none) : a ≠ b := by rintro rfl; rw [h] at h'; cases h'
section
variable {K : Type} [DecidableEq K]
theorem dget_map_self {l : List (K × MV)} {k : K} {v : MV} (h : l.any (fun p => decide (p.1 = k)) = true) : dget (l.map fun p => if p.1 = k then (p.1, v) else p) k = some v := by
  induction l with
  | nil => cases h
  | cons p r ih =>
    obtain ⟨a, m⟩ := p
    show dget ((if a = k then (a, v) else (a, m)) :: _) k = _
    by_cases q : a = k
    · rw [if_pos q]; exact if_pos q
    · rw [if_neg q]; refine (if_neg q).trans (ih ?_)
      rw [List.any_cons, decide_eq_false q] at h; exact h
theorem dget_map_ne {l : List (K × MV)} {k k' : K} {v : MV} (n : k' ≠ k) : dget (l.map fun p => if p.1 = k then (p.1, v) else p) k' = dget l k' := by
  induction l with
  | nil => rfl
  | cons p r ih =>
    obtain ⟨a, m⟩ := p
    show dget ((if a = k then (a, v) else (a, m)) :: _) k' = if a = k' then _ else _
    by_cases q : a = k
    · rw [if_pos q]; have : a ≠ k' := fun e => n (e ▸ q); exact ((if_neg this).trans ih).trans (if_neg this).symm
    · rw [if_neg q]; show (if a = k' then _ else _) = _; rw [ih]
theorem dget_app {l : List (K × MV)} {k k' : K} {v : MV} : dget (l ++ [(k, v)]) k' = match dget l k' with | some m => some m | none => if k = k' then some v else none := by
  induction l with
  | nil => rfl
  | cons p r ih =>
    obtain ⟨a, m⟩ := p
    show (if a = k' then _ else dget (r ++ [(k, v)]) k') = match (if a = k' then some m else dget r k') with | some m => some m | none => _
    by_cases q : a = k'
    · rw [if_pos q, if_pos q]
    · rw [if_neg q, if_neg q]; exact ih
theorem dget_none {l : List (K × MV)} {k : K} (h : ¬ l.any (fun p => decide (p.1 = k)) = true) : dget l k = none := by
  induction l with
  | nil => rfl
  | cons p r ih =>
    obtain ⟨a, m⟩ := p
    rw [List.any_cons, Bool.or_eq_true, decide_eq_true_eq, not_or] at h
    exact (if_neg h.1).trans (ih h.2)
theorem dget_put_self {l : List (K × MV)} {k : K} {v : MV} : dget (dput l k v) k = some v := by
  unfold dput
  split
  · rename_i h; exact dget_map_self h
  · rename_i h; rw [dget_app, dget_none h]; exact if_pos rfl
theorem dget_put_ne {l : List (K × MV)} {k k' : K} {v : MV} (n : k' ≠ k) : dget (dput l k v) k' = dget l k' := by
  unfold dput
  split
  · exact dget_map_ne n
  · rw [dget_app, if_neg fun e => n e.symm]; cases dget l k' <;> rfl
theorem dput_mem {l : List (K × MV)} {k k' : K} {v : MV} : k' ∈ (dput l k v).map (·.1) ↔ k' ∈ l.map (·.1) ∨ k' = k := by
  unfold dput
  split
  · rename_i h
    have e : (l.map fun p => if p.1 = k then (p.1, v) else p).map (·.1) = l.map (·.1) := by
      rw [List.map_map]; refine List.map_congr_left fun p _ => ?_
      show (if p.1 = k then (p.1, v) else p).1 = p.1
      split <;> rfl
    rw [e]
    refine ⟨.inl, fun q => q.elim id ?_⟩
    rintro rfl
    obtain ⟨p, hp, e⟩ := List.any_eq_true.mp h
    exact of_decide_eq_true e ▸ List.mem_map_of_mem hp
  · rw [List.map_append, List.mem_append]; exact or_congr Iff.rfl List.mem_singleton
end
noncomputable def sumT : List Tm → Nat
  | [] => 0
  | t :: r => t.nodes + sumT r
theorem sumT_append : ∀ (a b : List Tm), sumT (a ++ b) = sumT a + sumT b
  | [], b => (Nat.zero_add _).symm
  | x :: r, b => by rw [List.cons_append, sumT, sumT, sumT_append r b, Nat.add_assoc]
theorem sumT_len : ∀ l : List Tm, l.length ≤ sumT l
  | [] => Nat.le_refl _
  | x :: r => by have := sumT_len r; have := x.nodes_pos; rw [List.length_cons, sumT]; (first | lia | omega)
theorem sumT_args {t : Tm} (h : t.isS = true) : sumT t.args.reverse + 1 = t.nodes := by
  cases t with
  | s1 f x => rfl
  | s2 f x y => show sumT [y, x] + 1 = x.nodes + y.nodes + 1; rw [sumT, sumT, sumT]; (first | lia | omega)
  | _ => cases h
theorem rev_vars {t : Tm} (h : t.isS = true) {k : Int} : (∃ x ∈ t.args.reverse, k ∈ x.vars) ↔ k ∈ t.vars :=
  ⟨fun ⟨x, hx, hk⟩ => (Tm.vars_args h).mpr ⟨x, List.mem_reverse.mp hx, hk⟩, fun hk => let ⟨x, hx, h⟩ := (Tm.vars_args h).mp hk; ⟨x, List.mem_reverse.mpr hx, h⟩⟩
inductive VO (H : MH) (ta sa ra td : Addr) (tm : Tm) : Nat → St → Prop
  | mk {H1 : MH} {res : List Int} {kvs : List (SK × MV)} {o : Obj} {todo : List Tm} {x : Option MV} {n : Nat} (hr : H1 ra = some (.L (res.map .int))) (hs : H1 sa = some (.D (.v kvs) o)) (ht : H1 td = some (.L (todo.map Tm.enc)))
    (k : Keep (fun b => b = sa ∨ b = ra ∨ b = td) H H1) (sub : ∀ k, SK.i k ∈ kvs.map (·.1) → k ∈ res) (hv : ∀ k, k ∈ tm.vars ↔ k ∈ res ∨ ∃ t ∈ todo, k ∈ t.vars) (hz : res.length + sumT todo ≤ tm.nodes) (hz2 : kvs.length + sumT todo ≤ tm.nodes) (e : n = sumT todo) :
    VO H ta sa ra td tm n ⟨[some (.ref ta), some (.ref sa), some (.ref ra), some (.ref td), x], H1⟩
noncomputable def p13_8 (X : Ctx) (d : Nat) (fa : Nat → Addr) : WS := wSeq (wExpr (wMethB "list" bAppend (wLoc 2) (wCons (wIdx (wLoc 4) (wConst (.int 1))) wNil))) wEnd
noncomputable def p13_7 (X : Ctx) (d : Nat) (fa : Nat → Addr) : WS := wSeq (wAsgIdx (wConst (.bool true)) (wLoc 1) (wIdx (wLoc 4) (wConst (.int 1)))) (p13_8 X d fa)
noncomputable def p13_6 (X : Ctx) (d : Nat) (fa : Nat → Addr) : WS := wSeq (wIf (wTCmp .NotIn (wIdx (wLoc 4) (wConst (.int 1))) (wLoc 1)) (p13_7 X d fa) wEnd) wEnd
noncomputable def p13_10 (X : Ctx) (d : Nat) (fa : Nat → Addr) : WS := wSeq (wExpr (wExtRev (wLoc 3) (wIdx (wLoc 4) (wConst (.int 2))))) wEnd
noncomputable def p13_9 (X : Ctx) (d : Nat) (fa : Nat → Addr) : WS := wSeq (wIf (wTCmp .Eq (wIdx (wLoc 4) (wConst (.int 0))) (wConst (.str (Str.ofString "s")))) (p13_10 X d fa) wEnd) wEnd
noncomputable def p13_5 (X : Ctx) (d : Nat) (fa : Nat → Addr) : WS := wSeq (wIf (wTCmp .Eq (wIdx (wLoc 4) (wConst (.int 0))) (wConst (.str (Str.ofString "v")))) (p13_6 X d fa) (p13_9 X d fa)) wEnd
noncomputable def p13_4 (X : Ctx) (d : Nat) (fa : Nat → Addr) : WS := wSeq (wAsg (wMethB "list" bPop (wLoc 3) wNil) (wStore 4)) (p13_5 X d fa)
noncomputable def p13_11 (X : Ctx) (d : Nat) (fa : Nat → Addr) : WS := wSeq (wRet (wLoc 2)) wEnd
noncomputable def p13_3 (X : Ctx) (d : Nat) (fa : Nat → Addr) : WS := wSeq (wWhile (wTVal (wLoc 3)) (p13_4 X d fa)) (p13_11 X d fa)
noncomputable def p13_2 (X : Ctx) (d : Nat) (fa : Nat → Addr) : WS := wSeq (wAsg (wListRev (wLoc 0)) (wStore 3)) (p13_3 X d fa)
noncomputable def p13_1 (X : Ctx) (d : Nat) (fa : Nat → Addr) : WS := wSeq (wAsg (wList wNil) (wStore 2)) (p13_2 X d fa)
noncomputable def p13 (X : Ctx) (d : Nat) (fa : Nat → Addr) : WS := wSeq (wAsg (wDict0 .v) (wStore 1)) (p13_1 X d fa)
theorem d13 (ok : X.Ok) (cl : X.Cls) (pf : PF X fa tk) {q : Str} {dc pm co : Value} {L : Addr} : SS X d (fiOf (mkFd (fnOf 13) q dc pm co) (nms 3) (fa 13) L) (fnB (fnOf 13)) (p13 X d fa) :=
  have s0 : Slot (fiOf (mkFd (fnOf 13) q dc pm co) (nms 3) (fa 13) L) 0 (Str.ofString "terms") := .loc (by rfl) (by kernel_rfl) (by decide)
  have s1 : Slot (fiOf (mkFd (fnOf 13) q dc pm co) (nms 3) (fa 13) L) 1 (Str.ofString "seen") := .loc (by rfl) (by kernel_rfl) (by decide)
  have s2 : Slot (fiOf (mkFd (fnOf 13) q dc pm co) (nms 3) (fa 13) L) 2 (Str.ofString "result") := .loc (by rfl) (by kernel_rfl) (by decide)
  have s3 : Slot (fiOf (mkFd (fnOf 13) q dc pm co) (nms 3) (fa 13) L) 3 (Str.ofString "todo") := .loc (by rfl) (by kernel_rfl) (by decide)
  have s4 : Slot (fiOf (mkFd (fnOf 13) q dc pm co) (nms 3) (fa 13) L) 4 (Str.ofString "term") := .loc (by rfl) (by kernel_rfl) (by decide)
  have g_list : GlobV X (fiOf (mkFd (fnOf 13) q dc pm co) (nms 3) (fa 13) L) (Str.ofString "list") (.type "list") := ⟨by kernel_rfl, pf.g 31 _ _ rfl, by decide⟩
  have g_reversed : GlobV X (fiOf (mkFd (fnOf 13) q dc pm co) (nms 3) (fa 13) L) (Str.ofString "reversed") (.type "reversed") := ⟨by kernel_rfl, pf.g 34 _ _ rfl, by decide⟩
  (SS.cons (SX.asgName (SE.dict0 .v) s1) (SS.cons (SX.asgName (SE.list SEs.nil) s2) (SS.cons (SX.asgName (SE.listRev ok g_list g_reversed (SE.loc s0)) s3) (SS.cons (SX.while (ST.val (SE.loc s3)) (SS.cons (SX.asgName (SE.methB (SE.loc s3) SEs.nil (by decide) PySem.F.plainAttrs_list PySem.F.slot_list_pop PySem.F.type_list_pop okPop (by rfl) (by rfl) (by rfl)) s4) (SS.cons (SX.if (ST.cmp ok (SE.idx (SE.loc s4) SE.int) SE.str) (SS.cons (SX.if (ST.cmp ok (SE.idx (SE.loc s4) SE.int) (SE.loc s1)) (SS.cons (SX.asgIdx SE.bool (SE.loc s1) (SE.idx (SE.loc s4) SE.int)) (SS.cons (SX.expr (SE.methB (SE.loc s2) (SEs.cons (SE.idx (SE.loc s4) SE.int) SEs.nil) (by decide) PySem.F.plainAttrs_list PySem.F.slot_list_append PySem.F.type_list_append okAppend (by rfl) (by rfl) (by rfl))) SS.nil)) SS.nil) SS.nil) (SS.cons (SX.if (ST.cmp ok (SE.idx (SE.loc s4) SE.int) SE.str) (SS.cons (SX.expr (SE.extRev ok rfl g_reversed (SE.loc s3) (SE.idx (SE.loc s4) SE.int) (by rfl) (by rfl) (by rfl))) SS.nil) SS.nil) SS.nil)) SS.nil))) (SS.cons (SX.ret (SE.loc s2)) SS.nil)))))
noncomputable def p12 (X : Ctx) (d : Nat) (fa : Nat → Addr) : WS := wSeq (wRet (wCall X d (.ref (fa 13)) (wCons (wList (wCons (wLoc 0) wNil)) wNil))) wEnd
theorem d12 (ok : X.Ok) (cl : X.Cls) (pf : PF X fa tk) {q : Str} {dc pm co : Value} {L : Addr} : SS X d (fiOf (mkFd (fnOf 12) q dc pm co) (nms 2) (fa 12) L) (fnB (fnOf 12)) (p12 X d fa) :=
  have s0 : Slot (fiOf (mkFd (fnOf 12) q dc pm co) (nms 2) (fa 12) L) 0 (Str.ofString "term") := .loc (by rfl) (by kernel_rfl) (by decide)
  have g_variables_of : GlobV X (fiOf (mkFd (fnOf 12) q dc pm co) (nms 2) (fa 12) L) (Str.ofString "variables_of") (.ref (fa 13)) := ⟨by kernel_rfl, pf.g 40 _ _ rfl, by decide⟩
  (SS.cons (SX.ret (SE.callF ok g_variables_of (pf.kf 40 _ _ rfl) (SEs.cons (SE.list (SEs.cons (SE.loc s0) SEs.nil)) SEs.nil))) SS.nil)
theorem c12 (ok : X.Ok) (cl : X.Cls) (pf : PF X fa tk) {H : MH} {tm : Tm} {Q : MV → MH → Prop} (hn : tm.nodes ≤ 7)
    (K : ∀ (H' : MH) a (res : List Int), H a = none → H' a = some (.L (res.map .int)) → (∀ k, k ∈ tm.vars ↔ k ∈ res) → res.length ≤ 7 → Keep (fun _ => False) H H' → Q (.ref a) H') : CallsTo X (d + 2) (.ref (fa 12)) [tm.enc] Q H := by
  obtain ⟨q, dc, pm, co, ff⟩ := pf.fn 2 _ _ _ rfl; refine callsTo_def ok ff (fun L => d12 ok cl pf) rfl 0 ?_
  walk_at "s"
  intro ta nt
  have kt : Keep (fun _ => False) H (H.set ta (.L [tm.enc])) := .set (.inr nt)
  have ht := H.set_self ta (.L [tm.enc])
  have fr : ∀ {b : Addr}, (H.set ta (.L [tm.enc])) b = none → H b = none := fun h => Classical.byContradiction fun z => kt.dom _ z h
  generalize H.set ta (.L [tm.enc]) = H0 at kt ht fr
  obtain ⟨q, dc, pm, co, ff⟩ := pf.fn 3 _ _ _ rfl; refine callsTo_def ok ff (fun L => d13 ok cl pf) rfl 4 ?_
  walk_at "s"
  intro sa o na
  have ht1 := set_at (c' := .D DK.v.nil o) ht (ne_new ht na)
  walk_at "s"
  intro ra nr
  have sr : sa ≠ ra := ne_new (MH.set_self ..) nr
  have nr' := (MH.set_ne _ _ sr.symm).symm.trans nr
  have ht2 := set_at (c' := .L []) ht1 (ne_new ht1 nr)
  walk_at "s"
  refine ⟨_, _, .mk ht2 (leB rfl), fun td nd => ?_⟩
  have hs2 := set_at (c' := .L []) (H0.set_self sa (.D DK.v.nil o)) sr
  have hr2 := (H0.set sa (.D DK.v.nil o)).set_self ra (.L [])
  have ds : sa ≠ td := ne_new hs2 nd
  have dr : ra ≠ td := ne_new hr2 nd
  have nd' := (MH.set_ne _ _ ds.symm).symm.trans ((MH.set_ne _ _ dr.symm).symm.trans nd)
  walk_at "s"
  refine .inv (VO H0 ta sa ra td tm) (n := sumT [tm]) (.mk (res := []) (todo := [tm]) (set_at hr2 dr) (set_at hs2 ds) (MH.set_self ..) (((Keep.set (.inr na)).trans (.set (.inr nr))).trans (.set (.inr nd))) nofun (fun k => ⟨fun h => .inr ⟨tm, .head _, h⟩, fun h => h.elim nofun fun ⟨t, ht, h⟩ => by cases List.mem_singleton.mp ht; exact h⟩) (by rw [sumT, sumT]; exact Nat.le_of_eq (Nat.zero_add _)) (by rw [sumT, sumT]; exact Nat.le_of_eq (Nat.zero_add _)) rfl) ?_
  rintro n σ G ⟨hr, hs, htd, k, sub, hv, hz, hz2, rfl⟩ hG
  rename_i H1 res kvs o1 todo x4
  have sl := sumT_len todo
  have kr : ∀ {H : MH} {c : Cell}, Keep (fun b => b = sa ∨ b = ra ∨ b = td) H (H.set ra c) := .set (.inl (.inr (.inl rfl)))
  have ks : ∀ {H : MH} {c : Cell}, Keep (fun b => b = sa ∨ b = ra ∨ b = td) H (H.set sa c) := .set (.inl (.inl rfl))
  have kd : ∀ {H : MH} {c : Cell}, Keep (fun b => b = sa ∨ b = ra ∨ b = td) H (H.set td c) := .set (.inl (.inr (.inr rfl)))
  walk_at "s"
  refine ⟨_, .list htd (by rw [List.length_map]; (first | lia | omega)), ?_⟩
  cases hne : todo with
  | nil =>
    subst hne
    refine .f ?_
    refine K H1 ra res (fr nr') hr (fun k => (hv k).trans ⟨fun h => h.elim id nofun, .inl⟩) (by (first | lia | omega)) (kt.trans ?_)
    exact (((k.mono fun b z => z.elim (.inl ∘ .inl ∘ .inr) (·.elim (.inl ∘ .inr) .inr)).off nd').off nr').off na
  | cons t0 r0 =>
    obtain ⟨init, t, hit⟩ := last_of (show 0 < todo.length by rw [hne]; exact Nat.succ_pos _)
    refine .t ?_
    clear hne
    subst hit
    rw [sumT_append, sumT, sumT, Nat.add_zero] at hG hz hz2
    have np := t.nodes_pos
    have sl := sumT_len init
    walk_at "s"
    refine ⟨_, .mk htd rfl, .mk (l := init.map Tm.enc) (v := t.enc) (by rw [htd, List.map_append]; rfl) (by rw [List.length_map]; (first | lia | omega)) ?_⟩
    have hr3 := set_at (c' := .L (init.map Tm.enc)) hr dr
    have hs3 := set_at (c' := .L (init.map Tm.enc)) hs ds
    have ht3 := H1.set_self td (.L (init.map Tm.enc))
    have k3 := k.trans (kd (c := .L (init.map Tm.enc)))
    show p13_5 X d fa _ ⟨_, H1.set td (.L (init.map Tm.enc))⟩
    generalize H1.set td (.L (init.map Tm.enc)) = H3 at hr3 hs3 ht3 k3
    have next : ∀ {H4 : MH} {res' : List Int} {kvs' : List (SK × MV)} {o' : Obj} (todo' : List Tm), H4 ra = some (.L (res'.map .int)) → H4 sa = some (.D (.v kvs') o') → H4 td = some (.L ((init ++ todo').map Tm.enc)) → Keep (fun b => b = sa ∨ b = ra ∨ b = td) H3 H4 → (∀ k, SK.i k ∈ kvs'.map (·.1) → k ∈ res') →
        (∀ k, k ∈ res' ∨ (∃ x ∈ todo', k ∈ x.vars) ↔ k ∈ res ∨ k ∈ t.vars) → res'.length + sumT todo' ≤ res.length + t.nodes → kvs'.length + sumT todo' ≤ kvs.length + t.nodes → sumT todo' < t.nodes → G .next ⟨[some (.ref ta), some (.ref sa), some (.ref ra), some (.ref td), some t.enc], H4⟩ := by
      intro H4 res' kvs' o' todo' a1 a2 a3 a4 a5 a6 a7 a8 a9
      have ap := sumT_append init todo'
      refine hG.next _ ⟨sumT (init ++ todo'), by (first | lia | omega), .mk a1 a2 a3 (k3.trans a4) a5 (fun k => (hv k).trans ?_) (by (first | lia | omega)) (by (first | lia | omega)) rfl⟩
      have mem : ∀ l : List Tm, (∃ x ∈ init ++ l, k ∈ x.vars) ↔ (∃ x ∈ init, k ∈ x.vars) ∨ ∃ x ∈ l, k ∈ x.vars := fun l =>
        ⟨fun ⟨x, hx, h⟩ => (List.mem_append.mp hx).imp (⟨x, ·, h⟩) (⟨x, ·, h⟩), fun h => h.elim (fun ⟨x, hx, h⟩ => ⟨x, List.mem_append_left _ hx, h⟩) fun ⟨x, hx, h⟩ => ⟨x, List.mem_append_right _ hx, h⟩⟩
      have one : (∃ x ∈ [t], k ∈ x.vars) ↔ k ∈ t.vars := ⟨fun ⟨x, hx, h⟩ => by cases List.mem_singleton.mp hx; exact h, fun h => ⟨t, .head _, h⟩⟩
      rw [mem, mem, one, or_left_comm, ← a6 k, or_left_comm]
    walk_at "s"
    cases hS : t.isS with
    | true =>
      have hen := Tm.enc_s hS
      have sa' := sumT_args hS
      refine ⟨_, ixE0 hen, _, .eq .str, .no (by kernel_rfl!) ?_⟩
      walk_at "s"
      refine ⟨_, ixE0 hen, _, .eq .str, .yes (by kernel_rfl!) ?_⟩
      walk_at "s"
      refine ⟨_, .mk ht3 rfl, _, ixE2 hen, _, .mk ht3 (by rw [List.length_map]; (first | lia | omega)) (by rw [List.length_map]; have := t.args_len; (first | lia | omega)), ?_⟩
      refine next t.args.reverse (set_at hr3 dr) (set_at hs3 ds) ?_ kd sub (fun k => or_congr Iff.rfl (rev_vars hS)) (by (first | lia | omega)) (by (first | lia | omega)) (by (first | lia | omega))
      rw [MH.set_self, List.map_append, List.map_reverse]
    | false =>
      rcases Tm.leaf hS with ⟨k, hxk⟩ | ⟨s, z, hen, s1, s2, hv', hc⟩
      · have hen := congrArg Tm.enc hxk
        have ev : t.vars = [k] := by rw [hxk]; rfl
        refine ⟨_, ixE0 hen, _, .eq .str, .yes (by kernel_rfl!) ?_⟩
        walk_at "s"
        refine ⟨_, ixE1 hen, _, .nmem (.dict hs3), .neg (fun hin => ?_) fun hin => ?_⟩
        · walk_at "s"
          refine ⟨_, ixE1 hen, _, _, .dict hs3 .i (by (first | lia | omega)), fun o' => ?_⟩
          walk_at "s"
          refine ⟨_, .mk (set_at hr3 sr.symm) rfl, _, ixE1 hen, .mk (set_at hr3 sr.symm) (by rw [List.length_map]; (first | lia | omega)) ?_⟩
          refine next [] (res' := res ++ [k]) (by rw [MH.set_self, List.map_append]; rfl) (set_at (MH.set_self ..) sr) (set_at (set_at (by rw [List.append_nil]; exact ht3) ds.symm) dr.symm) (ks.trans kr) (fun j hj => ?_) (fun j => ?_) ?_ ?_ np
          · exact (dput_mem.mp hj).elim (fun h => List.mem_append_left _ (sub j h)) fun h => by cases h; exact List.mem_append_right _ (.head _)
          · rw [ev]
            exact ⟨fun h => h.elim (fun h => List.mem_append.mp h) nofun, fun h => .inl (List.mem_append.mpr h)⟩
          · rw [List.length_append, List.length_singleton, sumT]; (first | lia | omega)
          · have := dput_len kvs (.i k) (.bool true); rw [sumT]; (first | lia | omega)
        · refine next [] hr3 hs3 (by rw [List.append_nil]; exact ht3) (.refl ..) sub (fun j => ?_) (by rw [sumT]; (first | lia | omega)) (by rw [sumT]; (first | lia | omega)) np
          rw [ev]
          exact ⟨fun h => h.elim .inl nofun, fun h => .inl (h.elim id fun h => by cases List.mem_singleton.mp h; exact sub k hin)⟩
      · refine ⟨_, ixE0 hen, _, .eq .str, .no s1 ?_⟩
        walk_at "s"
        refine ⟨_, ixE0 hen, _, .eq .str, .no s2 ?_⟩
        refine next [] hr3 hs3 (by rw [List.append_nil]; exact ht3) (.refl ..) sub (fun j => ?_) (by rw [sumT]; (first | lia | omega)) (by rw [sumT]; (first | lia | omega)) np
        rw [hv']
        exact or_congr Iff.rfl ⟨nofun, nofun⟩
inductive OC (H : MH) (tm : Tm) (ca td : Addr) : Nat → St → Prop
  | mk {H1 : MH} {kvs : List (SK × MV)} {o : Obj} {todo : List Tm} {x : Option MV} {n : Nat} (hs : H1 ca = some (.D (.v kvs) o)) (ht : H1 td = some (.L (todo.map Tm.enc)))
    (k : Keep (fun b => b = ca ∨ b = td) H H1) (all : ∀ k m, dget kvs k = some m → ∃ c, m = .int c) (hv : ∀ k ∈ tm.vars, (∃ c, dget kvs (.i k) = some (.int c)) ∨ ∃ t ∈ todo, k ∈ t.vars) (hz2 : kvs.length + sumT todo ≤ tm.nodes) (e : n = sumT todo) :
    OC H tm ca td n ⟨[some tm.enc, some (.ref ca), some (.ref td), x], H1⟩
noncomputable def p14_5 (X : Ctx) (d : Nat) (fa : Nat → Addr) : WS := wSeq (wAsgIdx (wBin .Add (wMethB "dict" bGet (wLoc 1) (wCons (wIdx (wLoc 3) (wConst (.int 1))) (wCons (wConst (.int 0)) wNil))) (wConst (.int 1))) (wLoc 1) (wIdx (wLoc 3) (wConst (.int 1)))) wEnd
noncomputable def p14_7 (X : Ctx) (d : Nat) (fa : Nat → Addr) : WS := wSeq (wExpr (wExtRev (wLoc 2) (wIdx (wLoc 3) (wConst (.int 2))))) wEnd
noncomputable def p14_6 (X : Ctx) (d : Nat) (fa : Nat → Addr) : WS := wSeq (wIf (wTCmp .Eq (wIdx (wLoc 3) (wConst (.int 0))) (wConst (.str (Str.ofString "s")))) (p14_7 X d fa) wEnd) wEnd
noncomputable def p14_4 (X : Ctx) (d : Nat) (fa : Nat → Addr) : WS := wSeq (wIf (wTCmp .Eq (wIdx (wLoc 3) (wConst (.int 0))) (wConst (.str (Str.ofString "v")))) (p14_5 X d fa) (p14_6 X d fa)) wEnd
noncomputable def p14_3 (X : Ctx) (d : Nat) (fa : Nat → Addr) : WS := wSeq (wAsg (wMethB "list" bPop (wLoc 2) wNil) (wStore 3)) (p14_4 X d fa)
noncomputable def p14_8 (X : Ctx) (d : Nat) (fa : Nat → Addr) : WS := wSeq (wRet (wLoc 1)) wEnd
noncomputable def p14_2 (X : Ctx) (d : Nat) (fa : Nat → Addr) : WS := wSeq (wWhile (wTVal (wLoc 2)) (p14_3 X d fa)) (p14_8 X d fa)
noncomputable def p14_1 (X : Ctx) (d : Nat) (fa : Nat → Addr) : WS := wSeq (wAsg (wList (wCons (wLoc 0) wNil)) (wStore 2)) (p14_2 X d fa)
noncomputable def p14 (X : Ctx) (d : Nat) (fa : Nat → Addr) : WS := wSeq (wAsg (wDict0 .v) (wStore 1)) (p14_1 X d fa)
theorem d14 (ok : X.Ok) (cl : X.Cls) (pf : PF X fa tk) {q : Str} {dc pm co : Value} {L : Addr} : SS X d (fiOf (mkFd (fnOf 14) q dc pm co) (nms 4) (fa 14) L) (fnB (fnOf 14)) (p14 X d fa) :=
  have s0 : Slot (fiOf (mkFd (fnOf 14) q dc pm co) (nms 4) (fa 14) L) 0 (Str.ofString "term") := .loc (by rfl) (by kernel_rfl) (by decide)
  have s1 : Slot (fiOf (mkFd (fnOf 14) q dc pm co) (nms 4) (fa 14) L) 1 (Str.ofString "counts") := .loc (by rfl) (by kernel_rfl) (by decide)
  have s2 : Slot (fiOf (mkFd (fnOf 14) q dc pm co) (nms 4) (fa 14) L) 2 (Str.ofString "todo") := .loc (by rfl) (by kernel_rfl) (by decide)
  have s3 : Slot (fiOf (mkFd (fnOf 14) q dc pm co) (nms 4) (fa 14) L) 3 (Str.ofString "part") := .loc (by rfl) (by kernel_rfl) (by decide)
  have g_reversed : GlobV X (fiOf (mkFd (fnOf 14) q dc pm co) (nms 4) (fa 14) L) (Str.ofString "reversed") (.type "reversed") := ⟨by kernel_rfl, pf.g 34 _ _ rfl, by decide⟩
  (SS.cons (SX.asgName (SE.dict0 .v) s1) (SS.cons (SX.asgName (SE.list (SEs.cons (SE.loc s0) SEs.nil)) s2) (SS.cons (SX.while (ST.val (SE.loc s2)) (SS.cons (SX.asgName (SE.methB (SE.loc s2) SEs.nil (by decide) PySem.F.plainAttrs_list PySem.F.slot_list_pop PySem.F.type_list_pop okPop (by rfl) (by rfl) (by rfl)) s3) (SS.cons (SX.if (ST.cmp ok (SE.idx (SE.loc s3) SE.int) SE.str) (SS.cons (SX.asgIdx (SE.bin (SE.methB (SE.loc s1) (SEs.cons (SE.idx (SE.loc s3) SE.int) (SEs.cons SE.int SEs.nil)) (by decide) PySem.F.plainAttrs_dict PySem.F.slot_dict_get PySem.F.type_dict_get (okGet ok) (by rfl) (by rfl) (by rfl)) SE.int) (SE.loc s1) (SE.idx (SE.loc s3) SE.int)) SS.nil) (SS.cons (SX.if (ST.cmp ok (SE.idx (SE.loc s3) SE.int) SE.str) (SS.cons (SX.expr (SE.extRev ok rfl g_reversed (SE.loc s2) (SE.idx (SE.loc s3) SE.int) (by rfl) (by rfl) (by rfl))) SS.nil) SS.nil) SS.nil)) SS.nil))) (SS.cons (SX.ret (SE.loc s1)) SS.nil))))
theorem c14 (ok : X.Ok) (cl : X.Cls) (pf : PF X fa tk) {H : MH} {tm : Tm} {Q : MV → MH → Prop} (hn : tm.nodes ≤ 7)
    (K : ∀ (H' : MH) a (kvs : List (SK × MV)) o, H a = none → H' a = some (.D (.v kvs) o) → (∀ k ∈ tm.vars, ∃ c, dget kvs (.i k) = some (.int c)) → Keep (fun _ => False) H H' → Q (.ref a) H') : CallsTo X (d + 1) (.ref (fa 14)) [tm.enc] Q H := by
  obtain ⟨q, dc, pm, co, ff⟩ := pf.fn 4 _ _ _ rfl; refine callsTo_def ok ff (fun L => d14 ok cl pf) rfl 3 ?_
  walk_at "s"
  intro ca o na
  walk_at "s"
  intro td nd
  have ds : ca ≠ td := ne_new (MH.set_self ..) nd
  have nd' := (MH.set_ne _ _ ds.symm).symm.trans nd
  walk_at "s"
  refine .inv (OC H tm ca td) (n := sumT [tm]) (.mk (todo := [tm]) (set_at (MH.set_self ..) ds) (MH.set_self ..) ((Keep.set (.inr na)).trans (.set (.inr nd))) (fun _ _ h => nomatch h) (fun k h => .inr ⟨tm, .head _, h⟩) (by rw [sumT, sumT]; exact Nat.le_of_eq (Nat.zero_add _)) rfl) ?_
  rintro n σ G ⟨hs, htd, k, all, hv, hz2, rfl⟩ hG
  rename_i H1 kvs o1 todo x4
  have sl := sumT_len todo
  have ks : ∀ {H : MH} {c : Cell}, Keep (fun b => b = ca ∨ b = td) H (H.set ca c) := .set (.inl (.inl rfl))
  have kd : ∀ {H : MH} {c : Cell}, Keep (fun b => b = ca ∨ b = td) H (H.set td c) := .set (.inl (.inr rfl))
  walk_at "s"
  refine ⟨_, .list htd (by rw [List.length_map]; (first | lia | omega)), ?_⟩
  cases hne : todo with
  | nil =>
    subst hne
    exact .f (K H1 ca kvs _ na hs (fun k hk => (hv k hk).elim id nofun) (((k.mono fun b z => z.elim (.inl ∘ .inr) .inr).off nd').off na))
  | cons t0 r0 =>
    obtain ⟨init, t, hit⟩ := last_of (show 0 < todo.length by rw [hne]; exact Nat.succ_pos _)
    refine .t ?_
    clear hne
    subst hit
    rw [sumT_append, sumT, sumT, Nat.add_zero] at hG hz2
    have np := t.nodes_pos
    have sl := sumT_len init
    walk_at "s"
    refine ⟨_, .mk htd rfl, .mk (l := init.map Tm.enc) (v := t.enc) (by rw [htd, List.map_append]; rfl) (by rw [List.length_map]; (first | lia | omega)) ?_⟩
    have hs3 := set_at (c' := .L (init.map Tm.enc)) hs ds
    have ht3 := H1.set_self td (.L (init.map Tm.enc))
    have k3 := k.trans (kd (c := .L (init.map Tm.enc)))
    show p14_4 X d fa _ ⟨_, H1.set td (.L (init.map Tm.enc))⟩
    generalize H1.set td (.L (init.map Tm.enc)) = H3 at hs3 ht3 k3
    have next : ∀ {H4 : MH} {kvs' : List (SK × MV)} {o' : Obj} (todo' : List Tm), H4 ca = some (.D (.v kvs') o') → H4 td = some (.L ((init ++ todo').map Tm.enc)) → Keep (fun b => b = ca ∨ b = td) H3 H4 → (∀ k m, dget kvs' k = some m → ∃ c, m = .int c) →
        (∀ k c, dget kvs (.i k) = some (.int c) → ∃ c, dget kvs' (.i k) = some (.int c)) → (∀ k ∈ t.vars, (∃ c, dget kvs' (.i k) = some (.int c)) ∨ ∃ x ∈ todo', k ∈ x.vars) → kvs'.length + sumT todo' ≤ kvs.length + t.nodes → sumT todo' < t.nodes → G .next ⟨[some tm.enc, some (.ref ca), some (.ref td), some t.enc], H4⟩ := by
      intro H4 kvs' o' todo' a2 a3 a4 a5 a6 a7 a8 a9
      have ap := sumT_append init todo'
      refine hG.next _ ⟨sumT (init ++ todo'), by (first | lia | omega), .mk a2 a3 (k3.trans a4) a5 (fun k hk => ?_) (by (first | lia | omega)) rfl⟩
      rcases hv k hk with ⟨c, h⟩ | ⟨x, hx, h⟩
      · exact .inl (a6 k c h)
      · rcases List.mem_append.mp hx with hx | hx
        · exact .inr ⟨x, List.mem_append_left _ hx, h⟩
        · cases List.mem_singleton.mp hx
          exact (a7 k h).imp id fun ⟨x, hx, h⟩ => ⟨x, List.mem_append_right _ hx, h⟩
    walk_at "s"
    cases hS : t.isS with
    | true =>
      have hen := Tm.enc_s hS
      have sa' := sumT_args hS
      refine ⟨_, ixE0 hen, _, .eq .str, .no (by kernel_rfl!) ?_⟩
      walk_at "s"
      refine ⟨_, ixE0 hen, _, .eq .str, .yes (by kernel_rfl!) ?_⟩
      walk_at "s"
      refine ⟨_, .mk ht3 rfl, _, ixE2 hen, _, .mk ht3 (by rw [List.length_map]; (first | lia | omega)) (by rw [List.length_map]; have := t.args_len; (first | lia | omega)), ?_⟩
      refine next t.args.reverse (set_at hs3 ds) ?_ kd all (fun _ c h => ⟨c, h⟩) (fun k hk => .inr ((rev_vars hS).mpr hk)) (by (first | lia | omega)) (by (first | lia | omega))
      rw [MH.set_self, List.map_append, List.map_reverse]
    | false =>
      rcases Tm.leaf hS with ⟨k, hxk⟩ | ⟨s, z, hen, s1, s2, hv', hc⟩
      · have hen := congrArg Tm.enc hxk
        refine ⟨_, ixE0 hen, _, .eq .str, .yes (by kernel_rfl!) ?_⟩
        walk_at "s"
        refine ⟨_, .mk hs3 rfl, _, ixE1 hen, .mk hs3 (.v .i) ?_⟩
        have hc : ∃ c : Int, (dget kvs (.i k)).getD (.int 0) = .int c := by
          cases q : dget kvs (.i k) with
          | none => exact ⟨0, rfl⟩
          | some m => exact all _ m q
        obtain ⟨c, hc⟩ := hc
        rw [hc]
        refine ⟨_, .add, _, ixE1 hen, _, _, .dict hs3 .i (by (first | lia | omega)), fun o' => ?_⟩
        refine next [] (MH.set_self ..) (set_at (by rw [List.append_nil]; exact ht3) ds.symm) ks (fun j m h => ?_) (fun j c' h => ?_) (fun j hj => .inl ?_) ?_ np
        · by_cases z : j = .i k
          · rw [z, dget_put_self] at h; exact ⟨_, (Option.some.inj h).symm⟩
          · rw [dget_put_ne z] at h; exact all j m h
        · by_cases z : j = k
          · rw [z, dget_put_self]; exact ⟨_, rfl⟩
          · rw [dget_put_ne fun e => z (SK.i.inj e)]; exact ⟨c', h⟩
        · rw [hxk] at hj; cases List.mem_singleton.mp hj
          exact ⟨_, dget_put_self⟩
        · have := dput_len kvs (.i k) (.int (c + 1)); rw [sumT]; (first | lia | omega)
      · refine ⟨_, ixE0 hen, _, .eq .str, .no s1 ?_⟩
        walk_at "s"
        refine ⟨_, ixE0 hen, _, .eq .str, .no s2 ?_⟩
        exact next [] hs3 (by rw [List.append_nil]; exact ht3) (.refl ..) all (fun _ c h => ⟨c, h⟩) (fun j hj => by rw [hv'] at hj; cases hj) (by rw [sumT]; (first | lia | omega)) np
end
section
variable {X : Ctx} {fa : Nat → Addr} {tk : Nat → Tok} {d : Nat}
structure Rc where
  first : Str
  cnt : Int
  last : Int
  fc : Int
  lc : Int
noncomputable def Rc.cell (k : Int) (kd : Str) (slot : Int) (u : Bool) (r : Rc) : Cell := .A 7 [some (.int k), some (.str kd), some (.int slot), some (.str r.first), some (.bool u), some (.int r.last), some (.int r.cnt), some (.int r.fc), some (.int r.lc)]
noncomputable abbrev No : Addr → Prop := fun _ => False
theorem Keep.fresh {H0 H : MH} (k : Keep No H0 H) {a : Addr} {c : Cell} (h : H0 a = none) : Keep No H0 (H.set a c) := ((k.mono fun _ z => z.elim).trans (.set (.inl (.inr rfl)))).off h
theorem Keep.new {H0 H : MH} (k : Keep No H0 H) {a : Addr} (h : H a = none) : H0 a = none := Classical.byContradiction fun z => k.dom _ z h
structure Sur (H0 H : MH) (sv inf : Addr) (ks : List Int) (ia : Int → Addr) (rc : Int → Rc) : Prop where
  keep : Keep No H0 H
  svc : H sv = some (.A 9 [some (.ref inf)])
  infos : ∃ kvs o, H inf = some (.D (.v kvs) o) ∧ kvs.map (·.1) = ks.map .i ∧ ∀ k ∈ ks, dget kvs (.i k) = some (.inst 7 (ia k))
  ninf : H0 inf = none
  ias : ∀ k ∈ ks, H (ia k) = some (Rc.cell k (Str.ofString "temp") 0 false (rc k)) ∧ H0 (ia k) = none
  nsv : H0 sv = none
  rng : ∀ k ∈ ks, 0 ≤ k ∧ k < 7
  nd : ks.Nodup
structure Fx (ch : Int → Int) (done : Int → Int → Prop) (gm : Int) (ks : List Int) (rc : Int → Rc) : Prop where
  all : ∀ k g, done k g → k ∈ ks ∧ (rc k).fc ≤ ch g ∧ ch g ≤ (rc k).lc ∧ g ≤ (rc k).last
  fst : ∀ k ∈ ks, ∃ g, done k g ∧ ch g = (rc k).fc
  lst : ∀ k ∈ ks, done k (rc k).last ∧ ch (rc k).last = (rc k).lc
  gm : ∀ k g, done k g → g ≤ gm
theorem Fx.meet {ch : Int → Int} {done : Int → Int → Prop} {gm g k : Int} {ks ks' : List Int} {rc rc' : Int → Rc} (f : Fx ch done gm ks rc) (mono : ∀ a b, a ≤ b → ch a ≤ ch b) (hg : gm ≤ g) (hks : ∀ j, j ∈ ks' ↔ j ∈ ks ∨ j = k) (ho : ∀ j, j ≠ k → rc' j = rc j) (h1 : (rc' k).last = g) (h2 : (rc' k).lc = ch g)
    (h3 : (k ∈ ks ∧ (rc' k).fc = (rc k).fc) ∨ (k ∉ ks ∧ (rc' k).fc = ch g)) : Fx ch (fun j g' => done j g' ∨ j = k ∧ g' = g) g ks' rc' := by
  have low : (rc' k).fc ≤ ch g := by
    rcases h3 with ⟨hk, e⟩ | ⟨_, e⟩
    · obtain ⟨g', a, b⟩ := f.fst k hk
      rw [e, ← b]; exact mono _ _ (Int.le_trans (f.gm _ _ a) hg)
    · rw [e]; exact Int.le_refl _
  refine ⟨fun j g' h => ?_, fun j hj => ?_, fun j hj => ?_, fun j g' h => h.elim (fun h => Int.le_trans (f.gm _ _ h) hg) fun h => Int.le_of_eq h.2⟩
  · rcases h with h | ⟨rfl, rfl⟩
    · obtain ⟨a, b, c, e⟩ := f.all j g' h
      by_cases z : j = k
      · subst z
        refine ⟨(hks j).mpr (.inl a), ?_, by rw [h2]; exact mono _ _ (Int.le_trans (f.gm _ _ h) hg), by rw [h1]; exact Int.le_trans (f.gm _ _ h) hg⟩
        exact h3.elim (fun h => by rw [h.2]; exact b) fun h => (h.1 a).elim
      · rw [ho j z]; exact ⟨(hks j).mpr (.inl a), b, c, e⟩
    · exact ⟨(hks j).mpr (.inr rfl), low, by rw [h2]; exact Int.le_refl _, by rw [h1]; exact Int.le_refl _⟩
  · by_cases z : j = k
    · subst z
      rcases h3 with ⟨hk, e⟩ | ⟨_, e⟩
      · obtain ⟨g', a, b⟩ := f.fst j hk
        exact ⟨g', .inl a, by rw [e]; exact b⟩
      · exact ⟨g, .inr ⟨rfl, rfl⟩, e.symm⟩
    · obtain ⟨g', a, b⟩ := f.fst j (((hks j).mp hj).resolve_right z)
      exact ⟨g', .inl a, by rw [ho j z]; exact b⟩
  · by_cases z : j = k
    · subst z; rw [h1, h2]; exact ⟨.inr ⟨rfl, rfl⟩, rfl⟩
    · obtain ⟨a, b⟩ := f.lst j (((hks j).mp hj).resolve_right z)
      rw [ho j z]; exact ⟨.inl a, b⟩
structure Svy (H0 H : MH) (sv inf : Addr) (ch : Int → Int) (done : Int → Int → Prop) (gm : Int) : Prop where
  ex : ∃ ks ia rc, Sur H0 H sv inf ks ia rc ∧ Fx ch done gm ks rc
theorem Sur.move {H0 H H' : MH} {sv inf : Addr} {ks : List Int} {ia : Int → Addr} {rc : Int → Rc} (s : Sur H0 H sv inf ks ia rc) (k : Keep No H H') : Sur H0 H' sv inf ks ia rc :=
  let ⟨kvs, o, a, b, c⟩ := s.infos; ⟨s.keep.trans k, k.at s.svc nofun, ⟨kvs, o, k.at a nofun, b, c⟩, s.ninf, fun j hj => ⟨k.at (s.ias j hj).1 nofun, (s.ias j hj).2⟩, s.nsv, s.rng, s.nd⟩
theorem Svy.move {H0 H H' : MH} {sv inf : Addr} {ch : Int → Int} {done : Int → Int → Prop} {gm : Int} (s : Svy H0 H sv inf ch done gm) (k : Keep No H H') : Svy H0 H' sv inf ch done gm := let ⟨ks, ia, rc, a, b⟩ := s.ex; ⟨ks, ia, rc, a.move k, b⟩
theorem rng_small {ks : List Int} (rng : ∀ k ∈ ks, 0 ≤ k ∧ k < 7) (nd : ks.Nodup) : ks.length ≤ 7 :=
  Nat.le_trans (nodup_le ks ((List.range 7).map fun (i : Nat) => (i : Int)) nd fun x hx => List.mem_map.mpr ⟨x.toNat, List.mem_range.mpr (by have := rng x hx; (first | lia | omega)), Int.toNat_of_nonneg (rng x hx).1⟩) (by decide)
noncomputable def upd {α : Type} (f : Int → α) (k : Int) (x : α) : Int → α := fun j => if j = k then x else f j
theorem upd_self {α : Type} {f : Int → α} {k : Int} {x : α} : upd f k x k = x := if_pos rfl
theorem upd_ne {α : Type} {f : Int → α} {k j : Int} {x : α} (h : j ≠ k) : upd f k x j = f j := if_neg h
theorem Sur.put {H0 H : MH} {sv inf : Addr} {ks : List Int} {ia : Int → Addr} {rc : Int → Rc} (s : Sur H0 H sv inf ks ia rc) {k : Int} (hk : k ∈ ks) (r : Rc) : Sur H0 (H.set (ia k) (Rc.cell k (Str.ofString "temp") 0 false r)) sv inf ks ia (upd rc k r) := by
  obtain ⟨kvs, o, a, b, c⟩ := s.infos
  obtain ⟨h1, h2⟩ := s.ias k hk
  refine ⟨s.keep.fresh h2, set_at s.svc (ne_cells s.svc h1 nofun), ⟨kvs, o, set_at a (ne_cells a h1 nofun), b, c⟩, s.ninf, fun j hj => ⟨?_, (s.ias j hj).2⟩, s.nsv, s.rng, s.nd⟩
  by_cases z : j = k
  · rw [z, upd_self]; exact MH.set_self ..
  · rw [upd_ne z]
    exact set_at (s.ias j hj).1 (ne_cells (s.ias j hj).1 h1 fun e => by unfold Rc.cell at e; cases e; exact z rfl)
noncomputable abbrev SW (inf : Addr) (H : MH) : Addr → Prop := fun b => b = inf ∨ ∃ l, H b = some (.A 7 l)
noncomputable def p4301_2 (X : Ctx) (d : Nat) (fa : Nat → Addr) : WS := wSeq (wAsgAttr X (wLoc 4) (wIdx (wAttr X (Str.ofString "infos") (wLoc 0)) (wLoc 1)) (Str.ofString "first_chunk")) wEnd
noncomputable def p4301_1 (X : Ctx) (d : Nat) (fa : Nat → Addr) : WS := wSeq (wAsgIdx (wCall X d (.ref (X.cls 7)) (wCons (wLoc 1) (wCons (wLoc 2) wNil))) (wAttr X (Str.ofString "infos") (wLoc 0)) (wLoc 1)) (p4301_2 X d fa)
noncomputable def p4301_6 (X : Ctx) (d : Nat) (fa : Nat → Addr) : WS := wSeq (wAsgAttr X (wLoc 4) (wLoc 6) (Str.ofString "last_chunk")) wEnd
noncomputable def p4301_5 (X : Ctx) (d : Nat) (fa : Nat → Addr) : WS := wSeq (wAsgAttr X (wLoc 3) (wLoc 6) (Str.ofString "last_goal")) (p4301_6 X d fa)
noncomputable def p4301_4 (X : Ctx) (d : Nat) (fa : Nat → Addr) : WS := wSeq (wAugAttr X (wLoc 6) (Str.ofString "count") .Add (wLoc 5)) (p4301_5 X d fa)
noncomputable def p4301_3 (X : Ctx) (d : Nat) (fa : Nat → Addr) : WS := wSeq (wAsg (wIdx (wAttr X (Str.ofString "infos") (wLoc 0)) (wLoc 1)) (wStore 6)) (p4301_4 X d fa)
noncomputable def p4301 (X : Ctx) (d : Nat) (fa : Nat → Addr) : WS := wSeq (wIf (wTCmp .NotIn (wLoc 1) (wAttr X (Str.ofString "infos") (wLoc 0))) (p4301_1 X d fa) wEnd) (p4301_3 X d fa)
theorem d4301 (ok : X.Ok) (cl : X.Cls) (pf : PF X fa tk) {q : Str} {dc pm co : Value} {L : Addr} : SS X d (fiOf (mkFd (fnOf 4301) q dc pm co) (nms 46) (fa 4301) L) (fnB (fnOf 4301)) (p4301 X d fa) :=
  have s0 : Slot (fiOf (mkFd (fnOf 4301) q dc pm co) (nms 46) (fa 4301) L) 0 (Str.ofString "self") := .loc (by rfl) (by kernel_rfl) (by decide)
  have s1 : Slot (fiOf (mkFd (fnOf 4301) q dc pm co) (nms 46) (fa 4301) L) 1 (Str.ofString "k") := .loc (by rfl) (by kernel_rfl) (by decide)
  have s2 : Slot (fiOf (mkFd (fnOf 4301) q dc pm co) (nms 46) (fa 4301) L) 2 (Str.ofString "first") := .loc (by rfl) (by kernel_rfl) (by decide)
  have s3 : Slot (fiOf (mkFd (fnOf 4301) q dc pm co) (nms 46) (fa 4301) L) 3 (Str.ofString "goal") := .loc (by rfl) (by kernel_rfl) (by decide)
  have s4 : Slot (fiOf (mkFd (fnOf 4301) q dc pm co) (nms 46) (fa 4301) L) 4 (Str.ofString "chunk") := .loc (by rfl) (by kernel_rfl) (by decide)
  have s5 : Slot (fiOf (mkFd (fnOf 4301) q dc pm co) (nms 46) (fa 4301) L) 5 (Str.ofString "count") := .loc (by rfl) (by kernel_rfl) (by decide)
  have s6 : Slot (fiOf (mkFd (fnOf 4301) q dc pm co) (nms 46) (fa 4301) L) 6 (Str.ofString "info") := .loc (by rfl) (by kernel_rfl) (by decide)
  have g_VarInfo : GlobV X (fiOf (mkFd (fnOf 4301) q dc pm co) (nms 46) (fa 4301) L) (Str.ofString "VarInfo") (.ref (X.cls 7)) := ⟨by kernel_rfl, pf.g 13 _ _ rfl, by decide⟩
  (SS.cons (SX.if (ST.cmp ok (SE.loc s1) (SE.attr ok cl (SE.loc s0))) (SS.cons (SX.asgIdx (SE.callF ok g_VarInfo (pf.kc 13 _ _ rfl) (SEs.cons (SE.loc s1) (SEs.cons (SE.loc s2) SEs.nil))) (SE.attr ok cl (SE.loc s0)) (SE.loc s1)) (SS.cons (SX.asgAttr ok cl (SE.loc s4) (SE.idx (SE.attr ok cl (SE.loc s0)) (SE.loc s1))) SS.nil)) SS.nil) (SS.cons (SX.asgName (SE.idx (SE.attr ok cl (SE.loc s0)) (SE.loc s1)) s6) (SS.cons (SX.augAttr ok cl (SE.loc s6) (SE.loc s5)) (SS.cons (SX.asgAttr ok cl (SE.loc s3) (SE.loc s6)) (SS.cons (SX.asgAttr ok cl (SE.loc s4) (SE.loc s6)) SS.nil)))))
theorem c4301 (ok : X.Ok) (cl : X.Cls) (pf : PF X fa tk) {H0 H : MH} {sv inf : Addr} {ch : Int → Int} {done : Int → Int → Prop} {gm k g c : Int} {f : Str} {Q : MV → MH → Prop} (s : Svy H0 H sv inf ch done gm) (mono : ∀ a b, a ≤ b → ch a ≤ ch b) (hk : 0 ≤ k ∧ k < 7) (hg : gm ≤ g)
    (K : ∀ H', Svy H0 H' sv inf ch (fun j g' => done j g' ∨ j = k ∧ g' = g) g → Keep (SW inf H) H H' → Q .none H') : CallsTo X (d + 3) (.ref (fa 4301)) [.inst 9 sv, .int k, .str f, .int g, .int (ch g), .int c] Q H := by
  obtain ⟨ks, ia, rc, s, fx⟩ := s.ex
  obtain ⟨kvs, o, hD, hkv, hd⟩ := s.infos
  have len : kvs.length ≤ 1000 := by
    have := congrArg List.length hkv
    rw [List.length_map, List.length_map] at this
    have := rng_small s.rng s.nd
    (first | lia | omega)
  obtain ⟨q, dc, pm, co, ff⟩ := pf.fn 46 _ _ _ rfl; refine callsTo_def ok ff (fun L => d4301 ok cl pf) rfl 1 ?_
  have tail : ∀ H1 ks ia rc, Sur H0 H1 sv inf ks ia rc → k ∈ ks → Fx ch (fun j g' => done j g' ∨ j = k ∧ g' = g) g ks (upd rc k ⟨(rc k).first, (rc k).cnt + c, g, (rc k).fc, ch g⟩) → (∀ c, Keep (SW inf H) H (H1.set (ia k) c)) → p4301_3 X (d + 2) fa (fun m σ => Q (retOf m) σ.H) ⟨[some (.inst 9 sv), some (.int k), some (.str f), some (.int g), some (.int (ch g)), some (.int c), none], H1⟩ := by
    intro H1 ks ia rc s hk fx kp
    obtain ⟨kvs, o, hD, hkv, hd⟩ := s.infos
    have hi := (s.ias k hk).1
    walk_at "s"
    refine ⟨_, .mk s.svc (ai9_infos pf) rfl, _, .dict hD .i (hd k hk), ?_⟩
    walk_at "s"
    refine ⟨_, .mk hi (ai7_count pf) rfl, _, .add, _, _, .mk hi (ai7_count pf) (ltB rfl), ?_⟩
    walk_at "s"
    refine ⟨_, _, .mk (MH.set_self ..) (ai7_last_goal pf) (ltB rfl), ?_⟩
    rw [MH.set_set]
    walk_at "s"
    refine ⟨_, _, .mk (MH.set_self ..) (ai7_last_chunk pf) (ltB rfl), ?_⟩
    rw [MH.set_set]
    exact K _ ⟨ks, ia, _, s.put hk ⟨(rc k).first, (rc k).cnt + c, g, (rc k).fc, ch g⟩, fx⟩ (kp _)
  walk_at "s"
  refine ⟨_, .mk s.svc (ai9_infos pf) rfl, _, .nmem (.dict hD), .neg (fun hn => ?_) fun hn => ?_⟩
  · have nk : k ∉ ks := fun h => hn (by rw [hkv]; exact List.mem_map_of_mem h)
    walk_at "s"
    refine c4000 ok cl pf fun a na => ⟨_, .mk (set_at s.svc (ne_new s.svc na)) (ai9_infos pf) rfl, _, _, .dict (set_at hD (ne_new hD na)) .i len, fun o' => ?_⟩
    have ai := ne_new hD na
    have as := ne_new s.svc na
    have is := ne_cells s.svc hD nofun
    have n0 := s.keep.new na
    have new : ∀ (r : Rc) {H1 : MH}, H1 = ((H.set a (Rc.cell k (Str.ofString "temp") 0 false r)).set inf (.D (.v (dput kvs (.i k) (.inst 7 a))) o')) → Sur H0 H1 sv inf (ks ++ [k]) (upd ia k a) (upd rc k r) := by
      rintro r H1 rfl
      refine ⟨(s.keep.fresh n0).fresh s.ninf, set_at (set_at s.svc as) is, ⟨_, _, MH.set_self .., ?_, fun j hj => ?_⟩, s.ninf, fun j hj => ?_, s.nsv, fun j hj => (List.mem_append.mp hj).elim (s.rng j) fun h => by cases List.mem_singleton.mp h; exact hk, ?_⟩
      · unfold dput
        rw [if_neg, List.map_append, List.map_append, hkv]; rfl
        intro h
        obtain ⟨p, hp, e⟩ := List.any_eq_true.mp h
        exact hn (of_decide_eq_true e ▸ List.mem_map_of_mem hp)
      · by_cases z : j = k
        · rw [z, dget_put_self, upd_self]
        · rw [dget_put_ne fun e => z (SK.i.inj e), upd_ne z]
          exact hd j ((List.mem_append.mp hj).resolve_right fun h => z (List.mem_singleton.mp h))
      · by_cases z : j = k
        · rw [z, upd_self, upd_self]; exact ⟨set_at (MH.set_self ..) ai.symm, n0⟩
        · rw [upd_ne z, upd_ne z]
          obtain ⟨h1, h2⟩ := s.ias j ((List.mem_append.mp hj).resolve_right fun h => z (List.mem_singleton.mp h))
          exact ⟨set_at (set_at h1 (ne_new h1 na)) (ne_cells h1 hD nofun), h2⟩
      · rw [List.nodup_append]
        exact ⟨s.nd, nodup1, fun x hx y hy e => nk (by cases List.mem_singleton.mp hy; exact e ▸ hx)⟩
    have s1 := new ⟨f, 0, -1, 0, 0⟩ rfl
    have ha : ((H.set a (Rc.cell k (Str.ofString "temp") 0 false ⟨f, 0, -1, 0, 0⟩)).set inf (.D (.v (dput kvs (.i k) (.inst 7 a))) o')) a = some (Rc.cell k (Str.ofString "temp") 0 false ⟨f, 0, -1, 0, 0⟩) := set_at (MH.set_self ..) ai.symm
    walk_at "s"
    refine ⟨_, .mk s1.svc (ai9_infos pf) rfl, _, .dict (MH.set_self ..) .i dget_put_self, _, _, .mk ha (ai7_first_chunk pf) (ltB rfl), ?_⟩
    have s2 := s1.put (List.mem_append_right _ (.head _)) ⟨f, 0, -1, ch g, 0⟩
    rw [upd_self] at s2
    refine tail _ _ _ _ s2 (List.mem_append_right _ (.head _)) (fx.meet mono hg (fun j => List.mem_append.trans (or_congr Iff.rfl List.mem_singleton)) (fun j z => by rw [upd_ne z, upd_ne z, upd_ne z]) (by rw [upd_self]) (by rw [upd_self]) (.inr ⟨nk, by rw [upd_self, upd_self]⟩)) fun c => ?_
    rw [upd_self]
    exact ((((Keep.set (.inr na)).trans (.set (.inl (.inl (.inl rfl))))).trans (.set (.inl (.inr rfl)))).trans (.set (.inl (.inr rfl)))).off na
  · have ik : k ∈ ks := by
      rw [hkv] at hn
      obtain ⟨j, hj, e⟩ := List.mem_map.mp hn
      exact SK.i.inj e ▸ hj
    exact tail H ks ia rc s ik (fx.meet mono hg (fun j => ⟨.inl, fun h => h.elim id fun e => e ▸ ik⟩) (fun j z => upd_ne z) (by rw [upd_self]) (by rw [upd_self]) (.inl ⟨ik, by rw [upd_self]⟩)) fun c => .set (.inl (.inr ⟨_, (s.ias k ik).1⟩))
theorem Svy.le {H0 H : MH} {sv inf : Addr} {ch : Int → Int} {done : Int → Int → Prop} {gm g : Int} (s : Svy H0 H sv inf ch done gm) (h : gm ≤ g) : Svy H0 H sv inf ch done g :=
  let ⟨ks, ia, rc, a, b⟩ := s.ex; ⟨ks, ia, rc, a, b.all, b.fst, b.lst, fun k g' h' => Int.le_trans (b.gm k g' h') h⟩
theorem Svy.iff {H0 H : MH} {sv inf : Addr} {ch : Int → Int} {done done' : Int → Int → Prop} {gm : Int} (s : Svy H0 H sv inf ch done gm) (h : ∀ j g, done j g ↔ done' j g) : Svy H0 H sv inf ch done' gm :=
  (show done = done' from funext fun j => funext fun g => propext (h j g)) ▸ s
inductive MT (H0 : MH) (sv inf : Addr) (ch : Int → Int) (dn : Int → Int → Prop) (g : Int) (ts : List Tm) (pl : Str) (done : List Tm) : St → Prop
  | mk {H1 : MH} {x5 x6 x7 : Option MV} (s : Svy H0 H1 sv inf ch (fun j g' => dn j g' ∨ g' = g ∧ ∃ t ∈ done, j ∈ t.vars) g) : MT H0 sv inf ch dn g ts pl done ⟨[some (.inst 9 sv), some (.tup (ts.map Tm.enc)), some (.str pl), some (.int g), some (.int (ch g)), x5, x6, x7], H1⟩
inductive MU (H0 : MH) (va ca : Addr) (res : List Int) (kvs : List (SK × MV)) (o : Obj) (sv inf : Addr) (ch : Int → Int) (dn : Int → Int → Prop) (g : Int) (ts : List Tm) (pl : Str) (t : MV) (done : List Int) : St → Prop
  | mk {H1 : MH} {x7 : Option MV} (s : Svy H0 H1 sv inf ch (fun j g' => dn j g' ∨ g' = g ∧ j ∈ done) g) (hv : H1 va = some (.L (res.map .int))) (hc : H1 ca = some (.D (.v kvs) o)) : MU H0 va ca res kvs o sv inf ch dn g ts pl t done ⟨[some (.inst 9 sv), some (.tup (ts.map Tm.enc)), some (.str pl), some (.int g), some (.int (ch g)), some t, some (.ref ca), x7], H1⟩
noncomputable def p4302_2 (X : Ctx) (d : Nat) (fa : Nat → Addr) : WS := wSeq (wExpr (wMeth X d (mtab fa) (wLoc 0) (Str.ofString "meet") (wCons (wIdx (wLoc 5) (wConst (.int 1))) (wCons (wBin .Add (wLoc 2) (wConst (.str (Str.ofString "_arg")))) (wCons (wLoc 3) (wCons (wLoc 4) (wCons (wConst (.int 1)) wNil))))))) wEnd
noncomputable def p4302_5 (X : Ctx) (d : Nat) (fa : Nat → Addr) : WS := wSeq (wExpr (wMeth X d (mtab fa) (wLoc 0) (Str.ofString "meet") (wCons (wLoc 7) (wCons (wBin .Add (wLoc 2) (wConst (.str (Str.ofString "_struct")))) (wCons (wLoc 3) (wCons (wLoc 4) (wCons (wIdx (wLoc 6) (wLoc 7)) wNil))))))) wEnd
noncomputable def p4302_4 (X : Ctx) (d : Nat) (fa : Nat → Addr) : WS := wSeq (wFor (wSrc (wCall X d (.ref (fa 12)) (wCons (wLoc 5) wNil))) (wStore 7) (p4302_5 X d fa)) wEnd
noncomputable def p4302_3 (X : Ctx) (d : Nat) (fa : Nat → Addr) : WS := wSeq (wAsg (wCall X d (.ref (fa 14)) (wCons (wLoc 5) wNil)) (wStore 6)) (p4302_4 X d fa)
noncomputable def p4302_1 (X : Ctx) (d : Nat) (fa : Nat → Addr) : WS := wSeq (wIf (wTCmp .Eq (wIdx (wLoc 5) (wConst (.int 0))) (wConst (.str (Str.ofString "v")))) (p4302_2 X d fa) (p4302_3 X d fa)) wEnd
noncomputable def p4302 (X : Ctx) (d : Nat) (fa : Nat → Addr) : WS := wSeq (wFor (wSrc (wLoc 1)) (wStore 5) (p4302_1 X d fa)) wEnd
theorem d4302 (ok : X.Ok) (cl : X.Cls) (pf : PF X fa tk) {q : Str} {dc pm co : Value} {L : Addr} : SS X d (fiOf (mkFd (fnOf 4302) q dc pm co) (nms 47) (fa 4302) L) (fnB (fnOf 4302)) (p4302 X d fa) :=
  have s0 : Slot (fiOf (mkFd (fnOf 4302) q dc pm co) (nms 47) (fa 4302) L) 0 (Str.ofString "self") := .loc (by rfl) (by kernel_rfl) (by decide)
  have s1 : Slot (fiOf (mkFd (fnOf 4302) q dc pm co) (nms 47) (fa 4302) L) 1 (Str.ofString "terms") := .loc (by rfl) (by kernel_rfl) (by decide)
  have s2 : Slot (fiOf (mkFd (fnOf 4302) q dc pm co) (nms 47) (fa 4302) L) 2 (Str.ofString "place") := .loc (by rfl) (by kernel_rfl) (by decide)
  have s3 : Slot (fiOf (mkFd (fnOf 4302) q dc pm co) (nms 47) (fa 4302) L) 3 (Str.ofString "goal") := .loc (by rfl) (by kernel_rfl) (by decide)
  have s4 : Slot (fiOf (mkFd (fnOf 4302) q dc pm co) (nms 47) (fa 4302) L) 4 (Str.ofString "chunk") := .loc (by rfl) (by kernel_rfl) (by decide)
  have s5 : Slot (fiOf (mkFd (fnOf 4302) q dc pm co) (nms 47) (fa 4302) L) 5 (Str.ofString "term") := .loc (by rfl) (by kernel_rfl) (by decide)
  have s6 : Slot (fiOf (mkFd (fnOf 4302) q dc pm co) (nms 47) (fa 4302) L) 6 (Str.ofString "counts") := .loc (by rfl) (by kernel_rfl) (by decide)
  have s7 : Slot (fiOf (mkFd (fnOf 4302) q dc pm co) (nms 47) (fa 4302) L) 7 (Str.ofString "k") := .loc (by rfl) (by kernel_rfl) (by decide)
  have g_occurrences : GlobV X (fiOf (mkFd (fnOf 4302) q dc pm co) (nms 47) (fa 4302) L) (Str.ofString "occurrences") (.ref (fa 14)) := ⟨by kernel_rfl, pf.g 32 _ _ rfl, by decide⟩
  have g_variables : GlobV X (fiOf (mkFd (fnOf 4302) q dc pm co) (nms 47) (fa 4302) L) (Str.ofString "variables") (.ref (fa 12)) := ⟨by kernel_rfl, pf.g 39 _ _ rfl, by decide⟩
  (SS.cons (SX.for (SI.val ok (SE.loc s1)) (SAs.name s5) (SS.cons (SX.if (ST.cmp ok (SE.idx (SE.loc s5) SE.int) SE.str) (SS.cons (SX.expr (SE.meth ok pf.mt (SE.loc s0) (SEs.cons (SE.idx (SE.loc s5) SE.int) (SEs.cons (SE.bin (SE.loc s2) SE.str) (SEs.cons (SE.loc s3) (SEs.cons (SE.loc s4) (SEs.cons SE.int SEs.nil))))))) SS.nil) (SS.cons (SX.asgName (SE.callF ok g_occurrences (pf.kf 32 _ _ rfl) (SEs.cons (SE.loc s5) SEs.nil)) s6) (SS.cons (SX.for (SI.val ok (SE.callF ok g_variables (pf.kf 39 _ _ rfl) (SEs.cons (SE.loc s5) SEs.nil))) (SAs.name s7) (SS.cons (SX.expr (SE.meth ok pf.mt (SE.loc s0) (SEs.cons (SE.loc s7) (SEs.cons (SE.bin (SE.loc s2) SE.str) (SEs.cons (SE.loc s3) (SEs.cons (SE.loc s4) (SEs.cons (SE.idx (SE.loc s6) (SE.loc s7)) SEs.nil))))))) SS.nil)) SS.nil))) SS.nil)) SS.nil)
theorem c4302 (ok : X.Ok) (cl : X.Cls) (pf : PF X fa tk) {H0 H : MH} {sv inf : Addr} {ch : Int → Int} {dn : Int → Int → Prop} {gm g : Int} {pl : Str} {ts : List Tm} {Q : MV → MH → Prop} (s : Svy H0 H sv inf ch dn gm) (mono : ∀ a b, a ≤ b → ch a ≤ ch b) (hg : gm ≤ g) (hpl : pl.length ≤ 100) (hts : ∀ t ∈ ts, t.nodes ≤ 7 ∧ ∀ k ∈ t.vars, 0 ≤ k ∧ k < 7)
    (K : ∀ H', Svy H0 H' sv inf ch (fun j g' => dn j g' ∨ g' = g ∧ ∃ t ∈ ts, j ∈ t.vars) g → Q .none H') : CallsTo X (d + 4) (.ref (fa 4302)) [.inst 9 sv, .tup (ts.map Tm.enc), .str pl, .int g, .int (ch g)] Q H := by
  obtain ⟨q, dc, pm, co, ff⟩ := pf.fn 47 _ _ _ rfl; refine callsTo_def ok ff (fun L => d4302 ok cl pf) rfl 3 ?_
  walk_at "s"
  refine ⟨_, .tup, .inv Tm.enc (fun done rest σ => ts = done ++ rest ∧ MT H0 sv inf ch dn g ts pl done σ) ⟨rfl, .mk ((s.le hg).iff fun j g' => ⟨.inl, fun h => h.elim id fun ⟨_, _, h, _⟩ => nomatch h⟩)⟩ ?_ ?_ rfl⟩
  · rintro done x rest σ G ⟨hd, ⟨s⟩⟩ hG
    rename_i H1 x5 x6 x7
    refine ⟨trivial, ?_⟩
    obtain ⟨nx, hx⟩ := hts x (by rw [hd]; exact List.mem_append_right _ (.head _))
    have hd' : ts = done ++ [x] ++ rest := by rw [hd, List.append_assoc]; rfl
    have next : ∀ {H2 : MH} {x6 x7 : Option MV}, Svy H0 H2 sv inf ch (fun j g' => (dn j g' ∨ g' = g ∧ ∃ t ∈ done, j ∈ t.vars) ∨ g' = g ∧ j ∈ x.vars) g → G .next ⟨[some (.inst 9 sv), some (.tup (ts.map Tm.enc)), some (.str pl), some (.int g), some (.int (ch g)), some x.enc, x6, x7], H2⟩ := fun s =>
      hG.next _ ⟨hd', .mk (s.iff fun j g' => (or_assoc).trans (or_congr Iff.rfl ⟨fun h => h.elim (fun ⟨a, t, b, c⟩ => ⟨a, t, List.mem_append_left _ b, c⟩) fun ⟨a, b⟩ => ⟨a, x, List.mem_append_right _ (.head _), b⟩,
        fun ⟨a, t, b, c⟩ => (List.mem_append.mp b).imp (fun b => ⟨a, t, b, c⟩) fun b => by cases List.mem_singleton.mp b; exact ⟨a, c⟩⟩))⟩
    obtain ⟨ks, ia, rc, s1, _⟩ := s.ex
    walk_at "s"
    by_cases hv : ∃ k, x = .v k
    · obtain ⟨k, hv⟩ := hv
      have hen := congrArg Tm.enc hv
      refine ⟨_, ixE0 hen, _, .eq .str, .yes (by kernel_rfl!) ?_⟩
      walk_at "s"
      exact ⟨_, .mk mt9_meet s1.svc, _, ixE1 hen, _, .cat (Nat.add_le_add hpl (leB (b := 900) (by kernel_rfl!))), c4301 ok cl pf s mono (hx k (hv ▸ .head _)) (Int.le_refl _) fun H2 s2 _ => next (s2.iff fun j g' => or_congr Iff.rfl ⟨fun ⟨a, b⟩ => ⟨b, by rw [hv, a]; exact .head _⟩, fun ⟨a, b⟩ => ⟨by rw [hv] at b; exact List.mem_singleton.mp b, a⟩⟩)⟩
    · obtain ⟨s0, r0, hen, hh⟩ : ∃ s0 r0, x.enc = .tup (.str s0 :: r0) ∧ (s0 == Str.ofString "v") = false := by
        cases x with
        | v k => exact (hv ⟨k, rfl⟩).elim
        | s1 f x => exact ⟨_, _, rfl, by kernel_rfl!⟩
        | s2 f x y => exact ⟨_, _, rfl, by kernel_rfl!⟩
        | a x => exact ⟨_, _, rfl, by kernel_rfl!⟩
        | i x => exact ⟨_, _, rfl, by kernel_rfl!⟩
      refine ⟨_, ixE0 hen, _, .eq .str, .no hh ?_⟩
      walk_at "s"
      refine c14 ok cl pf nx fun H2 ca kvs o nca hca hcv k2 => ?_
      walk_at "s"
      refine c12 ok cl pf nx fun H3 va res nva hva hvv hvl k3 => ?_
      have s3 := (s.move k2).move k3
      obtain ⟨kvi, oi, hi, _⟩ := s1.infos
      have ci : ca ≠ inf := (ne_new hi nca).symm
      refine ⟨_, .lst hva, .inv MV.int (fun d r σ => res = d ++ r ∧ MU H0 va ca res kvs o sv inf ch (fun j g' => dn j g' ∨ g' = g ∧ ∃ t ∈ done, j ∈ t.vars) g ts pl x.enc d σ) ⟨rfl, .mk (s3.iff fun j g' => ⟨.inl, fun h => h.elim id fun h => nomatch h.2⟩) hva (k3.at hca nofun)⟩ ?_ ?_ rfl⟩
      · rintro d k r σ G2 ⟨hr, ⟨s4, hv4, hc4⟩⟩ hG2
        rename_i H4 x7
        refine ⟨hv4, ?_⟩
        have kin : k ∈ x.vars := (hvv k).mpr (by rw [hr]; exact List.mem_append_right _ (.head _))
        obtain ⟨c, hc⟩ := hcv k kin
        obtain ⟨ks4, ia4, rc4, s5, _⟩ := s4.ex
        walk_at "s"
        refine ⟨_, .mk mt9_meet s5.svc, _, .cat (Nat.add_le_add hpl (leB (b := 900) (by kernel_rfl!))), _, .dict hc4 .i hc, c4301 ok cl pf s4 mono (hx k kin) (Int.le_refl _) fun H5 s6 k6 => hG2.next _ ⟨by rw [hr, List.append_assoc]; rfl, .mk (s6.iff fun j g' => ?_) (k6.at hv4 fun z => ?_) (k6.at hc4 fun z => ?_)⟩⟩
        · refine or_assoc.trans (or_congr Iff.rfl ⟨fun h => h.elim (fun h => ⟨h.1, List.mem_append_left _ h.2⟩) fun h => ⟨h.2, h.1 ▸ List.mem_append_right _ (.head _)⟩, fun ⟨a, b⟩ => (List.mem_append.mp b).imp (⟨a, ·⟩) fun b => ⟨List.mem_singleton.mp b, a⟩⟩)
        · rcases z with rfl | ⟨l, z⟩
          · obtain ⟨_, _, z, _⟩ := s5.infos; rw [hv4] at z; cases z
          · exact nomatch hv4.symm.trans z
        · rcases z with z | ⟨l, z⟩
          · exact ci z
          · exact nomatch hc4.symm.trans z
      · rintro d σ ⟨hr, ⟨s4, hv4, hc4⟩⟩
        rw [List.append_nil] at hr; subst hr
        exact ⟨hv4, next (s4.iff fun j g' => or_congr Iff.rfl (and_congr Iff.rfl (hvv j).symm))⟩
  · rintro done σ ⟨hd, ⟨s⟩⟩
    rw [List.append_nil] at hd; subst hd
    exact ⟨trivial, K _ s⟩
end
section
variable {X : Ctx} {fa : Nat → Addr} {tk : Nat → Tok} {d : Nat}
theorem rng_idx {n : Nat} {i : Int} (h : 0 ≤ i) (h' : i < n) : i.toNat < n := by (first | lia | omega)
structure Ord (ks : List Int) (kd : Int → Kd) (la : Int → Int) (order : List Int) : Prop where
  nd : order.Nodup
  mem : ∀ k, k ∈ order ↔ k ∈ ks ∧ kd k = .perm
  pw : order.Pairwise fun a b => la b ≤ la a
theorem Ord.insert {done : List Int} {kd : Int → Kd} {la : Int → Int} {A B : List Int} {k : Int} (o : Ord done kd la (A ++ B)) (nk : k ∉ done) (hp : kd k = .perm) (hb : ∀ b ∈ B, la b < la k) (ha : ∀ a ∈ A, la k ≤ la a) : Ord (done ++ [k]) kd la (A ++ k :: B) := by
  have nk' : k ∉ A ++ B := fun h => nk ((o.mem k).mp h).1
  have pm : (A ++ k :: B).Perm (k :: (A ++ B)) := List.perm_middle
  obtain ⟨p1, p2, p3⟩ := List.pairwise_append.mp o.pw
  refine ⟨pm.nodup_iff.mpr (List.nodup_cons.mpr ⟨nk', o.nd⟩), fun j => ?_, List.pairwise_append.mpr ⟨p1, List.pairwise_cons.mpr ⟨fun b hb' => Int.le_of_lt (hb b hb'), p2⟩, fun a ha' b hb' => ?_⟩⟩
  · rw [pm.mem_iff, List.mem_cons, o.mem j, List.mem_append, List.mem_singleton]
    exact ⟨fun h => h.elim (fun e => ⟨.inr e, e ▸ hp⟩) fun h => ⟨.inl h.1, h.2⟩, fun ⟨a, b⟩ => a.elim (fun a => .inr ⟨a, b⟩) .inl⟩
  · rcases List.mem_cons.mp hb' with rfl | hb'
    · exact ha a ha'
    · exact p3 a ha' b hb'
theorem Ord.skip {done : List Int} {kd : Int → Kd} {la : Int → Int} {A : List Int} {k : Int} (o : Ord done kd la A) (hp : kd k ≠ .perm) : Ord (done ++ [k]) kd la A :=
  ⟨o.nd, fun j => (o.mem j).trans ⟨fun h => ⟨List.mem_append_left _ h.1, h.2⟩, fun ⟨a, b⟩ => ⟨(List.mem_append.mp a).resolve_right fun h => hp (List.mem_singleton.mp h ▸ b), b⟩⟩, o.pw⟩
inductive SO (H : MH) (inf oa sa : Addr) (ns : List Int) (kd : Int → Kd) (la : Int → Int) (done : List Int) : St → Prop
  | mk {H1 : MH} {order : List Int} {x2 x3 x4 : Option MV} (ho : H1 oa = some (.L (order.map .int))) (hs : H1 sa = some (.L (ns.map .int))) (k : Keep No H H1) (o : Ord done kd la order) : SO H inf oa sa ns kd la done ⟨[some (.ref inf), some (.ref oa), x2, x3, x4], H1⟩
inductive SJ (inf oa : Addr) (H1 : MH) (la : Int → Int) (ia : Int → Addr) (k : Int) (order : List Int) : Nat → St → Prop
  | mk {A B : List Int} {n : Nat} (e : order = A ++ B) (hb : ∀ b ∈ B, la b < la k) (en : n = A.length) : SJ inf oa H1 la ia k order n ⟨[some (.ref inf), some (.ref oa), some (.int k), some (.inst 7 (ia k)), some (.int A.length)], H1⟩
noncomputable def p35_6 (X : Ctx) (d : Nat) (fa : Nat → Addr) : WS := wSeq (wAugName 4 .Sub (wConst (.int 1))) wEnd
noncomputable def p35_7 (X : Ctx) (d : Nat) (fa : Nat → Addr) : WS := wSeq (wExpr (wMethB "list" bInsert (wLoc 1) (wCons (wLoc 4) (wCons (wLoc 2) wNil)))) wEnd
noncomputable def p35_5 (X : Ctx) (d : Nat) (fa : Nat → Addr) : WS := wSeq (wWhile (wTAnd (wTCmp .Gt (wLoc 4) (wConst (.int 0))) (wTAnd (wTCmp .Lt (wAttr X (Str.ofString "last_goal") (wIdx (wLoc 0) (wIdx (wLoc 1) (wBin .Sub (wLoc 4) (wConst (.int 1)))))) (wAttr X (Str.ofString "last_goal") (wLoc 3))) (wB true))) (p35_6 X d fa)) (p35_7 X d fa)
noncomputable def p35_4 (X : Ctx) (d : Nat) (fa : Nat → Addr) : WS := wSeq (wAsg (wOB bLen (wCons (wLoc 1) wNil)) (wStore 4)) (p35_5 X d fa)
noncomputable def p35_3 (X : Ctx) (d : Nat) (fa : Nat → Addr) : WS := wSeq (wIf (wTCmp .Eq (wAttr X (Str.ofString "kind") (wLoc 3)) (wConst (.str (Str.ofString "perm")))) (p35_4 X d fa) wEnd) wEnd
noncomputable def p35_2 (X : Ctx) (d : Nat) (fa : Nat → Addr) : WS := wSeq (wAsg (wIdx (wLoc 0) (wLoc 2)) (wStore 3)) (p35_3 X d fa)
noncomputable def p35_8 (X : Ctx) (d : Nat) (fa : Nat → Addr) : WS := wSeq (wRet (wLoc 1)) wEnd
noncomputable def p35_1 (X : Ctx) (d : Nat) (fa : Nat → Addr) : WS := wSeq (wFor (wSrc (wOB bSorted (wCons (wLoc 0) wNil))) (wStore 2) (p35_2 X d fa)) (p35_8 X d fa)
noncomputable def p35 (X : Ctx) (d : Nat) (fa : Nat → Addr) : WS := wSeq (wAsg (wList wNil) (wStore 1)) (p35_1 X d fa)
theorem d35 (ok : X.Ok) (cl : X.Cls) (pf : PF X fa tk) {q : Str} {dc pm co : Value} {L : Addr} : SS X d (fiOf (mkFd (fnOf 35) q dc pm co) (nms 11) (fa 35) L) (fnB (fnOf 35)) (p35 X d fa) :=
  have s0 : Slot (fiOf (mkFd (fnOf 35) q dc pm co) (nms 11) (fa 35) L) 0 (Str.ofString "infos") := .loc (by rfl) (by kernel_rfl) (by decide)
  have s1 : Slot (fiOf (mkFd (fnOf 35) q dc pm co) (nms 11) (fa 35) L) 1 (Str.ofString "order") := .loc (by rfl) (by kernel_rfl) (by decide)
  have s2 : Slot (fiOf (mkFd (fnOf 35) q dc pm co) (nms 11) (fa 35) L) 2 (Str.ofString "k") := .loc (by rfl) (by kernel_rfl) (by decide)
  have s3 : Slot (fiOf (mkFd (fnOf 35) q dc pm co) (nms 11) (fa 35) L) 3 (Str.ofString "info") := .loc (by rfl) (by kernel_rfl) (by decide)
  have s4 : Slot (fiOf (mkFd (fnOf 35) q dc pm co) (nms 11) (fa 35) L) 4 (Str.ofString "at") := .loc (by rfl) (by kernel_rfl) (by decide)
  have g_len : GlobV X (fiOf (mkFd (fnOf 35) q dc pm co) (nms 11) (fa 35) L) (Str.ofString "len") (.builtin "len") := ⟨by kernel_rfl, pf.g 30 _ _ rfl, by decide⟩
  have g_sorted : GlobV X (fiOf (mkFd (fnOf 35) q dc pm co) (nms 11) (fa 35) L) (Str.ofString "sorted") (.builtin "sorted") := ⟨by kernel_rfl, pf.g 37 _ _ rfl, by decide⟩
  (SS.cons (SX.asgName (SE.list SEs.nil) s1) (SS.cons (SX.for (SI.val ok (SE.callB ok g_sorted (SEs.cons (SE.loc s0) SEs.nil) (okSorted ok))) (SAs.name s2) (SS.cons (SX.asgName (SE.idx (SE.loc s0) (SE.loc s2)) s3) (SS.cons (SX.if (ST.cmp ok (SE.attr ok cl (SE.loc s3)) SE.str) (SS.cons (SX.asgName (SE.callB ok g_len (SEs.cons (SE.loc s1) SEs.nil) okLen) s4) (SS.cons (SX.while (ST.bool (SA.and (ST.cmp ok (SE.loc s4) SE.int) (SA.and (ST.cmp ok (SE.attr ok cl (SE.idx (SE.loc s0) (SE.idx (SE.loc s1) (SE.bin (SE.loc s4) SE.int)))) (SE.attr ok cl (SE.loc s3))) SA.nil_and))) (SS.cons (SX.augName s4 SE.int) SS.nil)) (SS.cons (SX.expr (SE.methB (SE.loc s1) (SEs.cons (SE.loc s4) (SEs.cons (SE.loc s2) SEs.nil)) (by decide) PySem.F.plainAttrs_list PySem.F.slot_list_insert PySem.F.type_list_insert okInsert (by rfl) (by rfl) (by rfl))) SS.nil))) SS.nil) SS.nil))) (SS.cons (SX.ret (SE.loc s1)) SS.nil)))
theorem c35 (ok : X.Ok) (cl : X.Cls) (pf : PF X fa tk) {H : MH} {inf : Addr} {kvs : List (SK × MV)} {o : Obj} {ks : List Int} {ia : Int → Addr} {kd : Int → Kd} {la : Int → Int} {Q : MV → MH → Prop} (hD : H inf = some (.D (.v kvs) o)) (hkv : kvs.map (·.1) = ks.map .i) (hd : ∀ k ∈ ks, dget kvs (.i k) = some (.inst 7 (ia k)))
    (hi : ∀ k ∈ ks, ∃ x0 x2 x3 x4 x6 x7 x8, H (ia k) = some (.A 7 [x0, some (.str (kd k).str), x2, x3, x4, some (.int (la k)), x6, x7, x8])) (rng : ∀ k ∈ ks, 0 ≤ k ∧ k < 7) (nd : ks.Nodup)
    (K : ∀ H' oa order, H oa = none → H' oa = some (.L (order.map .int)) → Ord ks kd la order → Keep No H H' → Q (.ref oa) H') : CallsTo X (d + 1) (.ref (fa 35)) [.ref inf] Q H := by
  obtain ⟨q, dc, pm, co, ff⟩ := pf.fn 11 _ _ _ rfl; refine callsTo_def ok ff (fun L => d35 ok cl pf) rfl 4 ?_
  walk_at "s"
  intro oa no
  have hD1 := set_at (c' := .L []) hD (ne_new hD no)
  have k1 : Keep No H (H.set oa (.L [])) := .set (.inr no)
  have l7 := rng_small rng nd
  walk_at "s"
  refine .dict hD1 hkv (by (first | lia | omega)) fun ns pm _ sa nsa => ⟨_, .lst (MH.set_self ..), .inv MV.int (fun done rest σ => ns = done ++ rest ∧ SO H inf oa sa ns kd la done σ) ⟨rfl, .mk (order := []) (set_at (MH.set_self ..) (ne_new (MH.set_self ..) nsa)) (MH.set_self ..) (k1.fresh (k1.new nsa)) ⟨List.nodup_nil, fun _ => ⟨nofun, fun h => nomatch h.1⟩, .nil⟩⟩ ?_ ?_ rfl⟩
  · rintro done k rest σ G ⟨hr, ⟨ho, hs, kp, od⟩⟩ hG
    rename_i H1 order x2 x3 x4
    refine ⟨hs, ?_⟩
    have os : oa ≠ sa := ne_new (H.set_self oa (.L [])) nsa
    have kin : k ∈ ks := pm.mem_iff.mp (by rw [hr]; exact List.mem_append_right _ (.head _))
    have nk : k ∉ done := by
      have := pm.nodup_iff.mpr nd
      rw [hr] at this
      exact fun h => (List.nodup_append.mp this).2.2 k h k (.head _) rfl
    have hr' : ns = done ++ [k] ++ rest := by rw [hr, List.append_assoc]; rfl
    have dks : ∀ j ∈ done, j ∈ ks := fun j hj => pm.mem_iff.mp (by rw [hr]; exact List.mem_append_left _ hj)
    have ol : order.length ≤ 7 := rng_small (fun j hj => rng j (dks j ((od.mem j).mp hj).1)) od.nd
    have hD2 := kp.at hD nofun
    obtain ⟨x0, y2, y3, y4, y6, y7, y8, hk⟩ := hi k kin
    have hk := kp.at hk nofun
    walk_at "s"
    refine ⟨_, .dict hD2 .i (hd k kin), ?_⟩
    walk_at "s"
    refine ⟨_, .mk hk (ai7_kind pf) rfl, _, .eq .str, ?_⟩
    rw [kd_perm]
    refine .dec (fun hp => ?_) fun hp => hG.next _ ⟨hr', .mk ho hs kp (od.skip hp)⟩
    walk_at "s"
    refine .list ho (by rw [List.length_map]; (first | lia | omega)) ?_
    rw [List.length_map]
    walk_at "s"
    refine .inv (SJ inf oa H1 la ia k order) (.mk (B := []) (List.append_nil _).symm nofun rfl) ?_
    rintro n σ G2 ⟨rfl, hb, rfl⟩ hG2
    rename_i A B
    rw [List.length_append] at ol
    have fin : (∀ a ∈ A, la k ≤ la a) → p35_7 X d fa (seqQ wEnd G) ⟨[some (.ref inf), some (.ref oa), some (.int k), some (.inst 7 (ia k)), some (.int A.length)], H1⟩ := by
      intro ha
      walk_at "s"
      refine ⟨_, .mk ho rfl, .mk ho (by rw [List.length_map, List.length_append]; (first | lia | omega)) (Int.natCast_nonneg _) (by rw [List.length_map, List.length_append]; (first | lia | omega)) ?_⟩
      refine hG.next _ ⟨hr', .mk (order := A ++ k :: B) ?_ (set_at hs os.symm) (kp.fresh no) (od.insert nk hp hb ha)⟩
      rw [MH.set_self, Int.toNat_natCast, List.map_append, List.map_append, show A.length = (A.map MV.int).length from (List.length_map _).symm, List.take_left, List.drop_left]; rfl
    walk_at "s"
    refine ⟨_, .gt, .dec (fun h => ?_) fun h => .f ?_⟩
    · obtain ⟨A', x, rfl⟩ := last_of (Int.ofNat_lt.mp h)
      rw [List.length_append, List.length_singleton] at ol
      have e0 : (((A' ++ [x]).length : Nat) : Int) - 1 = (A'.length : Nat) := by rw [List.length_append, List.length_singleton]; (first | lia | omega)
      have xin : x ∈ ks := dks x ((od.mem x).mp (List.mem_append_left _ (List.mem_append_right _ (.head _)))).1
      obtain ⟨z0, z2, z3, z4, z6, z7, z8, hx⟩ := hi x xin
      have hx := kp.at hx nofun
      have hg : ((A' ++ [x] ++ B).map MV.int)[A'.length]? = some (.int x) := get_map (by rw [List.append_assoc, List.getElem?_append_right (Nat.le_refl _), Nat.sub_self]; rfl)
      refine ⟨_, .sub, ?_⟩
      rw [e0]
      refine ⟨_, .list ho (.nat hg (by (first | lia | omega))), _, .dict hD2 .i (hd x xin), _, .mk hx (ai7_last_goal pf) rfl, _, .mk hk (ai7_last_goal pf) rfl, _, .lt, .dec (fun hlt => .t ?_) fun hge => .f ?_⟩
      · walk_at "s"
        refine ⟨_, .sub, ?_⟩
        rw [e0]
        exact hG2.next _ ⟨A'.length, by rw [List.length_append]; exact Nat.lt_succ_self _, .mk (B := x :: B) (by rw [List.append_assoc]; rfl) (fun b hb' => (List.mem_cons.mp hb').elim (fun e => e ▸ hlt) (hb b)) rfl⟩
      · refine fin fun a ha => ?_
        rcases List.mem_append.mp ha with ha | ha
        · exact Int.le_trans (Int.not_lt.mp hge) ((List.pairwise_append.mp (List.pairwise_append.mp od.pw).1).2.2 a ha x (.head _))
        · cases List.mem_singleton.mp ha; exact Int.not_lt.mp hge
    · cases A with
      | nil => exact fin nofun
      | cons a r => exact absurd (Int.ofNat_lt.mpr (Nat.succ_pos r.length)) h
  · rintro done σ ⟨hr, ⟨ho, hs, kp, od⟩⟩
    rw [List.append_nil] at hr; subst hr
    exact ⟨hs, K _ oa _ no ho ⟨od.nd, fun k => (od.mem k).trans (and_congr pm.mem_iff Iff.rfl), od.pw⟩ kp⟩
end
section
variable {X : Ctx} {fa : Nat → Addr} {tk : Nat → Tok} {d : Nat}
noncomputable def chg (gs : List Gl) (g : Int) : Int := (chk gs g.toNat : Nat)
theorem chk_mono (gs : List Gl) {i j : Nat} (h : i ≤ j) : chk gs i ≤ chk gs j := by
  induction h with
  | refl => exact Nat.le_refl _
  | @step m _ ih =>
    refine Nat.le_trans ih ?_
    unfold chk
    rw [List.take_add_one, List.filter_append, List.length_append]
    exact Nat.le_add_right ..
theorem chg_mono (gs : List Gl) : ∀ a b, a ≤ b → chg gs a ≤ chg gs b := fun a b h => Int.ofNat_le.mpr (chk_mono gs (by (first | lia | omega)))
noncomputable def occN (hs : List Tm) (gs : List Gl) (i : Nat) (k g : Int) : Prop := (g = -1 ∧ HV hs k) ∨ ∃ (j : Nat) (gl : Gl), j < i ∧ gs[j]? = some gl ∧ g = j ∧ gl.V k
inductive Gl.Fit : Gl → Prop
  | call {x y : Tm} (hx : x.nodes ≤ 7) (hy : y.nodes ≤ 7) (h : ∀ k, k ∈ x.vars ∨ k ∈ y.vars → 0 ≤ k ∧ k < 7) : Fit (.call x y)
  | blt {x y : Tm} (hx : x.nodes ≤ 7) (hy : y.nodes ≤ 7) (h : ∀ k, k ∈ x.vars ∨ k ∈ y.vars → 0 ≤ k ∧ k < 7) : Fit (.blt x y)
  | cut : Fit .cut
  | num {n : Nat} {k : Int} (hn : n < 3) (h : 0 ≤ k ∧ k < 7) : Fit (.num n k)
theorem two_vars {x y : Tm} {k : Int} : (k ∈ x.vars ∨ k ∈ y.vars) ↔ ∃ t ∈ [x, y], k ∈ t.vars :=
  ⟨fun h => h.elim (fun h => ⟨x, .head _, h⟩) fun h => ⟨y, .tail _ (.head _), h⟩, fun ⟨t, ht, h⟩ => by
    rcases List.mem_cons.mp ht with rfl | ht
    · exact .inl h
    · cases List.mem_singleton.mp ht; exact .inr h⟩
theorem Gl.Fit.terms {g : Gl} (f : g.Fit) : ∀ t ∈ g.terms, t.nodes ≤ 7 ∧ ∀ k ∈ t.vars, 0 ≤ k ∧ k < 7 := by
  have two : ∀ {x y : Tm}, x.nodes ≤ 7 → y.nodes ≤ 7 → (∀ k, k ∈ x.vars ∨ k ∈ y.vars → 0 ≤ k ∧ k < 7) → ∀ t ∈ [x, y], t.nodes ≤ 7 ∧ ∀ k ∈ t.vars, 0 ≤ k ∧ k < 7 := fun hx hy h t ht => by
    rcases List.mem_cons.mp ht with rfl | ht
    · exact ⟨hx, fun k hk => h k (.inl hk)⟩
    · cases List.mem_singleton.mp ht; exact ⟨hy, fun k hk => h k (.inr hk)⟩
  cases f with
  | call hx hy h => exact two hx hy h
  | blt hx hy h => exact two hx hy h
  | cut => exact nofun
  | num _ _ => exact nofun
theorem Gl.Fit.rng {g : Gl} (f : g.Fit) {k : Int} (h : g.V k) : 0 ≤ k ∧ k < 7 := by
  cases f with
  | call _ _ f => exact f k h
  | blt _ _ f => exact f k h
  | cut => exact h.elim
  | num _ f => cases h; exact f
theorem Gl.Fit.v_iff {g : Gl} (f : g.Fit) (k : Int) : g.V k ↔ (0 ≤ g.special ∧ k = g.special) ∨ ∃ t ∈ g.terms, k ∈ t.vars := by
  have no : ¬ (0 : Int) ≤ -1 := by decide
  cases f with
  | call _ _ _ => exact two_vars.trans ⟨.inr, fun h => h.elim (fun h => (no h.1).elim) id⟩
  | blt _ _ _ => exact two_vars.trans ⟨.inr, fun h => h.elim (fun h => (no h.1).elim) id⟩
  | cut => exact ⟨fun h => h.elim, fun h => h.elim (fun h => (no h.1).elim) fun ⟨_, h, _⟩ => nomatch h⟩
  | num _ h => exact ⟨fun e => .inl ⟨h.1, e⟩, fun h => h.elim (·.2) fun ⟨_, h, _⟩ => nomatch h⟩
theorem occN_step {hs : List Tm} {gs : List Gl} {i : Nat} {gl : Gl} (h : gs[i]? = some gl) (k g : Int) : occN hs gs (i + 1) k g ↔ occN hs gs i k g ∨ g = i ∧ gl.V k := by
  unfold occN
  refine Iff.trans (or_congr Iff.rfl ⟨?_, ?_⟩) or_assoc.symm
  · rintro ⟨j, gl', hj, h', e, v⟩
    by_cases z : j = i
    · subst z; rw [h] at h'; cases h'; exact .inr ⟨e, v⟩
    · exact .inl ⟨j, gl', by (first | lia | omega), h', e, v⟩
  · rintro (⟨j, gl', hj, h', e, v⟩ | ⟨e, v⟩)
    · exact ⟨j, gl', by (first | lia | omega), h', e, v⟩
    · exact ⟨i, gl, by (first | lia | omega), h, e, v⟩
theorem range_at {n : Nat} {pre post : List Nat} {x : Nat} (h : List.range n = pre ++ x :: post) : x = pre.length ∧ x < n := by
  have h1 : (List.range n)[pre.length]? = some x := by rw [h, List.getElem?_append_right (Nat.le_refl _), Nat.sub_self]; rfl
  obtain ⟨h2, h3⟩ := List.getElem?_eq_some_iff.mp h1
  rw [List.getElem_range] at h3
  rw [List.length_range] at h2
  exact ⟨h3.symm, h3 ▸ h2⟩
structure Ifs (H0 H : MH) (inf : Addr) (kvs : List (SK × MV)) (o : Obj) (ks : List Int) (ia : Int → Addr) (rc : Int → Rc) (kd : Int → Str) (sl : Int → Int) (un : Int → Bool) : Prop where
  keep : Keep No H0 H
  hD : H inf = some (.D (.v kvs) o)
  ias : ∀ k ∈ ks, H (ia k) = some (Rc.cell k (kd k) (sl k) (un k) (rc k)) ∧ H0 (ia k) = none
theorem Ifs.put {H0 H : MH} {inf : Addr} {kvs : List (SK × MV)} {o : Obj} {ks : List Int} {ia : Int → Addr} {rc : Int → Rc} {kd : Int → Str} {sl : Int → Int} {un : Int → Bool} (s : Ifs H0 H inf kvs o ks ia rc kd sl un) {k : Int} (hk : k ∈ ks) (a : Str) (b : Int) (c : Bool) :
    Ifs H0 (H.set (ia k) (Rc.cell k a b c (rc k))) inf kvs o ks ia rc (upd kd k a) (upd sl k b) (upd un k c) := by
  obtain ⟨h1, h2⟩ := s.ias k hk
  refine ⟨s.keep.fresh h2, set_at s.hD (ne_cells s.hD h1 nofun), fun j hj => ⟨?_, (s.ias j hj).2⟩⟩
  by_cases z : j = k
  · rw [z, upd_self, upd_self, upd_self]; exact MH.set_self ..
  · rw [upd_ne z, upd_ne z, upd_ne z]
    exact set_at (s.ias j hj).1 (ne_cells (s.ias j hj).1 h1 fun e => by unfold Rc.cell at e; cases e; exact z rfl)
theorem Ifs.lst {H0 H : MH} {inf : Addr} {kvs : List (SK × MV)} {o : Obj} {ks : List Int} {ia : Int → Addr} {rc : Int → Rc} {kd : Int → Str} {sl : Int → Int} {un : Int → Bool} (s : Ifs H0 H inf kvs o ks ia rc kd sl un) {a : Addr} {c : Cell} (h : H0 a = none) (n1 : a ≠ inf) (n2 : ∀ k ∈ ks, a ≠ ia k) : Ifs H0 (H.set a c) inf kvs o ks ia rc kd sl un :=
  ⟨s.keep.fresh h, set_at s.hD n1.symm, fun k hk => ⟨set_at (s.ias k hk).1 (n2 k hk).symm, (s.ias k hk).2⟩⟩
noncomputable def LvOk (order : List Int) (la : Int → Int) (i : Nat) (m : Nat) : Prop := m ≤ order.length ∧ ∀ (p : Nat) (k : Int), order[p]? = some k → (p < m ↔ (i : Int) < la k)
structure PlanOk (E : Em) (hs : List Tm) (gs : List Gl) (lv : List Int) (nd : Bool) (n : Int) (order : List Int) : Prop where
  ks : ∀ k g, occN hs gs gs.length k g → k ∈ E.ks
  temp : ∀ k ∈ E.ks, (E.vi k).kind = .temp → ∀ g g', occN hs gs gs.length k g → occN hs gs gs.length k g' → chg gs g = chg gs g'
  perm : ∀ k ∈ E.ks, (E.vi k).kind = .perm → ∃ g g', occN hs gs gs.length k g ∧ occN hs gs gs.length k g' ∧ chg gs g < chg gs g'
  last : ∀ k ∈ E.ks, occN hs gs gs.length k (E.vi k).last ∧ ∀ g, occN hs gs gs.length k g → g ≤ (E.vi k).last
  ord : Ord E.ks (fun k => (E.vi k).kind) (fun k => (E.vi k).last) order
  slot : ∀ (p : Nat) (k : Int), order[p]? = some k → (E.vi k).slot = (p : Int) + 1
  n : n = order.length
  lv : ∀ i, i < gs.length → ∃ m, lv[i]? = some ((m : Nat) : Int) ∧ LvOk order (fun k => (E.vi k).last) i m
  nd : nd = true ↔ ∃ (j : Nat) (gl : Gl), j < gs.length ∧ gs[j]? = some gl ∧ gl.isC = true ∧ j + 1 < gs.length
noncomputable def kdo (rc : Int → Rc) (k : Int) : Kd := kdOf (rc k).cnt (rc k).lc (rc k).fc
structure Bas (H0 : MH) (kA ga ca inf : Addr) (kvs : List (SK × MV)) (o : Obj) (ks : List Int) (ia : Int → Addr) (rc : Int → Rc) (hs : List Tm) (gs : List Gl) : Prop where
  hk : ∃ f, H0 kA = some (.A 6 [f, some (.tup (hs.map Tm.enc)), some (.ref ga), some (.int 7)])
  hga : H0 ga = some (.L (gs.map Gl.enc))
  hkv : kvs.map (·.1) = ks.map .i
  hd : ∀ k ∈ ks, dget kvs (.i k) = some (.inst 7 (ia k))
  rng : ∀ k ∈ ks, 0 ≤ k ∧ k < 7
  nd : ks.Nodup
  fx : Fx (chg gs) (occN hs gs gs.length) ((gs.length : Int) - 1) ks rc
  hn : hs.length ≤ 3
  gn : gs.length ≤ 6
  hok : ∀ t ∈ hs, t.nodes ≤ 7 ∧ ∀ k ∈ t.vars, 0 ≤ k ∧ k < 7
  gok : ∀ (i : Nat) (g : Gl), gs[i]? = some g → g.Fit
noncomputable def PlanQ (kA ga : Addr) (hs : List Tm) (gs : List Gl) (Q : MV → MH → Prop) : Prop := ∀ H' (E : Em) lv nd n la order, E.kA = kA → Pin E hs gs lv nd n ga la H' → PlanOk E hs gs lv nd n order → Q (.inst 8 E.pA) H'
theorem Gl.Fit.ok {E : Em} {g : Gl} (f : g.Fit) (h : ∀ k, g.V k → k ∈ E.ks) : g.Ok E := by
  cases f with
  | call a b _ => exact .call a b h
  | blt a b _ => exact .blt a b h
  | cut => exact .cut
  | num a _ => exact .num a (h _ rfl)
section
variable {H0 H : MH} {kA ga ca inf oa : Addr} {kvs : List (SK × MV)} {o : Obj} {ks : List Int} {ia : Int → Addr} {rc : Int → Rc} {hs : List Tm} {gs : List Gl} {kd : Int → Str} {sl : Int → Int} {un : Int → Bool} {order : List Int} {nd : Bool} {Q : MV → MH → Prop} {x3 x5 x6 x7 x9 x11 x13 : Option MV}
theorem Bas.done (B : Bas H0 kA ga ca inf kvs o ks ia rc hs gs) (s : Ifs H0 H inf kvs o ks ia rc kd sl un) (hkd : ∀ k ∈ ks, kd k = (kdo rc k).str) (od : Ord ks (kdo rc) (fun k => (rc k).last) order) (hsl : ∀ (p : Nat) (k : Int), order[p]? = some k → sl k = (p : Int) + 1)
    (hnd : nd = true ↔ ∃ (j : Nat) (gl : Gl), j < gs.length ∧ gs[j]? = some gl ∧ gl.isC = true ∧ j + 1 < gs.length) {pA lva : Addr} {ms : List Nat} {x1 : MV} (hp : H pA = some (.A 8 [some (.ref inf), some x1, some (.bool nd), some (.int order.length), some (.ref lva)])) (hl : H lva = some (.L ((ms.map fun (m : Nat) => (m : Int)).map .int)))
    (lm : ms.length = gs.length) (lok : ∀ i, i < gs.length → ∃ m, ms[i]? = some m ∧ LvOk order (fun k => (rc k).last) i m) (K : PlanQ kA ga hs gs Q) : Q (.inst 8 pA) H := by
  obtain ⟨f, hk⟩ := B.hk
  have hocc : ∀ k g, occN hs gs gs.length k g → k ∈ ks := fun k g h => (B.fx.all k g h).1
  have hgv : ∀ (i : Nat) (g : Gl), gs[i]? = some g → ∀ k, g.V k → k ∈ ks := fun i g h k hk => hocc k i (.inr ⟨i, g, (List.getElem?_eq_some_iff.mp h).1, h, rfl, hk⟩)
  refine K H ⟨pA, kA, pA, pA, pA, pA, inf, ia, ks, fun k => ⟨kdo rc k, sl k, (rc k).last, un k⟩⟩ (ms.map fun (m : Nat) => (m : Int)) nd order.length lva order rfl
    ⟨⟨_, hp⟩, hl, ⟨f, s.keep.at hk nofun⟩, s.keep.at B.hga nofun, ⟨kvs, o, s.hD, B.hd⟩, fun k hk => ⟨_, _, _, _, _, (s.ias k hk).1.trans (by rw [hkd k hk]; rfl)⟩, B.rng, B.hn, fun t ht => ⟨(B.hok t ht).1, fun k hk => hocc k (-1) (.inl ⟨rfl, t, ht, hk⟩)⟩, B.gn, fun i g h => (B.gok i g h).ok (hgv i g h), by rw [List.length_map, lm]⟩
    ⟨hocc, fun k hk h g g' a b => ?_, fun k hk h => ?_, fun k hk => ⟨(B.fx.lst k hk).1, fun g h => (B.fx.all k g h).2.2.2⟩, od, hsl, rfl, fun i hi => ?_, hnd⟩
  · have le : (rc k).lc ≤ (rc k).fc := by
      unfold kdo kdOf at h
      dsimp only at h
      split at h
      · cases h
      · split at h
        · cases h
        · (first | lia | omega)
    have := B.fx.all k g a
    have := B.fx.all k g' b
    (first | lia | omega)
  · have lt : (rc k).lc > (rc k).fc := by
      unfold kdo kdOf at h
      dsimp only at h
      split at h
      · cases h
      · split at h
        · assumption
        · cases h
    obtain ⟨g, a, b⟩ := B.fx.fst k hk
    obtain ⟨a', b'⟩ := B.fx.lst k hk
    exact ⟨g, _, a, a', by rw [b, b']; exact lt⟩
  · obtain ⟨m, a, b⟩ := lok i hi
    exact ⟨m, by rw [List.getElem?_map, a]; rfl, b⟩
end
noncomputable def p36_9 (X : Ctx) (d : Nat) (fa : Nat → Addr) : WS := wSeq (wExpr (wMeth X d (mtab fa) (wLoc 3) (Str.ofString "meet") (wCons (wLoc 7) (wCons (wConst (.str (Str.ofString "special"))) (wCons (wLoc 5) (wCons (wIdx (wLoc 2) (wLoc 5)) (wCons (wConst (.int 1)) wNil))))))) wEnd
noncomputable def p36_12 (X : Ctx) (d : Nat) (fa : Nat → Addr) : WS := wSeq (wAsg (wConst (.bool true)) (wStore 4)) wEnd
noncomputable def p36_11 (X : Ctx) (d : Nat) (fa : Nat → Addr) : WS := wSeq (wIf (wTAnd (wTCmp .Eq (wIdx (wLoc 6) (wConst (.int 0))) (wConst (.str (Str.ofString "call")))) (wTAnd (wTCmp .Lt (wBin .Add (wLoc 5) (wConst (.int 1))) (wOB bLen (wCons (wLoc 1) wNil))) (wB true))) (p36_12 X d fa) wEnd) wEnd
noncomputable def p36_10 (X : Ctx) (d : Nat) (fa : Nat → Addr) : WS := wSeq (wExpr (wMeth X d (mtab fa) (wLoc 3) (Str.ofString "terms") (wCons (wCall X d (.ref (fa 27)) (wCons (wLoc 6) wNil)) (wCons (wConst (.str (Str.ofString "goal"))) (wCons (wLoc 5) (wCons (wIdx (wLoc 2) (wLoc 5)) wNil)))))) (p36_11 X d fa)
noncomputable def p36_8 (X : Ctx) (d : Nat) (fa : Nat → Addr) : WS := wSeq (wIf (wTCmp .GtE (wLoc 7) (wConst (.int 0))) (p36_9 X d fa) wEnd) (p36_10 X d fa)
noncomputable def p36_7 (X : Ctx) (d : Nat) (fa : Nat → Addr) : WS := wSeq (wAsg (wCall X d (.ref (fa 28)) (wCons (wLoc 6) wNil)) (wStore 7)) (p36_8 X d fa)
noncomputable def p36_6 (X : Ctx) (d : Nat) (fa : Nat → Addr) : WS := wSeq (wAsg (wIdx (wLoc 1) (wLoc 5)) (wStore 6)) (p36_7 X d fa)
noncomputable def p36_15 (X : Ctx) (d : Nat) (fa : Nat → Addr) : WS := wSeq (wAsgAttr X (wCall X d (.ref (fa 34)) (wCons (wIdx (wLoc 8) (wLoc 9)) wNil)) (wIdx (wLoc 8) (wLoc 9)) (Str.ofString "kind")) wEnd
noncomputable def p36_20 (X : Ctx) (d : Nat) (fa : Nat → Addr) : WS := wSeq (wAsgAttr X (wCmp .Eq (wAttr X (Str.ofString "first") (wLoc 11)) (wConst (.str (Str.ofString "goal_arg")))) (wLoc 11) (Str.ofString "unsafe")) wEnd
noncomputable def p36_19 (X : Ctx) (d : Nat) (fa : Nat → Addr) : WS := wSeq (wAsgAttr X (wBin .Add (wLoc 5) (wConst (.int 1))) (wLoc 11) (Str.ofString "slot")) (p36_20 X d fa)
noncomputable def p36_18 (X : Ctx) (d : Nat) (fa : Nat → Addr) : WS := wSeq (wAsg (wIdx (wLoc 8) (wIdx (wLoc 10) (wLoc 5))) (wStore 11)) (p36_19 X d fa)
noncomputable def p36_25 (X : Ctx) (d : Nat) (fa : Nat → Addr) : WS := wSeq (wAugName 13 .Add (wConst (.int 1))) wEnd
noncomputable def p36_26 (X : Ctx) (d : Nat) (fa : Nat → Addr) : WS := wSeq (wExpr (wMethB "list" bAppend (wLoc 12) (wCons (wLoc 13) wNil))) wEnd
noncomputable def p36_24 (X : Ctx) (d : Nat) (fa : Nat → Addr) : WS := wSeq (wWhile (wTAnd (wTCmp .Lt (wLoc 13) (wOB bLen (wCons (wLoc 10) wNil))) (wTAnd (wTCmp .Gt (wAttr X (Str.ofString "last_goal") (wIdx (wLoc 8) (wIdx (wLoc 10) (wLoc 13)))) (wLoc 5)) (wB true))) (p36_25 X d fa)) (p36_26 X d fa)
noncomputable def p36_23 (X : Ctx) (d : Nat) (fa : Nat → Addr) : WS := wSeq (wAsg (wConst (.int 0)) (wStore 13)) (p36_24 X d fa)
noncomputable def p36_27 (X : Ctx) (d : Nat) (fa : Nat → Addr) : WS := wSeq (wRet (wCall X d (.ref (X.cls 8)) (wCons (wLoc 8) (wCons (wLoc 2) (wCons (wLoc 4) (wCons (wOB bLen (wCons (wLoc 10) wNil)) (wCons (wLoc 12) wNil))))))) wEnd
noncomputable def p36_22 (X : Ctx) (d : Nat) (fa : Nat → Addr) : WS := wSeq (wFor (wRng (wOB bLen (wCons (wLoc 1) wNil))) (wStore 5) (p36_23 X d fa)) (p36_27 X d fa)
noncomputable def p36_21 (X : Ctx) (d : Nat) (fa : Nat → Addr) : WS := wSeq (wAsg (wList wNil) (wStore 12)) (p36_22 X d fa)
noncomputable def p36_17 (X : Ctx) (d : Nat) (fa : Nat → Addr) : WS := wSeq (wFor (wRng (wOB bLen (wCons (wLoc 10) wNil))) (wStore 5) (p36_18 X d fa)) (p36_21 X d fa)
noncomputable def p36_16 (X : Ctx) (d : Nat) (fa : Nat → Addr) : WS := wSeq (wAsg (wCall X d (.ref (fa 35)) (wCons (wLoc 8) wNil)) (wStore 10)) (p36_17 X d fa)
noncomputable def p36_14 (X : Ctx) (d : Nat) (fa : Nat → Addr) : WS := wSeq (wFor (wSrc (wLoc 8)) (wStore 9) (p36_15 X d fa)) (p36_16 X d fa)
noncomputable def p36_13 (X : Ctx) (d : Nat) (fa : Nat → Addr) : WS := wSeq (wAsg (wAttr X (Str.ofString "infos") (wLoc 3)) (wStore 8)) (p36_14 X d fa)
noncomputable def p36_5 (X : Ctx) (d : Nat) (fa : Nat → Addr) : WS := wSeq (wFor (wRng (wOB bLen (wCons (wLoc 1) wNil))) (wStore 5) (p36_6 X d fa)) (p36_13 X d fa)
noncomputable def p36_4 (X : Ctx) (d : Nat) (fa : Nat → Addr) : WS := wSeq (wAsg (wConst (.bool false)) (wStore 4)) (p36_5 X d fa)
noncomputable def p36_3 (X : Ctx) (d : Nat) (fa : Nat → Addr) : WS := wSeq (wExpr (wMeth X d (mtab fa) (wLoc 3) (Str.ofString "terms") (wCons (wAttr X (Str.ofString "args") (wLoc 0)) (wCons (wConst (.str (Str.ofString "head"))) (wCons (wNeg (wConst (.int 1))) (wCons (wConst (.int 0)) wNil)))))) (p36_4 X d fa)
noncomputable def p36_2 (X : Ctx) (d : Nat) (fa : Nat → Addr) : WS := wSeq (wAsg (wCall X d (.ref (X.cls 9)) wNil) (wStore 3)) (p36_3 X d fa)
noncomputable def p36_1 (X : Ctx) (d : Nat) (fa : Nat → Addr) : WS := wSeq (wAsg (wCall X d (.ref (fa 32)) (wCons (wLoc 1) wNil)) (wStore 2)) (p36_2 X d fa)
noncomputable def p36 (X : Ctx) (d : Nat) (fa : Nat → Addr) : WS := wSeq (wAsg (wAttr X (Str.ofString "goals") (wLoc 0)) (wStore 1)) (p36_1 X d fa)
theorem d36 (ok : X.Ok) (cl : X.Cls) (pf : PF X fa tk) {q : Str} {dc pm co : Value} {L : Addr} : SS X d (fiOf (mkFd (fnOf 36) q dc pm co) (nms 12) (fa 36) L) (fnB (fnOf 36)) (p36 X d fa) :=
  have s0 : Slot (fiOf (mkFd (fnOf 36) q dc pm co) (nms 12) (fa 36) L) 0 (Str.ofString "kernel") := .loc (by rfl) (by kernel_rfl) (by decide)
  have s1 : Slot (fiOf (mkFd (fnOf 36) q dc pm co) (nms 12) (fa 36) L) 1 (Str.ofString "goals") := .loc (by rfl) (by kernel_rfl) (by decide)
  have s2 : Slot (fiOf (mkFd (fnOf 36) q dc pm co) (nms 12) (fa 36) L) 2 (Str.ofString "chunks") := .loc (by rfl) (by kernel_rfl) (by decide)
  have s3 : Slot (fiOf (mkFd (fnOf 36) q dc pm co) (nms 12) (fa 36) L) 3 (Str.ofString "survey") := .loc (by rfl) (by kernel_rfl) (by decide)
  have s4 : Slot (fiOf (mkFd (fnOf 36) q dc pm co) (nms 12) (fa 36) L) 4 (Str.ofString "needs_env") := .loc (by rfl) (by kernel_rfl) (by decide)
  have s5 : Slot (fiOf (mkFd (fnOf 36) q dc pm co) (nms 12) (fa 36) L) 5 (Str.ofString "at") := .loc (by rfl) (by kernel_rfl) (by decide)
  have s6 : Slot (fiOf (mkFd (fnOf 36) q dc pm co) (nms 12) (fa 36) L) 6 (Str.ofString "goal") := .loc (by rfl) (by kernel_rfl) (by decide)
  have s7 : Slot (fiOf (mkFd (fnOf 36) q dc pm co) (nms 12) (fa 36) L) 7 (Str.ofString "special") := .loc (by rfl) (by kernel_rfl) (by decide)
  have s8 : Slot (fiOf (mkFd (fnOf 36) q dc pm co) (nms 12) (fa 36) L) 8 (Str.ofString "infos") := .loc (by rfl) (by kernel_rfl) (by decide)
  have s9 : Slot (fiOf (mkFd (fnOf 36) q dc pm co) (nms 12) (fa 36) L) 9 (Str.ofString "k") := .loc (by rfl) (by kernel_rfl) (by decide)
  have s10 : Slot (fiOf (mkFd (fnOf 36) q dc pm co) (nms 12) (fa 36) L) 10 (Str.ofString "order") := .loc (by rfl) (by kernel_rfl) (by decide)
  have s11 : Slot (fiOf (mkFd (fnOf 36) q dc pm co) (nms 12) (fa 36) L) 11 (Str.ofString "info") := .loc (by rfl) (by kernel_rfl) (by decide)
  have s12 : Slot (fiOf (mkFd (fnOf 36) q dc pm co) (nms 12) (fa 36) L) 12 (Str.ofString "live_after") := .loc (by rfl) (by kernel_rfl) (by decide)
  have s13 : Slot (fiOf (mkFd (fnOf 36) q dc pm co) (nms 12) (fa 36) L) 13 (Str.ofString "live") := .loc (by rfl) (by kernel_rfl) (by decide)
  have g_ClausePlan : GlobV X (fiOf (mkFd (fnOf 36) q dc pm co) (nms 12) (fa 36) L) (Str.ofString "ClausePlan") (.ref (X.cls 8)) := ⟨by kernel_rfl, pf.g 1 _ _ rfl, by decide⟩
  have g_Survey : GlobV X (fiOf (mkFd (fnOf 36) q dc pm co) (nms 12) (fa 36) L) (Str.ofString "Survey") (.ref (X.cls 9)) := ⟨by kernel_rfl, pf.g 11 _ _ rfl, by decide⟩
  have g_chunk_numbers : GlobV X (fiOf (mkFd (fnOf 36) q dc pm co) (nms 12) (fa 36) L) (Str.ofString "chunk_numbers") (.ref (fa 32)) := ⟨by kernel_rfl, pf.g 21 _ _ rfl, by decide⟩
  have g_goal_special : GlobV X (fiOf (mkFd (fnOf 36) q dc pm co) (nms 12) (fa 36) L) (Str.ofString "goal_special") (.ref (fa 28)) := ⟨by kernel_rfl, pf.g 26 _ _ rfl, by decide⟩
  have g_goal_terms : GlobV X (fiOf (mkFd (fnOf 36) q dc pm co) (nms 12) (fa 36) L) (Str.ofString "goal_terms") (.ref (fa 27)) := ⟨by kernel_rfl, pf.g 27 _ _ rfl, by decide⟩
  have g_kind_of : GlobV X (fiOf (mkFd (fnOf 36) q dc pm co) (nms 12) (fa 36) L) (Str.ofString "kind_of") (.ref (fa 34)) := ⟨by kernel_rfl, pf.g 29 _ _ rfl, by decide⟩
  have g_len : GlobV X (fiOf (mkFd (fnOf 36) q dc pm co) (nms 12) (fa 36) L) (Str.ofString "len") (.builtin "len") := ⟨by kernel_rfl, pf.g 30 _ _ rfl, by decide⟩
  have g_range : GlobV X (fiOf (mkFd (fnOf 36) q dc pm co) (nms 12) (fa 36) L) (Str.ofString "range") (.type "range") := ⟨by kernel_rfl, pf.g 33 _ _ rfl, by decide⟩
  have g_slot_order : GlobV X (fiOf (mkFd (fnOf 36) q dc pm co) (nms 12) (fa 36) L) (Str.ofString "slot_order") (.ref (fa 35)) := ⟨by kernel_rfl, pf.g 36 _ _ rfl, by decide⟩
  (SS.cons (SX.asgName (SE.attr ok cl (SE.loc s0)) s1) (SS.cons (SX.asgName (SE.callF ok g_chunk_numbers (pf.kf 21 _ _ rfl) (SEs.cons (SE.loc s1) SEs.nil)) s2) (SS.cons (SX.asgName (SE.callF ok g_Survey (pf.kc 11 _ _ rfl) SEs.nil) s3) (SS.cons (SX.expr (SE.meth ok pf.mt (SE.loc s3) (SEs.cons (SE.attr ok cl (SE.loc s0)) (SEs.cons SE.str (SEs.cons (SE.neg SE.int) (SEs.cons SE.int SEs.nil)))))) (SS.cons (SX.asgName SE.bool s4) (SS.cons (SX.for (SI.range1 ok g_range (SE.callB ok g_len (SEs.cons (SE.loc s1) SEs.nil) okLen)) (SAs.name s5) (SS.cons (SX.asgName (SE.idx (SE.loc s1) (SE.loc s5)) s6) (SS.cons (SX.asgName (SE.callF ok g_goal_special (pf.kf 26 _ _ rfl) (SEs.cons (SE.loc s6) SEs.nil)) s7) (SS.cons (SX.if (ST.cmp ok (SE.loc s7) SE.int) (SS.cons (SX.expr (SE.meth ok pf.mt (SE.loc s3) (SEs.cons (SE.loc s7) (SEs.cons SE.str (SEs.cons (SE.loc s5) (SEs.cons (SE.idx (SE.loc s2) (SE.loc s5)) (SEs.cons SE.int SEs.nil))))))) SS.nil) SS.nil) (SS.cons (SX.expr (SE.meth ok pf.mt (SE.loc s3) (SEs.cons (SE.callF ok g_goal_terms (pf.kf 27 _ _ rfl) (SEs.cons (SE.loc s6) SEs.nil)) (SEs.cons SE.str (SEs.cons (SE.loc s5) (SEs.cons (SE.idx (SE.loc s2) (SE.loc s5)) SEs.nil)))))) (SS.cons (SX.if (ST.bool (SA.and (ST.cmp ok (SE.idx (SE.loc s6) SE.int) SE.str) (SA.and (ST.cmp ok (SE.bin (SE.loc s5) SE.int) (SE.callB ok g_len (SEs.cons (SE.loc s1) SEs.nil) okLen)) SA.nil_and))) (SS.cons (SX.asgName SE.bool s4) SS.nil) SS.nil) SS.nil)))))) (SS.cons (SX.asgName (SE.attr ok cl (SE.loc s3)) s8) (SS.cons (SX.for (SI.val ok (SE.loc s8)) (SAs.name s9) (SS.cons (SX.asgAttr ok cl (SE.callF ok g_kind_of (pf.kf 29 _ _ rfl) (SEs.cons (SE.idx (SE.loc s8) (SE.loc s9)) SEs.nil)) (SE.idx (SE.loc s8) (SE.loc s9))) SS.nil)) (SS.cons (SX.asgName (SE.callF ok g_slot_order (pf.kf 36 _ _ rfl) (SEs.cons (SE.loc s8) SEs.nil)) s10) (SS.cons (SX.for (SI.range1 ok g_range (SE.callB ok g_len (SEs.cons (SE.loc s10) SEs.nil) okLen)) (SAs.name s5) (SS.cons (SX.asgName (SE.idx (SE.loc s8) (SE.idx (SE.loc s10) (SE.loc s5))) s11) (SS.cons (SX.asgAttr ok cl (SE.bin (SE.loc s5) SE.int) (SE.loc s11)) (SS.cons (SX.asgAttr ok cl (SE.cmp ok (SE.attr ok cl (SE.loc s11)) SE.str) (SE.loc s11)) SS.nil)))) (SS.cons (SX.asgName (SE.list SEs.nil) s12) (SS.cons (SX.for (SI.range1 ok g_range (SE.callB ok g_len (SEs.cons (SE.loc s1) SEs.nil) okLen)) (SAs.name s5) (SS.cons (SX.asgName SE.int s13) (SS.cons (SX.while (ST.bool (SA.and (ST.cmp ok (SE.loc s13) (SE.callB ok g_len (SEs.cons (SE.loc s10) SEs.nil) okLen)) (SA.and (ST.cmp ok (SE.attr ok cl (SE.idx (SE.loc s8) (SE.idx (SE.loc s10) (SE.loc s13)))) (SE.loc s5)) SA.nil_and))) (SS.cons (SX.augName s13 SE.int) SS.nil)) (SS.cons (SX.expr (SE.methB (SE.loc s12) (SEs.cons (SE.loc s13) SEs.nil) (by decide) PySem.F.plainAttrs_list PySem.F.slot_list_append PySem.F.type_list_append okAppend (by rfl) (by rfl) (by rfl))) SS.nil)))) (SS.cons (SX.ret (SE.callF ok g_ClausePlan (pf.kc 1 _ _ rfl) (SEs.cons (SE.loc s8) (SEs.cons (SE.loc s2) (SEs.cons (SE.loc s4) (SEs.cons (SE.callB ok g_len (SEs.cons (SE.loc s10) SEs.nil) okLen) (SEs.cons (SE.loc s12) SEs.nil))))))) SS.nil)))))))))))))
inductive MD (H0 : MH) (kA ga ca inf oa lva : Addr) (kvs : List (SK × MV)) (o : Obj) (ks : List Int) (ia : Int → Addr) (rc : Int → Rc) (kd : Int → Str) (sl : Int → Int) (un : Int → Bool) (order : List Int) (nd : Bool) (x3 x6 x7 x9 x11 : Option MV) (i : Nat) : St → Prop
  | mk {H1 : MH} {ms : List Nat} {x5 x13 : Option MV} (s : Ifs H0 H1 inf kvs o ks ia rc kd sl un) (ho : H1 oa = some (.L (order.map .int))) (hl : H1 lva = some (.L ((ms.map fun (m : Nat) => (m : Int)).map .int))) (lm : ms.length = i) (lok : ∀ q, q < i → ∃ m, ms[q]? = some m ∧ LvOk order (fun k => (rc k).last) q m) :
    MD H0 kA ga ca inf oa lva kvs o ks ia rc kd sl un order nd x3 x6 x7 x9 x11 i ⟨[some (.inst 6 kA), some (.ref ga), some (.ref ca), x3, some (.bool nd), x5, x6, x7, some (.ref inf), x9, some (.ref oa), x11, some (.ref lva), x13], H1⟩
inductive ME (kA ga ca inf oa lva : Addr) (H1 : MH) (rc : Int → Rc) (order : List Int) (nd : Bool) (i : Nat) (x3 x6 x7 x9 x11 : Option MV) : Nat → St → Prop
  | mk {n l : Nat} (hl : l ≤ order.length) (h : ∀ (p : Nat) (k : Int), p < l → order[p]? = some k → (i : Int) < (rc k).last) (e : n = order.length - l) : ME kA ga ca inf oa lva H1 rc order nd i x3 x6 x7 x9 x11 n ⟨[some (.inst 6 kA), some (.ref ga), some (.ref ca), x3, some (.bool nd), some (.int i), x6, x7, some (.ref inf), x9, some (.ref oa), x11, some (.ref lva), some (.int l)], H1⟩
section
variable {H0 H : MH} {kA ga ca inf oa : Addr} {kvs : List (SK × MV)} {o : Obj} {ks : List Int} {ia : Int → Addr} {rc : Int → Rc} {hs : List Tm} {gs : List Gl} {kd : Int → Str} {sl : Int → Int} {un : Int → Bool} {order : List Int} {nd : Bool} {Q : MV → MH → Prop} {x3 x5 x6 x7 x9 x11 : Option MV}
theorem c36d (ok : X.Ok) (cl : X.Cls) (pf : PF X fa tk) (B : Bas H0 kA ga ca inf kvs o ks ia rc hs gs) (s : Ifs H0 H inf kvs o ks ia rc kd sl un) (hkd : ∀ k ∈ ks, kd k = (kdo rc k).str) (od : Ord ks (kdo rc) (fun k => (rc k).last) order) (hsl : ∀ (p : Nat) (k : Int), order[p]? = some k → sl k = (p : Int) + 1)
    (hnd : nd = true ↔ ∃ (j : Nat) (gl : Gl), j < gs.length ∧ gs[j]? = some gl ∧ gl.isC = true ∧ j + 1 < gs.length) (ho : H oa = some (.L (order.map .int))) (K : PlanQ kA ga hs gs Q) :
    p36_21 X (d + 4) fa (fun m σ => Q (retOf m) σ.H) ⟨[some (.inst 6 kA), some (.ref ga), some (.ref ca), x3, some (.bool nd), x5, x6, x7, some (.ref inf), x9, some (.ref oa), x11, none, none], H⟩ := by
  have gn := B.gn
  have ol : order.length ≤ 7 := rng_small (fun j hj => B.rng j ((od.mem j).mp hj).1) od.nd
  have apart : ∀ {H : MH} {a : Addr} {c : Cell}, Ifs H0 H inf kvs o ks ia rc kd sl un → H0 a = none → H a = none ∨ (∃ l, H a = some (.L l)) → Ifs H0 (H.set a c) inf kvs o ks ia rc kd sl un := fun s h0 h =>
    s.lst h0 (h.elim (fun h => (ne_new s.hD h).symm) fun ⟨l, h⟩ => ne_cells h s.hD nofun) fun k hk => h.elim (fun h => (ne_new (s.ias k hk).1 h).symm) fun ⟨l, h⟩ => ne_cells h (s.ias k hk).1 nofun
  walk_at "s"
  intro lva nl
  have n0 := s.keep.new nl
  have ol' := ne_new ho nl
  walk_at "s"
  refine .list (set_at (s.keep.at B.hga nofun) (ne_new (s.keep.at B.hga nofun) nl)) (by rw [List.length_map]; (first | lia | omega)) ⟨_, .mk (Int.natCast_nonneg _) (by rw [List.length_map]; (first | lia | omega)), ?_⟩
  rw [List.length_map, Int.toNat_natCast]
  refine .inv (fun (i : Nat) => MV.int (0 + (i : Int))) (fun done rest σ => List.range gs.length = done ++ rest ∧ MD H0 kA ga ca inf oa lva kvs o ks ia rc kd sl un order nd x3 x6 x7 x9 x11 done.length σ) ⟨rfl, .mk (ms := []) (apart s n0 (.inl nl)) (set_at ho ol') (MH.set_self ..) rfl nofun⟩ ?_ ?_ (l := List.range gs.length) rfl
  · rintro done i rest σ G ⟨hd, ⟨s1, ho, hl, lm, lok⟩⟩ hG
    rename_i H1 ms x5 x13
    obtain ⟨rfl, il⟩ := range_at hd
    rw [Int.zero_add]
    refine ⟨trivial, ?_⟩
    walk_at "s"
    walk_at "s"
    refine .inv (ME kA ga ca inf oa lva H1 rc order nd done.length x3 x6 x7 x9 x11) (.mk (l := 0) (Nat.zero_le _) nofun rfl) ?_
    rintro n σ G2 ⟨l7, h, rfl⟩ hG2
    rename_i l
    have fin : (∀ k, order[l]? = some k → (rc k).last ≤ done.length) → p36_26 X (d + 4) fa G ⟨[some (.inst 6 kA), some (.ref ga), some (.ref ca), x3, some (.bool nd), some (.int done.length), x6, x7, some (.ref inf), x9, some (.ref oa), x11, some (.ref lva), some (.int l)], H1⟩ := by
      intro hge
      walk_at "s"
      refine ⟨_, .mk hl rfl, .mk hl (by rw [List.length_map, List.length_map]; (first | lia | omega)) ?_⟩
      refine hG.next _ ⟨by rw [hd, List.append_assoc]; rfl, .mk (ms := ms ++ [l]) (apart s1 n0 (.inr ⟨_, hl⟩)) (set_at ho ol') ?_ (by rw [List.length_append, List.length_append, lm]; rfl) fun q hq => ?_⟩
      · rw [MH.set_self, List.map_append, List.map_append]; rfl
      · rw [List.length_append] at hq
        by_cases z : q < done.length
        · obtain ⟨m, a, b⟩ := lok q z
          exact ⟨m, by rw [List.getElem?_append_left (lm ▸ z)]; exact a, b⟩
        · obtain rfl : q = done.length := Nat.le_antisymm (Nat.le_of_lt_succ hq) (Nat.not_lt.mp z)
          refine ⟨l, by rw [← lm, List.getElem?_append_right (Nat.le_refl _), Nat.sub_self]; rfl, l7, fun p k hp => ⟨fun hlt => h p k hlt hp, fun hlt => ?_⟩⟩
          refine Nat.lt_of_not_le fun le => ?_
          have pl := (List.getElem?_eq_some_iff.mp hp).1
          have hl' : order[l]? = some order[l] := List.getElem?_eq_getElem (Nat.lt_of_le_of_lt le pl)
          have h1 := hge _ hl'
          have h2 : (rc k).last ≤ (rc order[l]).last := by
            by_cases e : l = p
            · subst e; exact Int.le_of_eq (congrArg (fun j => (rc j).last) (Option.some.inj (hp.symm.trans hl')))
            · have := List.pairwise_iff_getElem.mp od.pw l p (Nat.lt_of_le_of_lt le pl) pl (Nat.lt_of_le_of_ne le e)
              rw [(List.getElem?_eq_some_iff.mp hp).2] at this; exact this
          exact absurd hlt (Int.not_lt.mpr (Int.le_trans h2 h1))
    walk_at "s"
    refine .list ho (by rw [List.length_map]; (first | lia | omega)) ?_
    rw [List.length_map]
    refine ⟨_, .lt, .dec (fun hlt => ?_) fun hge => .f (fin fun k hk => absurd (Int.ofNat_lt.mpr (List.getElem?_eq_some_iff.mp hk).1) hge)⟩
    have hlt := Int.ofNat_lt.mp hlt
    have hx : order[l]? = some order[l] := List.getElem?_eq_getElem hlt
    have kin := ((od.mem order[l]).mp (List.getElem_mem hlt)).1
    generalize order[l] = k at hx kin
    refine ⟨_, .list ho (.nat (get_map hx) (by (first | lia | omega))), _, .dict s1.hD .i (B.hd k kin), _, .mk (s1.ias k kin).1 (ai7_last_goal pf) rfl, _, .gt, .dec (fun h3 => .t ?_) fun h3 => .f (fin fun j hj => ?_)⟩
    · walk_at "s"
      refine ⟨_, .add, hG2.next _ ⟨order.length - (l + 1), by (first | lia | omega), .mk (l := l + 1) hlt (fun p j hp hj => ?_) rfl⟩⟩
      by_cases z : p = l
      · subst z; rw [hx] at hj; cases hj; exact h3
      · exact h p j (by (first | lia | omega)) hj
    · rw [hx] at hj; cases hj; exact Int.not_lt.mp h3
  · rintro done σ ⟨hd, ⟨s1, ho, hl, lm, lok⟩⟩
    rename_i H1 ms x5 x13
    rw [List.append_nil] at hd
    have hd : done.length = gs.length := by rw [← hd, List.length_range]
    rw [hd] at lm lok
    refine ⟨trivial, ?_⟩
    walk_at "s"
    refine .list ho (by rw [List.length_map]; (first | lia | omega)) ?_
    rw [List.length_map]
    refine c4100 ok cl pf fun pA np => ?_
    exact B.done (apart s1 (s1.keep.new np) (.inl np)) hkd od hsl hnd (MH.set_self ..) (set_at hl (ne_new hl np)) lm lok K
theorem Ifs.move {H' : MH} (s : Ifs H0 H inf kvs o ks ia rc kd sl un) (k : Keep No H H') : Ifs H0 H' inf kvs o ks ia rc kd sl un :=
  ⟨s.keep.trans k, k.at s.hD nofun, fun j hj => ⟨k.at (s.ias j hj).1 nofun, (s.ias j hj).2⟩⟩
end
inductive MF2 (H0 : MH) (kA ga ca inf oa : Addr) (kvs : List (SK × MV)) (o : Obj) (ks : List Int) (ia : Int → Addr) (rc : Int → Rc) (order : List Int) (nd : Bool) (x3 x6 x7 x9 : Option MV) (i : Nat) : St → Prop
  | mk {H1 : MH} {kd : Int → Str} {sl : Int → Int} {un : Int → Bool} {x5 x11 : Option MV} (s : Ifs H0 H1 inf kvs o ks ia rc kd sl un) (hkd : ∀ k ∈ ks, kd k = (kdo rc k).str) (ho : H1 oa = some (.L (order.map .int))) (hsl : ∀ (p : Nat) (k : Int), p < i → order[p]? = some k → sl k = (p : Int) + 1) :
    MF2 H0 kA ga ca inf oa kvs o ks ia rc order nd x3 x6 x7 x9 i ⟨[some (.inst 6 kA), some (.ref ga), some (.ref ca), x3, some (.bool nd), x5, x6, x7, some (.ref inf), x9, some (.ref oa), x11, none, none], H1⟩
inductive MKd (H0 : MH) (kA ga ca inf : Addr) (kvs : List (SK × MV)) (o : Obj) (ks : List Int) (ia : Int → Addr) (rc : Int → Rc) (nd : Bool) (x3 x5 x6 x7 : Option MV) (done : List Int) : St → Prop
  | mk {H1 : MH} {kd : Int → Str} {sl : Int → Int} {un : Int → Bool} {x9 : Option MV} (s : Ifs H0 H1 inf kvs o ks ia rc kd sl un) (hkd : ∀ k ∈ done, kd k = (kdo rc k).str) : MKd H0 kA ga ca inf kvs o ks ia rc nd x3 x5 x6 x7 done ⟨[some (.inst 6 kA), some (.ref ga), some (.ref ca), x3, some (.bool nd), x5, x6, x7, some (.ref inf), x9, none, none, none, none], H1⟩
section
variable {H0 H : MH} {kA ga ca inf oa : Addr} {kvs : List (SK × MV)} {o : Obj} {ks : List Int} {ia : Int → Addr} {rc : Int → Rc} {hs : List Tm} {gs : List Gl} {kd : Int → Str} {sl : Int → Int} {un : Int → Bool} {order : List Int} {nd : Bool} {Q : MV → MH → Prop} {x3 x5 x6 x7 x9 x11 : Option MV}
theorem c36c (ok : X.Ok) (cl : X.Cls) (pf : PF X fa tk) (B : Bas H0 kA ga ca inf kvs o ks ia rc hs gs) (s : Ifs H0 H inf kvs o ks ia rc kd sl un) (hkd : ∀ k ∈ ks, kd k = (kdo rc k).str) (od : Ord ks (kdo rc) (fun k => (rc k).last) order)
    (hnd : nd = true ↔ ∃ (j : Nat) (gl : Gl), j < gs.length ∧ gs[j]? = some gl ∧ gl.isC = true ∧ j + 1 < gs.length) (ho : H oa = some (.L (order.map .int))) (K : PlanQ kA ga hs gs Q) :
    p36_17 X (d + 4) fa (fun m σ => Q (retOf m) σ.H) ⟨[some (.inst 6 kA), some (.ref ga), some (.ref ca), x3, some (.bool nd), x5, x6, x7, some (.ref inf), x9, some (.ref oa), x11, none, none], H⟩ := by
  have ol : order.length ≤ 7 := rng_small (fun j hj => B.rng j ((od.mem j).mp hj).1) od.nd
  walk_at "s"
  refine .list ho (by rw [List.length_map]; (first | lia | omega)) ⟨_, .mk (Int.natCast_nonneg _) (by rw [List.length_map]; (first | lia | omega)), ?_⟩
  rw [List.length_map, Int.toNat_natCast]
  refine .inv (fun (i : Nat) => MV.int (0 + (i : Int))) (fun done rest σ => List.range order.length = done ++ rest ∧ MF2 H0 kA ga ca inf oa kvs o ks ia rc order nd x3 x6 x7 x9 done.length σ) ⟨rfl, .mk s hkd ho nofun⟩ ?_ ?_ (l := List.range order.length) rfl
  · rintro done i rest σ G ⟨hd, ⟨s1, hkd, ho, hsl⟩⟩ hG
    rename_i H1 kd sl un x5 x11
    obtain ⟨rfl, il⟩ := range_at hd
    rw [Int.zero_add]
    refine ⟨trivial, ?_⟩
    have hx : order[done.length]? = some order[done.length] := List.getElem?_eq_getElem il
    have kin := ((od.mem order[done.length]).mp (List.getElem_mem il)).1
    generalize order[done.length] = k at hx kin
    have hk := (s1.ias k kin).1
    walk_at "s"
    refine ⟨_, .list ho (.nat (get_map hx) (by (first | lia | omega))), _, .dict s1.hD .i (B.hd k kin), ?_⟩
    walk_at "s"
    refine ⟨_, .add, _, _, .mk hk (ai7_slot pf) (ltB rfl), ?_⟩
    walk_at "s"
    refine ⟨_, .mk (MH.set_self ..) (ai7_first pf) rfl, _, .eq .str, _, _, .mk (MH.set_self ..) (ai7_unsafe pf) (ltB rfl), ?_⟩
    rw [MH.set_set]
    refine hG.next _ ⟨by rw [hd, List.append_assoc]; rfl, .mk (s1.put kin (kd k) ((done.length : Int) + 1) _) (fun j hj => ?_) (set_at ho (ne_cells ho hk nofun)) fun p j hp hj => ?_⟩
    · by_cases z : j = k
      · rw [z, upd_self]; exact hkd k kin
      · rw [upd_ne z]; exact hkd j hj
    · rw [List.length_append] at hp
      by_cases z : p < done.length
      · have : j ≠ k := by
          rintro rfl
          have pl := (List.getElem?_eq_some_iff.mp hj).1
          exact absurd ((List.getElem?_inj pl od.nd).mp (hj.trans hx.symm)) (Nat.ne_of_lt z)
        rw [upd_ne this]; exact hsl p j z hj
      · obtain rfl : p = done.length := Nat.le_antisymm (Nat.le_of_lt_succ hp) (Nat.not_lt.mp z)
        rw [hx] at hj; cases hj; exact upd_self
  · rintro done σ ⟨hd, ⟨s1, hkd, ho, hsl⟩⟩
    rw [List.append_nil] at hd
    have hd : done.length = order.length := by rw [← hd, List.length_range]
    exact ⟨trivial, c36d ok cl pf B s1 hkd od (fun p k hp => hsl p k (hd ▸ (List.getElem?_eq_some_iff.mp hp).1) hp) hnd ho K⟩
theorem c36b (ok : X.Ok) (cl : X.Cls) (pf : PF X fa tk) (B : Bas H0 kA ga ca inf kvs o ks ia rc hs gs) (s : Ifs H0 H inf kvs o ks ia rc kd sl un)
    (hnd : nd = true ↔ ∃ (j : Nat) (gl : Gl), j < gs.length ∧ gs[j]? = some gl ∧ gl.isC = true ∧ j + 1 < gs.length) (K : PlanQ kA ga hs gs Q) :
    p36_14 X (d + 4) fa (fun m σ => Q (retOf m) σ.H) ⟨[some (.inst 6 kA), some (.ref ga), some (.ref ca), x3, some (.bool nd), x5, x6, x7, some (.ref inf), none, none, none, none, none], H⟩ := by
  walk_at "s"
  refine ⟨_, .dk s.hD, .inv MV.int (fun done rest σ => ks = done ++ rest ∧ MKd H0 kA ga ca inf kvs o ks ia rc nd x3 x5 x6 x7 done σ) ⟨rfl, .mk s nofun⟩ ?_ ?_ ?_⟩
  · rintro done k rest σ G ⟨hd, ⟨s1, hkd⟩⟩ hG
    rename_i H1 kd sl un x9
    have kin : k ∈ ks := by rw [hd]; exact List.mem_append_right _ (.head _)
    have hk := (s1.ias k kin).1
    refine ⟨s1.hD, ?_⟩
    walk_at "s"
    refine ⟨_, .dict s1.hD .i (B.hd k kin), c34 ok cl pf hk ⟨_, .dict s1.hD .i (B.hd k kin), _, _, .mk hk (ai7_kind pf) (ltB rfl), ?_⟩⟩
    refine hG.next _ ⟨by rw [hd, List.append_assoc]; rfl, .mk (s1.put kin (kdo rc k).str (sl k) (un k)) fun j hj => ?_⟩
    by_cases z : j = k
    · rw [z, upd_self]
    · rw [upd_ne z]; exact hkd j ((List.mem_append.mp hj).resolve_right fun h => z (List.mem_singleton.mp h))
  · rintro done σ ⟨hd, ⟨s1, hkd⟩⟩
    rename_i H1 kd sl un x9
    rw [List.append_nil] at hd; subst hd
    refine ⟨s1.hD, ?_⟩
    walk_at "s"
    refine c35 ok cl pf (kd := kdo rc) (la := fun k => (rc k).last) s1.hD B.hkv B.hd (fun k hk => ⟨_, _, _, _, _, _, _, (s1.ias k hk).1.trans (by rw [hkd k hk]; rfl)⟩) B.rng B.nd fun H2 oa order _ ho od k2 => ?_
    exact c36c ok cl pf B (s1.move k2) hkd od hnd ho K
  · show kvs.map (fun p => skMV p.1) = _
    have e := congrArg (List.map skMV) B.hkv
    rw [List.map_map, List.map_map] at e
    exact e
end
inductive MG (H0 : MH) (kA ga ca sv inf : Addr) (hs : List Tm) (gs : List Gl) (i : Nat) : St → Prop
  | mk {H1 : MH} {nd : Bool} {x5 x6 x7 : Option MV} (s : Svy H0 H1 sv inf (chg gs) (occN hs gs i) ((i : Int) - 1)) (hn : nd = true ↔ ∃ (j : Nat) (gl : Gl), j < i ∧ gs[j]? = some gl ∧ gl.isC = true ∧ j + 1 < gs.length) :
    MG H0 kA ga ca sv inf hs gs i ⟨[some (.inst 6 kA), some (.ref ga), some (.ref ca), some (.inst 9 sv), some (.bool nd), x5, x6, x7, none, none, none, none, none, none], H1⟩
theorem chk_get {gs : List Gl} {i : Nat} (h : i < gs.length) : ((List.range gs.length).map fun i => MV.int (chk gs i : Nat))[i]? = some (.int (chg gs i)) := by
  rw [List.getElem?_map, List.getElem?_eq_getElem (by rw [List.length_range]; exact h), List.getElem_range]; rfl
theorem c36 (ok : X.Ok) (cl : X.Cls) (pf : PF X fa tk) {H : MH} {kA ga : Addr} {hs : List Tm} {gs : List Gl} {f : Option MV} {Q : MV → MH → Prop} (hk : H kA = some (.A 6 [f, some (.tup (hs.map Tm.enc)), some (.ref ga), some (.int 7)])) (hga : H ga = some (.L (gs.map Gl.enc))) (hn : hs.length ≤ 3) (gn : gs.length ≤ 6)
    (hok : ∀ t ∈ hs, t.nodes ≤ 7 ∧ ∀ k ∈ t.vars, 0 ≤ k ∧ k < 7) (gok : ∀ (i : Nat) (g : Gl), gs[i]? = some g → g.Fit) (K : PlanQ kA ga hs gs Q) : CallsTo X (d + 5) (.ref (fa 36)) [.inst 6 kA] Q H := by
  obtain ⟨q, dc, pm, co, ff⟩ := pf.fn 12 _ _ _ rfl; refine callsTo_def ok ff (fun L => d36 ok cl pf) rfl 13 ?_
  walk_at "s"
  refine ⟨_, .mk hk (ai6_goals pf) rfl, ?_⟩
  walk_at "s"
  refine c32 ok cl pf hga gn fun H0 ca nca hca k0 => ?_
  have hk0 := k0.at hk nofun
  have hg0 := k0.at hga nofun
  walk_at "s"
  refine c4300 ok cl pf fun H1 sv inf nsv ninf si hsv hinf k1 => ?_
  walk_at "s"
  refine ⟨_, .mk mt9_terms hsv, _, .mk (k1.at hk0 nofun) (ai6_args pf) rfl, _, .mk, ?_⟩
  have s1 : Svy H0 H1 sv inf (chg gs) (fun _ _ => False) (-1) := by
    obtain ⟨o, ho⟩ := hinf
    exact ⟨[], fun _ => sv, fun _ => ⟨default, 0, 0, 0, 0⟩, ⟨k1, hsv, ⟨[], o, ho, rfl, nofun⟩, ninf, nofun, nsv, nofun, List.nodup_nil⟩, ⟨nofun, nofun, nofun, nofun⟩⟩
  refine c4302 ok cl pf s1 (chg_mono gs) (Int.le_refl _) (leB (by kernel_rfl!)) hok fun H2 s2 => ?_
  have s2 : Svy H0 H2 sv inf (chg gs) (occN hs gs 0) (((0 : Nat) : Int) - 1) := s2.iff fun k g => ⟨fun h => .inl (h.elim False.elim id), fun h => h.elim .inr fun ⟨_, _, h, _⟩ => nomatch h⟩
  have hg2 : ∀ {H : MH} {done : Int → Int → Prop} {gm : Int}, Svy H0 H sv inf (chg gs) done gm → H ga = some (.L (gs.map Gl.enc)) ∧ H ca = some (.L ((List.range gs.length).map fun i => .int (chk gs i : Nat))) ∧ H sv = some (.A 9 [some (.ref inf)]) := fun s => let ⟨_, _, _, a, _⟩ := s.ex; ⟨a.keep.at hg0 nofun, a.keep.at hca nofun, a.svc⟩
  clear hk hga k0 hsv k1 hinf
  walk_at "s"
  walk_at "s"
  refine .list (hg2 s2).1 (by rw [List.length_map]; (first | lia | omega)) ⟨_, .mk (Int.natCast_nonneg _) (by rw [List.length_map]; (first | lia | omega)), ?_⟩
  rw [List.length_map, Int.toNat_natCast]
  refine .inv (fun (i : Nat) => MV.int (0 + (i : Int))) (fun done rest σ => List.range gs.length = done ++ rest ∧ MG H0 kA ga ca sv inf hs gs done.length σ) ⟨rfl, .mk (nd := false) s2 ⟨nofun, fun ⟨_, _, h, _⟩ => nomatch h⟩⟩ ?_ ?_ (l := List.range gs.length) rfl
  · rintro done i rest σ G ⟨hd, ⟨s, hnd⟩⟩ hG
    rename_i H3 nd x5 x6 x7
    obtain ⟨rfl, il⟩ := range_at hd
    rw [Int.zero_add]
    refine ⟨trivial, ?_⟩
    have hx : gs[done.length]? = some gs[done.length] := List.getElem?_eq_getElem il
    generalize gs[done.length] = g at hx
    have ft := gok _ g hx
    have step := occN_step (hs := hs) hx
    have cg := chk_get il
    walk_at "s"
    refine ⟨_, .list (hg2 s).1 (.nat (get_map hx) (by (first | lia | omega))), ?_⟩
    walk_at "s"
    refine c28 ok cl pf ?_
    have rest : ∀ H4, Svy H0 H4 sv inf (chg gs) (fun k g' => occN hs gs done.length k g' ∨ g' = (done.length : Int) ∧ 0 ≤ g.special ∧ k = g.special) done.length → p36_10 X (d + 4) fa G ⟨[some (.inst 6 kA), some (.ref ga), some (.ref ca), some (.inst 9 sv), some (.bool nd), some (.int done.length), some g.enc, some (.int g.special), none, none, none, none, none, none], H4⟩ := by
      intro H4 s4
      walk_at "s"
      refine ⟨_, .mk mt9_terms (hg2 s4).2.2, c27 ok cl pf ⟨_, .list (hg2 s4).2.1 (.nat cg (by (first | lia | omega))), c4302 ok cl pf s4 (chg_mono gs) (Int.le_refl _) (leB (by kernel_rfl!)) ft.terms fun H5 s5 => ?_⟩⟩
      have s5 : Svy H0 H5 sv inf (chg gs) (occN hs gs (done.length + 1)) (((done.length + 1 : Nat) : Int) - 1) := by
        rw [show ((done.length + 1 : Nat) : Int) - 1 = done.length by (first | lia | omega)]
        refine s5.iff fun k g' => ((step k g').trans ?_).symm
        exact ⟨fun h => h.elim (fun h => .inl (.inl h)) fun h => ((ft.v_iff k).mp h.2).elim (fun z => .inl (.inr ⟨h.1, z⟩)) fun z => .inr ⟨h.1, z⟩, fun h => h.elim (fun h => h.imp id fun z => ⟨z.1, (ft.v_iff k).mpr (.inl z.2)⟩) fun z => .inr ⟨z.1, (ft.v_iff k).mpr (.inr z.2)⟩⟩
      have fin : ∀ nd' : Bool, (nd' = true ↔ nd = true ∨ (g.isC = true ∧ done.length + 1 < gs.length)) → G .next ⟨[some (.inst 6 kA), some (.ref ga), some (.ref ca), some (.inst 9 sv), some (.bool nd'), some (.int done.length), some g.enc, some (.int g.special), none, none, none, none, none, none], H5⟩ := by
        intro nd' h
        refine hG.next _ ⟨by rw [hd, List.append_assoc]; rfl, ?_⟩
        rw [show (done ++ [done.length]).length = done.length + 1 from List.length_append ..]
        refine .mk s5 (h.trans ⟨fun h => ?_, fun ⟨j, gl, hj, h1, h2, h3⟩ => ?_⟩)
        · rcases h with h | ⟨h1, h2⟩
          · obtain ⟨j, gl, hj, r⟩ := hnd.mp h
            exact ⟨j, gl, Nat.lt_succ_of_lt hj, r⟩
          · exact ⟨_, g, Nat.lt_succ_self _, hx, h1, h2⟩
        · by_cases z : j < done.length
          · exact .inl (hnd.mpr ⟨j, gl, z, h1, h2, h3⟩)
          · obtain rfl : j = done.length := Nat.le_antisymm (Nat.le_of_lt_succ hj) (Nat.not_lt.mp z)
            rw [hx] at h1; cases h1; exact .inr ⟨h2, h3⟩
      obtain ⟨s, r, hen, hh⟩ := g.head
      walk_at "s"
      refine ⟨_, ixE0 hen, _, .eq .str, .any (fun b => ⟨_, .add, .list (hg2 s5).1 (by rw [List.length_map]; (first | lia | omega)) ⟨_, .lt, ?_⟩⟩) fun b => .f (fin nd ⟨.inl, fun h => h.elim id fun h => by rw [← hh, b] at h; cases h.1⟩)⟩
      rw [List.length_map]
      refine .dec (fun hlt => .t ?_) fun hge => .f (fin nd ⟨.inl, fun h => h.elim id fun h => absurd (Int.ofNat_lt.mpr h.2) hge⟩)
      walk_at "s"
      exact fin true ⟨fun _ => .inr ⟨hh.symm.trans b, Int.ofNat_lt.mp hlt⟩, fun _ => rfl⟩
    walk_at "s"
    refine ⟨_, .ge, .dec (fun h0 => ?_) fun h0 => rest H3 ((s.le (Int.sub_le_self _ (by decide))).iff fun k g' => ⟨.inl, fun h => h.elim id fun h => (h0 h.2.1).elim⟩)⟩
    walk_at "s"
    refine ⟨_, .mk mt9_meet (hg2 s).2.2, _, .list (hg2 s).2.1 (.nat cg (by (first | lia | omega))), c4301 ok cl pf s (chg_mono gs) (ft.rng ((ft.v_iff _).mpr (.inl ⟨h0, rfl⟩))) (Int.sub_le_self _ (by decide)) fun H4 s4 _ => rest H4 (s4.iff fun k g' => or_congr Iff.rfl ⟨fun h => ⟨h.2, h0, h.1⟩, fun h => ⟨h.2.2, h.1⟩⟩)⟩
  · rintro done σ ⟨hd, ⟨s, hnd⟩⟩
    rename_i H3 nd x5 x6 x7
    rw [List.append_nil] at hd
    have hd : done.length = gs.length := by rw [← hd, List.length_range]
    rw [hd] at s hnd
    refine ⟨trivial, ?_⟩
    walk_at "s"
    refine ⟨_, .mk (hg2 s).2.2 (ai9_infos pf) rfl, ?_⟩
    obtain ⟨ks, ia, rc, a, fx⟩ := s.ex
    obtain ⟨kvs, o, hD, hkv, hd'⟩ := a.infos
    exact c36b ok cl pf ⟨⟨_, hk0⟩, hg0, hkv, hd', a.rng, a.nd, fx, hn, gn, hok, gok⟩ ⟨a.keep, hD, a.ias⟩ hnd K
end
section
variable {X : Ctx} {fa : Nat → Addr} {tk : Nat → Tok} {d : Nat}
structure Sy (H0 H : MH) (s ta an fu fn : Addr) (n : Nat) : Prop where
  keep : Keep No H0 H
  self : H s = some (.A 0 [some (.ref ta), some (.ref an), some (.ref fu), some (.ref fn)])
  c1 : ∃ l, H ta = some (.L l) ∧ l.length ≤ n
  c2 : ∃ l o, H an = some (.D (.v l) o) ∧ l.length ≤ n ∧ ∀ k m, dget l k = some m → ∃ c, m = .int c
  c3 : ∃ l, H fu = some (.L l) ∧ l.length ≤ n
  c4 : ∃ l o, H fn = some (.D (.t l) o) ∧ l.length ≤ n ∧ ∀ k m, dget l k = some m → ∃ c, m = .int c
  new : H0 ta = none ∧ H0 an = none ∧ H0 fu = none ∧ H0 fn = none
  ne : ta ≠ fu
theorem getI {K : Type} [DecidableEq K] {l : List (K × MV)} (h : ∀ k m, dget l k = some m → ∃ c, m = .int c) (k : K) (e : Int) : ∃ c : Int, (dget l k).getD (.int e) = .int c := by
  cases q : dget l k with
  | none => exact ⟨e, rfl⟩
  | some m => exact h k m q
theorem putI {K : Type} [DecidableEq K] {l : List (K × MV)} (h : ∀ k m, dget l k = some m → ∃ c, m = .int c) {k : K} {e : Int} : ∀ k' m, dget (dput l k (.int e)) k' = some m → ∃ c, m = .int c := fun k' m q => by
  by_cases z : k' = k
  · rw [z, dget_put_self] at q; exact ⟨e, (Option.some.inj q).symm⟩
  · rw [dget_put_ne z] at q; exact h k' m q
theorem Sy.le {H0 H : MH} {s ta an fu fn : Addr} {n : Nat} (y : Sy H0 H s ta an fu fn n) : Sy H0 H s ta an fu fn (n + 1) := by
  obtain ⟨a, b, ⟨l1, h1, z1⟩, ⟨l2, o2, h2, z2, w2⟩, ⟨l3, h3, z3⟩, ⟨l4, o4, h4, z4, w4⟩, e, g⟩ := y
  exact ⟨a, b, ⟨l1, h1, Nat.le_succ_of_le z1⟩, ⟨l2, o2, h2, Nat.le_succ_of_le z2, w2⟩, ⟨l3, h3, Nat.le_succ_of_le z3⟩, ⟨l4, o4, h4, Nat.le_succ_of_le z4, w4⟩, e, g⟩
noncomputable def p2001_2 (X : Ctx) (d : Nat) (fa : Nat → Addr) : WS := wSeq (wRet (wLoc 2)) wEnd
noncomputable def p2001_6 (X : Ctx) (d : Nat) (fa : Nat → Addr) : WS := wSeq (wRet (wLoc 3)) wEnd
noncomputable def p2001_5 (X : Ctx) (d : Nat) (fa : Nat → Addr) : WS := wSeq (wAsgIdx (wLoc 3) (wAttr X (Str.ofString "atom_numbers") (wLoc 0)) (wLoc 1)) (p2001_6 X d fa)
noncomputable def p2001_4 (X : Ctx) (d : Nat) (fa : Nat → Addr) : WS := wSeq (wExpr (wMethB "list" bAppend (wAttr X (Str.ofString "texts") (wLoc 0)) (wCons (wLoc 1) wNil))) (p2001_5 X d fa)
noncomputable def p2001_3 (X : Ctx) (d : Nat) (fa : Nat → Addr) : WS := wSeq (wAsg (wOB bLen (wCons (wAttr X (Str.ofString "texts") (wLoc 0)) wNil)) (wStore 3)) (p2001_4 X d fa)
noncomputable def p2001_1 (X : Ctx) (d : Nat) (fa : Nat → Addr) : WS := wSeq (wIf (wTCmp .GtE (wLoc 2) (wConst (.int 0))) (p2001_2 X d fa) wEnd) (p2001_3 X d fa)
noncomputable def p2001 (X : Ctx) (d : Nat) (fa : Nat → Addr) : WS := wSeq (wAsg (wMethB "dict" bGet (wAttr X (Str.ofString "atom_numbers") (wLoc 0)) (wCons (wLoc 1) (wCons (wNeg (wConst (.int 1))) wNil))) (wStore 2)) (p2001_1 X d fa)
theorem d2001 (ok : X.Ok) (cl : X.Cls) (pf : PF X fa tk) {q : Str} {dc pm co : Value} {L : Addr} : SS X d (fiOf (mkFd (fnOf 2001) q dc pm co) (nms 19) (fa 2001) L) (fnB (fnOf 2001)) (p2001 X d fa) :=
  have s0 : Slot (fiOf (mkFd (fnOf 2001) q dc pm co) (nms 19) (fa 2001) L) 0 (Str.ofString "self") := .loc (by rfl) (by kernel_rfl) (by decide)
  have s1 : Slot (fiOf (mkFd (fnOf 2001) q dc pm co) (nms 19) (fa 2001) L) 1 (Str.ofString "text") := .loc (by rfl) (by kernel_rfl) (by decide)
  have s2 : Slot (fiOf (mkFd (fnOf 2001) q dc pm co) (nms 19) (fa 2001) L) 2 (Str.ofString "found") := .loc (by rfl) (by kernel_rfl) (by decide)
  have s3 : Slot (fiOf (mkFd (fnOf 2001) q dc pm co) (nms 19) (fa 2001) L) 3 (Str.ofString "number") := .loc (by rfl) (by kernel_rfl) (by decide)
  have g_len : GlobV X (fiOf (mkFd (fnOf 2001) q dc pm co) (nms 19) (fa 2001) L) (Str.ofString "len") (.builtin "len") := ⟨by kernel_rfl, pf.g 30 _ _ rfl, by decide⟩
  (SS.cons (SX.asgName (SE.methB (SE.attr ok cl (SE.loc s0)) (SEs.cons (SE.loc s1) (SEs.cons (SE.neg SE.int) SEs.nil)) (by decide) PySem.F.plainAttrs_dict PySem.F.slot_dict_get PySem.F.type_dict_get (okGet ok) (by rfl) (by rfl) (by rfl)) s2) (SS.cons (SX.if (ST.cmp ok (SE.loc s2) SE.int) (SS.cons (SX.ret (SE.loc s2)) SS.nil) SS.nil) (SS.cons (SX.asgName (SE.callB ok g_len (SEs.cons (SE.attr ok cl (SE.loc s0)) SEs.nil) okLen) s3) (SS.cons (SX.expr (SE.methB (SE.attr ok cl (SE.loc s0)) (SEs.cons (SE.loc s1) SEs.nil) (by decide) PySem.F.plainAttrs_list PySem.F.slot_list_append PySem.F.type_list_append okAppend (by rfl) (by rfl) (by rfl))) (SS.cons (SX.asgIdx (SE.loc s3) (SE.attr ok cl (SE.loc s0)) (SE.loc s1)) (SS.cons (SX.ret (SE.loc s3)) SS.nil))))))
theorem c2001 (ok : X.Ok) (cl : X.Cls) (pf : PF X fa tk) {H0 H : MH} {s ta an fu fn : Addr} {n : Nat} {x : Str} {Q : MV → MH → Prop} (y : Sy H0 H s ta an fu fn n) (hn : n ≤ 900) (K : ∀ H' (c : Int), Sy H0 H' s ta an fu fn (n + 1) → Q (.int c) H') : CallsTo X (d + 1) (.ref (fa 2001)) [.inst 0 s, .str x] Q H := by
  obtain ⟨kp, hs, ⟨l1, h1, z1⟩, ⟨l2, o2, h2, z2, w2⟩, ⟨l3, h3, z3⟩, ⟨l4, o4, h4, z4, w4⟩, nw, ne⟩ := id y
  obtain ⟨q, dc, pm, co, ff⟩ := pf.fn 19 _ _ _ rfl; refine callsTo_def ok ff (fun L => d2001 ok cl pf) rfl 2 ?_
  walk_at "s"
  refine ⟨_, .mk hs (ai0_atom_numbers pf) rfl, _, .mk h2 rfl, _, .mk, .mk h2 (.v .s) ?_⟩
  obtain ⟨c, hc⟩ := getI w2 (.s x) (-1)
  rw [hc]
  walk_at "s"
  refine ⟨_, .ge, .dec (fun h => ?_) fun h => ?_⟩
  · walk_at "s"
    exact K H c y.le
  · walk_at "s"
    refine ⟨_, .mk hs (ai0_texts pf) rfl, .list h1 (by (first | lia | omega)) ?_⟩
    walk_at "s"
    refine ⟨_, .mk hs (ai0_texts pf) rfl, _, .mk h1 rfl, .mk h1 (by (first | lia | omega)) ?_⟩
    have s1 := set_at (c' := .L (l1 ++ [.str x])) hs (ne_cells hs h1 nofun)
    have a1 := set_at (c' := .L (l1 ++ [.str x])) h2 (ne_cells h2 h1 nofun)
    walk_at "s"
    refine ⟨_, .mk s1 (ai0_atom_numbers pf) rfl, _, _, .dict a1 .s (by (first | lia | omega)), fun o => ?_⟩
    walk_at "s"
    have n12 := ne_cells h1 h2 nofun
    refine K _ _ ⟨(kp.fresh nw.1).fresh nw.2.1, set_at s1 (ne_cells hs h2 nofun), ⟨_, set_at (MH.set_self ..) n12, by rw [List.length_append]; exact Nat.succ_le_succ z1⟩, ⟨_, o, MH.set_self .., Nat.le_trans (dput_len ..) (Nat.succ_le_succ z2), putI w2⟩,
      ⟨l3, set_at (set_at h3 ne.symm) (ne_cells h3 h2 nofun), Nat.le_succ_of_le z3⟩, ⟨l4, o4, set_at (set_at h4 (ne_cells h4 h1 nofun)) (ne_cells h4 h2 nofun), Nat.le_succ_of_le z4, w4⟩, nw, ne⟩
noncomputable def p2003_3 (X : Ctx) (d : Nat) (fa : Nat → Addr) : WS := wSeq (wRet (wLoc 4)) wEnd
noncomputable def p2003_7 (X : Ctx) (d : Nat) (fa : Nat → Addr) : WS := wSeq (wRet (wLoc 5)) wEnd
noncomputable def p2003_6 (X : Ctx) (d : Nat) (fa : Nat → Addr) : WS := wSeq (wAsgIdx (wLoc 5) (wAttr X (Str.ofString "functor_numbers") (wLoc 0)) (wLoc 3)) (p2003_7 X d fa)
noncomputable def p2003_5 (X : Ctx) (d : Nat) (fa : Nat → Addr) : WS := wSeq (wExpr (wMethB "list" bAppend (wAttr X (Str.ofString "functors") (wLoc 0)) (wCons (wLoc 3) wNil))) (p2003_6 X d fa)
noncomputable def p2003_4 (X : Ctx) (d : Nat) (fa : Nat → Addr) : WS := wSeq (wAsg (wOB bLen (wCons (wAttr X (Str.ofString "functors") (wLoc 0)) wNil)) (wStore 5)) (p2003_5 X d fa)
noncomputable def p2003_2 (X : Ctx) (d : Nat) (fa : Nat → Addr) : WS := wSeq (wIf (wTCmp .GtE (wLoc 4) (wConst (.int 0))) (p2003_3 X d fa) wEnd) (p2003_4 X d fa)
noncomputable def p2003_1 (X : Ctx) (d : Nat) (fa : Nat → Addr) : WS := wSeq (wAsg (wMethB "dict" bGet (wAttr X (Str.ofString "functor_numbers") (wLoc 0)) (wCons (wLoc 3) (wCons (wNeg (wConst (.int 1))) wNil))) (wStore 4)) (p2003_2 X d fa)
noncomputable def p2003 (X : Ctx) (d : Nat) (fa : Nat → Addr) : WS := wSeq (wAsg (wTup (wCons (wLoc 1) (wCons (wLoc 2) wNil))) (wStore 3)) (p2003_1 X d fa)
theorem d2003 (ok : X.Ok) (cl : X.Cls) (pf : PF X fa tk) {q : Str} {dc pm co : Value} {L : Addr} : SS X d (fiOf (mkFd (fnOf 2003) q dc pm co) (nms 20) (fa 2003) L) (fnB (fnOf 2003)) (p2003 X d fa) :=
  have s0 : Slot (fiOf (mkFd (fnOf 2003) q dc pm co) (nms 20) (fa 2003) L) 0 (Str.ofString "self") := .loc (by rfl) (by kernel_rfl) (by decide)
  have s1 : Slot (fiOf (mkFd (fnOf 2003) q dc pm co) (nms 20) (fa 2003) L) 1 (Str.ofString "atom") := .loc (by rfl) (by kernel_rfl) (by decide)
  have s2 : Slot (fiOf (mkFd (fnOf 2003) q dc pm co) (nms 20) (fa 2003) L) 2 (Str.ofString "arity") := .loc (by rfl) (by kernel_rfl) (by decide)
  have s3 : Slot (fiOf (mkFd (fnOf 2003) q dc pm co) (nms 20) (fa 2003) L) 3 (Str.ofString "key") := .loc (by rfl) (by kernel_rfl) (by decide)
  have s4 : Slot (fiOf (mkFd (fnOf 2003) q dc pm co) (nms 20) (fa 2003) L) 4 (Str.ofString "found") := .loc (by rfl) (by kernel_rfl) (by decide)
  have s5 : Slot (fiOf (mkFd (fnOf 2003) q dc pm co) (nms 20) (fa 2003) L) 5 (Str.ofString "number") := .loc (by rfl) (by kernel_rfl) (by decide)
  have g_len : GlobV X (fiOf (mkFd (fnOf 2003) q dc pm co) (nms 20) (fa 2003) L) (Str.ofString "len") (.builtin "len") := ⟨by kernel_rfl, pf.g 30 _ _ rfl, by decide⟩
  (SS.cons (SX.asgName (SE.tup (SEs.cons (SE.loc s1) (SEs.cons (SE.loc s2) SEs.nil))) s3) (SS.cons (SX.asgName (SE.methB (SE.attr ok cl (SE.loc s0)) (SEs.cons (SE.loc s3) (SEs.cons (SE.neg SE.int) SEs.nil)) (by decide) PySem.F.plainAttrs_dict PySem.F.slot_dict_get PySem.F.type_dict_get (okGet ok) (by rfl) (by rfl) (by rfl)) s4) (SS.cons (SX.if (ST.cmp ok (SE.loc s4) SE.int) (SS.cons (SX.ret (SE.loc s4)) SS.nil) SS.nil) (SS.cons (SX.asgName (SE.callB ok g_len (SEs.cons (SE.attr ok cl (SE.loc s0)) SEs.nil) okLen) s5) (SS.cons (SX.expr (SE.methB (SE.attr ok cl (SE.loc s0)) (SEs.cons (SE.loc s3) SEs.nil) (by decide) PySem.F.plainAttrs_list PySem.F.slot_list_append PySem.F.type_list_append okAppend (by rfl) (by rfl) (by rfl))) (SS.cons (SX.asgIdx (SE.loc s5) (SE.attr ok cl (SE.loc s0)) (SE.loc s3)) (SS.cons (SX.ret (SE.loc s5)) SS.nil)))))))
theorem c2003 (ok : X.Ok) (cl : X.Cls) (pf : PF X fa tk) {H0 H : MH} {s ta an fu fn : Addr} {n : Nat} {x z : Int} {Q : MV → MH → Prop} (y : Sy H0 H s ta an fu fn n) (hn : n ≤ 900) (K : ∀ H' (c : Int), Sy H0 H' s ta an fu fn (n + 1) → Q (.int c) H') : CallsTo X (d + 1) (.ref (fa 2003)) [.inst 0 s, .int x, .int z] Q H := by
  obtain ⟨kp, hs, ⟨l1, h1, z1⟩, ⟨l2, o2, h2, z2, w2⟩, ⟨l3, h3, z3⟩, ⟨l4, o4, h4, z4, w4⟩, nw, ne⟩ := id y
  have tk2 : TkR [.int x, .int z] [.i x, .i z] := .cons .i (.cons .i .nil)
  obtain ⟨q, dc, pm, co, ff⟩ := pf.fn 20 _ _ _ rfl; refine callsTo_def ok ff (fun L => d2003 ok cl pf) rfl 3 ?_
  walk_at "s"
  walk_at "s"
  refine ⟨_, .mk hs (ai0_functor_numbers pf) rfl, _, .mk h4 rfl, _, .mk, .mk h4 (.t tk2) ?_⟩
  obtain ⟨c, hc⟩ := getI w4 [.i x, .i z] (-1)
  rw [hc]
  walk_at "s"
  refine ⟨_, .ge, .dec (fun h => ?_) fun h => ?_⟩
  · walk_at "s"
    exact K H c y.le
  · walk_at "s"
    refine ⟨_, .mk hs (ai0_functors pf) rfl, .list h3 (by (first | lia | omega)) ?_⟩
    walk_at "s"
    refine ⟨_, .mk hs (ai0_functors pf) rfl, _, .mk h3 rfl, .mk h3 (by (first | lia | omega)) ?_⟩
    have s1 := set_at (c' := .L (l3 ++ [.tup [.int x, .int z]])) hs (ne_cells hs h3 nofun)
    have a1 := set_at (c' := .L (l3 ++ [.tup [.int x, .int z]])) h4 (ne_cells h4 h3 nofun)
    walk_at "s"
    refine ⟨_, .mk s1 (ai0_functor_numbers pf) rfl, _, _, .dictT a1 tk2 (by (first | lia | omega)), fun o => ?_⟩
    walk_at "s"
    have n34 := ne_cells h3 h4 nofun
    have n24 : an ≠ fn := ne_cells h2 h4 nofun
    refine K _ _ ⟨(kp.fresh nw.2.2.1).fresh nw.2.2.2, set_at s1 (ne_cells hs h4 nofun), ⟨l1, set_at (set_at h1 ne) (ne_cells h1 h4 nofun), Nat.le_succ_of_le z1⟩, ⟨l2, o2, set_at (set_at h2 (ne_cells h2 h3 nofun)) n24, Nat.le_succ_of_le z2, w2⟩,
      ⟨_, set_at (MH.set_self ..) n34, by rw [List.length_append]; exact Nat.succ_le_succ z3⟩, ⟨_, o, MH.set_self .., Nat.le_trans (dput_len ..) (Nat.succ_le_succ z4), putI w4⟩, nw, ne⟩
noncomputable def p2004 (X : Ctx) (d : Nat) (fa : Nat → Addr) : WS := wSeq (wRet (wMeth X d (mtab fa) (wLoc 0) (Str.ofString "functor") (wCons (wMeth X d (mtab fa) (wLoc 0) (Str.ofString "atom") (wCons (wLoc 1) wNil)) (wCons (wLoc 2) wNil)))) wEnd
theorem d2004 (ok : X.Ok) (cl : X.Cls) (pf : PF X fa tk) {q : Str} {dc pm co : Value} {L : Addr} : SS X d (fiOf (mkFd (fnOf 2004) q dc pm co) (nms 21) (fa 2004) L) (fnB (fnOf 2004)) (p2004 X d fa) :=
  have s0 : Slot (fiOf (mkFd (fnOf 2004) q dc pm co) (nms 21) (fa 2004) L) 0 (Str.ofString "self") := .loc (by rfl) (by kernel_rfl) (by decide)
  have s1 : Slot (fiOf (mkFd (fnOf 2004) q dc pm co) (nms 21) (fa 2004) L) 1 (Str.ofString "text") := .loc (by rfl) (by kernel_rfl) (by decide)
  have s2 : Slot (fiOf (mkFd (fnOf 2004) q dc pm co) (nms 21) (fa 2004) L) 2 (Str.ofString "arity") := .loc (by rfl) (by kernel_rfl) (by decide)
  (SS.cons (SX.ret (SE.meth ok pf.mt (SE.loc s0) (SEs.cons (SE.meth ok pf.mt (SE.loc s0) (SEs.cons (SE.loc s1) SEs.nil)) (SEs.cons (SE.loc s2) SEs.nil)))) SS.nil)
theorem c2004 (ok : X.Ok) (cl : X.Cls) (pf : PF X fa tk) {H0 H : MH} {s ta an fu fn : Addr} {n : Nat} {x : Str} {z : Int} {Q : MV → MH → Prop} (y : Sy H0 H s ta an fu fn n) (hn : n ≤ 800) (K : ∀ H' (c : Int), Sy H0 H' s ta an fu fn (n + 2) → Q (.int c) H') : CallsTo X (d + 2) (.ref (fa 2004)) [.inst 0 s, .str x, .int z] Q H := by
  obtain ⟨q, dc, pm, co, ff⟩ := pf.fn 21 _ _ _ rfl; refine callsTo_def ok ff (fun L => d2004 ok cl pf) rfl 0 ?_
  walk_at "s"
  exact ⟨_, .mk mt0_functor y.self, _, .mk mt0_atom y.self, c2001 ok cl pf y (by (first | lia | omega)) fun H1 c y1 => c2003 ok cl pf y1 (by (first | lia | omega)) K⟩
noncomputable def kOf : Expr → Nat
  | .Constant _ k _ => k
  | .Tuple _ k _ => k
  | _ => 0
noncomputable def subs : Expr → List Expr
  | .Tuple l _ _ => l
  | _ => []
noncomputable def retE : List Stmt → Expr
  | [.Return (some e) _] => e
  | _ => .Constant .none 0 ⟨0, 0, 0, 0⟩
noncomputable def retP : List Stmt → Pos
  | [.Return _ p] => p
  | _ => ⟨0, 0, 0, 0⟩
noncomputable def retB (b : List Stmt) : List Stmt := [.Return (some (.Tuple (subs (retE b)) (kOf (retE b)) (retE b).pos)) (retP b)]
noncomputable def mkS (x : Str) (e : Expr) : Expr := .Constant (.str x) (kOf e) e.pos
noncomputable def mkP (p : Str × Int) (e : Expr) : Expr := .Tuple [mkS p.1 ((subs e).headD e), .Constant (.int p.2) (kOf ((subs e).tail.headD e)) ((subs e).tail.headD e).pos] (kOf e) e.pos
noncomputable def wLit (ms : List MV) : WEs := fun Q σ => Q ms σ
theorem SEs.lit {F : FI} {α : Type} {mk : α → Expr → Expr} {f : α → MV} (hm : ∀ a e, SE X d F (mk a e) (wConst (f a))) (hs : ∀ a e es, starEach (mk a e :: es) F.env = (false, eval (mk a e) F.env) :: starEach es F.env) (es : List Expr) : ∀ l : List α, es = List.zipWith mk l es → l.length = es.length → SEs X d F es (wLit (l.map f)) := by
  induction es with
  | nil =>
    intro l _ h
    rw [List.length_eq_zero_iff.mp h]; exact SEs.nil
  | cons e es ih =>
    intro l h hl
    cases l with
    | nil => cases hl
    | cons a l =>
      obtain ⟨h1, h2⟩ := List.cons.inj h
      have := SEs.cons (hm a e) (ih l h2 (Nat.succ.inj hl)) (hs a e es)
      rw [← h1] at this
      exact this
theorem SS.lit {F : FI} {α : Type} {mk : α → Expr → Expr} {f : α → MV} {b : List Stmt} {l : List α} (hm : ∀ a e, SE X d F (mk a e) (wConst (f a))) (hs : ∀ a e es, starEach (mk a e :: es) F.env = (false, eval (mk a e) F.env) :: starEach es F.env) (hb : b = retB b) (he : subs (retE b) = List.zipWith mk l (subs (retE b)))
    (hl : l.length = (subs (retE b)).length) (hz : Nat.ble (subs (retE b)).length 1000 = true) : SS X d F b (wSeq (wRet (wTup (wLit (l.map f)))) wEnd) := by
  rw [hb]; exact SS.cons (SX.ret (SE.tup (SEs.lit hm hs _ l he hl) hz)) SS.nil
noncomputable def atoms : List Str := [Str.ofString "[]", Str.ofString ".", Str.ofString "{}", Str.ofString "-", Str.ofString "+", Str.ofString "*", Str.ofString "/", Str.ofString ",", Str.ofString "|", Str.ofString ";", Str.ofString "->", Str.ofString "\\+", Str.ofString ":-", Str.ofString "?-", Str.ofString "-->", Str.ofString "!", Str.ofString "true", Str.ofString "fail", Str.ofString "false", Str.ofString "call", Str.ofString "=", Str.ofString "^", Str.ofString "error", Str.ofString "", Str.ofString "end_of_file", Str.ofString "system", Str.ofString "$VAR", Str.ofString "catch", Str.ofString "throw"]
noncomputable def funcs : List (Str × Int) := [(Str.ofString ".", 2), (Str.ofString ",", 2), (Str.ofString ";", 2), (Str.ofString "->", 2), (Str.ofString "\\+", 1), (Str.ofString ":-", 2), (Str.ofString ":-", 1), (Str.ofString "?-", 1), (Str.ofString "-->", 2), (Str.ofString "{}", 1), (Str.ofString "=", 2), (Str.ofString "^", 2), (Str.ofString "-", 1), (Str.ofString "-", 2), (Str.ofString "+", 2), (Str.ofString "/", 2), (Str.ofString "error", 2), (Str.ofString "$VAR", 1), (Str.ofString "catch", 3), (Str.ofString "throw", 1), (Str.ofString "!", 0), (Str.ofString "true", 0), (Str.ofString "fail", 0), (Str.ofString "false", 0), (Str.ofString "call", 1), (Str.ofString "call", 2), (Str.ofString "call", 3), (Str.ofString "call", 4), (Str.ofString "call", 5), (Str.ofString "call", 6), (Str.ofString "call", 7), (Str.ofString "call", 8)]
noncomputable def encF (p : Str × Int) : MV := .tup [.str p.1, .int p.2]
theorem e8 : fnB (fnOf 8) = retB (fnB (fnOf 8)) ∧ subs (retE (fnB (fnOf 8))) = List.zipWith mkS atoms (subs (retE (fnB (fnOf 8)))) ∧ atoms.length = (subs (retE (fnB (fnOf 8)))).length ∧ Nat.ble (subs (retE (fnB (fnOf 8)))).length 1000 = true := ⟨by kernel_rfl, by kernel_rfl, by kernel_rfl, by kernel_rfl⟩
theorem d8 {F : FI} : SS X d F (fnB (fnOf 8)) (wSeq (wRet (wTup (wLit (atoms.map .str)))) wEnd) := @SS.lit X d F Str mkS .str (fnB (fnOf 8)) atoms (fun _ _ => SE.str) (fun _ _ _ => rfl) e8.1 e8.2.1 e8.2.2.1 e8.2.2.2
theorem c8 (ok : X.Ok) (cl : X.Cls) (pf : PF X fa tk) {H : MH} {Q : MV → MH → Prop} (K : Q (.tup (atoms.map .str)) H) : CallsTo X (d + 1) (.ref (fa 8)) [] Q H := by
  obtain ⟨q, dc, pm, co, ff⟩ := pf.fn 0 _ _ _ rfl
  exact callsTo_def ok ff (fun L => @d8 X d _) rfl 0 K
theorem e9 : fnB (fnOf 9) = retB (fnB (fnOf 9)) ∧ subs (retE (fnB (fnOf 9))) = List.zipWith mkP funcs (subs (retE (fnB (fnOf 9)))) ∧ funcs.length = (subs (retE (fnB (fnOf 9)))).length ∧ Nat.ble (subs (retE (fnB (fnOf 9)))).length 1000 = true := ⟨by kernel_rfl, by kernel_rfl, by kernel_rfl, by kernel_rfl⟩
theorem d9 {F : FI} : SS X d F (fnB (fnOf 9)) (wSeq (wRet (wTup (wLit (funcs.map encF)))) wEnd) := @SS.lit X d F (Str × Int) mkP encF (fnB (fnOf 9)) funcs (fun _ _ => SE.tup (SEs.cons SE.str (SEs.cons SE.int SEs.nil))) (fun _ _ _ => rfl) e9.1 e9.2.1 e9.2.2.1 e9.2.2.2
theorem c9 (ok : X.Ok) (cl : X.Cls) (pf : PF X fa tk) {H : MH} {Q : MV → MH → Prop} (K : Q (.tup (funcs.map encF)) H) : CallsTo X (d + 1) (.ref (fa 9)) [] Q H := by
  obtain ⟨q, dc, pm, co, ff⟩ := pf.fn 1 _ _ _ rfl
  exact callsTo_def ok ff (fun L => @d9 X d _) rfl 0 K
inductive S1 (H0 : MH) (s ta an fu fn : Addr) (done : List Str) : St → Prop
  | mk {H1 : MH} {x : Option MV} (y : Sy H0 H1 s ta an fu fn done.length) : S1 H0 s ta an fu fn done ⟨[some (.inst 0 s), x, none], H1⟩
inductive S2 (H0 : MH) (s ta an fu fn : Addr) (done : List (Str × Int)) : St → Prop
  | mk {H1 : MH} {x1 x : Option MV} (y : Sy H0 H1 s ta an fu fn (29 + 2 * done.length)) : S2 H0 s ta an fu fn done ⟨[some (.inst 0 s), x1, x], H1⟩
noncomputable def p2000_5 (X : Ctx) (d : Nat) (fa : Nat → Addr) : WS := wSeq (wExpr (wMeth X d (mtab fa) (wLoc 0) (Str.ofString "atom") (wCons (wLoc 1) wNil))) wEnd
noncomputable def p2000_7 (X : Ctx) (d : Nat) (fa : Nat → Addr) : WS := wSeq (wExpr (wMeth X d (mtab fa) (wLoc 0) (Str.ofString "func") (wCons (wIdx (wLoc 2) (wConst (.int 0))) (wCons (wIdx (wLoc 2) (wConst (.int 1))) wNil)))) wEnd
noncomputable def p2000_6 (X : Ctx) (d : Nat) (fa : Nat → Addr) : WS := wSeq (wFor (wSrc (wCall X d (.ref (fa 9)) wNil)) (wStore 2) (p2000_7 X d fa)) wEnd
noncomputable def p2000_4 (X : Ctx) (d : Nat) (fa : Nat → Addr) : WS := wSeq (wFor (wSrc (wCall X d (.ref (fa 8)) wNil)) (wStore 1) (p2000_5 X d fa)) (p2000_6 X d fa)
noncomputable def p2000_3 (X : Ctx) (d : Nat) (fa : Nat → Addr) : WS := wSeq (wAsgAttr X (wDict0 .t) (wLoc 0) (Str.ofString "functor_numbers")) (p2000_4 X d fa)
noncomputable def p2000_2 (X : Ctx) (d : Nat) (fa : Nat → Addr) : WS := wSeq (wAsgAttr X (wList wNil) (wLoc 0) (Str.ofString "functors")) (p2000_3 X d fa)
noncomputable def p2000_1 (X : Ctx) (d : Nat) (fa : Nat → Addr) : WS := wSeq (wAsgAttr X (wDict0 .v) (wLoc 0) (Str.ofString "atom_numbers")) (p2000_2 X d fa)
noncomputable def p2000 (X : Ctx) (d : Nat) (fa : Nat → Addr) : WS := wSeq (wAsgAttr X (wList wNil) (wLoc 0) (Str.ofString "texts")) (p2000_1 X d fa)
theorem d2000 (ok : X.Ok) (cl : X.Cls) (pf : PF X fa tk) {q : Str} {dc pm co : Value} {L : Addr} : SS X d (fiOf (mkFd (fnOf 2000) q dc pm co) (nms 18) (fa 2000) L) (fnB (fnOf 2000)) (p2000 X d fa) :=
  have s0 : Slot (fiOf (mkFd (fnOf 2000) q dc pm co) (nms 18) (fa 2000) L) 0 (Str.ofString "self") := .loc (by rfl) (by kernel_rfl) (by decide)
  have s1 : Slot (fiOf (mkFd (fnOf 2000) q dc pm co) (nms 18) (fa 2000) L) 1 (Str.ofString "text") := .loc (by rfl) (by kernel_rfl) (by decide)
  have s2 : Slot (fiOf (mkFd (fnOf 2000) q dc pm co) (nms 18) (fa 2000) L) 2 (Str.ofString "row") := .loc (by rfl) (by kernel_rfl) (by decide)
  have g_fixed_atoms : GlobV X (fiOf (mkFd (fnOf 2000) q dc pm co) (nms 18) (fa 2000) L) (Str.ofString "fixed_atoms") (.ref (fa 8)) := ⟨by kernel_rfl, pf.g 24 _ _ rfl, by decide⟩
  have g_fixed_functors : GlobV X (fiOf (mkFd (fnOf 2000) q dc pm co) (nms 18) (fa 2000) L) (Str.ofString "fixed_functors") (.ref (fa 9)) := ⟨by kernel_rfl, pf.g 25 _ _ rfl, by decide⟩
  (SS.cons (SX.asgAttr ok cl (SE.list SEs.nil) (SE.loc s0)) (SS.cons (SX.asgAttr ok cl (SE.dict0 .v) (SE.loc s0)) (SS.cons (SX.asgAttr ok cl (SE.list SEs.nil) (SE.loc s0)) (SS.cons (SX.asgAttr ok cl (SE.dict0 .t) (SE.loc s0)) (SS.cons (SX.for (SI.val ok (SE.callF ok g_fixed_atoms (pf.kf 24 _ _ rfl) SEs.nil)) (SAs.name s1) (SS.cons (SX.expr (SE.meth ok pf.mt (SE.loc s0) (SEs.cons (SE.loc s1) SEs.nil))) SS.nil)) (SS.cons (SX.for (SI.val ok (SE.callF ok g_fixed_functors (pf.kf 25 _ _ rfl) SEs.nil)) (SAs.name s2) (SS.cons (SX.expr (SE.meth ok pf.mt (SE.loc s0) (SEs.cons (SE.idx (SE.loc s2) SE.int) (SEs.cons (SE.idx (SE.loc s2) SE.int) SEs.nil)))) SS.nil)) SS.nil))))))
theorem c2000 (ok : X.Ok) (cl : X.Cls) (pf : PF X fa tk) {H : MH} {Q : MV → MH → Prop} (K : ∀ a H', Keep No H H' → Q (.inst 0 a) H') : CallsTo X (d + 4) (.ref (X.cls 0)) [] Q H := by
  refine callsTo_new ok (pf.nw 0 0 2000 rfl) fun s ns => ?_
  rw [no0 pf]
  obtain ⟨q, dc, pm, co, ff⟩ := pf.fn 18 _ _ _ rfl; refine callsTo_def ok ff (fun L => d2000 ok cl pf) rfl 2 ?_
  have ks : ∀ {H : MH} {c : Cell}, Keep (fun b => b = s) H (H.set s c) := .set (.inl rfl)
  have h0 := H.set_self s (.A 0 [none, none, none, none])
  have k0 : Keep (fun b => b = s) H (H.set s (.A 0 [none, none, none, none])) := .set (.inr ns)
  show p2000 X (d + 2) fa _ ⟨_, H.set s (.A 0 [none, none, none, none])⟩
  generalize H.set s (.A 0 [none, none, none, none]) = H0 at h0 k0
  walk_at "s"
  intro ta na
  have nta := ne_new h0 na
  refine ⟨_, _, .mk (set_at h0 nta) (ai0_texts pf) (ltB rfl), ?_⟩
  have h1 := (H0.set ta (.L [])).set_self s (.A 0 [some (.ref ta), none, none, none])
  have t1 := set_at (c' := (.A 0 [some (.ref ta), none, none, none])) (H0.set_self ta (.L [])) nta.symm
  have k1 := (k0.trans (.set (.inr na))).trans (ks (H := H0.set ta (.L [])) (c := (.A 0 [some (.ref ta), none, none, none])))
  show p2000_1 X (d + 2) fa _ ⟨_, (H0.set ta (.L [])).set s (.A 0 [some (.ref ta), none, none, none])⟩
  generalize (H0.set ta (.L [])).set s (.A 0 [some (.ref ta), none, none, none]) = H1 at h1 t1 k1
  walk_at "s"
  intro an o2 nb
  have nan := ne_new h1 nb
  refine ⟨_, _, .mk (set_at h1 nan) (ai0_atom_numbers pf) (ltB rfl), ?_⟩
  have h2 := (H1.set an (.D DK.v.nil o2)).set_self s (.A 0 [some (.ref ta), some (.ref an), none, none])
  have t2 := set_at (c' := (.A 0 [some (.ref ta), some (.ref an), none, none])) (set_at (c' := .D DK.v.nil o2) t1 (ne_new t1 nb)) nta.symm
  have a2 := set_at (c' := (.A 0 [some (.ref ta), some (.ref an), none, none])) (H1.set_self an (.D DK.v.nil o2)) nan.symm
  have k2 := (k1.trans (.set (.inr nb))).trans (ks (H := H1.set an (.D DK.v.nil o2)) (c := (.A 0 [some (.ref ta), some (.ref an), none, none])))
  show p2000_2 X (d + 2) fa _ ⟨_, (H1.set an (.D DK.v.nil o2)).set s (.A 0 [some (.ref ta), some (.ref an), none, none])⟩
  generalize (H1.set an (.D DK.v.nil o2)).set s (.A 0 [some (.ref ta), some (.ref an), none, none]) = H2 at h2 t2 a2 k2
  walk_at "s"
  intro fu nc
  have nfu := ne_new h2 nc
  refine ⟨_, _, .mk (set_at h2 nfu) (ai0_functors pf) (ltB rfl), ?_⟩
  have h3 := (H2.set fu (.L [])).set_self s (.A 0 [some (.ref ta), some (.ref an), some (.ref fu), none])
  have t3 := set_at (c' := (.A 0 [some (.ref ta), some (.ref an), some (.ref fu), none])) (set_at (c' := .L []) t2 (ne_new t2 nc)) nta.symm
  have a3 := set_at (c' := (.A 0 [some (.ref ta), some (.ref an), some (.ref fu), none])) (set_at (c' := .L []) a2 (ne_new a2 nc)) nan.symm
  have f3 := set_at (c' := (.A 0 [some (.ref ta), some (.ref an), some (.ref fu), none])) (H2.set_self fu (.L [])) nfu.symm
  have k3 := (k2.trans (.set (.inr nc))).trans (ks (H := H2.set fu (.L [])) (c := (.A 0 [some (.ref ta), some (.ref an), some (.ref fu), none])))
  have tf := ne_new t2 nc
  show p2000_3 X (d + 2) fa _ ⟨_, (H2.set fu (.L [])).set s (.A 0 [some (.ref ta), some (.ref an), some (.ref fu), none])⟩
  generalize (H2.set fu (.L [])).set s (.A 0 [some (.ref ta), some (.ref an), some (.ref fu), none]) = H3 at h3 t3 a3 f3 k3
  walk_at "s"
  intro fn o4 ne
  have nfn := ne_new h3 ne
  refine ⟨_, _, .mk (set_at h3 nfn) (ai0_functor_numbers pf) (ltB rfl), ?_⟩
  have h4 := (H3.set fn (.D DK.t.nil o4)).set_self s (.A 0 [some (.ref ta), some (.ref an), some (.ref fu), some (.ref fn)])
  have t4 := set_at (c' := (.A 0 [some (.ref ta), some (.ref an), some (.ref fu), some (.ref fn)])) (set_at (c' := .D DK.t.nil o4) t3 (ne_new t3 ne)) nta.symm
  have a4 := set_at (c' := (.A 0 [some (.ref ta), some (.ref an), some (.ref fu), some (.ref fn)])) (set_at (c' := .D DK.t.nil o4) a3 (ne_new a3 ne)) nan.symm
  have f4 := set_at (c' := (.A 0 [some (.ref ta), some (.ref an), some (.ref fu), some (.ref fn)])) (set_at (c' := .D DK.t.nil o4) f3 (ne_new f3 ne)) nfu.symm
  have n4 := set_at (c' := (.A 0 [some (.ref ta), some (.ref an), some (.ref fu), some (.ref fn)])) (H3.set_self fn (.D DK.t.nil o4)) nfn.symm
  have k4 := (k3.trans (.set (.inr ne))).trans (ks (H := H3.set fn (.D DK.t.nil o4)) (c := (.A 0 [some (.ref ta), some (.ref an), some (.ref fu), some (.ref fn)])))
  show p2000_4 X (d + 2) fa _ ⟨_, (H3.set fn (.D DK.t.nil o4)).set s (.A 0 [some (.ref ta), some (.ref an), some (.ref fu), some (.ref fn)])⟩
  generalize (H3.set fn (.D DK.t.nil o4)).set s (.A 0 [some (.ref ta), some (.ref an), some (.ref fu), some (.ref fn)]) = H4 at h4 t4 a4 f4 n4 k4
  have back : ∀ {H' : MH} {b : Addr}, Keep (fun b => b = s) H H' → H' b = none → H b = none := fun k h => Classical.byContradiction fun z => k.dom _ z h
  have y : Sy H H4 s ta an fu fn 0 := ⟨(k4.mono fun _ => .inr).off ns, h4, ⟨[], t4, Nat.le_refl _⟩, ⟨[], o2, a4, Nat.le_refl _, nofun⟩, ⟨[], f4, Nat.le_refl _⟩, ⟨[], o4, n4, Nat.le_refl _, nofun⟩, ⟨back k0 na, back k1 nb, back k2 nc, back k3 ne⟩, tf⟩
  walk_at "s"
  refine c8 ok cl pf ⟨_, .tup, .inv MV.str (fun done rest σ => atoms = done ++ rest ∧ S1 H s ta an fu fn done σ) ⟨rfl, .mk y⟩ ?_ ?_ rfl⟩
  · rintro done x rest σ G ⟨hd, ⟨y⟩⟩ hG
    have dl : done.length + (rest.length + 1) = 29 := by
      have := congrArg List.length hd
      rw [List.length_append, List.length_cons] at this
      exact this.symm.trans rfl
    refine ⟨trivial, ?_⟩
    walk_at "s"
    refine ⟨_, .mk mt0_atom y.self, c2001 ok cl pf y (by (first | lia | omega)) fun H' c y' => hG.next _ ⟨by rw [hd, List.append_assoc]; rfl, .mk ?_⟩⟩
    rw [List.length_append]; exact y'
  · rintro done σ ⟨hd, ⟨y⟩⟩
    rw [List.append_nil] at hd
    have dl : done.length = 29 := by rw [← hd]; rfl
    rw [dl] at y
    refine ⟨trivial, ?_⟩
    walk_at "s"
    refine c9 ok cl pf ⟨_, .tup, .inv encF (fun done rest σ => funcs = done ++ rest ∧ S2 H s ta an fu fn done σ) ⟨rfl, .mk y⟩ ?_ ?_ rfl⟩
    · rintro done x rest σ G ⟨hd, ⟨y⟩⟩ hG
      have dl : done.length + (rest.length + 1) = 32 := by
        have := congrArg List.length hd
        rw [List.length_append, List.length_cons] at this
        exact this.symm.trans rfl
      refine ⟨trivial, ?_⟩
      walk_at "s"
      refine ⟨_, .mk mt0_func y.self, _, ix0, _, ix1, c2004 ok cl pf y (by (first | lia | omega)) fun H' c y' => hG.next _ ⟨by rw [hd, List.append_assoc]; rfl, .mk ?_⟩⟩
      rw [List.length_append]; exact y'
    · rintro done σ ⟨hd, ⟨y⟩⟩
      exact ⟨trivial, rfl, K s _ y.keep⟩
end
section
variable {X : Ctx} {fa : Nat → Addr} {tk : Nat → Tok} {d : Nat}
noncomputable def DatD (n : Nat) (m : MV) : Prop := Dat m ∧ (mvP m).depth ≤ n
theorem DatD.int {n : Nat} {i : Int} : DatD n (.int i) := ⟨.int i, Nat.zero_le _⟩
theorem DatD.str {n : Nat} {x : Str} (h : PyData.strOk x = true) : DatD n (.str x) := ⟨.str x h, Nat.zero_le _⟩
theorem depth_all {n : Nat} : ∀ {l : List MV}, (∀ m ∈ l, DatD n m) → PyData.depthAll (mvPs l) ≤ n
  | [], _ => Nat.zero_le _
  | m :: ms, h => Nat.max_le.mpr ⟨(h m (.head _)).2, depth_all fun x hx => h x (.tail _ hx)⟩
theorem DatD.tup {n : Nat} {l : List MV} (h : ∀ m ∈ l, DatD n m) : DatD (n + 1) (.tup l) := ⟨.tup l fun m hm => (h m hm).1, Nat.succ_le_succ (depth_all h)⟩
theorem DatD.le {n n' : Nat} {m : MV} (h : DatD n m) (q : n ≤ n') : DatD n' m := ⟨h.1, Nat.le_trans h.2 q⟩
theorem all1 {p : MV → Prop} {a : MV} (ha : p a) : ∀ m ∈ [a], p m := fun m hm => by cases List.mem_singleton.mp hm; exact ha
theorem allc {p : MV → Prop} {a : MV} {l : List MV} (ha : p a) (h : ∀ m ∈ l, p m) : ∀ m ∈ a :: l, p m := fun m hm => (List.mem_cons.mp hm).elim (fun e => e ▸ ha) (h m)
theorem Tm.Ok.dat {n : Nat} {t : Tm} (h : t.Ok n) : DatD (2 * n + 1) t.enc := by
  induction h with
  | a => exact (DatD.tup (n := 0) (allc (.str (by kernel_rfl!)) (all1 .int))).le (Nat.le_add_left ..)
  | i => exact (DatD.tup (n := 0) (allc (.str (by kernel_rfl!)) (all1 .int))).le (Nat.le_add_left ..)
  | v _ _ => exact (DatD.tup (n := 0) (allc (.str (by kernel_rfl!)) (all1 .int))).le (Nat.le_add_left ..)
  | s1 _ ih => exact DatD.tup (allc (.str (by kernel_rfl!)) (allc .int (all1 (.tup (all1 ih)))))
  | s2 _ _ ih ih' => exact DatD.tup (allc (.str (by kernel_rfl!)) (allc .int (all1 (.tup (allc ih (all1 ih'))))))
theorem Tm.Ok.small {n : Nat} {t : Tm} (h : t.Ok n) : t.nodes + 1 ≤ 2 ^ (n + 1) ∧ ∀ k ∈ t.vars, 0 ≤ k ∧ k < 5 := by
  have one : ∀ n, 2 ≤ 2 ^ (n + 1) := fun n => Nat.le_self_pow (Nat.succ_ne_zero n) 2
  induction h with
  | a => exact ⟨one _, nofun⟩
  | i => exact ⟨one _, nofun⟩
  | v h0 h1 => exact ⟨one _, fun k hk => by cases List.mem_singleton.mp hk; exact ⟨h0, h1⟩⟩
  | @s1 n _ _ _ ih => exact ⟨by rw [Nat.pow_succ]; have := ih.1; have := one n; rw [Tm.nodes]; (first | lia | omega), ih.2⟩
  | @s2 n _ _ _ _ _ ih ih' => exact ⟨by rw [Nat.pow_succ]; have := ih.1; have := ih'.1; rw [Tm.nodes]; (first | lia | omega), fun k hk => (List.mem_append.mp hk).elim (ih.2 k) (ih'.2 k)⟩
theorem Tm.Ok.fit {t : Tm} (h : t.Ok 2) : t.nodes ≤ 7 ∧ ∀ k ∈ t.vars, 0 ≤ k ∧ k < 7 := ⟨Nat.le_of_succ_le_succ h.small.1, fun k hk => let q := h.small.2 k hk; ⟨q.1, Int.lt_trans q.2 (by decide)⟩⟩
noncomputable def Gl.Gd (g : Gl) : Prop := g.Fit ∧ DatD 8 g.enc
theorem Gd.two {x y : Tm} (hx : x.Ok 2) (hy : y.Ok 2) : (Gl.call x y).Gd ∧ (Gl.blt x y).Gd :=
  have v : ∀ k, k ∈ x.vars ∨ k ∈ y.vars → 0 ≤ k ∧ k < 7 := fun k h => h.elim (hx.fit.2 k) (hy.fit.2 k)
  have d : DatD 6 (.tup [x.enc, y.enc]) := .tup (allc hx.dat (all1 hy.dat))
  ⟨⟨.call hx.fit.1 hy.fit.1 v, (DatD.tup (allc (.str (by kernel_rfl!)) (allc .int (all1 d)))).le (leB rfl)⟩, ⟨.blt hx.fit.1 hy.fit.1 v, (DatD.tup (allc (.str (by kernel_rfl!)) (allc .int (all1 d)))).le (leB rfl)⟩⟩
theorem Gd.num {n : Nat} {k : Int} (hn : n < 3) (hk : 0 ≤ k ∧ k < 7) : (Gl.num n k).Gd :=
  ⟨.num hn hk, (DatD.tup (n := 0) (allc (.str (by rcases n with _ | _ | n <;> kernel_rfl!)) (all1 .int))).le (leB rfl)⟩
theorem Gd.cut : Gl.cut.Gd := ⟨.cut, (DatD.tup (n := 0) (all1 (.str (by kernel_rfl!)))).le (leB rfl)⟩
structure LS (H : MH) (t ta ma ka : Addr) (i : Nat) (H1 : MH) (gs : List Gl) (kept : List Int) : Prop where
  hm : H1 ma = some (.L (gs.map Gl.enc))
  hk : H1 ka = some (.L (kept.map .int))
  T : Tape H1 t ta
  k : Keep (fun b => (TW t ta b ∨ b = ma) ∨ b = ka) H H1
  hg : ∀ g ∈ gs, g.Gd
  hkp : ∀ x ∈ kept, 0 ≤ x ∧ x < 7
  ln : gs.length ≤ i + 1
  lk : kept.length ≤ i + 1
  fm : H ma = none
  fk : H ka = none
  ne : ma ≠ ka
  am : ma ≠ t ∧ ma ≠ ta
  ak : ka ≠ t ∧ ka ≠ ta
section
variable {H H1 : MH} {t ta ma ka : Addr} {i : Nat} {gs : List Gl} {kept : List Int}
theorem LS.new (s : LS H t ta ma ka i H1 gs kept) {a : Addr} {c : Cell} (n : H1 a = none) : LS H t ta ma ka i (H1.set a c) gs kept :=
  ⟨set_at s.hm (ne_new s.hm n), set_at s.hk (ne_new s.hk n), s.T.upd (s.T.apart n).1 (s.T.apart n).2, s.k.trans (.set (.inr n)), s.hg, s.hkp, s.ln, s.lk, s.fm, s.fk, s.ne, s.am, s.ak⟩
theorem LS.step (s : LS H t ta ma ka i H1 gs kept) {H2 : MH} (T : Tape H2 t ta) (k : Keep (TW t ta) H1 H2) : LS H t ta ma ka i H2 gs kept :=
  ⟨k.at s.hm fun z => z.elim s.am.1 s.am.2, k.at s.hk fun z => z.elim s.ak.1 s.ak.2, T, s.k.trans (k.mono fun b z => .inl (.inl z)), s.hg, s.hkp, s.ln, s.lk, s.fm, s.fk, s.ne, s.am, s.ak⟩
theorem LS.add (s : LS H t ta ma ka i H1 gs kept) {g : Gl} (h : g.Gd) : LS H t ta ma ka (i + 1) (H1.set ma (.L (gs.map Gl.enc ++ [g.enc]))) (gs ++ [g]) kept :=
  ⟨by rw [MH.set_self, List.map_append]; rfl, set_at s.hk s.ne.symm, s.T.upd s.am.1 s.am.2, s.k.trans (.set (.inl (.inl (.inr rfl)))), fun x hx => (List.mem_append.mp hx).elim (s.hg x) fun e => List.mem_singleton.mp e ▸ h, s.hkp, by rw [List.length_append]; exact Nat.succ_le_succ s.ln, Nat.le_succ_of_le s.lk, s.fm, s.fk, s.ne, s.am, s.ak⟩
theorem LS.kpt (s : LS H t ta ma ka i H1 gs kept) {x : Int} (h : 0 ≤ x ∧ x < 7) (l : kept.length ≤ i) : LS H t ta ma ka i (H1.set ka (.L (kept.map .int ++ [.int x]))) gs (kept ++ [x]) :=
  ⟨set_at s.hm s.ne, by rw [MH.set_self, List.map_append]; rfl, s.T.upd s.ak.1 s.ak.2, s.k.trans (.set (.inl (.inr rfl))), s.hg, fun y hy => (List.mem_append.mp hy).elim (s.hkp y) fun e => List.mem_singleton.mp e ▸ h, s.ln, by rw [List.length_append]; exact Nat.succ_le_succ l, s.fm, s.fk, s.ne, s.am, s.ak⟩
end
inductive LG (H : MH) (t ta ma ka : Addr) (i : Nat) : St → Prop
  | mk {H1 : MH} {gs : List Gl} {kept : List Int} {x3 x4 x5 x6 : Option MV} (s : LS H t ta ma ka i H1 gs kept) : LG H t ta ma ka i ⟨[some (.ref t), some (.ref ma), some (.ref ka), x3, x4, x5, x6], H1⟩
noncomputable def p40_4 (X : Ctx) (d : Nat) (fa : Nat → Addr) : WS := wSeq (wExpr (wMethB "list" bAppend (wLoc 2) (wCons (wConst (.int 5)) wNil))) wEnd
noncomputable def p40_3 (X : Ctx) (d : Nat) (fa : Nat → Addr) : WS := wSeq (wExpr (wMethB "list" bAppend (wLoc 1) (wCons (wTup (wCons (wConst (.str (Str.ofString "level"))) (wCons (wConst (.int 5)) wNil))) wNil))) (p40_4 X d fa)
noncomputable def p40_8 (X : Ctx) (d : Nat) (fa : Nat → Addr) : WS := wSeq (wExpr (wMethB "list" bAppend (wLoc 1) (wCons (wTup (wCons (wConst (.str (Str.ofString "cutto"))) (wCons (wIdx (wLoc 2) (wBin .Mod (wCall X d (.ref (fa 38)) (wCons (wLoc 0) (wCons (wConst (.int 2)) wNil))) (wOB bLen (wCons (wLoc 2) wNil)))) wNil))) wNil))) wEnd
noncomputable def p40_11 (X : Ctx) (d : Nat) (fa : Nat → Addr) : WS := wSeq (wExpr (wMethB "list" bAppend (wLoc 2) (wCons (wConst (.int 6)) wNil))) wEnd
noncomputable def p40_10 (X : Ctx) (d : Nat) (fa : Nat → Addr) : WS := wSeq (wExpr (wMethB "list" bAppend (wLoc 1) (wCons (wTup (wCons (wConst (.str (Str.ofString "mark"))) (wCons (wConst (.int 6)) wNil))) wNil))) (p40_11 X d fa)
noncomputable def p40_13 (X : Ctx) (d : Nat) (fa : Nat → Addr) : WS := wSeq (wExpr (wMethB "list" bAppend (wLoc 1) (wCons (wTup (wCons (wConst (.str (Str.ofString "cut"))) wNil)) wNil))) wEnd
noncomputable def p40_16 (X : Ctx) (d : Nat) (fa : Nat → Addr) : WS := wSeq (wExpr (wMethB "list" bAppend (wLoc 1) (wCons (wIdx (wList (wCons (wTup (wCons (wConst (.str (Str.ofString "call"))) (wCons (wConst (.int 25)) (wCons (wTup (wCons (wLoc 5) (wCons (wLoc 6) wNil))) wNil)))) (wCons (wTup (wCons (wConst (.str (Str.ofString "builtin"))) (wCons (wConst (.int 13)) (wCons (wTup (wCons (wLoc 5) (wCons (wLoc 6) wNil))) wNil)))) wNil))) (wBin .Mod (wLoc 4) (wConst (.int 2)))) wNil))) wEnd
noncomputable def p40_15 (X : Ctx) (d : Nat) (fa : Nat → Addr) : WS := wSeq (wAsg (wCall X d (.ref (fa 39)) (wCons (wLoc 0) (wCons (wConst (.int 2)) wNil))) (wStore 6)) (p40_16 X d fa)
noncomputable def p40_14 (X : Ctx) (d : Nat) (fa : Nat → Addr) : WS := wSeq (wAsg (wCall X d (.ref (fa 39)) (wCons (wLoc 0) (wCons (wConst (.int 2)) wNil))) (wStore 5)) (p40_15 X d fa)
noncomputable def p40_12 (X : Ctx) (d : Nat) (fa : Nat → Addr) : WS := wSeq (wIf (wTAnd (wTCmp .Eq (wLoc 4) (wConst (.int 5))) (wTAnd (wTCmp .Eq (wComp (wSrc (wLoc 1)) (wTCmp .Eq (wIdx (wLoc 0) (wConst (.int 0))) (wConst (.str (Str.ofString "call")))) (wLoc 0) []) (wList wNil)) (wB true))) (p40_13 X d fa) (p40_14 X d fa)) wEnd
noncomputable def p40_9 (X : Ctx) (d : Nat) (fa : Nat → Addr) : WS := wSeq (wIf (wTAnd (wTCmp .Eq (wLoc 4) (wConst (.int 4))) (wTAnd (wTCmp .NotIn (wConst (.int 6)) (wLoc 2)) (wB true))) (p40_10 X d fa) (p40_12 X d fa)) wEnd
noncomputable def p40_7 (X : Ctx) (d : Nat) (fa : Nat → Addr) : WS := wSeq (wIf (wTAnd (wTCmp .Eq (wLoc 4) (wConst (.int 3))) (wTAnd (wTCmp .NotEq (wLoc 2) (wList wNil)) (wB true))) (p40_8 X d fa) (p40_9 X d fa)) wEnd
noncomputable def p40_6 (X : Ctx) (d : Nat) (fa : Nat → Addr) : WS := wSeq (wAsg (wCall X d (.ref (fa 38)) (wCons (wLoc 0) (wCons (wConst (.int 6)) wNil))) (wStore 4)) (p40_7 X d fa)
noncomputable def p40_17 (X : Ctx) (d : Nat) (fa : Nat → Addr) : WS := wSeq (wRet (wLoc 1)) wEnd
noncomputable def p40_5 (X : Ctx) (d : Nat) (fa : Nat → Addr) : WS := wSeq (wFor (wRng (wCall X d (.ref (fa 38)) (wCons (wLoc 0) (wCons (wConst (.int 5)) wNil)))) (wStore 3) (p40_6 X d fa)) (p40_17 X d fa)
noncomputable def p40_2 (X : Ctx) (d : Nat) (fa : Nat → Addr) : WS := wSeq (wIf (wTCmp .Eq (wCall X d (.ref (fa 38)) (wCons (wLoc 0) (wCons (wConst (.int 2)) wNil))) (wConst (.int 1))) (p40_3 X d fa) wEnd) (p40_5 X d fa)
noncomputable def p40_1 (X : Ctx) (d : Nat) (fa : Nat → Addr) : WS := wSeq (wAsg (wList wNil) (wStore 2)) (p40_2 X d fa)
noncomputable def p40 (X : Ctx) (d : Nat) (fa : Nat → Addr) : WS := wSeq (wAsg (wList wNil) (wStore 1)) (p40_1 X d fa)
theorem d40 (ok : X.Ok) (cl : X.Cls) (pf : PF X fa tk) {q : Str} {dc pm co : Value} {L : Addr} : SS X d (fiOf (mkFd (fnOf 40) q dc pm co) (nms 15) (fa 40) L) (fnB (fnOf 40)) (p40 X d fa) :=
  have s0 : Slot (fiOf (mkFd (fnOf 40) q dc pm co) (nms 15) (fa 40) L) 0 (Str.ofString "tape") := .loc (by rfl) (by kernel_rfl) (by decide)
  have s1 : Slot (fiOf (mkFd (fnOf 40) q dc pm co) (nms 15) (fa 40) L) 1 (Str.ofString "made") := .loc (by rfl) (by kernel_rfl) (by decide)
  have s2 : Slot (fiOf (mkFd (fnOf 40) q dc pm co) (nms 15) (fa 40) L) 2 (Str.ofString "kept") := .loc (by rfl) (by kernel_rfl) (by decide)
  have s3 : Slot (fiOf (mkFd (fnOf 40) q dc pm co) (nms 15) (fa 40) L) 3 (Str.ofString "lap") := .loc (by rfl) (by kernel_rfl) (by decide)
  have s4 : Slot (fiOf (mkFd (fnOf 40) q dc pm co) (nms 15) (fa 40) L) 4 (Str.ofString "way") := .loc (by rfl) (by kernel_rfl) (by decide)
  have s5 : Slot (fiOf (mkFd (fnOf 40) q dc pm co) (nms 15) (fa 40) L) 5 (Str.ofString "left") := .loc (by rfl) (by kernel_rfl) (by decide)
  have s6 : Slot (fiOf (mkFd (fnOf 40) q dc pm co) (nms 15) (fa 40) L) 6 (Str.ofString "right") := .loc (by rfl) (by kernel_rfl) (by decide)
  have g_F_CALL2 : GlobV X (fiOf (mkFd (fnOf 40) q dc pm co) (nms 15) (fa 40) L) (Str.ofString "F_CALL2") (.int 25 (tk 4)) := ⟨by kernel_rfl, pf.g 4 _ _ rfl, by decide⟩
  have g_F_MINUS : GlobV X (fiOf (mkFd (fnOf 40) q dc pm co) (nms 15) (fa 40) L) (Str.ofString "F_MINUS") (.int 13 (tk 6)) := ⟨by kernel_rfl, pf.g 6 _ _ rfl, by decide⟩
  have g__law_digit : GlobV X (fiOf (mkFd (fnOf 40) q dc pm co) (nms 15) (fa 40) L) (Str.ofString "_law_digit") (.ref (fa 38)) := ⟨by kernel_rfl, pf.g 14 _ _ rfl, by decide⟩
  have g__law_term : GlobV X (fiOf (mkFd (fnOf 40) q dc pm co) (nms 15) (fa 40) L) (Str.ofString "_law_term") (.ref (fa 39)) := ⟨by kernel_rfl, pf.g 19 _ _ rfl, by decide⟩
  have g_len : GlobV X (fiOf (mkFd (fnOf 40) q dc pm co) (nms 15) (fa 40) L) (Str.ofString "len") (.builtin "len") := ⟨by kernel_rfl, pf.g 30 _ _ rfl, by decide⟩
  have g_range : GlobV X (fiOf (mkFd (fnOf 40) q dc pm co) (nms 15) (fa 40) L) (Str.ofString "range") (.type "range") := ⟨by kernel_rfl, pf.g 33 _ _ rfl, by decide⟩
  (SS.cons (SX.asgName (SE.list SEs.nil) s1) (SS.cons (SX.asgName (SE.list SEs.nil) s2) (SS.cons (SX.if (ST.cmp ok (SE.callF ok g__law_digit (pf.kf 14 _ _ rfl) (SEs.cons (SE.loc s0) (SEs.cons SE.int SEs.nil))) SE.int) (SS.cons (SX.expr (SE.methB (SE.loc s1) (SEs.cons (SE.tup (SEs.cons SE.str (SEs.cons SE.int SEs.nil))) SEs.nil) (by decide) PySem.F.plainAttrs_list PySem.F.slot_list_append PySem.F.type_list_append okAppend (by rfl) (by rfl) (by rfl))) (SS.cons (SX.expr (SE.methB (SE.loc s2) (SEs.cons SE.int SEs.nil) (by decide) PySem.F.plainAttrs_list PySem.F.slot_list_append PySem.F.type_list_append okAppend (by rfl) (by rfl) (by rfl))) SS.nil)) SS.nil) (SS.cons (SX.for (SI.range1 ok g_range (SE.callF ok g__law_digit (pf.kf 14 _ _ rfl) (SEs.cons (SE.loc s0) (SEs.cons SE.int SEs.nil)))) (SAs.name s3) (SS.cons (SX.asgName (SE.callF ok g__law_digit (pf.kf 14 _ _ rfl) (SEs.cons (SE.loc s0) (SEs.cons SE.int SEs.nil))) s4) (SS.cons (SX.if (ST.bool (SA.and (ST.cmp ok (SE.loc s4) SE.int) (SA.and (ST.cmp ok (SE.loc s2) (SE.list SEs.nil)) SA.nil_and))) (SS.cons (SX.expr (SE.methB (SE.loc s1) (SEs.cons (SE.tup (SEs.cons SE.str (SEs.cons (SE.idx (SE.loc s2) (SE.bin (SE.callF ok g__law_digit (pf.kf 14 _ _ rfl) (SEs.cons (SE.loc s0) (SEs.cons SE.int SEs.nil))) (SE.callB ok g_len (SEs.cons (SE.loc s2) SEs.nil) okLen))) SEs.nil))) SEs.nil) (by decide) PySem.F.plainAttrs_list PySem.F.slot_list_append PySem.F.type_list_append okAppend (by rfl) (by rfl) (by rfl))) SS.nil) (SS.cons (SX.if (ST.bool (SA.and (ST.cmp ok (SE.loc s4) SE.int) (SA.and (ST.cmp ok SE.int (SE.loc s2)) SA.nil_and))) (SS.cons (SX.expr (SE.methB (SE.loc s1) (SEs.cons (SE.tup (SEs.cons SE.str (SEs.cons SE.int SEs.nil))) SEs.nil) (by decide) PySem.F.plainAttrs_list PySem.F.slot_list_append PySem.F.type_list_append okAppend (by rfl) (by rfl) (by rfl))) (SS.cons (SX.expr (SE.methB (SE.loc s2) (SEs.cons SE.int SEs.nil) (by decide) PySem.F.plainAttrs_list PySem.F.slot_list_append PySem.F.type_list_append okAppend (by rfl) (by rfl) (by rfl))) SS.nil)) (SS.cons (SX.if (ST.bool (SA.and (ST.cmp ok (SE.loc s4) SE.int) (SA.and (ST.cmp ok (SE.comp (compOk0 (by rfl) (by rfl) (by kernel_rfl!) (by kernel_rfl!) (by kernel_rfl!)) (SI.val ok (SE.loc s1)) (fun C => SC.one (ST.cmp ok (SE.idx (SE.loc (Slot.loc (by rfl) (by kernel_rfl!) (by decide))) SE.int) SE.str)) (fun C => (SE.loc (Slot.loc (by rfl) (by kernel_rfl!) (by decide))))) (SE.list SEs.nil)) SA.nil_and))) (SS.cons (SX.expr (SE.methB (SE.loc s1) (SEs.cons (SE.tup (SEs.cons SE.str SEs.nil)) SEs.nil) (by decide) PySem.F.plainAttrs_list PySem.F.slot_list_append PySem.F.type_list_append okAppend (by rfl) (by rfl) (by rfl))) SS.nil) (SS.cons (SX.asgName (SE.callF ok g__law_term (pf.kf 19 _ _ rfl) (SEs.cons (SE.loc s0) (SEs.cons SE.int SEs.nil))) s5) (SS.cons (SX.asgName (SE.callF ok g__law_term (pf.kf 19 _ _ rfl) (SEs.cons (SE.loc s0) (SEs.cons SE.int SEs.nil))) s6) (SS.cons (SX.expr (SE.methB (SE.loc s1) (SEs.cons (SE.idx (SE.list (SEs.cons (SE.tup (SEs.cons SE.str (SEs.cons (SE.globInt ok g_F_CALL2) (SEs.cons (SE.tup (SEs.cons (SE.loc s5) (SEs.cons (SE.loc s6) SEs.nil))) SEs.nil)))) (SEs.cons (SE.tup (SEs.cons SE.str (SEs.cons (SE.globInt ok g_F_MINUS) (SEs.cons (SE.tup (SEs.cons (SE.loc s5) (SEs.cons (SE.loc s6) SEs.nil))) SEs.nil)))) SEs.nil))) (SE.bin (SE.loc s4) SE.int)) SEs.nil) (by decide) PySem.F.plainAttrs_list PySem.F.slot_list_append PySem.F.type_list_append okAppend (by rfl) (by rfl) (by rfl))) SS.nil)))) SS.nil)) SS.nil)) SS.nil))) (SS.cons (SX.ret (SE.loc s1)) SS.nil)))))
theorem c40 (ok : X.Ok) (cl : X.Cls) (pf : PF X fa tk) {H : MH} {t ta : Addr} {Q : MV → MH → Prop} (T : Tape H t ta)
    (K : ∀ (H' : MH) (a : Addr) (gs : List Gl), H a = none → H' a = some (.L (gs.map Gl.enc)) → gs.length ≤ 5 → (∀ g ∈ gs, g.Gd) → Tape H' t ta → Keep (TW t ta) H H' → Q (.ref a) H') : CallsTo X (d + 5) (.ref (fa 40)) [.ref t] Q H := by
  obtain ⟨q, dc, pm, co, ff⟩ := pf.fn 15 _ _ _ rfl; refine callsTo_def ok ff (fun L => d40 ok cl pf) rfl 6 ?_
  walk_at "s"
  intro ma nm
  walk_at "s"
  intro ka nk
  have mk' := ne_new (H.set_self ma (.L [])) nk
  have nk' : H ka = none := (MH.set_ne _ _ mk'.symm).symm.trans nk
  have am := T.apart nm
  have ak := T.apart nk'
  have s0 : LS H t ta ma ka 0 ((H.set ma (.L [])).set ka (.L [])) [] [] := ⟨set_at (MH.set_self ..) mk', MH.set_self .., (T.upd am.1 am.2).upd ak.1 ak.2, (Keep.set (.inr nm)).trans (.set (.inr nk)), nofun, nofun, Nat.zero_le _, Nat.zero_le _, nm, nk', mk', am, ak⟩
  walk_at "s"
  refine c38 ok cl pf s0.T (by decide) (by decide) fun r H1 r0 r1 T3 k3 => ⟨_, .eq .int, ?_⟩
  have s1 := s0.step T3 k3
  have laps : ∀ {H1 : MH} {gs : List Gl} {kept : List Int}, LS H t ta ma ka 0 H1 gs kept → p40_5 X (d + 4) fa (fun m σ => Q (retOf m) σ.H) ⟨[some (.ref t), some (.ref ma), some (.ref ka), none, none, none, none], H1⟩ := by
    intro H1 gs kept s
    walk_at "s"
    refine c38 ok cl pf s.T (by decide) (by decide) fun r H2 r0 r1 T2 k2 => ⟨_, .mk r0 (by (first | lia | omega)), ?_⟩
    refine .inv (fun (i : Nat) => MV.int (0 + (i : Int))) (fun done rest σ => List.range r.toNat = done ++ rest ∧ LG H t ta ma ka done.length σ) ⟨rfl, .mk (s.step T2 k2)⟩ ?_ ?_ (l := List.range r.toNat) rfl
    · rintro done i rest σ G ⟨hd, ⟨s⟩⟩ hG
      rename_i H3 gs kept x3 x4 x5 x6
      obtain ⟨rfl, il⟩ := range_at hd
      refine ⟨trivial, ?_⟩
      have fin : ∀ {H4 : MH} {gs : List Gl} {kept : List Int} {x3 x4 x5 x6 : Option MV}, LS H t ta ma ka (done.length + 1) H4 gs kept → G .next ⟨[some (.ref t), some (.ref ma), some (.ref ka), x3, x4, x5, x6], H4⟩ := fun s =>
        hG.next _ ⟨by rw [hd, List.append_assoc]; rfl, by rw [List.length_append]; exact .mk s⟩
      have ln := s.ln
      have lk := s.lk
      have lenm : (gs.map Gl.enc).length ≤ 100000 := by rw [List.length_map]; (first | lia | omega)
      have lenk : (kept.map MV.int).length ≤ 100000 := by rw [List.length_map]; (first | lia | omega)
      walk_at "s"
      refine c38 ok cl pf s.T (by decide) (by decide) fun w H4 w0 w1 T4 k4 => ?_
      have s4 := s.step T4 k4
      clear s T4 k4
      have terms : ∀ {H5 : MH}, LS H t ta ma ka done.length H5 gs kept → p40_14 X (d + 4) fa G ⟨[some (.ref t), some (.ref ma), some (.ref ka), some (.int (0 + (done.length : Nat))), some (.int w), x5, x6], H5⟩ := by
        intro H5 s5
        walk_at "s"
        refine c39 (d := d) ok cl pf 2 s5.T fun x H6 hx T6 k6 => ?_
        have s6 := s5.step T6 k6
        walk_at "s"
        refine c39 (d := d) ok cl pf 2 s6.T fun y H7 hy T7 k7 => ?_
        have s7 := s6.step T7 k7
        have gd := Gd.two hx hy
        walk_at "s"
        refine ⟨_, .mk s7.hm rfl, fun ad nad => ⟨_, .mod (by decide), ?_⟩⟩
        have s8 := s7.new (c := .L [(Gl.call x y).enc, (Gl.blt x y).enc]) nad
        have := Int.emod_nonneg w (show (2 : Int) ≠ 0 by decide)
        have := Int.emod_lt_of_pos w (show (0 : Int) < 2 by decide)
        have : w % 2 = 0 ∨ w % 2 = 1 := by (first | lia | omega)
        rcases this with h | h
        · rw [h]; exact ⟨_, .list (MH.set_self ..) ⟨by decide, by decide, rfl⟩, .mk s8.hm lenm (fin (s8.add gd.1))⟩
        · rw [h]; exact ⟨_, .list (MH.set_self ..) ⟨by decide, by decide, rfl⟩, .mk s8.hm lenm (fin (s8.add gd.2))⟩
      have dk : ∀ m ∈ kept.map MV.int, DatD 0 m := fun m hm => let ⟨_, _, e⟩ := List.mem_map.mp hm; e ▸ .int
      have five : ∀ {H5 : MH}, LS H t ta ma ka done.length H5 gs kept → p40_12 X (d + 4) fa G ⟨[some (.ref t), some (.ref ma), some (.ref ka), some (.int (0 + (done.length : Nat))), some (.int w), x5, x6], H5⟩ := by
        intro H5 s5
        walk_at "s"
        refine ⟨_, .eq .int, .dec (fun h => ?_) fun _ => .f (terms s5)⟩
        refine ⟨_, .lst s5.hm, .inv Gl.enc (fun pre post acc H' => gs = pre ++ post ∧ acc = (pre.filter Gl.isC).map Gl.enc ∧ H' = H5) ⟨rfl, rfl, rfl⟩ ?_ ?_ rfl (by (first | lia | omega))⟩
        · rintro pre g post acc H' C ⟨e, rfl, rfl⟩ hC
          refine ⟨s5.hm, ?_⟩
          obtain ⟨sg, rg, hen, hh⟩ := g.head
          have e' : gs = pre ++ [g] ++ post := by rw [e, List.append_assoc]; rfl
          walk_at "s"
          refine ⟨_, ixE0 hen, _, .eq .str, .any (fun b => ⟨rfl, hC _ _ ⟨e', ?_, rfl⟩⟩) fun b => ⟨rfl, hC _ _ ⟨e', ?_, rfl⟩⟩⟩
          · rw [List.filter_append, List.filter_cons_of_pos (hh.symm.trans b), List.map_append]; rfl
          · rw [List.filter_append, List.filter_cons_of_neg (by rw [← hh, b]; nofun), List.filter_nil, List.append_nil]
        · rintro pre acc H' ⟨e, rfl, rfl⟩
          rw [List.append_nil] at e; subst e
          refine ⟨s5.hm, fun ad nad ad2 nad2 => ?_⟩
          have dg : ∀ m ∈ (gs.filter Gl.isC).map Gl.enc, DatD 8 m := fun m hm => let ⟨g, hg, e⟩ := List.mem_map.mp hm; e ▸ (s5.hg g (List.mem_filter.mp hg).1).2
          have s6 := (s5.new (c := .L ((gs.filter Gl.isC).map Gl.enc)) nad).new (c := .L []) nad2
          refine ⟨_, .eq (.list (v := (gs.filter Gl.isC).isEmpty) (set_at (MH.set_self ..) (ne_new (MH.set_self ..) nad2)) (MH.set_self ..) (fun m hm => (dg m hm).1) nofun (Nat.le_trans (depth_all dg) (leB rfl)) (Nat.zero_le _) (List.isEmpty_iff.trans List.map_eq_nil_iff.symm)), .any (fun _ => .t ?_) fun _ => .f (terms s6)⟩
          walk_at "s"
          exact ⟨_, .mk s6.hm rfl, .mk s6.hm lenm (fin (s6.add Gd.cut))⟩
      have four : ∀ {H5 : MH}, LS H t ta ma ka done.length H5 gs kept → p40_9 X (d + 4) fa G ⟨[some (.ref t), some (.ref ma), some (.ref ka), some (.int (0 + (done.length : Nat))), some (.int w), x5, x6], H5⟩ := by
        intro H5 s5
        walk_at "s"
        refine ⟨_, .eq .int, .dec (fun h => ⟨_, .nmem (.list (v := decide ((6 : Int) ∈ kept)) s5.hk (fun m hm => (dk m hm).1) (.int 6) (Nat.zero_le _) ?_), .neg (fun hn => .t ?_) fun _ => .f (five s5)⟩) fun _ => .f (five s5)⟩
        · rw [decide_eq_true_eq]
          exact ⟨fun h => List.mem_map_of_mem h, fun h => let ⟨_, h, e⟩ := List.mem_map.mp h; MV.int.inj e ▸ h⟩
        · walk_at "s"
          refine ⟨_, .mk s5.hm rfl, .mk s5.hm lenm ?_⟩
          have s6 := s5.add (Gd.num (n := 1) (k := 6) (by decide) (by decide))
          walk_at "s"
          exact ⟨_, .mk s6.hk rfl, .mk s6.hk lenk (fin (s6.kpt (by decide) lk))⟩
      walk_at "s"
      refine ⟨_, .eq .int, .dec (fun h => fun ad nad => ?_) fun _ => .f (four s4)⟩
      have s5 := s4.new (c := .L []) nad
      refine ⟨_, .ne (.list (v := kept.isEmpty) s5.hk (MH.set_self ..) (fun m hm => (dk m hm).1) nofun (Nat.le_trans (depth_all dk) (leB rfl)) (Nat.zero_le _) (List.isEmpty_iff.trans List.map_eq_nil_iff.symm)), .any (fun b => .t ?_) fun _ => .f (four s5)⟩
      have kpos : 0 < kept.length := List.length_pos_iff.mpr fun e => by rw [e] at b; cases b
      walk_at "s"
      refine ⟨_, .mk s5.hm rfl, c38 ok cl pf s5.T (by decide) (by decide) fun r' H6 _ _ T6 k6 => ?_⟩
      have s6 := s5.step T6 k6
      refine .list s6.hk (Nat.lt_of_le_of_lt lenk (by decide)) ?_
      rw [List.length_map]
      have kp : (0 : Int) < kept.length := Int.ofNat_lt.mpr kpos
      refine ⟨_, .mod kp, ?_⟩
      have m0 := Int.emod_nonneg r' (Int.ne_of_gt kp)
      have m1 := Int.emod_lt_of_pos r' kp
      generalize r' % (kept.length : Int) = q at m0 m1
      obtain ⟨q, rfl⟩ := Int.eq_ofNat_of_zero_le m0
      have ql := Int.ofNat_lt.mp m1
      have hq : kept[q]? = some kept[q] := List.getElem?_eq_getElem ql
      have hr := s6.hkp _ (List.getElem_mem ql)
      refine ⟨_, .list s6.hk (.nat (get_map hq) (by (first | lia | omega))), .mk s6.hm lenm (fin (s6.add (Gd.num (n := 2) (by decide) hr)))⟩
    · rintro done σ ⟨hd, ⟨s⟩⟩
      rename_i H3 gs kept x3 x4 x5 x6
      rw [List.append_nil] at hd
      have hd := congrArg List.length hd
      rw [List.length_range] at hd
      refine ⟨trivial, ?_⟩
      walk_at "s"
      have ln := s.ln
      exact K _ ma _ nm s.hm (by (first | lia | omega)) s.hg s.T ((s.k.off nk').off nm)
  refine .dec (fun h => ?_) fun h => laps s1
  walk_at "s"
  refine ⟨_, .mk s1.hm rfl, .mk s1.hm (Nat.zero_le _) ?_⟩
  have s2 : LS H t ta ma ka 0 (H1.set ma (.L [(Gl.num 0 5).enc])) [.num 0 5] [] := ⟨MH.set_self .., set_at s1.hk mk'.symm, s1.T.upd am.1 am.2, s1.k.trans (.set (.inl (.inl (.inr rfl)))), fun g hg => by cases List.mem_singleton.mp hg; exact Gd.num (by decide) (by decide), nofun, Nat.le_refl _, Nat.zero_le _, nm, nk', mk', am, ak⟩
  walk_at "s"
  refine ⟨_, .mk s2.hk rfl, .mk s2.hk (Nat.zero_le _) ?_⟩
  exact laps (s2.kpt (x := 5) (by decide) (Nat.le_refl _))
end
section
variable {X : Ctx} {fa : Nat → Addr} {tk : Nat → Tok} {d : Nat}
inductive Pv where
  | int (n : Int)
  | pair (a b : Int)
  | reg (s : Str) (n : Int)
  deriving DecidableEq
noncomputable def Pv.enc : Pv → MV
  | .int n => .int n
  | .pair a b => .tup [.int a, .int b]
  | .reg s n => .tup [.str s, .int n]
structure Rw where
  nm : Str
  ps : List Pv
noncomputable def Rw.enc (r : Rw) : MV := .tup (.str r.nm :: r.ps.map Pv.enc)
noncomputable abbrev sY : Str := Str.ofString "y"
noncomputable abbrev sT : Str := Str.ofString "t"
noncomputable def ysOf (rows : List Rw) (n : Int) : Prop := ∃ r ∈ rows, Pv.reg sY n ∈ r.ps
inductive B1 (H : MH) (cd fo ra : Addr) (at_ : Int) (rs : List Rw) (done : List Rw) : St → Prop
  | mk {H1 : MH} {fs : List Int} {x3 x4 : Option MV} (hf : H1 fo = some (.L (fs.map .int))) (hr : H1 ra = some (.L (rs.map Rw.enc))) (k : Keep No H H1) (nd : fs.Nodup) (m : ∀ n, n ∈ fs ↔ ysOf done n) : B1 H cd fo ra at_ rs done ⟨[some (.ref cd), some (.int at_), some (.ref fo), x3, x4], H1⟩
inductive B2 (H : MH) (cd fo ra : Addr) (at_ : Int) (rs : List Rw) (done : List Rw) (r : Rw) (dp : List Pv) : St → Prop
  | mk {H1 : MH} {fs : List Int} {x4 : Option MV} (hf : H1 fo = some (.L (fs.map .int))) (hr : H1 ra = some (.L (rs.map Rw.enc))) (k : Keep No H H1) (nd : fs.Nodup) (m : ∀ n, n ∈ fs ↔ ysOf done n ∨ Pv.reg sY n ∈ dp) : B2 H cd fo ra at_ rs done r dp ⟨[some (.ref cd), some (.int at_), some (.ref fo), some r.enc, x4], H1⟩
theorem ysOf_snoc {done : List Rw} {r : Rw} {n : Int} : ysOf (done ++ [r]) n ↔ ysOf done n ∨ Pv.reg sY n ∈ r.ps :=
  ⟨fun ⟨x, hx, h⟩ => (List.mem_append.mp hx).imp (⟨x, ·, h⟩) fun hx => by cases List.mem_singleton.mp hx; exact h, fun h => h.elim (fun ⟨x, hx, h⟩ => ⟨x, List.mem_append_left _ hx, h⟩) fun h => ⟨r, List.mem_append_right _ (.head _), h⟩⟩
theorem ints_in {l : List Int} (n : Int) : ((decide (n ∈ l)) = true ↔ MV.int n ∈ l.map .int) := by
  rw [decide_eq_true_eq]
  exact ⟨fun h => List.mem_map_of_mem h, fun h => let ⟨_, h, e⟩ := List.mem_map.mp h; MV.int.inj e ▸ h⟩
theorem dints (l : List Int) : ∀ m ∈ l.map MV.int, Dat m := fun m hm => let ⟨_, _, e⟩ := List.mem_map.mp hm; e ▸ .int _
theorem not_y {p : Pv} {done : List Pv} {P : Prop} {n : Int} (h : ∀ n, p ≠ .reg sY n) : (P ∨ Pv.reg sY n ∈ done ++ [p]) ↔ (P ∨ Pv.reg sY n ∈ done) :=
  or_congr Iff.rfl (List.mem_append.trans ⟨fun q => q.elim id fun q => (h n (List.mem_singleton.mp q).symm).elim, .inl⟩)
noncomputable def p42_4 (X : Ctx) (d : Nat) (fa : Nat → Addr) : WS := wSeq (wExpr (wMethB "list" bAppend (wLoc 2) (wCons (wIdx (wLoc 4) (wConst (.int 1))) wNil))) wEnd
noncomputable def p42_3 (X : Ctx) (d : Nat) (fa : Nat → Addr) : WS := wSeq (wIf (wTAnd (wTVal (wIsTup (wLoc 4))) (wTAnd (wTCmp .Eq (wIdx (wLoc 4) (wConst (.int 0))) (wConst (.str (Str.ofString "y")))) (wTAnd (wTCmp .NotIn (wIdx (wLoc 4) (wConst (.int 1))) (wLoc 2)) (wB true)))) (p42_4 X d fa) wEnd) wEnd
noncomputable def p42_2 (X : Ctx) (d : Nat) (fa : Nat → Addr) : WS := wSeq (wFor (wSrc (wSliceFromT (wLoc 3) (wConst (.int 1)))) (wStore 4) (p42_3 X d fa)) wEnd
noncomputable def p42_5 (X : Ctx) (d : Nat) (fa : Nat → Addr) : WS := wSeq (wRet (wOB bSorted (wCons (wLoc 2) wNil))) wEnd
noncomputable def p42_1 (X : Ctx) (d : Nat) (fa : Nat → Addr) : WS := wSeq (wFor (wSrc (wSliceFromL (wLoc 0) (wBin .Add (wLoc 1) (wConst (.int 1))))) (wStore 3) (p42_2 X d fa)) (p42_5 X d fa)
noncomputable def p42 (X : Ctx) (d : Nat) (fa : Nat → Addr) : WS := wSeq (wAsg (wList wNil) (wStore 2)) (p42_1 X d fa)
theorem d42 (ok : X.Ok) (cl : X.Cls) (pf : PF X fa tk) {q : Str} {dc pm co : Value} {L : Addr} : SS X d (fiOf (mkFd (fnOf 42) q dc pm co) (nms 17) (fa 42) L) (fnB (fnOf 42)) (p42 X d fa) :=
  have s0 : Slot (fiOf (mkFd (fnOf 42) q dc pm co) (nms 17) (fa 42) L) 0 (Str.ofString "code") := .loc (by rfl) (by kernel_rfl) (by decide)
  have s1 : Slot (fiOf (mkFd (fnOf 42) q dc pm co) (nms 17) (fa 42) L) 1 (Str.ofString "at") := .loc (by rfl) (by kernel_rfl) (by decide)
  have s2 : Slot (fiOf (mkFd (fnOf 42) q dc pm co) (nms 17) (fa 42) L) 2 (Str.ofString "found") := .loc (by rfl) (by kernel_rfl) (by decide)
  have s3 : Slot (fiOf (mkFd (fnOf 42) q dc pm co) (nms 17) (fa 42) L) 3 (Str.ofString "row") := .loc (by rfl) (by kernel_rfl) (by decide)
  have s4 : Slot (fiOf (mkFd (fnOf 42) q dc pm co) (nms 17) (fa 42) L) 4 (Str.ofString "part") := .loc (by rfl) (by kernel_rfl) (by decide)
  have g_isinstance : GlobV X (fiOf (mkFd (fnOf 42) q dc pm co) (nms 17) (fa 42) L) (Str.ofString "isinstance") (.builtin "isinstance") := ⟨by kernel_rfl, pf.g 28 _ _ rfl, by decide⟩
  have g_sorted : GlobV X (fiOf (mkFd (fnOf 42) q dc pm co) (nms 17) (fa 42) L) (Str.ofString "sorted") (.builtin "sorted") := ⟨by kernel_rfl, pf.g 37 _ _ rfl, by decide⟩
  have g_tuple : GlobV X (fiOf (mkFd (fnOf 42) q dc pm co) (nms 17) (fa 42) L) (Str.ofString "tuple") (.type "tuple") := ⟨by kernel_rfl, pf.g 38 _ _ rfl, by decide⟩
  (SS.cons (SX.asgName (SE.list SEs.nil) s2) (SS.cons (SX.for (SI.val ok (SE.sliceFromL (SE.loc s0) (SE.bin (SE.loc s1) SE.int))) (SAs.name s3) (SS.cons (SX.for (SI.val ok (SE.sliceFromT (SE.loc s3) SE.int)) (SAs.name s4) (SS.cons (SX.if (ST.bool (SA.and (ST.val (SE.isTup ok g_isinstance g_tuple (SE.loc s4))) (SA.and (ST.cmp ok (SE.idx (SE.loc s4) SE.int) SE.str) (SA.and (ST.cmp ok (SE.idx (SE.loc s4) SE.int) (SE.loc s2)) SA.nil_and)))) (SS.cons (SX.expr (SE.methB (SE.loc s2) (SEs.cons (SE.idx (SE.loc s4) SE.int) SEs.nil) (by decide) PySem.F.plainAttrs_list PySem.F.slot_list_append PySem.F.type_list_append okAppend (by rfl) (by rfl) (by rfl))) SS.nil) SS.nil) SS.nil)) SS.nil)) (SS.cons (SX.ret (SE.callB ok g_sorted (SEs.cons (SE.loc s2) SEs.nil) (okSorted ok))) SS.nil)))
theorem c42 (ok : X.Ok) (cl : X.Cls) (pf : PF X fa tk) {H : MH} {cd : Addr} {rows : List Rw} {i : Nat} {Q : MV → MH → Prop} (hc : H cd = some (.L (rows.map Rw.enc))) (hz : rows.length ≤ 1100) (hi : i ≤ 1100) (hp : ∀ r ∈ rows, r.ps.length ≤ 3) (hy : ∀ n, ysOf rows n → 0 ≤ n ∧ n < 20)
    (K : ∀ (H' : MH) (a : Addr) (ns : List Int), H a = none → H' a = some (.L (ns.map .int)) → ns.Nodup → ns.Pairwise (· ≤ ·) → (∀ n, n ∈ ns ↔ ysOf (rows.drop (i + 1)) n) → Keep No H H' → Q (.ref a) H') : CallsTo X (d + 1) (.ref (fa 42)) [.ref cd, .int i] Q H := by
  obtain ⟨q, dc, pm, co, ff⟩ := pf.fn 17 _ _ _ rfl; refine callsTo_def ok ff (fun L => d42 ok cl pf) rfl 3 ?_
  walk_at "s"
  intro fo nf
  have hc1 := set_at (c' := .L []) hc (ne_new hc nf)
  have k1 : Keep No H (H.set fo (.L [])) := .set (.inr nf)
  walk_at "s"
  refine ⟨_, .add, _, _, _, .mk hc1 (by (first | lia | omega)) (by rw [List.length_map]; (first | lia | omega)), fun ra nr => ?_⟩
  have fr := ne_new (H.set_self fo (.L [])) nr
  have e0 : (rows.map Rw.enc).drop ((i : Int) + 1).toNat = (rows.drop (i + 1)).map Rw.enc := by rw [List.map_drop]; rfl
  rw [e0]
  have hsub : ∀ r ∈ rows.drop (i + 1), r ∈ rows := fun r h => List.mem_of_mem_drop h
  have hsy : ∀ {l : List Rw} {n : Int}, (∀ r ∈ l, r ∈ rows.drop (i + 1)) → ysOf l n → 0 ≤ n ∧ n < 20 := fun hl ⟨r, hr, h⟩ => hy _ ⟨r, hsub r (hl r hr), h⟩
  generalize rows.drop (i + 1) = rs at hsub hsy K
  refine ⟨_, .lst (MH.set_self ..), .inv Rw.enc (fun done rest σ => rs = done ++ rest ∧ B1 H cd fo ra i rs done σ) ⟨rfl, .mk (fs := []) (set_at (MH.set_self ..) fr) (MH.set_self ..) (k1.fresh (k1.new nr)) List.nodup_nil fun n => ⟨nofun, fun ⟨_, h, _⟩ => nomatch h⟩⟩ ?_ ?_ rfl⟩
  · rintro done r rest σ G ⟨hd, ⟨hf, hr, k, nd, m⟩⟩ hG
    rename_i H1 fs x3 x4
    refine ⟨hr, ?_⟩
    have rin : r ∈ rs := by rw [hd]; exact List.mem_append_right _ (.head _)
    have hd' : rs = done ++ [r] ++ rest := by rw [hd, List.append_assoc]; rfl
    have yr : ∀ {dp rp : List Pv} {p : Pv}, r.ps = dp ++ p :: rp → ∀ x, ysOf done x ∨ Pv.reg sY x ∈ dp → 0 ≤ x ∧ x < 20 := fun e x h =>
      h.elim (hsy fun z hz => by rw [hd]; exact List.mem_append_left _ hz) fun h => hsy (l := [r]) (fun z hz => by cases List.mem_singleton.mp hz; exact rin) ⟨r, .head _, by rw [e]; exact List.mem_append_left _ h⟩
    walk_at "s"
    refine ⟨_, .mk (by decide) (by rw [List.length_cons]; (first | lia | omega)) (by rw [List.length_cons, List.length_map]; have := hp r (hsub r rin); (first | lia | omega)), _, .tup, .inv Pv.enc (fun dp rp σ => r.ps = dp ++ rp ∧ B2 H cd fo ra i rs done r dp σ) ⟨rfl, .mk hf hr k nd fun n => (m n).trans ⟨.inl, fun h => h.elim id nofun⟩⟩ ?_ ?_ rfl⟩
    · rintro dp p rp σ G2 ⟨hq, ⟨hf, hr, k, nd, m⟩⟩ hG2
      rename_i H1 fs x4
      refine ⟨trivial, ?_⟩
      have hq' : r.ps = dp ++ [p] ++ rp := by rw [hq, List.append_assoc]; rfl
      have skip : (∀ n, p ≠ .reg sY n) → G2 .next ⟨[some (.ref cd), some (.int i), some (.ref fo), some r.enc, some p.enc], H1⟩ := fun h => hG2.next _ ⟨hq', .mk hf hr k nd fun n => (m n).trans (not_y h).symm⟩
      walk_at "s"
      cases p with
      | int n => exact ⟨_, .int, _, .bool, .f (.f (skip nofun))⟩
      | pair a b => exact ⟨_, .tup, _, .bool, .t ⟨_, ix0, _, .eq .mixed, .f (.f (skip nofun))⟩⟩
      | reg s n =>
        refine ⟨_, .tup, _, .bool, .t ⟨_, ix0, _, .eq .str, .any (fun b => ⟨_, ix1, _, .nmem (.list (v := decide (n ∈ fs)) hf (dints fs) (.int n) (Nat.zero_le _) (ints_in n)), .neg (fun hn => .t ?_) fun hn => .f ?_⟩) fun b => .f (skip fun n' e => ?_)⟩⟩
        · have e := eq_of_beq b
          have fl : fs.length ≤ 20 := Nat.le_trans (nodup_le fs ((List.range 20).map fun (i : Nat) => (i : Int)) nd fun x hx => List.mem_map.mpr ⟨x.toNat, List.mem_range.mpr (by have := yr hq x ((m x).mp hx); (first | lia | omega)), Int.toNat_of_nonneg (yr hq x ((m x).mp hx)).1⟩) (by decide)
          walk_at "s"
          refine ⟨_, .mk hf rfl, _, ix1, .mk hf (by rw [List.length_map]; (first | lia | omega)) (hG2.next _ ⟨hq', .mk (fs := fs ++ [n]) (by rw [MH.set_self, List.map_append]; rfl) (set_at hr fr.symm) (k.fresh nf) ?_ fun x => ?_⟩)⟩
          · rw [List.nodup_append]
            exact ⟨nd, nodup1, fun x hx y hy e => hn (by cases List.mem_singleton.mp hy; exact e ▸ hx)⟩
          · rw [List.mem_append, List.mem_append, List.mem_singleton, List.mem_singleton, m x, e, or_assoc]
            exact or_congr Iff.rfl (or_congr Iff.rfl ⟨fun e => by rw [e], fun e => by cases e; rfl⟩)
        · have e := eq_of_beq b
          refine hG2.next _ ⟨hq', .mk hf hr k nd fun x => (m x).trans ⟨fun h => h.imp id fun h => List.mem_append_left _ h, fun h => h.elim .inl fun h => (List.mem_append.mp h).elim .inr fun h => ?_⟩⟩
          cases List.mem_singleton.mp h
          exact (m n).mp hn
        · cases e
          exact absurd ((beq_self_eq_true sY).symm.trans b) (by decide)
    · rintro dp σ ⟨hq, ⟨hf, hr, k, nd, m⟩⟩
      rw [List.append_nil] at hq
      refine ⟨trivial, hG.next _ ⟨hd', .mk hf hr k nd fun n => (m n).trans ?_⟩⟩
      rw [ysOf_snoc, hq]
  · rintro done σ ⟨hd, ⟨hf, hr, k, nd, m⟩⟩
    rename_i H1 fs x3 x4
    rw [List.append_nil] at hd; subst hd
    refine ⟨hr, ?_⟩
    walk_at "s"
    have fl : fs.length ≤ 20 := Nat.le_trans (nodup_le fs ((List.range 20).map fun (i : Nat) => (i : Int)) nd fun x hx => List.mem_map.mpr ⟨x.toNat, List.mem_range.mpr (by have := hsy (fun _ h => h) ((m x).mp hx); (first | lia | omega)), Int.toNat_of_nonneg (hsy (fun _ h => h) ((m x).mp hx)).1⟩) (by decide)
    exact .list hf (by (first | lia | omega)) fun ns pm pw ad nad => K _ ad ns (k.new nad) (MH.set_self ..) (pm.nodup_iff.mpr nd) pw (fun n => pm.mem_iff.trans (m n)) (k.fresh (k.new nad))
end
section
variable {X : Ctx} {fa : Nat → Addr} {tk : Nat → Tok} {d : Nat}
noncomputable abbrev Ky := Str × Int
noncomputable def kE (κ : Ky) : List SK := [.s κ.1, .i κ.2]
theorem kE_inj {a b : Ky} (h : kE a = kE b) : a = b := by
  unfold kE at h
  injection h with h1 h2
  injection h2 with h2 _
  exact Prod.ext (SK.s.inj h1) (SK.i.inj h2)
theorem dget_keys {g : Ky → MV} {κ : Ky} : ∀ {ks : List Ky}, (κ ∈ ks → dget (ks.map fun κ => (kE κ, g κ)) (kE κ) = some (g κ)) ∧ (κ ∉ ks → dget (ks.map fun κ => (kE κ, g κ)) (kE κ) = none)
  | [] => ⟨nofun, fun _ => rfl⟩
  | x :: r => by
    obtain ⟨h1, h2⟩ := dget_keys (g := g) (κ := κ) (ks := r)
    by_cases e : x = κ
    · subst e; exact ⟨fun _ => if_pos rfl, fun n => (n (.head _)).elim⟩
    · have ne : kE x ≠ kE κ := fun z => e (kE_inj z)
      exact ⟨fun h => (if_neg ne).trans (h1 ((List.mem_cons.mp h).resolve_left fun z => e z.symm)), fun n => (if_neg ne).trans (h2 fun z => n (.tail _ z))⟩
noncomputable def isTY (s : Str) : Prop := s = sT ∨ s = sY
noncomputable def isCall (r : Rw) : Bool := r.nm == Str.ofString "call"
noncomputable def cls (rows : List Rw) : Nat := (rows.filter isCall).length
noncomputable def ocR (rows : List Rw) (κ : Ky) (c : Int) : Prop := ∃ i r, rows[i]? = some r ∧ Pv.reg κ.1 κ.2 ∈ r.ps ∧ isTY κ.1 ∧ c = (cls (rows.take i) : Nat)
theorem ocR_snoc {rows : List Rw} {r : Rw} {κ : Ky} {c : Int} : ocR (rows ++ [r]) κ c ↔ ocR rows κ c ∨ (Pv.reg κ.1 κ.2 ∈ r.ps ∧ isTY κ.1 ∧ c = (cls rows : Nat)) := by
  constructor
  · rintro ⟨i, x, h1, h2, h3, h4⟩
    have il := (List.getElem?_eq_some_iff.mp h1).1
    rw [List.length_append] at il
    by_cases z : i < rows.length
    · rw [List.getElem?_append_left z] at h1
      rw [List.take_append_of_le_length (Nat.le_of_lt z)] at h4
      exact .inl ⟨i, x, h1, h2, h3, h4⟩
    · obtain rfl : i = rows.length := Nat.le_antisymm (Nat.le_of_lt_succ il) (Nat.not_lt.mp z)
      rw [List.getElem?_append_right (Nat.le_refl _), Nat.sub_self] at h1
      cases h1
      rw [List.take_left] at h4
      exact .inr ⟨h2, h3, h4⟩
  · rintro (⟨i, x, h1, h2, h3, h4⟩ | ⟨h2, h3, h4⟩)
    · have z := (List.getElem?_eq_some_iff.mp h1).1
      exact ⟨i, x, by rw [List.getElem?_append_left z]; exact h1, h2, h3, by rw [List.take_append_of_le_length (Nat.le_of_lt z)]; exact h4⟩
    · exact ⟨rows.length, r, by rw [List.getElem?_append_right (Nat.le_refl _), Nat.sub_self]; rfl, h2, h3, by rw [List.take_left]; exact h4⟩
structure Tab (H0 H : MH) (a : Addr) (oc : Ky → Int → Prop) (n : Nat) (ks : List Ky) (ad : Ky → Addr) (L : Ky → List Int) (o : Obj) : Prop where
  hD : H a = some (.D (.t (ks.map fun κ => (kE κ, .ref (ad κ)))) o)
  nd : ks.Nodup
  cells : ∀ κ ∈ ks, H (ad κ) = some (.L ((L κ).map .int)) ∧ H0 (ad κ) = none ∧ (L κ).Nodup ∧ (L κ).length ≤ n
  inj : ∀ κ ∈ ks, ∀ κ' ∈ ks, ad κ = ad κ' → κ = κ'
  oc : ∀ κ c, oc κ c ↔ κ ∈ ks ∧ c ∈ L κ
  ln : ks.length ≤ n
  keep : Keep No H0 H
  new : H0 a = none
noncomputable def updK {α : Type} (f : Ky → α) (k : Ky) (x : α) : Ky → α := fun j => if j = k then x else f j
theorem updK_self {α : Type} {f : Ky → α} {k : Ky} {x : α} : updK f k x k = x := if_pos rfl
theorem updK_ne {α : Type} {f : Ky → α} {k j : Ky} {x : α} (h : j ≠ k) : updK f k x j = f j := if_neg h
section
variable {H0 H : MH} {a : Addr} {oc : Ky → Int → Prop} {n : Nat} {ks : List Ky} {ad : Ky → Addr} {L : Ky → List Int} {o : Obj} {κ : Ky} {c : Int}
theorem Tab.fresh (t : Tab H0 H a oc n ks ad L o) {b : Addr} {x : Cell} (h : H b = none) : Tab H0 (H.set b x) a oc n ks ad L o :=
  ⟨set_at t.hD (ne_new t.hD h), t.nd, fun κ hκ => let ⟨p, q⟩ := t.cells κ hκ; ⟨set_at p (ne_new p h), q⟩, t.inj, t.oc, t.ln, t.keep.fresh (t.keep.new h), t.new⟩
theorem Tab.same (t : Tab H0 H a oc n ks ad L o) (hκ : κ ∈ ks) (hc : c ∈ L κ) : Tab H0 H a (fun κ' c' => oc κ' c' ∨ κ' = κ ∧ c' = c) (n + 1) ks ad L o :=
  ⟨t.hD, t.nd, fun κ hκ => let ⟨p, q, r, l⟩ := t.cells κ hκ; ⟨p, q, r, Nat.le_succ_of_le l⟩, t.inj, fun κ' c' => ⟨fun h => h.elim (t.oc κ' c').mp fun ⟨e, e'⟩ => e ▸ e' ▸ ⟨hκ, hc⟩, fun h => .inl ((t.oc κ' c').mpr h)⟩, Nat.le_succ_of_le t.ln, t.keep, t.new⟩
theorem Tab.put (t : Tab H0 H a oc n ks ad L o) (hκ : κ ∈ ks) (hc : c ∉ L κ) : Tab H0 (H.set (ad κ) (.L ((L κ).map .int ++ [.int c]))) a (fun κ' c' => oc κ' c' ∨ κ' = κ ∧ c' = c) (n + 1) ks ad (updK L κ (L κ ++ [c])) o := by
  obtain ⟨p, q, r, l⟩ := t.cells κ hκ
  refine ⟨set_at t.hD (ne_cells t.hD p nofun), t.nd, fun κ' hκ' => ?_, t.inj, fun κ' c' => ?_, Nat.le_succ_of_le t.ln, t.keep.fresh q, t.new⟩
  · by_cases z : κ' = κ
    · subst z
      rw [updK_self]
      refine ⟨by rw [MH.set_self, List.map_append]; rfl, q, ?_, by rw [List.length_append]; exact Nat.succ_le_succ l⟩
      rw [List.nodup_append]
      exact ⟨r, nodup1, fun x hx y hy e => hc (by cases List.mem_singleton.mp hy; exact e ▸ hx)⟩
    · rw [updK_ne z]
      obtain ⟨p', q', r', l'⟩ := t.cells κ' hκ'
      exact ⟨set_at p' fun e => z (t.inj _ hκ' _ hκ e), q', r', Nat.le_succ_of_le l'⟩
  · by_cases z : κ' = κ
    · subst z
      rw [updK_self, t.oc, List.mem_append, List.mem_singleton]
      exact ⟨fun h => h.elim (fun h => ⟨h.1, .inl h.2⟩) fun h => ⟨hκ, .inr h.2⟩, fun ⟨_, h⟩ => h.imp (⟨hκ, ·⟩) fun h => ⟨rfl, h⟩⟩
    · rw [updK_ne z, t.oc]
      exact ⟨fun h => h.elim id fun h => (z h.1).elim, .inl⟩
theorem Tab.key (t : Tab H0 H a oc n ks ad L o) (hκ : κ ∉ ks) {b : Addr} {o' : Obj} (hb : H b = some (.L [])) (nb : ∀ κ ∈ ks, ad κ ≠ b) (n0 : H0 b = none) : Tab H0 (H.set a (.D (.t (dput (ks.map fun κ => (kE κ, .ref (ad κ))) (kE κ) (.ref b))) o')) a oc (n + 1) (ks ++ [κ]) (updK ad κ b) (updK L κ []) o' := by
  have ba := ne_cells hb t.hD nofun
  have em : (ks.map fun κ => (kE κ, MV.ref (ad κ))) = ks.map fun κ' => (kE κ', MV.ref (updK ad κ b κ')) := List.map_congr_left fun κ' h => by rw [updK_ne (show κ' ≠ κ from fun e => hκ (e ▸ h))]
  have inv : ∀ {κ'}, κ' ∈ ks ++ [κ] → κ' ≠ κ → κ' ∈ ks := fun h z => (List.mem_append.mp h).resolve_right fun h => z (List.mem_singleton.mp h)
  refine ⟨?_, ?_, fun κ' h => ?_, fun κ1 h1 κ2 h2 e => ?_, fun κ' c' => ?_, by rw [List.length_append]; exact Nat.succ_le_succ t.ln, t.keep.fresh t.new, t.new⟩
  · rw [MH.set_self, dput, if_neg, em, List.map_append, List.map_cons, updK_self]; rfl
    intro h
    obtain ⟨p, hp, e⟩ := List.any_eq_true.mp h
    obtain ⟨κ', hκ', rfl⟩ := List.mem_map.mp hp
    exact hκ (kE_inj (of_decide_eq_true e) ▸ hκ')
  · rw [List.nodup_append]
    exact ⟨t.nd, nodup1, fun x hx y hy e => hκ (by cases List.mem_singleton.mp hy; exact e ▸ hx)⟩
  · by_cases z : κ' = κ
    · rw [z, updK_self, updK_self]; exact ⟨set_at hb ba, n0, List.nodup_nil, Nat.zero_le _⟩
    · rw [updK_ne z, updK_ne z]
      obtain ⟨p', q', r', l'⟩ := t.cells κ' (inv h z)
      exact ⟨set_at p' (ne_cells p' t.hD nofun), q', r', Nat.le_succ_of_le l'⟩
  · by_cases z1 : κ1 = κ
    · by_cases z2 : κ2 = κ
      · rw [z1, z2]
      · rw [z1, updK_self, updK_ne z2] at e; exact (nb _ (inv h2 z2) e.symm).elim
    · by_cases z2 : κ2 = κ
      · rw [z2, updK_self, updK_ne z1] at e; exact (nb _ (inv h1 z1) e).elim
      · rw [updK_ne z1, updK_ne z2] at e; exact t.inj _ (inv h1 z1) _ (inv h2 z2) e
  · rw [t.oc]
    by_cases z : κ' = κ
    · rw [z, updK_self]; exact ⟨fun h => (hκ h.1).elim, fun h => nomatch h.2⟩
    · rw [updK_ne z]; exact ⟨fun h => ⟨List.mem_append_left _ h.1, h.2⟩, fun h => ⟨inv h.1 z, h.2⟩⟩
end
inductive HO1 (H : MH) (cd a : Addr) (rows done : List Rw) : St → Prop
  | mk {H1 : MH} {n : Nat} {ks : List Ky} {ad : Ky → Addr} {L : Ky → List Int} {o : Obj} {x3 x4 x5 : Option MV} (t : Tab H H1 a (ocR done) n ks ad L o) (hn : n ≤ 6 * done.length) (ne : ∀ κ ∈ ks, L κ ≠ []) : HO1 H cd a rows done ⟨[some (.ref cd), some (.ref a), some (.int (cls done : Nat)), x3, x4, x5], H1⟩
inductive HO2 (H : MH) (cd a : Addr) (rows done : List Rw) (r : Rw) (dp : List Pv) : St → Prop
  | mk {H1 : MH} {n : Nat} {ks : List Ky} {ad : Ky → Addr} {L : Ky → List Int} {o : Obj} {x4 x5 : Option MV} (t : Tab H H1 a (fun κ c => ocR done κ c ∨ (Pv.reg κ.1 κ.2 ∈ dp ∧ isTY κ.1 ∧ c = (cls done : Nat))) n ks ad L o) (hn : n ≤ 6 * done.length + 2 * dp.length) (ne : ∀ κ ∈ ks, L κ ≠ []) : HO2 H cd a rows done r dp ⟨[some (.ref cd), some (.ref a), some (.int (cls done : Nat)), some r.enc, x4, x5], H1⟩
theorem Tab.iff {H0 H : MH} {a : Addr} {oc oc' : Ky → Int → Prop} {n : Nat} {ks : List Ky} {ad : Ky → Addr} {L : Ky → List Int} {o : Obj} (t : Tab H0 H a oc n ks ad L o) (h : ∀ κ c, oc' κ c ↔ oc κ c) : Tab H0 H a oc' n ks ad L o :=
  ⟨t.hD, t.nd, t.cells, t.inj, fun κ c => (h κ c).trans (t.oc κ c), t.ln, t.keep, t.new⟩
noncomputable def p41_7 (X : Ctx) (d : Nat) (fa : Nat → Addr) : WS := wSeq (wExpr (wMethB "list" bAppend (wLoc 5) (wCons (wLoc 2) wNil))) wEnd
noncomputable def p41_6 (X : Ctx) (d : Nat) (fa : Nat → Addr) : WS := wSeq (wIf (wTCmp .NotIn (wLoc 2) (wLoc 5)) (p41_7 X d fa) wEnd) wEnd
noncomputable def p41_5 (X : Ctx) (d : Nat) (fa : Nat → Addr) : WS := wSeq (wAsg (wMethB "dict" bSetdefault (wLoc 1) (wCons (wLoc 4) (wCons (wList wNil) wNil))) (wStore 5)) (p41_6 X d fa)
noncomputable def p41_4 (X : Ctx) (d : Nat) (fa : Nat → Addr) : WS := wSeq (wIf (wTAnd (wTVal (wIsTup (wLoc 4))) (wTAnd (wTOr (wTCmp .Eq (wIdx (wLoc 4) (wConst (.int 0))) (wConst (.str (Str.ofString "t")))) (wTOr (wTCmp .Eq (wIdx (wLoc 4) (wConst (.int 0))) (wConst (.str (Str.ofString "y")))) (wB false))) (wB true))) (p41_5 X d fa) wEnd) wEnd
noncomputable def p41_9 (X : Ctx) (d : Nat) (fa : Nat → Addr) : WS := wSeq (wAugName 2 .Add (wConst (.int 1))) wEnd
noncomputable def p41_8 (X : Ctx) (d : Nat) (fa : Nat → Addr) : WS := wSeq (wIf (wTCmp .Eq (wIdx (wLoc 3) (wConst (.int 0))) (wConst (.str (Str.ofString "call")))) (p41_9 X d fa) wEnd) wEnd
noncomputable def p41_3 (X : Ctx) (d : Nat) (fa : Nat → Addr) : WS := wSeq (wFor (wSrc (wSliceFromT (wLoc 3) (wConst (.int 1)))) (wStore 4) (p41_4 X d fa)) (p41_8 X d fa)
noncomputable def p41_10 (X : Ctx) (d : Nat) (fa : Nat → Addr) : WS := wSeq (wRet (wLoc 1)) wEnd
noncomputable def p41_2 (X : Ctx) (d : Nat) (fa : Nat → Addr) : WS := wSeq (wFor (wSrc (wLoc 0)) (wStore 3) (p41_3 X d fa)) (p41_10 X d fa)
noncomputable def p41_1 (X : Ctx) (d : Nat) (fa : Nat → Addr) : WS := wSeq (wAsg (wConst (.int 0)) (wStore 2)) (p41_2 X d fa)
noncomputable def p41 (X : Ctx) (d : Nat) (fa : Nat → Addr) : WS := wSeq (wAsg (wDict0 .t) (wStore 1)) (p41_1 X d fa)
theorem d41 (ok : X.Ok) (cl : X.Cls) (pf : PF X fa tk) {q : Str} {dc pm co : Value} {L : Addr} : SS X d (fiOf (mkFd (fnOf 41) q dc pm co) (nms 16) (fa 41) L) (fnB (fnOf 41)) (p41 X d fa) :=
  have s0 : Slot (fiOf (mkFd (fnOf 41) q dc pm co) (nms 16) (fa 41) L) 0 (Str.ofString "code") := .loc (by rfl) (by kernel_rfl) (by decide)
  have s1 : Slot (fiOf (mkFd (fnOf 41) q dc pm co) (nms 16) (fa 41) L) 1 (Str.ofString "table") := .loc (by rfl) (by kernel_rfl) (by decide)
  have s2 : Slot (fiOf (mkFd (fnOf 41) q dc pm co) (nms 16) (fa 41) L) 2 (Str.ofString "stretch") := .loc (by rfl) (by kernel_rfl) (by decide)
  have s3 : Slot (fiOf (mkFd (fnOf 41) q dc pm co) (nms 16) (fa 41) L) 3 (Str.ofString "row") := .loc (by rfl) (by kernel_rfl) (by decide)
  have s4 : Slot (fiOf (mkFd (fnOf 41) q dc pm co) (nms 16) (fa 41) L) 4 (Str.ofString "part") := .loc (by rfl) (by kernel_rfl) (by decide)
  have s5 : Slot (fiOf (mkFd (fnOf 41) q dc pm co) (nms 16) (fa 41) L) 5 (Str.ofString "parts") := .loc (by rfl) (by kernel_rfl) (by decide)
  have g_isinstance : GlobV X (fiOf (mkFd (fnOf 41) q dc pm co) (nms 16) (fa 41) L) (Str.ofString "isinstance") (.builtin "isinstance") := ⟨by kernel_rfl, pf.g 28 _ _ rfl, by decide⟩
  have g_tuple : GlobV X (fiOf (mkFd (fnOf 41) q dc pm co) (nms 16) (fa 41) L) (Str.ofString "tuple") (.type "tuple") := ⟨by kernel_rfl, pf.g 38 _ _ rfl, by decide⟩
  (SS.cons (SX.asgName (SE.dict0 .t) s1) (SS.cons (SX.asgName SE.int s2) (SS.cons (SX.for (SI.val ok (SE.loc s0)) (SAs.name s3) (SS.cons (SX.for (SI.val ok (SE.sliceFromT (SE.loc s3) SE.int)) (SAs.name s4) (SS.cons (SX.if (ST.bool (SA.and (ST.val (SE.isTup ok g_isinstance g_tuple (SE.loc s4))) (SA.and (ST.bool (SA.or (ST.cmp ok (SE.idx (SE.loc s4) SE.int) SE.str) (SA.or (ST.cmp ok (SE.idx (SE.loc s4) SE.int) SE.str) SA.nil_or))) SA.nil_and))) (SS.cons (SX.asgName (SE.methB (SE.loc s1) (SEs.cons (SE.loc s4) (SEs.cons (SE.list SEs.nil) SEs.nil)) (by decide) PySem.F.plainAttrs_dict PySem.F.slot_dict_setdefault PySem.F.type_dict_setdefault (okSetdefault ok) (by rfl) (by rfl) (by rfl)) s5) (SS.cons (SX.if (ST.cmp ok (SE.loc s2) (SE.loc s5)) (SS.cons (SX.expr (SE.methB (SE.loc s5) (SEs.cons (SE.loc s2) SEs.nil) (by decide) PySem.F.plainAttrs_list PySem.F.slot_list_append PySem.F.type_list_append okAppend (by rfl) (by rfl) (by rfl))) SS.nil) SS.nil) SS.nil)) SS.nil) SS.nil)) (SS.cons (SX.if (ST.cmp ok (SE.idx (SE.loc s3) SE.int) SE.str) (SS.cons (SX.augName s2 SE.int) SS.nil) SS.nil) SS.nil))) (SS.cons (SX.ret (SE.loc s1)) SS.nil))))
theorem c41 (ok : X.Ok) (cl : X.Cls) (pf : PF X fa tk) {H : MH} {cd : Addr} {rows : List Rw} {Q : MV → MH → Prop} (hc : H cd = some (.L (rows.map Rw.enc))) (hz : rows.length ≤ 1100) (hp : ∀ r ∈ rows, r.ps.length ≤ 3)
    (K : ∀ (H' : MH) (a : Addr) n ks ad L o, Tab H H' a (ocR rows) n ks ad L o → n ≤ 10000 → (∀ κ ∈ ks, L κ ≠ []) → Q (.ref a) H') : CallsTo X (d + 1) (.ref (fa 41)) [.ref cd] Q H := by
  obtain ⟨q, dc, pm, co, ff⟩ := pf.fn 16 _ _ _ rfl; refine callsTo_def ok ff (fun L => d41 ok cl pf) rfl 5 ?_
  walk_at "s"
  intro a o na
  walk_at "s"
  walk_at "s"
  have k0 : Keep No H (H.set a (.D DK.t.nil o)) := .set (.inr na)
  refine ⟨_, .lst (k0.at hc nofun), .inv Rw.enc (fun done rest σ => rows = done ++ rest ∧ HO1 H cd a rows done σ) ⟨rfl, .mk (ks := []) (n := 0) (ad := fun _ => a) (L := fun _ => []) ⟨MH.set_self .., List.nodup_nil, nofun, nofun, fun κ c => ⟨fun ⟨_, _, h, _⟩ => (nomatch h), fun h => (nomatch h.1)⟩, Nat.le_refl _, k0, na⟩ (Nat.zero_le _) nofun⟩ ?_ ?_ rfl⟩
  · rintro done r rest σ G ⟨hd, ⟨t, hn, ne⟩⟩ hG
    rename_i H3 n ks ad L o x3 x4 x5
    refine ⟨t.keep.at hc nofun, ?_⟩
    have rin : r ∈ rows := by rw [hd]; exact List.mem_append_right _ (.head _)
    have hd' : rows = done ++ [r] ++ rest := by rw [hd, List.append_assoc]; rfl
    have r3 := hp r rin
    have dl : done.length ≤ 1100 := by rw [hd, List.length_append] at hz; (first | lia | omega)
    walk_at "s"
    refine ⟨_, .mk (by decide) (by rw [List.length_cons]; (first | lia | omega)) (by rw [List.length_cons, List.length_map]; (first | lia | omega)), _, .tup, .inv Pv.enc (fun dp rp σ => r.ps = dp ++ rp ∧ HO2 H cd a rows done r dp σ) ⟨rfl, .mk (t.iff fun κ c => ⟨fun h => h.elim id fun h => (nomatch h.1), .inl⟩) hn ne⟩ ?_ ?_ rfl⟩
    · rintro dp p rp σ G2 ⟨hq, ⟨t, hn, ne⟩⟩ hG2
      rename_i H4 n ks ad L o x4 x5
      refine ⟨trivial, ?_⟩
      have hq' : r.ps = dp ++ [p] ++ rp := by rw [hq, List.append_assoc]; rfl
      have dpl : dp.length ≤ 3 := by rw [hq, List.length_append] at r3; (first | lia | omega)
      have next : ∀ {H5 n' ks' ad' L' o'} {x5 : Option MV}, Tab H H5 a (fun κ c => (ocR done κ c ∨ (Pv.reg κ.1 κ.2 ∈ dp ∧ isTY κ.1 ∧ c = (cls done : Nat))) ∨ (Pv.reg κ.1 κ.2 = p ∧ isTY κ.1 ∧ c = (cls done : Nat))) n' ks' ad' L' o' → n' ≤ n + 2 → (∀ κ ∈ ks', L' κ ≠ []) → G2 .next ⟨[some (.ref cd), some (.ref a), some (.int (cls done : Nat)), some r.enc, some p.enc, x5], H5⟩   := fun t hn' ne' =>
        hG2.next _ ⟨hq', .mk (t.iff fun κ c => by rw [List.mem_append, List.mem_singleton, or_and_right, or_assoc]) (by rw [List.length_append, List.length_singleton]; (first | lia | omega)) ne'⟩
      have skip : (∀ κ : Ky, isTY κ.1 → Pv.reg κ.1 κ.2 ≠ p) → G2 .next ⟨[some (.ref cd), some (.ref a), some (.int (cls done : Nat)), some r.enc, some p.enc, x5], H4⟩ := fun h =>
        next (t.iff fun κ c => ⟨fun q => q.elim id fun q => (h κ q.2.1 q.1).elim, .inl⟩) (Nat.le_add_right ..) ne
      walk_at "s"
      cases p with
      | int m => exact ⟨_, .int, _, .bool, .f (.f (skip nofun))⟩
      | pair x y => exact ⟨_, .tup, _, .bool, .t ⟨_, ix0, _, .eq .mixed, .f ⟨_, ix0, _, .eq .mixed, .f (.f (.f (skip nofun)))⟩⟩⟩
      | reg s m =>
        have tk2 : TkR [.str s, .int m] (kE (s, m)) := .cons .s (.cons .i .nil)
        have go6 : ∀ {H5 n' ks' ad' L' o'}, isTY s → Tab H H5 a (fun κ c => ocR done κ c ∨ (Pv.reg κ.1 κ.2 ∈ dp ∧ isTY κ.1 ∧ c = (cls done : Nat))) n' ks' ad' L' o' → (s, m) ∈ ks' → n' ≤ n + 1 → (∀ κ ∈ ks', κ ≠ (s, m) → L' κ ≠ []) →
            p41_6 X d fa G2 ⟨[some (.ref cd), some (.ref a), some (.int (cls done : Nat)), some r.enc, some (Pv.reg s m).enc, some (.ref (ad' (s, m)))], H5⟩ := by
          intro H5 n' ks' ad' L' o' ty t5 hk hn' ne'
          obtain ⟨c1, c2, c3, c4⟩ := t5.cells _ hk
          have eqv : ∀ (κ : Ky) (c : Int), ((ocR done κ c ∨ (Pv.reg κ.1 κ.2 ∈ dp ∧ isTY κ.1 ∧ c = (cls done : Nat))) ∨ (Pv.reg κ.1 κ.2 = Pv.reg s m ∧ isTY κ.1 ∧ c = (cls done : Nat))) ↔ ((ocR done κ c ∨ (Pv.reg κ.1 κ.2 ∈ dp ∧ isTY κ.1 ∧ c = (cls done : Nat))) ∨ (κ = (s, m) ∧ c = (cls done : Nat))) := fun κ c =>
            or_congr Iff.rfl ⟨fun ⟨e, _, e'⟩ => ⟨by injection e with e1 e2; exact Prod.ext e1 e2, e'⟩, fun ⟨e, e'⟩ => ⟨by rw [e], by rw [e]; exact ty, e'⟩⟩
          walk_at "s"
          refine ⟨_, .nmem (.list (v := decide (((cls done : Nat) : Int) ∈ L' (s, m))) c1 (dints _) (.int _) (Nat.zero_le _) (ints_in _)), .neg (fun hin => ?_) fun hin => ?_⟩
          · walk_at "s"
            refine ⟨_, .mk c1 rfl, .mk c1 (by rw [List.length_map]; (first | lia | omega)) (next ((t5.put hk hin).iff eqv) (Nat.succ_le_succ hn') fun κ hκ => ?_)⟩
            by_cases z : κ = (s, m)
            · rw [z, updK_self]; exact List.append_ne_nil_of_right_ne_nil _ nofun
            · rw [updK_ne z]; exact ne' κ hκ z
          · exact next ((t5.same hk hin).iff eqv) (Nat.succ_le_succ hn') fun κ hκ e => by
              by_cases z : κ = (s, m)
              · rw [← z, e] at hin; cases hin
              · exact ne' κ hκ z e
        have go : isTY s → p41_5 X d fa G2 ⟨[some (.ref cd), some (.ref a), some (.int (cls done : Nat)), some r.enc, some (Pv.reg s m).enc, x5], H4⟩ := by
          intro ty
          have kl := t.ln
          walk_at "s"
          refine ⟨_, .mk t.hD rfl, fun b nb => ?_⟩
          have t1 := t.fresh (x := .L []) nb
          by_cases hk : (s, m) ∈ ks
          · exact .old t1.hD tk2 (dget_keys.1 hk) (by rw [List.length_map]; (first | lia | omega)) (go6 ty t1 hk (Nat.le_succ _) fun κ h _ => ne κ h)
          · refine .new t1.hD tk2 (dget_keys.2 hk) (by rw [List.length_map]; (first | lia | omega)) fun o' => ?_
            have t2 := t1.key hk (o' := o') (MH.set_self ..) (fun κ hκ => ne_new (t.cells κ hκ).1 nb) (t.keep.new nb)
            have q := go6 ty t2 (List.mem_append_right _ (.head _)) (Nat.le_refl _) fun κ h z => by rw [updK_ne z]; exact ne κ ((List.mem_append.mp h).resolve_right fun h => z (List.mem_singleton.mp h))
            rw [updK_self] at q
            exact q
        refine ⟨_, .tup, _, .bool, .t ⟨_, ix0, _, .eq .str, .any (fun b => .t (.t (go (.inl (eq_of_beq b))))) fun b1 => ⟨_, ix0, _, .eq .str, .any (fun b => .t (.t (go (.inr (eq_of_beq b))))) fun b2 => .f (.f (skip fun κ ty e => ?_))⟩⟩⟩
        injection e with e1 e2
        rcases ty with h | h
        · rw [← e1, h, beq_self_eq_true] at b1; cases b1
        · rw [← e1, h, beq_self_eq_true] at b2; cases b2
    · rintro dp σ ⟨hq, ⟨t, hn, ne⟩⟩
      rename_i H4 n ks ad L o x4 x5
      rw [List.append_nil] at hq; subst hq
      refine ⟨trivial, ?_⟩
      have t' := t.iff (oc' := ocR (done ++ [r])) fun κ c => ocR_snoc
      have fin : ∀ s, s = cls (done ++ [r]) → G .next ⟨[some (.ref cd), some (.ref a), some (.int (s : Nat)), some r.enc, x4, x5], H4⟩ := by
        rintro s rfl
        exact hG.next _ ⟨hd', .mk t' (by rw [List.length_append, List.length_singleton]; (first | lia | omega)) ne⟩
      walk_at "s"
      refine ⟨_, ix0, _, .eq .str, .any (fun b => ?_) fun b => fin _ ?_⟩
      · walk_at "s"
        refine ⟨_, .add, fin (cls done + 1) ?_⟩
        unfold cls
        rw [List.filter_append, List.filter_cons_of_pos (show isCall r = true from b), List.length_append]; rfl
      · unfold cls
        rw [List.filter_append, List.filter_cons_of_neg (show ¬ isCall r = true by unfold isCall; rw [b]; nofun), List.filter_nil, List.append_nil]
  · rintro done σ ⟨hd, ⟨t, hn, ne⟩⟩
    rename_i H3 n ks ad L o x3 x4 x5
    rw [List.append_nil] at hd; subst hd
    refine ⟨t.keep.at hc nofun, ?_⟩
    walk_at "s"
    exact K H3 a _ ks ad L o t (by (first | lia | omega)) ne
end
section
variable {X : Ctx} {fa : Nat → Addr} {tk : Nat → Tok} {d : Nat}
noncomputable def ixf (p : Str → Bool) (rows : List Rw) (i : Nat) : Bool := ((rows[i]?).map fun r => p r.nm).getD false
theorem ixf_at {p : Str → Bool} {rows : List Rw} {i : Nat} {r : Rw} (h : rows[i]? = some r) : ixf p rows i = p r.nm := by unfold ixf; rw [h]; rfl
noncomputable def idxOf (p : Str → Bool) (rows : List Rw) : List Nat := (List.range rows.length).filter (ixf p rows)
theorem ixf_y {p : Str → Bool} {rows : List Rw} {i : Nat} {pre : List Nat} (h : ixf p rows i = true) : (pre.filter (ixf p rows)).map (fun (i : Nat) => MV.int i) ++ [.int (0 + (i : Int))] = ((pre ++ [i]).filter (ixf p rows)).map fun (i : Nat) => MV.int i := by
  rw [List.filter_append, List.filter_cons_of_pos h, List.map_append, Int.zero_add]; rfl
theorem ixf_n {p : Str → Bool} {rows : List Rw} {i : Nat} {pre : List Nat} (h : ixf p rows i = false) : (pre.filter (ixf p rows)).map (fun (i : Nat) => MV.int i) = ((pre ++ [i]).filter (ixf p rows)).map fun (i : Nat) => MV.int i := by
  rw [List.filter_append, List.filter_cons_of_neg (by rw [h]; nofun), List.filter_nil, List.append_nil]
noncomputable abbrev sA : Str := Str.ofString "allocate"
noncomputable abbrev sD : Str := Str.ofString "deallocate"
noncomputable abbrev sC : Str := Str.ofString "call"
noncomputable def isEnd (s : Str) : Bool := s == Str.ofString "execute" || s == Str.ofString "proceed"
structure FrameOk (rows : List Rw) (n : Int) : Prop where
  pos : 1 ≤ rows.length
  sk : ∀ r ∈ rows, PyData.strOk r.nm = true
  ends : idxOf isEnd rows = [rows.length - 1]
  no : (∀ r ∈ rows, r.nm ≠ sC) → n = 0 ∧ (∀ r ∈ rows, r.nm ≠ sA) ∧ ∀ r ∈ rows, r.nm ≠ sD
  al : (∃ r ∈ rows, r.nm = sC) → rows.filter (fun r => r.nm == sA) = [⟨sA, [.int n]⟩] ∧ (rows[0]?).map Rw.nm = some sA ∧ idxOf (· == sD) rows = [rows.length - 2] ∧ 2 ≤ rows.length
noncomputable def p43_3 (X : Ctx) (d : Nat) (fa : Nat → Addr) : WS := wSeq (wRet (wConst (.bool false))) wEnd
noncomputable def p43_5 (X : Ctx) (d : Nat) (fa : Nat → Addr) : WS := wSeq (wRet (wAndV (wCmp .Eq (wLoc 1) (wConst (.int 0))) (wAndV (wCmp .NotIn (wConst (.str (Str.ofString "allocate"))) (wLoc 2)) (wCmp .NotIn (wConst (.str (Str.ofString "deallocate"))) (wLoc 2))))) wEnd
noncomputable def p43_7 (X : Ctx) (d : Nat) (fa : Nat → Addr) : WS := wSeq (wRet (wConst (.bool false))) wEnd
noncomputable def p43_8 (X : Ctx) (d : Nat) (fa : Nat → Addr) : WS := wSeq (wRet (wCmp .Eq (wComp (wRng (wOB bLen (wCons (wLoc 2) wNil))) (wTCmp .Eq (wIdx (wLoc 1) (wLoc 0)) (wConst (.str (Str.ofString "deallocate")))) (wLoc 0) [2]) (wList (wCons (wBin .Sub (wLoc 3) (wConst (.int 1))) wNil)))) wEnd
noncomputable def p43_6 (X : Ctx) (d : Nat) (fa : Nat → Addr) : WS := wSeq (wIf (wTOr (wTCmp .NotEq (wComp (wSrc (wLoc 0)) (wTCmp .Eq (wIdx (wLoc 0) (wConst (.int 0))) (wConst (.str (Str.ofString "allocate")))) (wLoc 0) []) (wList (wCons (wTup (wCons (wConst (.str (Str.ofString "allocate"))) (wCons (wLoc 1) wNil))) wNil))) (wTOr (wTCmp .NotEq (wIdx (wLoc 2) (wConst (.int 0))) (wConst (.str (Str.ofString "allocate")))) (wB false))) (p43_7 X d fa) wEnd) (p43_8 X d fa)
noncomputable def p43_4 (X : Ctx) (d : Nat) (fa : Nat → Addr) : WS := wSeq (wIf (wTCmp .NotIn (wConst (.str (Str.ofString "call"))) (wLoc 2)) (p43_5 X d fa) wEnd) (p43_6 X d fa)
noncomputable def p43_2 (X : Ctx) (d : Nat) (fa : Nat → Addr) : WS := wSeq (wIf (wTCmp .NotEq (wComp (wRng (wOB bLen (wCons (wLoc 2) wNil))) (wTCmp .In (wIdx (wLoc 1) (wLoc 0)) (wList (wCons (wConst (.str (Str.ofString "execute"))) (wCons (wConst (.str (Str.ofString "proceed"))) wNil)))) (wLoc 0) [2]) (wList (wCons (wLoc 3) wNil))) (p43_3 X d fa) wEnd) (p43_4 X d fa)
noncomputable def p43_1 (X : Ctx) (d : Nat) (fa : Nat → Addr) : WS := wSeq (wAsg (wBin .Sub (wOB bLen (wCons (wLoc 2) wNil)) (wConst (.int 1))) (wStore 3)) (p43_2 X d fa)
noncomputable def p43 (X : Ctx) (d : Nat) (fa : Nat → Addr) : WS := wSeq (wAsg (wComp (wSrc (wLoc 0)) (wB true) (wIdx (wLoc 0) (wConst (.int 0))) []) (wStore 2)) (p43_1 X d fa)
theorem d43 (ok : X.Ok) (cl : X.Cls) (pf : PF X fa tk) {q : Str} {dc pm co : Value} {L : Addr} : SS X d (fiC (mkFd (fnOf 43) q dc pm co) (cnms 43) (fa 43) L) (fnB (fnOf 43)) (p43 X d fa) :=
  have s0 : Slot (fiC (mkFd (fnOf 43) q dc pm co) (cnms 43) (fa 43) L) 0 (Str.ofString "code") := .loc (by rfl) (by kernel_rfl) (by decide)
  have s1 : Slot (fiC (mkFd (fnOf 43) q dc pm co) (cnms 43) (fa 43) L) 1 (Str.ofString "slots_") := .loc (by rfl) (by kernel_rfl) (by decide)
  have hcell : (fiC (mkFd (fnOf 43) q dc pm co) (cnms 43) (fa 43) L).env.cells.lookup (Str.ofString "words") = some (L + 1) := by kernel_rfl
  have s2 : Slot (fiC (mkFd (fnOf 43) q dc pm co) (cnms 43) (fa 43) L) 2 (Str.ofString "words") := .cell (by rfl) (by kernel_rfl) (L + 1) hcell (by decide)
  have s3 : Slot (fiC (mkFd (fnOf 43) q dc pm co) (cnms 43) (fa 43) L) 3 (Str.ofString "last") := .loc (by rfl) (by kernel_rfl) (by decide)
  have g_len : GlobV X (fiC (mkFd (fnOf 43) q dc pm co) (cnms 43) (fa 43) L) (Str.ofString "len") (.builtin "len") := ⟨by kernel_rfl, pf.g 30 _ _ rfl, by decide⟩
  have g_range : GlobV X (fiC (mkFd (fnOf 43) q dc pm co) (cnms 43) (fa 43) L) (Str.ofString "range") (.type "range") := ⟨by kernel_rfl, pf.g 33 _ _ rfl, by decide⟩
  (SS.cons (SX.asgName (SE.comp (compOk0 (by rfl) (by rfl) (by kernel_rfl!) (by kernel_rfl!) (by kernel_rfl!)) (SI.val ok (SE.loc s0)) (fun C => SC.nil) (fun C => (SE.idx (SE.loc (Slot.loc (by rfl) (by kernel_rfl!) (by decide))) SE.int))) s2) (SS.cons (SX.asgName (SE.bin (SE.callB ok g_len (SEs.cons (SE.loc s2) SEs.nil) okLen) SE.int) s3) (SS.cons (SX.if (ST.cmp ok (SE.comp (compOkC (cn := Str.ofString "words") (c := L + 1) (j := 2) (by rfl) (by rfl) (by kernel_rfl!) (by kernel_rfl!) (by kernel_rfl!) hcell (by kernel_rfl!) (by decide) (by rfl)) (SI.range1 ok g_range (SE.callB ok g_len (SEs.cons (SE.loc s2) SEs.nil) okLen)) (fun C => SC.one (ST.cmp ok (SE.idx (SE.loc (Slot.cell (by rfl) (by kernel_rfl!) (L + 1) (by kernel_rfl!) (by decide))) (SE.loc (Slot.loc (by rfl) (by kernel_rfl!) (by decide)))) (SE.list (SEs.cons SE.str (SEs.cons SE.str SEs.nil))))) (fun C => (SE.loc (Slot.loc (by rfl) (by kernel_rfl!) (by decide))))) (SE.list (SEs.cons (SE.loc s3) SEs.nil))) (SS.cons (SX.ret SE.bool) SS.nil) SS.nil) (SS.cons (SX.if (ST.cmp ok SE.str (SE.loc s2)) (SS.cons (SX.ret (SE.and (SE.cmp ok (SE.loc s1) SE.int) (SE.and (SE.cmp ok SE.str (SE.loc s2)) (SE.and1 (SE.cmp ok SE.str (SE.loc s2)))))) SS.nil) SS.nil) (SS.cons (SX.if (ST.bool (SA.or (ST.cmp ok (SE.comp (compOk0 (by rfl) (by rfl) (by kernel_rfl!) (by kernel_rfl!) (by kernel_rfl!)) (SI.val ok (SE.loc s0)) (fun C => SC.one (ST.cmp ok (SE.idx (SE.loc (Slot.loc (by rfl) (by kernel_rfl!) (by decide))) SE.int) SE.str)) (fun C => (SE.loc (Slot.loc (by rfl) (by kernel_rfl!) (by decide))))) (SE.list (SEs.cons (SE.tup (SEs.cons SE.str (SEs.cons (SE.loc s1) SEs.nil))) SEs.nil))) (SA.or (ST.cmp ok (SE.idx (SE.loc s2) SE.int) SE.str) SA.nil_or))) (SS.cons (SX.ret SE.bool) SS.nil) SS.nil) (SS.cons (SX.ret (SE.cmp ok (SE.comp (compOkC (cn := Str.ofString "words") (c := L + 1) (j := 2) (by rfl) (by rfl) (by kernel_rfl!) (by kernel_rfl!) (by kernel_rfl!) hcell (by kernel_rfl!) (by decide) (by rfl)) (SI.range1 ok g_range (SE.callB ok g_len (SEs.cons (SE.loc s2) SEs.nil) okLen)) (fun C => SC.one (ST.cmp ok (SE.idx (SE.loc (Slot.cell (by rfl) (by kernel_rfl!) (L + 1) (by kernel_rfl!) (by decide))) (SE.loc (Slot.loc (by rfl) (by kernel_rfl!) (by decide)))) SE.str)) (fun C => (SE.loc (Slot.loc (by rfl) (by kernel_rfl!) (by decide))))) (SE.list (SEs.cons (SE.bin (SE.loc s3) SE.int) SEs.nil)))) SS.nil))))))
theorem c43 (ok : X.Ok) (cl : X.Cls) (pf : PF X fa tk) {H : MH} {cd : Addr} {rows : List Rw} {n : Int} {Q : MV → MH → Prop} (hc : H cd = some (.L (rows.map Rw.enc))) (hz : rows.length ≤ 1100) (fo : FrameOk rows n)
    (K : ∀ H', Q (.bool true) H') : CallsTo X (d + 1) (.ref (fa 43)) [.ref cd, .int n] Q H := by
  obtain ⟨q, dc, pm, co, ff⟩ := pf.fn43
  refine callsTo_defC ok ff (fun L => d43 ok cl pf) rfl 2 ?_
  walk_at "s"
  refine ⟨_, .lst hc, .inv Rw.enc (fun pre post acc H' => rows = pre ++ post ∧ acc = pre.map (fun r => MV.str r.nm) ∧ H' = H) ⟨rfl, rfl, rfl⟩ ?_ ?_ rfl (by (first | lia | omega))⟩
  · rintro pre r post acc H' C ⟨e, rfl, rfl⟩ hC
    refine ⟨hc, ?_⟩
    walk_at "s"
    exact .t ⟨_, ix0, rfl, hC _ _ ⟨by rw [e, List.append_assoc]; rfl, by rw [List.map_append]; rfl, rfl⟩⟩
  · rintro pre acc H' ⟨e, rfl, rfl⟩
    rw [List.append_nil] at e; subst e
    refine ⟨hc, fun wa nw => ?_⟩
    have hw := H'.set_self wa (.L (rows.map fun r => MV.str r.nm))
    have hc := set_at (c' := .L (rows.map fun r => MV.str r.nm)) hc (ne_new hc nw)
    generalize H'.set wa (.L (rows.map fun r => MV.str r.nm)) = H1 at hw hc
    have dw : ∀ m ∈ rows.map fun r => MV.str r.nm, Dat m := fun m hm => let ⟨r, hr, e⟩ := List.mem_map.mp hm; e ▸ .str _ (fo.sk r hr)
    have pos := fo.pos
    walk_at "s"
    refine .list hw (by rw [List.length_map]; (first | lia | omega)) ⟨_, .sub, ?_⟩
    rw [List.length_map]
    walk_at "s"
    refine .list hw (by rw [List.length_map]; (first | lia | omega)) ⟨_, .mk (Int.natCast_nonneg _) (by rw [List.length_map]; (first | lia | omega)), ?_⟩
    rw [List.length_map, Int.toNat_natCast]
    refine .inv (fun (i : Nat) => MV.int (0 + (i : Int))) (fun pre post acc H' => List.range rows.length = pre ++ post ∧ acc = (pre.filter (ixf isEnd rows)).map (fun (i : Nat) => MV.int i) ∧ Keep No H1 H') ⟨rfl, rfl, .refl ..⟩ ?_ ?_ (l := List.range rows.length) rfl (by rw [List.length_range]; (first | lia | omega))
    · rintro pre i post acc H2 C ⟨e, rfl, k⟩ hC
      obtain ⟨_, il⟩ := range_at e
      refine ⟨trivial, ?_⟩
      have hx : rows[i]? = some rows[i] := List.getElem?_eq_getElem il
      have hs := fo.sk _ (List.getElem_mem il)
      generalize rows[i] = r at hx hs
      have e' : List.range rows.length = pre ++ [i] ++ post := by rw [e, List.append_assoc]; rfl
      have hi := ixf_at (p := isEnd) hx
      walk_at "s"
      rw [Int.zero_add]
      refine ⟨_, .list (k.at hw nofun) (.nat (get_map hx) (by (first | lia | omega))), fun a na => ⟨_, .mem (.list (v := isEnd r.nm) (MH.set_self ..) (fun m hm => ?_) (.str _ hs) (Nat.zero_le _) ?_), .any (fun b => ⟨rfl, hC _ _ ⟨e', ?_, k.fresh (k.new na)⟩⟩) fun b => ⟨rfl, hC _ _ ⟨e', ixf_n (hi.trans b), k.fresh (k.new na)⟩⟩⟩⟩
      · rcases List.mem_cons.mp hm with rfl | hm
        · exact .str _ (by kernel_rfl!)
        · cases List.mem_singleton.mp hm; exact .str _ (by kernel_rfl!)
      · unfold isEnd
        rw [Bool.or_eq_true, beq_iff_eq, beq_iff_eq, List.mem_cons, List.mem_singleton]
        exact or_congr ⟨congrArg MV.str, MV.str.inj⟩ ⟨congrArg MV.str, MV.str.inj⟩
      · have := ixf_y (pre := pre) (hi.trans b)
        rw [Int.zero_add] at this; exact this
    · rintro pre acc H2 ⟨e, rfl, k⟩
      rw [List.append_nil] at e; subst e
      refine ⟨trivial, fun a1 na1 a2 na2 => ?_⟩
      have ends := fo.ends
      unfold idxOf at ends
      rw [ends] at na2 ⊢
      have ce : ((rows.length - 1 : Nat) : Int) = (rows.length : Int) - 1 := by (first | lia | omega)
      have d1 : ∀ (x : Int), ∀ m ∈ [MV.int x], Dat m := fun x m hm => by cases List.mem_singleton.mp hm; exact .int _
      refine ⟨_, .ne (.list (v := true) (set_at (MH.set_self ..) (ne_new (MH.set_self ..) na2)) (MH.set_self ..) (d1 _) (d1 _) (leB rfl) (leB rfl) ⟨fun _ => congrArg (fun x => [MV.int x]) ce, fun _ => rfl⟩), .f ?_⟩
      have k3 : Keep No H1 ((H2.set a1 (.L ([rows.length - 1].map fun (i : Nat) => MV.int i))).set a2 (.L [.int ((rows.length : Int) - 1)])) := (k.trans (.set (.inr na1))).trans (.set (.inr na2))
      have hw3 := k3.at hw nofun
      have hc3 := k3.at hc nofun
      generalize (H2.set a1 (.L ([rows.length - 1].map fun (i : Nat) => MV.int i))).set a2 (.L [.int ((rows.length : Int) - 1)]) = H3 at hw3 hc3
      have inw : ∀ (s : Str), ((rows.any fun r => r.nm == s) = true ↔ MV.str s ∈ rows.map fun r => MV.str r.nm) := fun s => by
        rw [List.any_eq_true]
        exact ⟨fun ⟨r, hr, e⟩ => List.mem_map.mpr ⟨r, hr, congrArg MV.str (eq_of_beq e)⟩, fun h => let ⟨r, hr, e⟩ := List.mem_map.mp h; ⟨r, hr, beq_iff_eq.mpr (MV.str.inj e)⟩⟩
      walk_at "s"
      refine ⟨_, .nmem (.list hw3 dw (.str _ (by kernel_rfl!)) (Nat.zero_le _) (inw _)), ?_⟩
      cases hC : rows.any fun r => r.nm == sC with
      | false =>
        refine .t ?_
        have nn := fo.no fun r hr e => by
          have := List.any_eq_false.mp hC r hr
          exact this (beq_iff_eq.mpr e)
        have no : ∀ {s : Str}, (∀ r ∈ rows, r.nm ≠ s) → (rows.any fun r => r.nm == s) = false := fun h => List.any_eq_false.mpr fun r hr e => h r hr (eq_of_beq e)
        walk_at "s"
        refine ⟨_, .eq .int, _, .bool, ?_⟩
        rw [decide_eq_true nn.1]
        refine .t ⟨_, .nmem (.list hw3 dw (.str _ (by kernel_rfl!)) (Nat.zero_le _) (inw _)), _, .bool, ?_⟩
        rw [no nn.2.1]
        refine .t ⟨_, .nmem (.list hw3 dw (.str _ (by kernel_rfl!)) (Nat.zero_le _) (inw _)), ?_⟩
        rw [no nn.2.2]
        exact K _
      | true =>
        refine .f ?_
        obtain ⟨r0, hr0, e0⟩ := List.any_eq_true.mp hC
        obtain ⟨al1, al2, al3, al4⟩ := fo.al ⟨r0, hr0, eq_of_beq e0⟩
        walk_at "s"
        refine ⟨_, .lst hc3, .inv Rw.enc (fun pre post acc H' => rows = pre ++ post ∧ acc = (pre.filter fun r => r.nm == sA).map Rw.enc ∧ H' = H3) ⟨rfl, rfl, rfl⟩ ?_ ?_ rfl (by (first | lia | omega))⟩
        · rintro pre r post acc H' C ⟨e, rfl, rfl⟩ hC
          have e' : rows = pre ++ [r] ++ post := by rw [e, List.append_assoc]; rfl
          refine ⟨hc3, ?_⟩
          walk_at "s"
          refine ⟨_, ix0, _, .eq .str, .any (fun b => ⟨rfl, hC _ _ ⟨e', ?_, rfl⟩⟩) fun b => ⟨rfl, hC _ _ ⟨e', ?_, rfl⟩⟩⟩
          · rw [List.filter_append, List.filter_cons_of_pos (p := fun r : Rw => r.nm == sA) b, List.map_append]; rfl
          · rw [List.filter_append, List.filter_cons_of_neg (p := fun r : Rw => r.nm == sA) (by rw [b]; nofun), List.filter_nil, List.append_nil]
        · rintro pre acc H' ⟨e, rfl, rfl⟩
          rw [List.append_nil] at e; subst e
          refine ⟨hc3, fun a3 na3 a4 na4 => ?_⟩
          rw [al1] at na4 ⊢
          have dr : ∀ m ∈ [MV.tup [.str sA, .int n]], Dat m := fun m hm => by cases List.mem_singleton.mp hm; exact .tup _ fun m hm => (List.mem_cons.mp hm).elim (fun e => e ▸ .str _ (by kernel_rfl!)) fun hm => by cases List.mem_singleton.mp hm; exact .int _
          refine ⟨_, .ne (.list (v := true) (set_at (MH.set_self ..) (ne_new (MH.set_self ..) na4)) (MH.set_self ..) dr dr (leB rfl) (leB rfl) ⟨fun _ => rfl, fun _ => rfl⟩), .f ?_⟩
          have k4 : Keep No H' ((H'.set a3 (.L ([(⟨sA, [.int n]⟩ : Rw)].map Rw.enc))).set a4 (.L [.tup [.str sA, .int n]])) := (Keep.set (.inr na3)).trans (.set (.inr na4))
          have hw4 := k4.at hw3 nofun
          generalize (H'.set a3 (.L ([(⟨sA, [.int n]⟩ : Rw)].map Rw.enc))).set a4 (.L [.tup [.str sA, .int n]]) = H4 at hw4
          obtain ⟨r1, h1, e1⟩ := Option.map_eq_some_iff.mp al2
          refine ⟨_, .list hw4 ⟨by decide, by decide, get_map h1⟩, _, .ne .str, ?_⟩
          rw [e1, beq_self_eq_true]
          refine .f (.f ?_)
          walk_at "s"
          refine .list hw4 (by rw [List.length_map]; (first | lia | omega)) ⟨_, .mk (Int.natCast_nonneg _) (by rw [List.length_map]; (first | lia | omega)), ?_⟩
          rw [List.length_map, Int.toNat_natCast]
          refine .inv (fun (i : Nat) => MV.int (0 + (i : Int))) (fun pre post acc H' => List.range rows.length = pre ++ post ∧ acc = (pre.filter (ixf (· == sD) rows)).map (fun (i : Nat) => MV.int i) ∧ H' = H4) ⟨rfl, rfl, rfl⟩ ?_ ?_ (l := List.range rows.length) rfl (by rw [List.length_range]; (first | lia | omega))
          · rintro pre i post acc H5 C ⟨e, rfl, rfl⟩ hC
            obtain ⟨_, il⟩ := range_at e
            refine ⟨trivial, ?_⟩
            have hx : rows[i]? = some rows[i] := List.getElem?_eq_getElem il
            generalize rows[i] = r at hx
            have e' : List.range rows.length = pre ++ [i] ++ post := by rw [e, List.append_assoc]; rfl
            have hi := ixf_at (p := (· == sD)) hx
            walk_at "s"
            rw [Int.zero_add]
            refine ⟨_, .list hw4 (.nat (get_map hx) (by (first | lia | omega))), _, .eq .str, .any (fun b => ⟨rfl, hC _ _ ⟨e', ?_, rfl⟩⟩) fun b => ⟨rfl, hC _ _ ⟨e', ixf_n (hi.trans b), rfl⟩⟩⟩
            have := ixf_y (pre := pre) (hi.trans b)
            rw [Int.zero_add] at this; exact this
          · rintro pre acc H5 ⟨e, rfl, rfl⟩
            rw [List.append_nil] at e; subst e
            refine ⟨trivial, fun a5 na5 => ⟨_, .sub, fun a6 na6 => ?_⟩⟩
            unfold idxOf at al3
            rw [al3] at na6 ⊢
            have ce : ((rows.length - 2 : Nat) : Int) = (rows.length : Int) - 1 - 1 := by (first | lia | omega)
            exact ⟨_, .eq (.list (v := true) (set_at (MH.set_self ..) (ne_new (MH.set_self ..) na6)) (MH.set_self ..) (d1 _) (d1 _) (leB rfl) (leB rfl) ⟨fun _ => congrArg (fun x => [MV.int x]) ce, fun _ => rfl⟩), K _⟩
noncomputable def p44_8 (X : Ctx) (d : Nat) (fa : Nat → Addr) : WS := wSeq (wRet (wConst (.bool false))) wEnd
noncomputable def p44_7 (X : Ctx) (d : Nat) (fa : Nat → Addr) : WS := wSeq (wIf (wTCmp .NotEq (wCmp .Gt (wOB bLen (wCons (wIdx (wLoc 6) (wLoc 7)) wNil)) (wConst (.int 1))) (wCmp .Eq (wIdx (wLoc 7) (wConst (.int 0))) (wConst (.str (Str.ofString "y"))))) (p44_8 X d fa) wEnd) wEnd
noncomputable def p44_11 (X : Ctx) (d : Nat) (fa : Nat → Addr) : WS := wSeq (wRet (wConst (.bool false))) wEnd
noncomputable def p44_10 (X : Ctx) (d : Nat) (fa : Nat → Addr) : WS := wSeq (wIf (wTAnd (wTCmp .Eq (wIdx (wIdx (wLoc 5) (wLoc 8)) (wConst (.int 0))) (wConst (.str (Str.ofString "call")))) (wTAnd (wTCmp .NotEq (wCall X d (.ref (fa 42)) (wCons (wLoc 5) (wCons (wLoc 8) wNil))) (wListRange (wCons (wConst (.int 1)) (wCons (wBin .Add (wIdx (wIdx (wLoc 5) (wLoc 8)) (wConst (.int 2))) (wConst (.int 1))) wNil)))) (wB true))) (p44_11 X d fa) wEnd) wEnd
noncomputable def p44_12 (X : Ctx) (d : Nat) (fa : Nat → Addr) : WS := wSeq (wRet (wCall X d (.ref (fa 43)) (wCons (wLoc 5) (wCons (wOB bLen (wCons (wComp (wSrc (wLoc 6)) (wTCmp .Eq (wIdx (wLoc 0) (wConst (.int 0))) (wConst (.str (Str.ofString "y")))) (wLoc 0) []) wNil)) wNil)))) wEnd
noncomputable def p44_9 (X : Ctx) (d : Nat) (fa : Nat → Addr) : WS := wSeq (wFor (wRng (wOB bLen (wCons (wLoc 5) wNil))) (wStore 8) (p44_10 X d fa)) (p44_12 X d fa)
noncomputable def p44_6 (X : Ctx) (d : Nat) (fa : Nat → Addr) : WS := wSeq (wFor (wSrc (wLoc 6)) (wStore 7) (p44_7 X d fa)) (p44_9 X d fa)
noncomputable def p44_5 (X : Ctx) (d : Nat) (fa : Nat → Addr) : WS := wSeq (wAsg (wCall X d (.ref (fa 41)) (wCons (wLoc 5) wNil)) (wStore 6)) (p44_6 X d fa)
noncomputable def p44_4 (X : Ctx) (d : Nat) (fa : Nat → Addr) : WS := wSeq (wAsg (wCall X d (.ref (fa 24)) (wCons (wLoc 2) (wCons (wLoc 4) (wCons (wCall X d (.ref (fa 36)) (wCons (wLoc 4) wNil)) wNil)))) (wStore 5)) (p44_5 X d fa)
noncomputable def p44_3 (X : Ctx) (d : Nat) (fa : Nat → Addr) : WS := wSeq (wAsg (wCall X d (.ref (X.cls 6)) (wCons (wConst (.int 24)) (wCons (wOB bTuple (wCons (wLoc 3) wNil)) (wCons (wCall X d (.ref (fa 40)) (wCons (wLoc 1) wNil)) (wCons (wConst (.int 7)) wNil))))) (wStore 4)) (p44_4 X d fa)
noncomputable def p44_2 (X : Ctx) (d : Nat) (fa : Nat → Addr) : WS := wSeq (wAsg (wComp (wRng (wBin .Add (wConst (.int 2)) (wCall X d (.ref (fa 38)) (wCons (wLoc 1) (wCons (wConst (.int 2)) wNil))))) (wB true) (wCall X d (.ref (fa 39)) (wCons (wLoc 1) (wCons (wConst (.int 2)) wNil))) [1]) (wStore 3)) (p44_3 X d fa)
noncomputable def p44_1 (X : Ctx) (d : Nat) (fa : Nat → Addr) : WS := wSeq (wAsg (wCall X d (.ref (X.cls 0)) wNil) (wStore 2)) (p44_2 X d fa)
noncomputable def p44 (X : Ctx) (d : Nat) (fa : Nat → Addr) : WS := wSeq (wAsg (wList (wCons (wSliceTo X (wLoc 0) (wConst (.int 60))) (wCons (wConst (.int 0)) (wCons (wConst (.int 0)) wNil)))) (wStore 1)) (p44_1 X d fa)
theorem d44 (ok : X.Ok) (cl : X.Cls) (pf : PF X fa tk) {q : Str} {dc pm co : Value} {L : Addr} : SS X d (fiC (mkFd (fnOf 44) q dc pm co) (cnms 44) (fa 44) L) (fnB (fnOf 44)) (p44 X d fa) :=
  have s0 : Slot (fiC (mkFd (fnOf 44) q dc pm co) (cnms 44) (fa 44) L) 0 (Str.ofString "script") := .loc (by rfl) (by kernel_rfl) (by decide)
  have hcell : (fiC (mkFd (fnOf 44) q dc pm co) (cnms 44) (fa 44) L).env.cells.lookup (Str.ofString "tape") = some (L + 1) := by kernel_rfl
  have s1 : Slot (fiC (mkFd (fnOf 44) q dc pm co) (cnms 44) (fa 44) L) 1 (Str.ofString "tape") := .cell (by rfl) (by kernel_rfl) (L + 1) hcell (by decide)
  have s2 : Slot (fiC (mkFd (fnOf 44) q dc pm co) (cnms 44) (fa 44) L) 2 (Str.ofString "names") := .loc (by rfl) (by kernel_rfl) (by decide)
  have s3 : Slot (fiC (mkFd (fnOf 44) q dc pm co) (cnms 44) (fa 44) L) 3 (Str.ofString "heads") := .loc (by rfl) (by kernel_rfl) (by decide)
  have s4 : Slot (fiC (mkFd (fnOf 44) q dc pm co) (cnms 44) (fa 44) L) 4 (Str.ofString "clause_") := .loc (by rfl) (by kernel_rfl) (by decide)
  have s5 : Slot (fiC (mkFd (fnOf 44) q dc pm co) (cnms 44) (fa 44) L) 5 (Str.ofString "code") := .loc (by rfl) (by kernel_rfl) (by decide)
  have s6 : Slot (fiC (mkFd (fnOf 44) q dc pm co) (cnms 44) (fa 44) L) 6 (Str.ofString "table") := .loc (by rfl) (by kernel_rfl) (by decide)
  have s7 : Slot (fiC (mkFd (fnOf 44) q dc pm co) (cnms 44) (fa 44) L) 7 (Str.ofString "part") := .loc (by rfl) (by kernel_rfl) (by decide)
  have s8 : Slot (fiC (mkFd (fnOf 44) q dc pm co) (cnms 44) (fa 44) L) 8 (Str.ofString "at") := .loc (by rfl) (by kernel_rfl) (by decide)
  have g_F_CALL1 : GlobV X (fiC (mkFd (fnOf 44) q dc pm co) (cnms 44) (fa 44) L) (Str.ofString "F_CALL1") (.int 24 (tk 3)) := ⟨by kernel_rfl, pf.g 3 _ _ rfl, by decide⟩
  have g_KernelClause : GlobV X (fiC (mkFd (fnOf 44) q dc pm co) (cnms 44) (fa 44) L) (Str.ofString "KernelClause") (.ref (X.cls 6)) := ⟨by kernel_rfl, pf.g 10 _ _ rfl, by decide⟩
  have g_Symbols : GlobV X (fiC (mkFd (fnOf 44) q dc pm co) (cnms 44) (fa 44) L) (Str.ofString "Symbols") (.ref (X.cls 0)) := ⟨by kernel_rfl, pf.g 12 _ _ rfl, by decide⟩
  have g__law_digit : GlobV X (fiC (mkFd (fnOf 44) q dc pm co) (cnms 44) (fa 44) L) (Str.ofString "_law_digit") (.ref (fa 38)) := ⟨by kernel_rfl, pf.g 14 _ _ rfl, by decide⟩
  have g__law_frame_right : GlobV X (fiC (mkFd (fnOf 44) q dc pm co) (cnms 44) (fa 44) L) (Str.ofString "_law_frame_right") (.ref (fa 43)) := ⟨by kernel_rfl, pf.g 15 _ _ rfl, by decide⟩
  have g__law_goals : GlobV X (fiC (mkFd (fnOf 44) q dc pm co) (cnms 44) (fa 44) L) (Str.ofString "_law_goals") (.ref (fa 40)) := ⟨by kernel_rfl, pf.g 16 _ _ rfl, by decide⟩
  have g__law_holders : GlobV X (fiC (mkFd (fnOf 44) q dc pm co) (cnms 44) (fa 44) L) (Str.ofString "_law_holders") (.ref (fa 41)) := ⟨by kernel_rfl, pf.g 17 _ _ rfl, by decide⟩
  have g__law_slots_behind : GlobV X (fiC (mkFd (fnOf 44) q dc pm co) (cnms 44) (fa 44) L) (Str.ofString "_law_slots_behind") (.ref (fa 42)) := ⟨by kernel_rfl, pf.g 18 _ _ rfl, by decide⟩
  have g_abstract_code : GlobV X (fiC (mkFd (fnOf 44) q dc pm co) (cnms 44) (fa 44) L) (Str.ofString "abstract_code") (.ref (fa 24)) := ⟨by kernel_rfl, pf.g 20 _ _ rfl, by decide⟩
  have g_classify : GlobV X (fiC (mkFd (fnOf 44) q dc pm co) (cnms 44) (fa 44) L) (Str.ofString "classify") (.ref (fa 36)) := ⟨by kernel_rfl, pf.g 22 _ _ rfl, by decide⟩
  have g_len : GlobV X (fiC (mkFd (fnOf 44) q dc pm co) (cnms 44) (fa 44) L) (Str.ofString "len") (.builtin "len") := ⟨by kernel_rfl, pf.g 30 _ _ rfl, by decide⟩
  have g_list : GlobV X (fiC (mkFd (fnOf 44) q dc pm co) (cnms 44) (fa 44) L) (Str.ofString "list") (.type "list") := ⟨by kernel_rfl, pf.g 31 _ _ rfl, by decide⟩
  have g_range : GlobV X (fiC (mkFd (fnOf 44) q dc pm co) (cnms 44) (fa 44) L) (Str.ofString "range") (.type "range") := ⟨by kernel_rfl, pf.g 33 _ _ rfl, by decide⟩
  have g_tuple : GlobV X (fiC (mkFd (fnOf 44) q dc pm co) (cnms 44) (fa 44) L) (Str.ofString "tuple") (.type "tuple") := ⟨by kernel_rfl, pf.g 38 _ _ rfl, by decide⟩
  (SS.cons (SX.asgName (SE.list (SEs.cons (SE.sliceTo (SE.loc s0) SE.int) (SEs.cons SE.int (SEs.cons SE.int SEs.nil)))) s1) (SS.cons (SX.asgName (SE.callF ok g_Symbols (pf.kc 12 _ _ rfl) SEs.nil) s2) (SS.cons (SX.asgComp (compOkC (cn := Str.ofString "tape") (c := L + 1) (j := 1) (by rfl) (by rfl) (by kernel_rfl!) (by kernel_rfl!) (by kernel_rfl!) hcell (by kernel_rfl!) (by decide) (by rfl)) (SI.range1 ok g_range (SE.bin SE.int (SE.callF ok g__law_digit (pf.kf 14 _ _ rfl) (SEs.cons (SE.loc s1) (SEs.cons SE.int SEs.nil))))) (fun C => SC.nil) (fun C => (SE.callF ok ⟨by kernel_rfl!, pf.g 19 _ _ rfl, by decide⟩ (pf.kf 19 _ _ rfl) (SEs.cons (SE.loc (Slot.cell (by rfl) (by kernel_rfl!) (L + 1) (by kernel_rfl!) (by decide))) (SEs.cons SE.int SEs.nil)))) s3 (by rfl)) (SS.cons (SX.asgName (SE.callF ok g_KernelClause (pf.kc 10 _ _ rfl) (SEs.cons (SE.globInt ok g_F_CALL1) (SEs.cons (SE.callT ok g_tuple (SEs.cons (SE.loc s3) SEs.nil) okTuple) (SEs.cons (SE.callF ok g__law_goals (pf.kf 16 _ _ rfl) (SEs.cons (SE.loc s1) SEs.nil)) (SEs.cons SE.int SEs.nil))))) s4) (SS.cons (SX.asgName (SE.callF ok g_abstract_code (pf.kf 20 _ _ rfl) (SEs.cons (SE.loc s2) (SEs.cons (SE.loc s4) (SEs.cons (SE.callF ok g_classify (pf.kf 22 _ _ rfl) (SEs.cons (SE.loc s4) SEs.nil)) SEs.nil)))) s5) (SS.cons (SX.asgName (SE.callF ok g__law_holders (pf.kf 17 _ _ rfl) (SEs.cons (SE.loc s5) SEs.nil)) s6) (SS.cons (SX.for (SI.val ok (SE.loc s6)) (SAs.name s7) (SS.cons (SX.if (ST.cmp ok (SE.cmp ok (SE.callB ok g_len (SEs.cons (SE.idx (SE.loc s6) (SE.loc s7)) SEs.nil) okLen) SE.int) (SE.cmp ok (SE.idx (SE.loc s7) SE.int) SE.str)) (SS.cons (SX.ret SE.bool) SS.nil) SS.nil) SS.nil)) (SS.cons (SX.for (SI.range1 ok g_range (SE.callB ok g_len (SEs.cons (SE.loc s5) SEs.nil) okLen)) (SAs.name s8) (SS.cons (SX.if (ST.bool (SA.and (ST.cmp ok (SE.idx (SE.idx (SE.loc s5) (SE.loc s8)) SE.int) SE.str) (SA.and (ST.cmp ok (SE.callF ok g__law_slots_behind (pf.kf 18 _ _ rfl) (SEs.cons (SE.loc s5) (SEs.cons (SE.loc s8) SEs.nil))) (SE.listRange ok g_list g_range (SEs.cons SE.int (SEs.cons (SE.bin (SE.idx (SE.idx (SE.loc s5) (SE.loc s8)) SE.int) SE.int) SEs.nil)))) SA.nil_and))) (SS.cons (SX.ret SE.bool) SS.nil) SS.nil) SS.nil)) (SS.cons (SX.ret (SE.callF ok g__law_frame_right (pf.kf 15 _ _ rfl) (SEs.cons (SE.loc s5) (SEs.cons (SE.callB ok g_len (SEs.cons (SE.comp (compOk0 (by rfl) (by rfl) (by kernel_rfl!) (by kernel_rfl!) (by kernel_rfl!)) (SI.val ok (SE.loc s6)) (fun C => SC.one (ST.cmp ok (SE.idx (SE.loc (Slot.loc (by rfl) (by kernel_rfl!) (by decide))) SE.int) SE.str)) (fun C => (SE.loc (Slot.loc (by rfl) (by kernel_rfl!) (by decide))))) SEs.nil) okLen) SEs.nil)))) SS.nil)))))))))
end
section
theorem oS_inj {a b : String} (h : Str.ofString a = Str.ofString b) : a = b := by
  rw [← String.ofList_toList (s := a), ← String.ofList_toList (s := b), Fast.ofString_ofList, Fast.ofString_ofList] at h
  have := (List.map_inj_right fun x y e => Char.toNat_inj.mp e).mp (congrArg (fun x : Str => x.cps.toList) h)
  rw [← String.ofList_toList (s := a), ← String.ofList_toList (s := b), this]
theorem oS_ok (a : String) : PyData.strOk (Str.ofString a) = true := by
  rw [← String.ofList_toList (s := a), Fast.ofString_ofList]
  unfold PyData.strOk
  rw [Array.all_eq_true']
  intro x hx
  obtain ⟨c, _, rfl⟩ := List.mem_map.mp (List.mem_toArray.mp hx)
  have : c.val.toNat < 0xd800 ∨ (0xdfff < c.val.toNat ∧ c.val.toNat < 0x110000) := c.valid
  exact decide_eq_true (show c.val.toNat < 1114112 by (first | lia | omega))
theorem not_benign {nm x : String} (hb : benign nm = true) (hx : benign x = false) : Str.ofString nm ≠ Str.ofString x := fun e => by
  rw [oS_inj e, hx] at hb; cases hb
noncomputable def placeK (E : Em) (k : Int) : Ky := if (E.vi k).kind = .perm then (sY, (E.vi k).slot) else (sT, k)
theorem place_enc (E : Em) (k : Int) : E.place k = (Pv.reg (placeK E k).1 (placeK E k).2).enc := by
  unfold Em.place placeK; split <;> rfl
theorem Pv.inj {a b : Pv} (h : a.enc = b.enc) : a = b := by
  cases a <;> cases b <;> cases h <;> rfl
theorem sTY : sT ≠ sY := fun e => absurd (oS_inj e) (by decide)
noncomputable def Named (E : Em) (V : Int → Prop) (lo hi : Int) (κ : Ky) : Prop := (κ.1 = sT ∧ lo ≤ κ.2 ∧ κ.2 < hi) ∨ ∃ k, V k ∧ (E.vi k).kind ≠ .void ∧ κ = placeK E k
structure RwOk (E : Em) (V : Int → Prop) (lo hi : Int) (r : Rw) : Prop where
  len : r.ps.length ≤ 3
  nm : ∃ nm, benign nm = true ∧ r.nm = Str.ofString nm
  named : ∀ κ : Ky, Pv.reg κ.1 κ.2 ∈ r.ps → isTY κ.1 → Named E V lo hi κ
theorem part_pv {E : Em} {V : Int → Prop} {lo hi : Int} {p : MV} (h : Part E V lo hi p) : ∃ v : Pv, p = v.enc ∧ ∀ κ : Ky, v = .reg κ.1 κ.2 → isTY κ.1 → Named E V lo hi κ := by
  rcases h with ⟨n, rfl⟩ | ⟨a, b, rfl⟩ | (⟨n, rfl⟩ | ⟨n, h1, h2, rfl⟩) | ⟨k, h1, h2, rfl⟩
  · exact ⟨.int n, rfl, nofun⟩
  · exact ⟨.pair a b, rfl, nofun⟩
  · refine ⟨.reg (Str.ofString "a") n, rfl, fun κ e t => ?_⟩
    injection e with e1 e2
    rw [← e1] at t
    exact t.elim (fun e => absurd (oS_inj e) (by decide)) fun e => absurd (oS_inj e) (by decide)
  · refine ⟨.reg sT n, rfl, fun κ e _ => .inl ?_⟩
    injection e with e1 e2
    exact ⟨e1.symm, e2 ▸ h1, e2 ▸ h2⟩
  · refine ⟨_, place_enc E k, fun κ e _ => .inr ⟨k, h1, h2, ?_⟩⟩
    injection e with e1 e2
    exact Prod.ext e1.symm e2.symm
theorem parts_pv {E : Em} {V : Int → Prop} {lo hi : Int} : ∀ {ps : List MV}, (∀ p ∈ ps, Part E V lo hi p) → ∃ vs : List Pv, ps = vs.map Pv.enc ∧ ∀ κ : Ky, Pv.reg κ.1 κ.2 ∈ vs → isTY κ.1 → Named E V lo hi κ
  | [], _ => ⟨[], rfl, nofun⟩
  | p :: ps, h => by
    obtain ⟨v, rfl, hv⟩ := part_pv (h p (.head _))
    obtain ⟨vs, rfl, hs⟩ := parts_pv fun q hq => h q (.tail _ hq)
    exact ⟨v :: vs, rfl, fun κ hκ => (List.mem_cons.mp hκ).elim (fun e => hv κ e.symm) (hs κ)⟩
theorem rows_rw {E : Em} {V : Int → Prop} {lo hi : Int} : ∀ {ns : List MV}, (∀ r ∈ ns, RowOk E V lo hi r) → ∃ rs : List Rw, ns = rs.map Rw.enc ∧ ∀ r ∈ rs, RwOk E V lo hi r
  | [], _ => ⟨[], rfl, nofun⟩
  | r :: ns, h => by
    obtain ⟨nm, ps, rfl, hb, hl, hp⟩ := h r (.head _)
    obtain ⟨vs, rfl, hv⟩ := parts_pv hp
    obtain ⟨rs, rfl, hs⟩ := rows_rw fun q hq => h q (.tail _ hq)
    exact ⟨⟨Str.ofString nm, vs⟩ :: rs, rfl, fun q hq => (List.mem_cons.mp hq).elim (fun e => e ▸ ⟨by rw [List.length_map] at hl; exact hl, ⟨nm, hb, rfl⟩, hv⟩) (hs q)⟩
theorem cov_rw {E : Em} {U : Int → Prop} {rs : List Rw} (c : Cov E U (rs.map Rw.enc)) {k : Int} (hk : U k) (nv : (E.vi k).kind ≠ .void) : ∃ r ∈ rs, Pv.reg (placeK E k).1 (placeK E k).2 ∈ r.ps := by
  obtain ⟨nm, ps, h1, h2⟩ := c k hk nv
  obtain ⟨r, hr, e⟩ := List.mem_map.mp h1
  injection e with e
  injection e with e1 e2
  rw [← e2, place_enc] at h2
  obtain ⟨v, hv, e⟩ := List.mem_map.mp h2
  exact ⟨r, hr, Pv.inj e ▸ hv⟩
theorem RwOk.noCall {E : Em} {V : Int → Prop} {lo hi : Int} {r : Rw} (h : RwOk E V lo hi r) : isCall r = false := by
  obtain ⟨nm, hb, e⟩ := h.nm
  unfold isCall
  rw [e, beq_eq_false_iff_ne]
  exact not_benign hb (by decide)
theorem placeK_ty (E : Em) (k : Int) : isTY (placeK E k).1 := by unfold placeK; split; exact .inr rfl; exact .inl rfl
theorem cls_app (a b : List Rw) : cls (a ++ b) = cls a + cls b := by unfold cls; rw [List.filter_append, List.length_append]
theorem cls_no {rs : List Rw} (h : ∀ r ∈ rs, isCall r = false) : cls rs = 0 := by
  unfold cls
  rw [List.length_eq_zero_iff, List.filter_eq_nil_iff]
  exact fun r hr => by rw [h r hr]; nofun
theorem ocR_app {κ : Ky} {c : Int} : ∀ {rs rows : List Rw}, (∀ r ∈ rs, isCall r = false) → (ocR (rows ++ rs) κ c ↔ ocR rows κ c ∨ (isTY κ.1 ∧ c = (cls rows : Nat) ∧ ∃ r ∈ rs, Pv.reg κ.1 κ.2 ∈ r.ps))
  | [], rows, _ => by rw [List.append_nil]; exact ⟨.inl, fun h => h.elim id fun ⟨_, _, _, h, _⟩ => nomatch h⟩
  | r :: rs, rows, h => by
    have e : cls (rows ++ [r]) = cls rows := by rw [cls_app, cls_no fun x hx => h x (List.mem_singleton.mp hx ▸ .head _)]; rfl
    rw [List.append_cons, ocR_app fun x hx => h x (.tail _ hx), ocR_snoc, e]
    refine ⟨?_, ?_⟩
    · rintro ((h | ⟨h1, h2, h3⟩) | ⟨h1, h2, x, h3, h4⟩)
      · exact .inl h
      · exact .inr ⟨h2, h3, r, .head _, h1⟩
      · exact .inr ⟨h1, h2, x, .tail _ h3, h4⟩
    · rintro (h | ⟨h1, h2, x, h3, h4⟩)
      · exact .inl (.inl h)
      · exact (List.mem_cons.mp h3).elim (fun e => .inl (.inr ⟨e ▸ h4, h1, h2⟩)) fun h3 => .inr ⟨h1, h2, x, h3, h4⟩
noncomputable def callR (gs : List Gl) (lv : List Int) (i : Nat) (g : Gl) : List Rw := if g.isC = true ∧ i + 1 < gs.length then [⟨sC, [.int 25, .int (lv.getD i 0)]⟩] else []
theorem callR_enc (gs : List Gl) (lv : List Int) (i : Nat) (g : Gl) : callRow gs lv i g = (callR gs lv i g).map Rw.enc := by
  unfold callRow callR; split <;> rfl
theorem ocR_call {gs : List Gl} {lv : List Int} {i : Nat} {g : Gl} {rows : List Rw} {κ : Ky} {c : Int} : ocR (rows ++ callR gs lv i g) κ c ↔ ocR rows κ c := by
  unfold callR
  split
  · rw [ocR_snoc]
    refine ⟨fun h => h.elim id fun h => ?_, .inl⟩
    have := h.1
    simp at this
  · rw [List.append_nil]
theorem occN_mono {hs : List Tm} {gs : List Gl} {i j : Nat} {k g : Int} (h : occN hs gs i k g) (l : i ≤ j) : occN hs gs j k g :=
  h.imp id fun ⟨m, gl, a, b⟩ => ⟨m, gl, Nat.lt_of_lt_of_le a l, b⟩
theorem getElem_app {α : Type} {a b : List α} {m : Nat} {x : α} (h : (a ++ b)[m]? = some x) : a[m]? = some x ∨ ∃ j, m = a.length + j ∧ b[j]? = some x := by
  by_cases q : m < a.length
  · rw [List.getElem?_append_left q] at h; exact .inl h
  · rw [List.getElem?_append_right (Nat.not_lt.mp q)] at h; exact .inr ⟨m - a.length, by (first | lia | omega), h⟩
structure GI (E : Em) (hs : List Tm) (gs : List Gl) (lv : List Int) (i : Nat) (nt : Int) (rows : List Rw) : Prop where
  ps3 : ∀ r ∈ rows, r.ps.length ≤ 3
  nm : ∀ r ∈ rows, (∃ nm, benign nm = true ∧ r.nm = Str.ofString nm) ∨ r.nm = sC
  call : ∀ m r, rows[m]? = some r → r.nm = sC → ∃ j g, j < i ∧ gs[j]? = some g ∧ g.isC = true ∧ j + 1 < gs.length ∧ r.ps = [.int 25, .int (lv.getD j 0)] ∧ cls (rows.take m) = chk gs j
  has : ∀ j g, j < i → gs[j]? = some g → g.isC = true → j + 1 < gs.length → ∃ r ∈ rows, r.nm = sC
  cl : (i < gs.length ∨ i = 0) → cls rows = chk gs i
  snd : ∀ κ c, ocR rows κ c → (κ.1 = sT ∧ 7 ≤ κ.2 ∧ κ.2 < nt) ∨ ∃ k g, occN hs gs i k g ∧ (E.vi k).kind ≠ .void ∧ κ = placeK E k ∧ c = chg gs g
  tmp : ∀ κ c c', κ.1 = sT → 7 ≤ κ.2 → ocR rows κ c → ocR rows κ c' → c = c'
  cmp : ∀ k g, occN hs gs i k g → (E.vi k).kind ≠ .void → ocR rows (placeK E k) (chg gs g)
  nt7 : 7 ≤ nt
theorem place_small {E : Em} {k : Int} (h : k < 7) {κ : Ky} (e : κ = placeK E k) (t : κ.1 = sT) : κ.2 < 7 := by
  unfold placeK at e
  split at e
  · rw [e] at t; exact absurd t.symm sTY
  · rw [e]; exact h
theorem GI.snd_app {E : Em} {V : Int → Prop} {lo hi : Int} {rs : List Rw} (hr : ∀ r ∈ rs, RwOk E V lo hi r) {κ : Ky} (h : ∃ r ∈ rs, Pv.reg κ.1 κ.2 ∈ r.ps) (t : isTY κ.1) : Named E V lo hi κ := let ⟨r, a, b⟩ := h; (hr r a).named κ b t
theorem GI.of {E : Em} {hs : List Tm} {gs : List Gl} {lv : List Int} (rng : ∀ k g, occN hs gs gs.length k g → k < 7) : ∀ {i : Nat} {nt : Int} {mid : List MV}, GR E hs gs lv i nt mid → i ≤ gs.length → ∃ rows : List Rw, mid = rows.map Rw.enc ∧ GI E hs gs lv i nt rows := by
  intro i nt mid h
  induction h with
  | @zero nt rows ro c =>
    intro _
    obtain ⟨rs, rfl, hr⟩ := rows_rw ro.2
    have nc : ∀ r ∈ rs, isCall r = false := fun r h => (hr r h).noCall
    have oc : ∀ {κ : Ky} {c : Int}, ocR rs κ c ↔ (isTY κ.1 ∧ c = 0 ∧ ∃ r ∈ rs, Pv.reg κ.1 κ.2 ∈ r.ps) := fun {κ c} => by
      have := ocR_app (rows := []) (κ := κ) (c := c) nc
      rw [List.nil_append] at this
      exact this.trans ⟨fun h => h.elim (fun ⟨_, _, h, _⟩ => by cases h) id, .inr⟩
    refine ⟨rs, rfl, fun r h => (hr r h).len, fun r h => .inl (hr r h).nm, fun m r h e => ?_, fun _ _ h => absurd h (Nat.not_lt_zero _), fun _ => cls_no nc, fun κ c h => ?_, fun κ c c' _ _ h h' => ((oc.mp h).2.1).trans (oc.mp h').2.1.symm, fun k g h nv => ?_, ro.1⟩
    · have := nc r (List.mem_of_getElem? h)
      unfold isCall at this
      rw [e, beq_self_eq_true] at this; cases this
    · obtain ⟨t, rfl, h2⟩ := oc.mp h
      exact (GI.snd_app hr h2 t).imp id fun ⟨k, a, b, e⟩ => ⟨k, -1, .inl ⟨rfl, a⟩, b, e, rfl⟩
    · rcases h with ⟨rfl, h⟩ | ⟨j, _, h, _⟩
      · exact oc.mpr ⟨placeK_ty E k, rfl, cov_rw c h nv⟩
      · exact absurd h (Nat.not_lt_zero _)
  | @step i nt nt' mid ns g _ hg ro c ih =>
    intro hi
    obtain ⟨rows, rfl, I⟩ := ih (Nat.le_of_succ_le hi)
    obtain ⟨rs, rfl, hr⟩ := rows_rw ro.2
    have nc : ∀ r ∈ rs, isCall r = false := fun r h => (hr r h).noCall
    have ci := I.cl (.inl hi)
    have oc : ∀ {κ : Ky} {c : Int}, ocR (rows ++ (rs ++ callR gs lv i g)) κ c ↔ ocR rows κ c ∨ (isTY κ.1 ∧ c = chg gs i ∧ ∃ r ∈ rs, Pv.reg κ.1 κ.2 ∈ r.ps) := fun {κ c} => by
      rw [← List.append_assoc, ocR_call, ocR_app nc, ci]; rfl
    have old : ∀ {κ : Ky} {c : Int}, κ.1 = sT → 7 ≤ κ.2 → ocR rows κ c → κ.2 < nt := fun t h7 h => (I.snd _ _ h).elim (·.2.2) fun ⟨k, g, a, _, e, _⟩ => absurd (place_small (rng k g (occN_mono a (Nat.le_of_succ_le hi))) e t) (by (first | lia | omega))
    have new : ∀ {κ : Ky}, κ.1 = sT → 7 ≤ κ.2 → (∃ r ∈ rs, Pv.reg κ.1 κ.2 ∈ r.ps) → nt ≤ κ.2 := fun {κ} t h7 h => (GI.snd_app hr h (.inl t)).elim (·.2.1) fun ⟨k, a, _, e⟩ => absurd (place_small (rng k i (.inr ⟨i, g, hi, hg, rfl, a⟩)) e t) (by (first | lia | omega))
    refine ⟨rows ++ (rs ++ callR gs lv i g), by rw [List.map_append, List.map_append, callR_enc], fun r h => ?_, fun r h => ?_, fun m r h e => ?_, fun j g' h1 h2 h3 h4 => ?_, fun z => ?_, fun κ c h => ?_, fun κ c c' t h7 h h' => ?_, fun k g' h nv => ?_, Int.le_trans I.nt7 ro.1⟩
    · rcases List.mem_append.mp h with h | h
      · exact I.ps3 r h
      · rcases List.mem_append.mp h with h | h
        · exact (hr r h).len
        · unfold callR at h
          split at h
          · cases List.mem_singleton.mp h; exact leB rfl
          · cases h
    · rcases List.mem_append.mp h with h | h
      · exact I.nm r h
      · rcases List.mem_append.mp h with h | h
        · exact .inl (hr r h).nm
        · unfold callR at h
          split at h
          · cases List.mem_singleton.mp h; exact .inr rfl
          · cases h
    · rcases getElem_app h with h | ⟨a, ea, h⟩
      · obtain ⟨j, g', h1, h2, h3, h4, h5, h6⟩ := I.call m r h e
        exact ⟨j, g', Nat.lt_succ_of_lt h1, h2, h3, h4, h5, by rw [List.take_append_of_le_length (Nat.le_of_lt (List.getElem?_eq_some_iff.mp h).1)]; exact h6⟩
      · rcases getElem_app h with h | ⟨b, eb, h⟩
        · have := nc r (List.mem_of_getElem? h)
          unfold isCall at this
          rw [e, beq_self_eq_true] at this; cases this
        · unfold callR at h ⊢
          split at h
          · rename_i q
            cases b with
            | succ b => cases h
            | zero =>
              cases h
              refine ⟨i, g, Nat.lt_succ_self _, hg, q.1, q.2, rfl, ?_⟩
              rw [ea, eb, Nat.add_zero, ← List.append_assoc, ← List.length_append, List.take_left, cls_app, cls_no nc, ci]; rfl
          · cases h
    · by_cases q : j < i
      · obtain ⟨r, a, b⟩ := I.has j g' q h2 h3 h4
        exact ⟨r, List.mem_append_left _ a, b⟩
      · obtain rfl : j = i := by (first | lia | omega)
        rw [hg] at h2; cases h2
        exact ⟨⟨sC, [.int 25, .int (lv.getD j 0)]⟩, List.mem_append_right _ (List.mem_append_right _ (by unfold callR; rw [if_pos ⟨h3, h4⟩]; exact .head _)), rfl⟩
    · have z : i + 1 < gs.length := z.resolve_right (Nat.succ_ne_zero i)
      rw [cls_app, cls_app, cls_no nc, ci, chk_step hg]
      unfold callR
      cases q : g.isC
      · rw [if_neg (by rw [q] at *; nofun)]; rfl
      · rw [if_pos ⟨rfl, z⟩, if_pos rfl, Nat.zero_add]; rfl
    · rcases oc.mp h with h2 | ⟨t, rfl, h2⟩
      · exact (I.snd κ c h2).imp (fun ⟨a, b, d⟩ => ⟨a, b, Int.lt_of_lt_of_le d ro.1⟩) fun ⟨k, g', a, b⟩ => ⟨k, g', occN_mono a (Nat.le_succ _), b⟩
      · exact (GI.snd_app hr h2 t).imp (fun ⟨a, b, d⟩ => ⟨a, Int.le_trans I.nt7 b, d⟩) fun ⟨k, a, b, e⟩ => ⟨k, i, .inr ⟨i, g, Nat.lt_succ_self _, hg, rfl, a⟩, b, e, rfl⟩
    · rcases oc.mp h with h | ⟨_, e, h⟩ <;> rcases oc.mp h' with h' | ⟨_, e', h'⟩
      · exact I.tmp κ c c' t h7 h h'
      · exact absurd (new t h7 h') (Int.not_le.mpr (old t h7 h))
      · exact absurd (new t h7 h) (Int.not_le.mpr (old t h7 h'))
      · exact e.trans e'.symm
    · rcases (occN_step hg k g').mp h with h2 | ⟨e, h2⟩
      · exact oc.mpr (.inl (I.cmp k g' h2 nv))
      · exact oc.mpr (.inr ⟨placeK_ty E k, congrArg _ e, cov_rw c h2 nv⟩)
end
section
structure LawOk (rows : List Rw) (n : Nat) : Prop where
  ps3 : ∀ r ∈ rows, r.ps.length ≤ 3
  len : rows.length ≤ 1100
  n7 : n ≤ 7
  key : ∀ κ c, ocR rows κ c → ((∃ c c', ocR rows κ c ∧ ocR rows κ c' ∧ c ≠ c') ↔ κ.1 = sY)
  beh : ∀ i r, rows[i]? = some r → r.nm = sC → ∃ (f : Int) (m : Nat), r.ps = [.int f, .int m] ∧ m ≤ 7 ∧ ∀ s, ysOf (rows.drop (i + 1)) s ↔ 1 ≤ s ∧ s ≤ m
  frm : FrameOk rows n
  ys : ∀ s, (∃ c, ocR rows (sY, s) c) ↔ 1 ≤ s ∧ s ≤ n
theorem filter_one {a : Nat} {q : Nat → Bool} : ∀ n, (∀ i, i < n → q i = decide (i = a)) → (List.range n).filter q = if a < n then [a] else []
  | 0, _ => rfl
  | n + 1, h => by
    rw [List.range_succ, List.filter_append, filter_one n fun i hi => h i (Nat.lt_succ_of_lt hi)]
    have e := h n (Nat.lt_succ_self n)
    by_cases z : n = a
    · subst z
      rw [if_neg (Nat.lt_irrefl n), if_pos (Nat.lt_succ_self n), List.filter_cons_of_pos (by rw [e, decide_eq_true rfl])]; rfl
    · rw [List.filter_cons_of_neg (by rw [e, decide_eq_false z]; nofun)]
      by_cases y : a < n
      · rw [if_pos y, if_pos (Nat.lt_succ_of_lt y)]; rfl
      · rw [if_neg y, if_neg (by (first | lia | omega))]; rfl
theorem idxOf_one {p : Str → Bool} {A B : List Rw} {x : Rw} (ha : ∀ r ∈ A, p r.nm = false) (hx : p x.nm = true) (hb : ∀ r ∈ B, p r.nm = false) : idxOf p (A ++ x :: B) = [A.length] := by
  unfold idxOf
  rw [filter_one (a := A.length) _ fun i hi => ?_, if_pos (by rw [List.length_append, List.length_cons]; (first | lia | omega))]
  have e := List.getElem?_eq_getElem hi
  generalize (A ++ x :: B)[i] = r at e
  rw [ixf_at e]
  rcases getElem_app e with h | ⟨j, rfl, h⟩
  · rw [ha r (List.mem_of_getElem? h), decide_eq_false (Nat.ne_of_lt (List.getElem?_eq_some_iff.mp h).1)]
  · cases j with
    | zero => cases h; rw [hx, decide_eq_true (by rfl)]
    | succ j => rw [hb r (List.mem_of_getElem? (i := j) h), decide_eq_false (by (first | lia | omega))]
theorem idxOf_no {p : Str → Bool} {A : List Rw} (ha : ∀ r ∈ A, p r.nm = false) : idxOf p A = [] := by
  unfold idxOf
  rw [List.filter_eq_nil_iff]
  intro i hi
  have e := List.getElem?_eq_getElem (List.mem_range.mp hi)
  rw [ixf_at e, ha _ (List.mem_of_getElem? e)]; nofun
theorem cls_mono {F : List Rw} {i j : Nat} (h : i ≤ j) : cls (F.take i) ≤ cls (F.take j) := by
  obtain ⟨d, rfl⟩ := Nat.exists_eq_add_of_le h
  rw [List.take_add, cls_app]; exact Nat.le_add_right ..
theorem cls_next {F : List Rw} {m : Nat} {r : Rw} (h : F[m]? = some r) (hc : r.nm = sC) : cls (F.take (m + 1)) = cls (F.take m) + 1 := by
  rw [List.take_add_one, h, cls_app]
  have : isCall r = true := by unfold isCall; rw [hc]; exact beq_self_eq_true _
  show _ + (List.filter isCall [r]).length = _
  rw [List.filter_cons_of_pos this]; rfl
theorem ysOf_drop {F : List Rw} {m : Nat} {r : Rw} (h : F[m]? = some r) (hc : r.nm = sC) (s : Int) : ysOf (F.drop (m + 1)) s ↔ ∃ c, (cls (F.take m) : Int) < c ∧ ocR F (sY, s) c := by
  have nx := cls_next h hc
  constructor
  · rintro ⟨x, hx, hs⟩
    obtain ⟨j, hj⟩ := List.mem_iff_getElem?.mp hx
    rw [List.getElem?_drop] at hj
    have := cls_mono (F := F) (Nat.le_add_right (m + 1) j)
    exact ⟨_, by (first | lia | omega), m + 1 + j, x, hj, hs, .inr rfl, rfl⟩
  · rintro ⟨_, hl, i, x, hx, hs, _, rfl⟩
    have : m < i := Nat.lt_of_not_le fun z => by have := cls_mono (F := F) z; (first | lia | omega)
    obtain ⟨d, rfl⟩ := Nat.exists_eq_add_of_le this
    exact ⟨x, List.mem_iff_getElem?.mpr ⟨d, by rw [List.getElem?_drop]; exact hx⟩, hs⟩
noncomputable def preR (nd : Bool) (n : Int) : List Rw := if nd then [⟨sA, [.int n]⟩] else []
noncomputable def endR (gs : List Gl) : Rw := if (gs.getLast?.map Gl.isC) = some true then ⟨Str.ofString "execute", [.int 25]⟩ else ⟨Str.ofString "proceed", []⟩
noncomputable def dlR (nd : Bool) : List Rw := if nd then [⟨sD, []⟩] else []
theorem pre_enc (nd : Bool) (n : Int) : preOf nd n = (preR nd n).map Rw.enc := by cases nd <;> rfl
theorem post_enc (nd : Bool) (gs : List Gl) : postOf nd gs = (dlR nd ++ [endR gs]).map Rw.enc := by
  unfold postOf dlR endR
  by_cases h : gs.getLast?.map Gl.isC = some true
  · rw [if_pos h, if_pos h]; cases nd <;> rfl
  · rw [if_neg h, if_neg h]; cases nd <;> rfl
theorem ocR_cons {a : Rw} {rows : List Rw} {κ : Ky} {c : Int} (h1 : isCall a = false) (h2 : ∀ s n, Pv.reg s n ∉ a.ps) : ocR (a :: rows) κ c ↔ ocR rows κ c := by
  have key : ∀ i, cls ((a :: rows).take (i + 1)) = cls (rows.take i) := fun i => by
    unfold cls; rw [List.take_succ_cons, List.filter_cons_of_neg (by rw [h1]; nofun)]
  constructor
  · rintro ⟨i, x, hx, hs, t, rfl⟩
    cases i with
    | zero => cases hx; exact absurd hs (h2 _ _)
    | succ i => exact ⟨i, x, hx, hs, t, by rw [key]⟩
  · rintro ⟨i, x, hx, hs, t, rfl⟩
    exact ⟨i + 1, x, hx, hs, t, by rw [key]⟩
theorem nmE {nd : Bool} {gs : List Gl} {n : Int} : isEnd (endR gs).nm = true ∧ (endR gs).nm ≠ sC ∧ (endR gs).nm ≠ sA ∧ (endR gs).nm ≠ sD ∧ PyData.strOk (endR gs).nm = true ∧ (∀ s m, Pv.reg s m ∉ (endR gs).ps) ∧ (endR gs).ps.length ≤ 3 := by
  unfold endR
  split
  · exact ⟨by kernel_rfl!, fun e => absurd (oS_inj e) (by decide), fun e => absurd (oS_inj e) (by decide), fun e => absurd (oS_inj e) (by decide), oS_ok _, by simp, leB rfl⟩
  · exact ⟨by kernel_rfl!, fun e => absurd (oS_inj e) (by decide), fun e => absurd (oS_inj e) (by decide), fun e => absurd (oS_inj e) (by decide), oS_ok _, by simp, leB rfl⟩
theorem neS {a b : String} (h : decide (a = b) = false) : Str.ofString a ≠ Str.ofString b := fun e => of_decide_eq_false h (oS_inj e)
theorem endNo {s : Str} (h1 : s ≠ Str.ofString "execute") (h2 : s ≠ Str.ofString "proceed") : isEnd s = false := by
  unfold isEnd; rw [beq_eq_false_iff_ne.mpr h1, beq_eq_false_iff_ne.mpr h2]; rfl
section
variable {E : Em} {hs : List Tm} {gs : List Gl} {lv : List Int} {nd : Bool} {n : Int} {order : List Int} {nt : Int} {rows : List Rw}
theorem placeY {k s : Int} (h : (sY, s) = placeK E k) : (E.vi k).kind = .perm ∧ (E.vi k).slot = s := by
  unfold placeK at h
  split at h
  · rename_i q; exact ⟨q, (congrArg Prod.snd h).symm⟩
  · exact absurd (congrArg Prod.fst h).symm sTY
theorem slot_at (P : PlanOk E hs gs lv nd n order) {k : Int} (hk : k ∈ E.ks) (h : (E.vi k).kind = .perm) : ∃ p : Nat, order[p]? = some k ∧ (E.vi k).slot = (p : Int) + 1 := by
  obtain ⟨p, hp⟩ := List.mem_iff_getElem?.mp ((P.ord.mem k).mpr ⟨hk, h⟩)
  exact ⟨p, hp, P.slot p k hp⟩
theorem GI.slot (I : GI E hs gs lv gs.length nt rows) {s c : Int} (h : ocR rows (sY, s) c) : ∃ k g, occN hs gs gs.length k g ∧ (E.vi k).kind = .perm ∧ (E.vi k).slot = s ∧ c = chg gs g := by
  rcases I.snd _ _ h with ⟨e, _⟩ | ⟨k, g, a, _, e, b⟩
  · exact absurd e.symm sTY
  · obtain ⟨p1, p2⟩ := placeY e
    exact ⟨k, g, a, p1, p2, b⟩
theorem GI.put (P : PlanOk E hs gs lv nd n order) (I : GI E hs gs lv gs.length nt rows) {p : Nat} {k : Int} (hp : order[p]? = some k) {g : Int} (h : occN hs gs gs.length k g) : ocR rows (sY, (p : Int) + 1) (chg gs g) := by
  have hk := ((P.ord.mem k).mp (List.mem_of_getElem? hp)).2
  have := I.cmp k g h (by rw [hk]; nofun)
  unfold placeK at this
  rw [if_pos hk, P.slot p k hp] at this
  exact this
theorem GI.key (P : PlanOk E hs gs lv nd n order) (hk : ∀ k ∈ E.ks, 0 ≤ k ∧ k < 7) (I : GI E hs gs lv gs.length nt rows) {κ : Ky} {c : Int} (h : ocR rows κ c) : (∃ c c', ocR rows κ c ∧ ocR rows κ c' ∧ c ≠ c') ↔ κ.1 = sY := by
  constructor
  · rintro ⟨a, b, ha, hb, ne⟩
    refine Classical.byContradiction fun ny => ne ?_
    by_cases t : κ.1 = sT ∧ 7 ≤ κ.2
    · exact I.tmp κ a b t.1 t.2 ha hb
    · have var : ∀ {c}, ocR rows κ c → ∃ k g, occN hs gs gs.length k g ∧ (E.vi k).kind = .temp ∧ κ = (sT, k) ∧ c = chg gs g := fun {c} h => by
        rcases I.snd _ _ h with ⟨e1, e2, _⟩ | ⟨k, g, o, nv, e, b⟩
        · exact absurd ⟨e1, e2⟩ t
        · unfold placeK at e
          split at e
          · exact absurd (congrArg Prod.fst e) ny
          · rename_i np
            refine ⟨k, g, o, ?_, e, b⟩
            cases q : (E.vi k).kind with
            | void => exact absurd q nv
            | perm => exact absurd q np
            | temp => rfl
      obtain ⟨k, g, o, kt, e, rfl⟩ := var ha
      obtain ⟨k', g', o', _, e', rfl⟩ := var hb
      obtain rfl : k = k' := congrArg Prod.snd (e.symm.trans e')
      exact P.temp k (P.ks k g o) kt g g' o o'
  · intro e
    obtain ⟨κ1, s⟩ := κ
    cases e
    obtain ⟨k, g, o, kp, rfl, _⟩ := I.slot h
    have hk := P.ks k g o
    obtain ⟨g1, g2, o1, o2, lt⟩ := P.perm k hk kp
    obtain ⟨p, hp, e⟩ := slot_at P hk kp
    rw [e]
    exact ⟨_, _, I.put P hp o1, I.put P hp o2, Int.ne_of_lt lt⟩
theorem GI.ys (P : PlanOk E hs gs lv nd n order) (I : GI E hs gs lv gs.length nt rows) (s : Int) : (∃ c, ocR rows (sY, s) c) ↔ 1 ≤ s ∧ s ≤ order.length := by
  constructor
  · rintro ⟨c, h⟩
    obtain ⟨k, g, o, kp, rfl, _⟩ := I.slot h
    obtain ⟨p, hp, e⟩ := slot_at P (P.ks k g o) kp
    have := (List.getElem?_eq_some_iff.mp hp).1
    (first | lia | omega)
  · rintro ⟨h1, h2⟩
    obtain ⟨p, rfl⟩ : ∃ p : Nat, s = (p : Int) + 1 := ⟨(s - 1).toNat, by (first | lia | omega)⟩
    have hp := List.getElem?_eq_getElem (show p < order.length by (first | lia | omega))
    obtain ⟨g, _, o, _⟩ := P.perm _ ((P.ord.mem _).mp (List.mem_of_getElem? hp)).1 ((P.ord.mem _).mp (List.mem_of_getElem? hp)).2
    exact ⟨_, I.put P hp o⟩
theorem GI.beh (P : PlanOk E hs gs lv nd n order) (I : GI E hs gs lv gs.length nt rows) {j : Nat} {g : Gl} (hj : gs[j]? = some g) (hc : g.isC = true) : ∃ m : Nat, lv.getD j 0 = m ∧ m ≤ order.length ∧ ∀ s, (∃ c, (chk gs j : Int) < c ∧ ocR rows (sY, s) c) ↔ 1 ≤ s ∧ s ≤ m := by
  have jl := (List.getElem?_eq_some_iff.mp hj).1
  obtain ⟨m, hm, ml, lt⟩ := P.lv j jl
  have cn := chk_step hj
  rw [hc, if_pos rfl] at cn
  refine ⟨m, by rw [List.getD_eq_getElem?_getD, hm]; rfl, ml, fun s => ⟨?_, ?_⟩⟩
  · rintro ⟨c, hl, h⟩
    obtain ⟨k, g', o, kp, rfl, rfl⟩ := I.slot h
    have hk := P.ks k g' o
    obtain ⟨p, hp, e⟩ := slot_at P hk kp
    have gj : (j : Int) < g' := Int.lt_of_not_ge fun z => by
      have := chg_mono gs g' j z
      have : chg gs j = (chk gs j : Nat) := rfl
      (first | lia | omega)
    have := (lt p k hp).mpr (Int.lt_of_lt_of_le gj ((P.last k hk).2 g' o))
    (first | lia | omega)
  · rintro ⟨h1, h2⟩
    obtain ⟨p, rfl⟩ : ∃ p : Nat, s = (p : Int) + 1 := ⟨(s - 1).toNat, by (first | lia | omega)⟩
    have hp := List.getElem?_eq_getElem (show p < order.length by (first | lia | omega))
    generalize order[p] = k at hp
    have hk := ((P.ord.mem k).mp (List.mem_of_getElem? hp)).1
    have jk : (j : Int) < (E.vi k).last := (lt p k hp).mp (by (first | lia | omega))
    refine ⟨_, ?_, I.put P hp (P.last k hk).1⟩
    have : chg gs ((j + 1 : Nat) : Int) ≤ chg gs (E.vi k).last := chg_mono gs _ _ (by (first | lia | omega))
    have e : chg gs ((j + 1 : Nat) : Int) = (chk gs (j + 1) : Nat) := rfl
    (first | lia | omega)
theorem GI.calls (P : PlanOk E hs gs lv nd n order) (I : GI E hs gs lv gs.length nt rows) : nd = true ↔ ∃ r ∈ rows, r.nm = sC := by
  rw [P.nd]
  constructor
  · rintro ⟨j, g, h1, h2, h3, h4⟩
    exact I.has j g h1 h2 h3 h4
  · rintro ⟨r, h, e⟩
    obtain ⟨m, hm⟩ := List.mem_iff_getElem?.mp h
    obtain ⟨j, g, h1, h2, h3, h4, _⟩ := I.call m r hm e
    exact ⟨j, g, h1, h2, h3, h4⟩
theorem no_perm (P : PlanOk E hs gs lv nd n order) (h : nd = false) : order = [] := by
  cases order with
  | nil => rfl
  | cons k r =>
    obtain ⟨hk, kp⟩ := (P.ord.mem k).mp (.head _)
    obtain ⟨g, g', o, o', lt⟩ := P.perm k hk kp
    have gl : g' < gs.length ∧ (0 : Int) ≤ g' := by
      rcases o' with ⟨rfl, _⟩ | ⟨j, _, h1, _, rfl, _⟩
      · have : chg gs (-1) = 0 := rfl
        have : (0 : Int) ≤ chg gs g := Int.natCast_nonneg _
        (first | lia | omega)
      · (first | lia | omega)
    obtain ⟨m, rfl⟩ := Int.eq_ofNat_of_zero_le gl.2
    have : 0 < chk gs m := by
      have : (0 : Int) ≤ chg gs g := Int.natCast_nonneg _
      have : chg gs (m : Int) = (chk gs m : Nat) := rfl
      (first | lia | omega)
    obtain ⟨x, hx⟩ := List.exists_mem_of_length_pos this
    obtain ⟨hx, hc⟩ := List.mem_filter.mp hx
    obtain ⟨j, hj⟩ := List.mem_iff_getElem?.mp hx
    rw [List.getElem?_take] at hj
    split at hj
    · rw [P.nd.mpr ⟨j, x, (List.getElem?_eq_some_iff.mp hj).1, hj, hc, by (first | lia | omega)⟩] at h; cases h
    · cases hj
theorem law_ok (P : PlanOk E hs gs lv nd n order) (hk : ∀ k ∈ E.ks, 0 ≤ k ∧ k < 7) {mid : List MV} (gr : GR E hs gs lv gs.length nt mid) (hz : mid.length ≤ 1000) :
    ∃ F : List Rw, preOf nd n ++ mid ++ postOf nd gs = F.map Rw.enc ∧ LawOk F order.length := by
  obtain ⟨rows, rfl, I⟩ := GI.of (fun k g h => (hk k (P.ks k g h)).2) gr (Nat.le_refl _)
  rw [List.length_map] at hz
  have o7 : order.length ≤ 7 := rng_small (fun k h => hk k ((P.ord.mem k).mp h).1) P.ord.nd
  obtain ⟨e1, e2, e3, e4, e5, e6, e7⟩ := nmE (nd := nd) (gs := gs) (n := n)
  have dl : ∀ r ∈ dlR nd, r = ⟨sD, []⟩ := fun r h => by unfold dlR at h; split at h; exact List.mem_singleton.mp h; cases h
  have pr : ∀ r ∈ preR nd n, r = ⟨sA, [.int n]⟩ := fun r h => by unfold preR at h; split at h; exact List.mem_singleton.mp h; cases h
  have cl := I.calls P
  have tail : ∀ r ∈ dlR nd ++ [endR gs], isCall r = false ∧ (∀ s m, Pv.reg s m ∉ r.ps) ∧ r.nm ≠ sC ∧ r.nm ≠ sA := fun r h => by
    rcases List.mem_append.mp h with h | h
    · rw [dl r h]; exact ⟨beq_eq_false_iff_ne.mpr (neS (by decide)), nofun, neS (by decide), neS (by decide)⟩
    · rw [List.mem_singleton.mp h]; exact ⟨beq_eq_false_iff_ne.mpr e2, e6, e2, e3⟩
  have oc0 : ∀ κ c, ocR (rows ++ (dlR nd ++ [endR gs])) κ c ↔ ocR rows κ c := fun κ c => (ocR_app fun r h => (tail r h).1).trans ⟨fun h => h.elim id fun ⟨_, _, r, a, b⟩ => absurd b ((tail r a).2.1 _ _), .inl⟩
  have oc : ∀ κ c, ocR (preR nd n ++ rows ++ (dlR nd ++ [endR gs])) κ c ↔ ocR rows κ c := fun κ c => by
    unfold preR
    split
    · exact (ocR_cons (beq_eq_false_iff_ne.mpr (neS (by decide))) (by simp)).trans (oc0 κ c)
    · exact oc0 κ c
  have mem : ∀ r, r ∈ preR nd n ++ rows ++ (dlR nd ++ [endR gs]) → r = ⟨sA, [.int n]⟩ ∨ r ∈ rows ∨ r = ⟨sD, []⟩ ∨ r = endR gs := fun r h => by
    rcases List.mem_append.mp h with h | h
    · exact (List.mem_append.mp h).imp (pr r) .inl
    · exact .inr (.inr ((List.mem_append.mp h).imp (dl r) List.mem_singleton.mp))
  have nmr : ∀ r ∈ rows, r.nm ≠ sA ∧ r.nm ≠ sD ∧ isEnd r.nm = false ∧ PyData.strOk r.nm = true := fun r h => by
    rcases I.nm r h with ⟨nm, hb, e⟩ | e
    · rw [e]; exact ⟨not_benign hb (by decide), not_benign hb (by decide), endNo (not_benign hb (by decide)) (not_benign hb (by decide)), oS_ok _⟩
    · rw [e]; exact ⟨neS (by decide), neS (by decide), endNo (neS (by decide)) (neS (by decide)), oS_ok _⟩
  have z1 : (preR nd n).length ≤ 1 := by unfold preR; split <;> exact leB rfl
  have z2 : (dlR nd).length ≤ 1 := by unfold dlR; split <;> exact leB rfl
  refine ⟨preR nd n ++ rows ++ (dlR nd ++ [endR gs]), by rw [pre_enc, post_enc, ← List.map_append, ← List.map_append], ⟨fun r h => ?_, by simp only [List.length_append, List.length_singleton]; (first | lia | omega), o7, fun κ c h => ?_, fun m r h e => ?_, ?_, fun s => ?_⟩⟩
  · rcases mem r h with rfl | h | rfl | rfl
    · exact leB rfl
    · exact I.ps3 r h
    · exact leB rfl
    · exact e7
  · simp only [oc]
    exact I.key P hk ((oc κ c).mp h)
  · have hy := ysOf_drop h e
    have main : ∃ m', rows[m']? = some r ∧ cls ((preR nd n ++ rows ++ (dlR nd ++ [endR gs])).take m) = cls (rows.take m') := by
      rcases getElem_app h with h | ⟨j, _, h⟩
      · rcases getElem_app h with h' | ⟨j, ej, h'⟩
        · exact absurd ((pr r (List.mem_of_getElem? h')) ▸ e) (neS (by decide))
        · refine ⟨j, h', ?_⟩
          rw [List.take_append_of_le_length (Nat.le_of_lt (List.getElem?_eq_some_iff.mp h).1), ej, List.take_length_add_append, cls_app, cls_no fun x hx => by rw [pr x hx]; exact beq_eq_false_iff_ne.mpr (neS (by decide)), Nat.zero_add]
      · exact absurd e ((tail r (List.mem_of_getElem? h)).2.2.1)
    obtain ⟨m', hr, hcl⟩ := main
    obtain ⟨j, g, h1, h2, h3, h4, h5, h6⟩ := I.call m' r hr e
    obtain ⟨q, q1, q2, q3⟩ := I.beh P h2 h3
    refine ⟨25, q, by rw [h5, q1], by (first | lia | omega), fun s => ?_⟩
    rw [hy s, hcl, h6, ← q3 s]
    simp only [oc]
  · have hl : (preR nd n ++ rows ++ (dlR nd ++ [endR gs])).length = (preR nd n ++ rows ++ dlR nd).length + 1 := by simp only [List.length_append, List.length_singleton]; (first | lia | omega)
    have he : ∀ r ∈ preR nd n ++ rows ++ dlR nd, isEnd r.nm = false := fun r h => by
      rcases List.mem_append.mp h with h | h
      · rcases List.mem_append.mp h with h | h
        · rw [pr r h]; exact endNo (neS (by decide)) (neS (by decide))
        · exact (nmr r h).2.2.1
      · rw [dl r h]; exact endNo (neS (by decide)) (neS (by decide))
    refine ⟨?_, fun r h => ?_, ?_, fun h => ?_, fun ⟨r, h, e⟩ => ?_⟩
    · rw [hl]; exact Nat.le_add_left ..
    · rcases mem r h with rfl | h | rfl | rfl
      · exact oS_ok _
      · exact (nmr r h).2.2.2
      · exact oS_ok _
      · exact e5
    · rw [hl, ← List.append_assoc]
      exact idxOf_one he e1 nofun
    · have nf : nd = false := by
        cases q : nd with
        | false => rfl
        | true => obtain ⟨r, a, b⟩ := cl.mp q; exact absurd b (h r (List.mem_append_left _ (List.mem_append_right _ a)))
      refine ⟨by rw [no_perm P nf]; rfl, fun r hr e => ?_, fun r hr e => ?_⟩
      · rcases List.mem_append.mp hr with hr | hr
        · rcases List.mem_append.mp hr with hr | hr
          · rw [nf] at hr; cases hr
          · exact (nmr r hr).1 e
        · exact (tail r hr).2.2.2 e
      · rcases List.mem_append.mp hr with hr | hr
        · rcases List.mem_append.mp hr with hr | hr
          · rw [nf] at hr; cases hr
          · exact (nmr r hr).2.1 e
        · rw [nf] at hr; cases List.mem_singleton.mp hr; exact e4 e
    · have nt : nd = true := cl.mpr (by
        rcases mem r h with rfl | h | rfl | rfl
        · exact absurd e (neS (by decide))
        · exact ⟨r, h, e⟩
        · exact absurd e (neS (by decide))
        · exact absurd e e2)
      have hn := P.n
      subst nt
      refine ⟨?_, rfl, ?_, ?_⟩
      · have f1 : rows.filter (fun r => r.nm == sA) = [] := List.filter_eq_nil_iff.mpr fun x hx => by rw [beq_eq_false_iff_ne.mpr (nmr x hx).1]; nofun
        have f2 : (dlR true ++ [endR gs]).filter (fun r => r.nm == sA) = [] := List.filter_eq_nil_iff.mpr fun x hx => by rw [beq_eq_false_iff_ne.mpr (tail x hx).2.2.2]; nofun
        rw [List.filter_append, List.filter_append, f1, f2, hn]
        show List.filter _ [_] ++ [] ++ [] = _
        rw [List.filter_cons_of_pos (p := fun r : Rw => r.nm == sA) (a := ⟨sA, [.int order.length]⟩) (l := []) (beq_self_eq_true sA)]; rfl
      · have : idxOf (· == sD) ((preR true n ++ rows) ++ ⟨sD, []⟩ :: [endR gs]) = [(preR true n ++ rows).length] := idxOf_one (fun x hx => ?_) (beq_self_eq_true _) fun x hx => by rw [List.mem_singleton.mp hx]; exact beq_eq_false_iff_ne.mpr e4
        · rw [hl]
          refine this.trans ?_
          simp only [List.length_append]; rfl
        · exact beq_eq_false_iff_ne.mpr ((List.mem_append.mp hx).elim (fun h => pr x h ▸ neS (by decide)) fun h => (nmr x h).2.1)
      · simp only [List.length_append, List.length_singleton]
        show 2 ≤ 1 + rows.length + (1 + 1)
        (first | lia | omega)
  · simp only [oc]
    exact I.ys P s
end
end
section
variable {X : Ctx} {fa : Nat → Addr} {tk : Nat → Tok} {d : Nat}
theorem Tape.keep {H H' : MH} {t ta : Addr} (T : Tape H t ta) (k : Keep No H H') : Tape H' t ta :=
  let ⟨l, p, c, a, b, e⟩ := T.go; ⟨T.ne, l, p, c, k.at a nofun, k.at b nofun, e⟩
theorem Tape.new {H : MH} {t ta a : Addr} {c : Cell} (T : Tape H t ta) (h : H a = none) : Tape (H.set a c) t ta := T.keep (.set (.inr h))
theorem sorted_eq {ns : List Int} {m : Nat} (nd : ns.Nodup) (pw : ns.Pairwise (· ≤ ·)) (mem : ∀ s, s ∈ ns ↔ 1 ≤ s ∧ s ≤ m) : ns.map MV.int = rangeM 1 ((m : Int) + 1) := by
  have e : ns = (List.range m).map fun (i : Nat) => 1 + (i : Int) := by
    have nd2 : ((List.range m).map fun (i : Nat) => 1 + (i : Int)).Nodup := List.pairwise_map.mpr (List.nodup_range.imp fun h e => h (by (first | lia | omega)))
    refine List.Perm.eq_of_pairwise (le := (· ≤ ·)) (fun a b _ _ h h' => Int.le_antisymm h h') pw ?_ ((List.perm_ext_iff_of_nodup nd nd2).mpr fun s => ?_)
    · exact List.pairwise_map.mpr (List.pairwise_lt_range.imp fun h => by (first | lia | omega))
    · rw [mem, List.mem_map]
      exact ⟨fun h => ⟨(s - 1).toNat, List.mem_range.mpr (by (first | lia | omega)), by (first | lia | omega)⟩, fun ⟨i, hi, e⟩ => by have := List.mem_range.mp hi; (first | lia | omega)⟩
  unfold rangeM
  rw [show ((m : Int) + 1 - 1).toNat = m by (first | lia | omega), e, List.map_map]; rfl
theorem count_y {ks : List Ky} {n : Nat} (nd : ks.Nodup) (h : ∀ s, (sY, s) ∈ ks ↔ 1 ≤ s ∧ s ≤ n) : (ks.filter fun κ => κ.1 == sY).length = n := by
  have nd2 : ((List.range n).map fun (i : Nat) => (sY, 1 + (i : Int))).Nodup := List.pairwise_map.mpr (List.nodup_range.imp fun h e => h (by have := congrArg Prod.snd e; dsimp only at this; (first | lia | omega)))
  rw [((List.perm_ext_iff_of_nodup (nd.filter _) nd2).mpr fun κ => ?_).length_eq, List.length_map, List.length_range]
  rw [List.mem_filter, List.mem_map]
  constructor
  · rintro ⟨a, b⟩
    obtain ⟨κ1, s⟩ := κ
    cases eq_of_beq b
    have := (h s).mp a
    exact ⟨(s - 1).toNat, List.mem_range.mpr (by (first | lia | omega)), Prod.ext rfl (by dsimp only; (first | lia | omega))⟩
  · rintro ⟨i, hi, rfl⟩
    have := List.mem_range.mp hi
    exact ⟨(h _).mpr (by (first | lia | omega)), beq_self_eq_true _⟩
theorem two_iff {l : List Int} (nd : l.Nodup) : (∃ c c', c ∈ l ∧ c' ∈ l ∧ c ≠ c') ↔ 1 < l.length := by
  match l with
  | [] => exact ⟨fun ⟨_, _, h, _⟩ => (nomatch h), nofun⟩
  | [x] => exact ⟨fun ⟨c, c', h, h', ne⟩ => (ne ((List.mem_singleton.mp h).trans (List.mem_singleton.mp h').symm)).elim, fun h => absurd h (Nat.lt_irrefl 1)⟩
  | x :: y :: r => exact ⟨fun _ => by rw [List.length_cons, List.length_cons]; (first | lia | omega), fun _ => ⟨x, y, .head _, .tail _ (.head _), fun e => (List.nodup_cons.mp nd).1 (e ▸ .head _)⟩⟩
noncomputable def kM (κ : Ky) : MV := .tup [.str κ.1, .int κ.2]
inductive HI (t ta : Addr) (pre : List Nat) : List MV → MH → Prop
  | mk {hs : List Tm} {H : MH} (e : hs.length = pre.length) (o : ∀ x ∈ hs, x.Ok 2) (T : Tape H t ta) : HI t ta pre (hs.map Tm.enc) H
theorem dep0 (ns : List Int) : PyData.depthAll (mvPs (ns.map .int)) ≤ 0 := depth_all fun m hm => let ⟨_, _, e⟩ := List.mem_map.mp hm; e ▸ DatD.int
inductive AI (H8 : MH) (x : List (Option MV)) (c ba : Addr) : St → Prop
  | mk {H' : MH} {x7 x8 : Option MV} (k : Keep No H8 H') : AI H8 x c ba ⟨x ++ [some (.ref c), some (.ref ba), x7, x8], H'⟩
theorem c44b (ok : X.Ok) (cl : X.Cls) (pf : PF X fa tk) {H7 H8 : MH} {c ba : Addr} {F : List Rw} {m n' : Nat} {ks : List Ky} {ad : Ky → Addr} {Lf : Ky → List Int} {o' : Obj} {Q : MV → MH → Prop} {x0 x1 x2 x3 x4 x7 x8 : Option MV} (hc8 : H8 c = some (.L (F.map Rw.enc))) (L : LawOk F m)
    (tab : Tab H7 H8 ba (ocR F) n' ks ad Lf o') (hn' : n' ≤ 10000) (ne : ∀ κ ∈ ks, Lf κ ≠ []) (K : ∀ H', Q (.bool true) H') : p44_6 X (d + 1) fa (fun m σ => Q (retOf m) σ.H) ⟨[x0, x1, x2, x3, x4, some (.ref c), some (.ref ba), x7, x8], H8⟩ := by
  have kl := tab.ln
  have zk : ks.length ≤ 100000 := by (first | lia | omega)
  have items : (DV.t (ks.map fun κ => (kE κ, .ref (ad κ)))).keys = ks.map kM := List.map_map
  have hk : ∀ κ, κ ∈ ks → decide (1 < (Lf κ).length) = (κ.1 == sY) := fun κ h => by
    obtain ⟨c0, h0⟩ := List.exists_mem_of_ne_nil _ (ne κ h)
    have e := (two_iff (tab.cells κ h).2.2.1).symm.trans (Iff.trans ⟨fun ⟨a, b, x, y, z⟩ => ⟨a, b, (tab.oc κ a).mpr ⟨h, x⟩, (tab.oc κ b).mpr ⟨h, y⟩, z⟩, fun ⟨a, b, x, y, z⟩ => ⟨a, b, ((tab.oc κ a).mp x).2, ((tab.oc κ b).mp y).2, z⟩⟩ (L.key κ c0 ((tab.oc κ c0).mpr ⟨h, h0⟩)))
    rw [Bool.eq_iff_iff, decide_eq_true_eq, beq_iff_eq]; exact e
  walk_at "s"
  refine ⟨_, .dk tab.hD, .inv kM (fun pre post σ => ks = pre ++ post ∧ AI H8 [x0, x1, x2, x3, x4] c ba σ) ⟨rfl, .mk (.refl ..)⟩ ?_ ?_ items⟩
  · rintro pre κ post σ G ⟨e, ⟨k⟩⟩ hG
    rename_i H' x7 x8
    have hin : κ ∈ ks := by rw [e]; exact List.mem_append_right _ (.head _)
    obtain ⟨c1, _, c3, c4⟩ := tab.cells κ hin
    have hD := k.at tab.hD nofun
    refine ⟨hD, ?_⟩
    walk_at "s"
    refine ⟨_, .dictT hD (.cons .s (.cons .i .nil)) (dget_keys.1 hin), .list (k.at c1 nofun) (by rw [List.length_map]; (first | lia | omega)) ⟨_, .gt, _, ix0, _, .eq .str, _, .ne .bool, ?_⟩⟩
    refine .no (by rw [List.length_map, show decide (((Lf κ).length : Int) > 1) = decide (1 < (Lf κ).length) from decide_eq_decide.mpr (by (first | lia | omega)), hk κ hin, beq_self_eq_true]; rfl) (hG.next _ ⟨by rw [e, List.append_assoc]; rfl, .mk k⟩)
  rintro pre σ ⟨_, ⟨k⟩⟩
  rename_i H' x7 x8
  refine ⟨k.at tab.hD nofun, ?_⟩
  have fl := L.len
  walk_at "s"
  refine .list (k.at hc8 nofun) (by rw [List.length_map]; (first | lia | omega)) ⟨_, .mk (Int.natCast_nonneg _) (by rw [List.length_map]; (first | lia | omega)), ?_⟩
  rw [List.length_map, Int.toNat_natCast]
  refine .inv (fun (i : Nat) => MV.int (0 + (i : Int))) (fun pre post σ => List.range F.length = pre ++ post ∧ AI H8 [x0, x1, x2, x3, x4] c ba σ) ⟨rfl, .mk k⟩ ?_ ?_ rfl
  · rintro pre i post σ G ⟨e, ⟨k⟩⟩ hG
    rename_i H' x7 x8
    refine ⟨trivial, ?_⟩
    obtain ⟨_, il⟩ := range_at e
    have hx : F[i]? = some F[i] := List.getElem?_eq_getElem il
    generalize F[i] = r at hx
    have next : ∀ {H'}, Keep No H8 H' → G .next ⟨[x0, x1, x2, x3, x4, some (.ref c), some (.ref ba), x7, some (.int (0 + (i : Int)))], H'⟩ := fun k => hG.next _ ⟨by rw [e, List.append_assoc]; rfl, .mk k⟩
    have hc := k.at hc8 nofun
    walk_at "s"
    rw [Int.zero_add] at next ⊢
    refine ⟨_, .list hc (.nat (get_map hx) (by (first | lia | omega))), _, ixE0 (show r.enc = .tup (.str r.nm :: r.ps.map Pv.enc) from rfl), _, .eq .str, .any (fun b => ?_) fun b => .f (next k)⟩
    obtain ⟨f, mm, hp, m7, hb⟩ := L.beh i r hx (eq_of_beq b)
    refine c42 ok cl pf hc L.len (by (first | lia | omega)) L.ps3 (fun s hs => ?_) fun H9 na ns _ hns nd pw mem k9 => ?_
    · obtain ⟨x, hx, hs⟩ := hs
      obtain ⟨j, hj⟩ := List.mem_iff_getElem?.mp hx
      have := (L.ys s).mp ⟨_, j, x, hj, hs, .inr rfl, rfl⟩
      have := L.n7
      (first | lia | omega)
    have hr : r.enc = .tup [.str r.nm, .int f, .int mm] := by unfold Rw.enc; rw [hp]; rfl
    refine ⟨_, .list (k9.at hc nofun) (.nat (get_map hx) (by (first | lia | omega))), _, ixE2 hr, _, .add, _, _, .mk (by decide) (by decide) (by (first | lia | omega)) (by (first | lia | omega)), fun ra nr => ?_⟩
    have eq := sorted_eq nd pw (m := mm) fun s => (mem s).trans (hb s)
    refine ⟨_, .ne (.list (v := true) (set_at hns (ne_new hns nr)) (MH.set_self ..) (dints _) (eq ▸ dints _) ?_ ?_ ⟨fun _ => eq, fun _ => rfl⟩), .f (.f (next ((k.trans k9).trans (.set (.inr nr)))))⟩
    · exact Nat.le_trans (dep0 ns) (leB rfl)
    · exact eq ▸ Nat.le_trans (dep0 ns) (leB rfl)
  rintro pre σ ⟨_, ⟨k⟩⟩
  rename_i H' x7 x8
  have hD := k.at tab.hD nofun
  refine ⟨trivial, ?_⟩
  walk_at "s"
  refine ⟨_, .dk hD, .inv kM (fun pre post acc H2 => ks = pre ++ post ∧ acc = (pre.filter fun κ => κ.1 == sY).map kM ∧ H2 = H') ⟨rfl, rfl, rfl⟩ ?_ ?_ items zk⟩
  · rintro pre κ post acc H2 C ⟨e, rfl, rfl⟩ hC
    refine ⟨hD, ?_⟩
    walk_at "s"
    refine ⟨_, ix0, _, .eq .str, .any (fun b => ⟨rfl, hC _ _ ⟨by rw [e, List.append_assoc]; rfl, ?_, rfl⟩⟩) fun b => ⟨rfl, hC _ _ ⟨by rw [e, List.append_assoc]; rfl, ?_, rfl⟩⟩⟩
    · rw [List.filter_append, List.filter_cons_of_pos (p := fun κ : Ky => κ.1 == sY) b, List.map_append]; rfl
    · rw [List.filter_append, List.filter_cons_of_neg (p := fun κ : Ky => κ.1 == sY) (fun h => nomatch b.symm.trans h), List.filter_nil, List.append_nil]
  rintro pre acc H2 ⟨e, rfl, rfl⟩
  rw [List.append_nil] at e; subst e
  have cy : ∀ s, (sY, s) ∈ ks ↔ 1 ≤ s ∧ s ≤ m := fun s => (Iff.intro (fun h => let ⟨c0, h0⟩ := List.exists_mem_of_ne_nil _ (ne _ h); ⟨c0, (tab.oc _ c0).mpr ⟨h, h0⟩⟩) fun ⟨c0, h⟩ => ((tab.oc _ c0).mp h).1).trans (L.ys s)
  refine ⟨hD, fun ad nd => ?_⟩
  have e := count_y tab.nd cy
  refine .list (MH.set_self ..) (by rw [List.length_map, e]; have := L.n7; (first | lia | omega)) ?_
  rw [List.length_map, e]
  exact c43 ok cl pf (set_at (k.at hc8 nofun) (ne_new (k.at hc8 nofun) nd)) L.len L.frm K
theorem c44 (ok : X.Ok) (cl : X.Cls) (pf : PF X fa tk) {H : MH} {a : Addr} {ps : Array Value} {l : List Int} {Q : MV → MH → Prop} (hl : X.base.IsList a ps) (hv : IntsAre ps.toList l) (h63 : l.length ≤ 63) (K : ∀ H', Q (.bool true) H') : CallsTo X (d + 9) (.ref (fa 44)) [.ref a] Q H := by
  obtain ⟨q, dc, pm, co, ff⟩ := pf.fn44
  refine callsTo_defC ok ff (fun L => d44 ok cl pf) rfl 8 ?_
  walk_at "s"
  refine ⟨l, _, .mk hl hv (by decide) (by (first | lia | omega)), fun ta nta t nt => ?_⟩
  have tne : t ≠ ta := fun e => by rw [e, MH.set_self] at nt; cases nt
  have T0 : Tape ((H.set ta (.L ((l.map .int).take (Int.toNat 60)))).set t (.L [.ref ta, .int 0, .int 0])) t ta := ⟨tne, l.take 60, 0, 0, MH.set_self .., by rw [List.map_take]; exact set_at (MH.set_self ..) tne.symm, Int.le_refl _, by rw [List.length_take]; (first | lia | omega)⟩
  generalize (H.set ta (.L ((l.map .int).take (Int.toNat 60)))).set t (.L [.ref ta, .int 0, .int 0]) = H0 at T0
  walk_at "s"
  refine c2000 ok cl pf fun sy H1 k1 => ?_
  have T1 := T0.keep k1
  walk_at "s"
  refine c38 ok cl pf T1 (by decide) (by decide) fun r H2 r0 r2 T2 _ => ⟨_, .add, _, .mk (by (first | lia | omega)) (by (first | lia | omega)), ?_⟩
  refine .inv (fun (i : Nat) => MV.int (0 + (i : Int))) (fun pre post acc H' => List.range (2 + r).toNat = pre ++ post ∧ HI t ta pre acc H') ⟨rfl, .mk (hs := []) rfl nofun T2⟩ ?_ ?_ (l := List.range (2 + r).toNat) rfl (by rw [List.length_range]; (first | lia | omega))
  · rintro pre i post acc H' C ⟨e, ⟨el, o, T⟩⟩ hC
    rename_i hs
    refine ⟨trivial, ?_⟩
    walk_at "s"
    refine .t (c39 ok cl pf 2 T fun tm H3 om T3 _ => ⟨rfl, hC _ _ ⟨by rw [e, List.append_assoc]; rfl, ?_⟩⟩)
    have := HI.mk (pre := pre ++ [i]) (hs := hs ++ [tm]) (by rw [List.length_append, List.length_append, el]; rfl) (fun x hx => (List.mem_append.mp hx).elim (o x) fun h => List.mem_singleton.mp h ▸ om) T3
    rw [List.map_append] at this
    exact this
  rintro pre acc H' ⟨e, ⟨el, o, T⟩⟩
  rename_i hs
  rw [List.append_nil] at e
  have hn : hs.length ≤ 3 := by rw [el, ← e, List.length_range]; (first | lia | omega)
  clear e el
  refine ⟨trivial, fun ha nh => ?_⟩
  walk_at "s"
  refine .mk (MH.set_self ..) (by rw [List.length_map]; (first | lia | omega)) (c40 ok cl pf (T.new nh) fun H4 ga gs _ hga gl gd T4 _ => c3600 ok cl pf fun kA nk => ?_)
  have hga := set_at (c' := .A 6 [some (.int 24), some (.tup (hs.map Tm.enc)), some (.ref ga), some (.int 7)]) hga (ne_new hga nk)
  have hk := H4.set_self kA (.A 6 [some (.int 24), some (.tup (hs.map Tm.enc)), some (.ref ga), some (.int 7)])
  generalize H4.set kA (.A 6 [some (.int 24), some (.tup (hs.map Tm.enc)), some (.ref ga), some (.int 7)]) = H5 at hga hk
  walk_at "s"
  refine c36 ok cl pf hk hga hn (by (first | lia | omega)) (fun t ht => (o t ht).fit) (fun i g h => (gd g (List.mem_of_getElem? h)).1) fun H6 E lv nd n la order eK pin P => ?_
  rw [← eK]
  refine c24 ok cl pf pin fun H7 s c l1 l2 mid nt gr hc hm => ?_
  obtain ⟨F, eF, L⟩ := law_ok (E := ⟨s, E.kA, E.pA, c, l1, l2, E.inf, E.ia, E.ks, E.vi⟩) ⟨P.ks, P.temp, P.perm, P.last, P.ord, P.slot, P.n, P.lv, P.nd⟩ pin.ks gr hm
  rw [eF] at hc
  clear eF gr P pin hk hga T4 T1 T0 T T2 o gd hm
  walk_at "s"
  refine c41 ok cl pf hc L.len L.ps3 fun H8 ba n' ks ad Lf o' tab hn' ne => ?_
  have hc8 := tab.keep.at hc nofun
  walk_at "s"
  exact c44b ok cl pf hc8 L tab hn' ne K
end
section
noncomputable def tupO (l : List Value) : Obj := ⟨.type "tuple", none, .seq l.toArray 0, #[]⟩
noncomputable def fldO (l : List Value) : Obj := ⟨.none, none, .fields l.toArray, #[]⟩
noncomputable def tyO (c : String) (l : List Value) : Obj := ⟨.type c, none, .fields l.toArray, #[]⟩
noncomputable def dcO (l : List DictEntry) (n : Nat) : Obj := ⟨.type "dict", none, .dict l.toArray n, #[]⟩
noncomputable def frO (c ns : Nat) (pm : Value) : Obj := ⟨.type "frame", none, .plain, #[some (.ref c), some (.ref 3), some (.ref ns), none, some pm, none, some (.ref 0)]⟩
noncomputable def ri (n : Nat) : Value := .int n 0
noncomputable def strL : List Str → Nat → List Value
  | [], _ => []
  | x :: r, t => .str x t :: strL r (t + 1)
noncomputable def fileS : Str := Str.ofString "/claim/cut.py"
noncomputable def codO (nm q : Str) (t line n fl b : Nat) (fn : Bool) (x y z : Value) (u : Nat) : Obj :=
  tyO "code" [.str nm t, .str q (t + 1), .str fileS (t + 2), ri line, ri n, ri 0, ri 0, ri fl, .ref b, .bool fn, ri 181, .ref (b + 1), .none, x, y, z, ri u, ri line, .str fileS (u + 1)]
noncomputable def sPos : Stmt → Pos
  | .FunctionDef _ _ _ _ _ _ _ _ _ p => p
  | .ClassDef _ _ _ _ _ _ _ _ _ _ p => p
  | _ => ⟨0, 0, 0, 0⟩
noncomputable def fnO (s : Stmt) (q : Str) (pm : Value) (b t : Nat) : List Obj × Nat × Nat :=
  let tm : Obj := ⟨.none, none, .func { name := fnN s, qualname := q, params := fnA s, body := .stmts (fnB s), scope := fnS s, globals := 0, closure := [], defaults := .none, kwdefaults := .none }, #[]⟩
  let fo (c : Nat) : Obj := ⟨.type "function", none, .func (mkFd s q .none pm (.ref c)), #[]⟩
  match localNames (fnA s) (fnS s) (.stmts (fnB s)) with
  | some (vs, _) => ([tupO [], fldO [], tupO (strL vs (t + 3)), tupO [], tm, codO (fnN s) q t (sPos s).line (fnA s).args.length 3 b true (.ref (b + 2)) (.ref (b + 3)) (.ref (b + 4)) (t + 3 + vs.length), fo (b + 5)], b + 5, t + 5 + vs.length)
  | none => ([tupO [], fldO [], tm, codO (fnN s) q t (sPos s).line (fnA s).args.length 3 b true .none .none (.ref (b + 2)) (t + 3), fo (b + 3)], b + 3, t + 5)
noncomputable def dE (P : Params) (x : Str) (t : Nat) (v : Value) : DictEntry := ⟨PyData.keyHash P x, .str x t, v⟩
noncomputable def plc (s : Stmt) (c : Nat) (r : List Value) : List Value := ri (sPos s).line :: ri (sPos s).col :: .ref c :: r
noncomputable def memO (P : Params) (cn : Str) (pm : Value) : List Stmt → Nat → Nat → List Obj × List Value × List DictEntry × Nat × Nat
  | [], b, t => ([], [], [], b, t)
  | s :: r, b, t => match fnO s (cn ++ (Str.ofString "." ++ fnN s)) pm b t with
    | (os, c, k) => match memO P cn pm r (c + 2) (k + 1) with
      | (os', ps, es, b', t') => (os ++ os', plc s c ps, dE P (fnN s) k (.ref (c + 1)) :: es, b', t')
noncomputable def nextOf : Nat → Nat
  | 206 => 248
  | 248 => 295
  | 295 => 370
  | 370 => 417
  | _ => 0
noncomputable def subAt (lim a : Nat) : List Value := match Nat.blt 0 (nextOf a) && Nat.blt (nextOf a) lim with
  | true => [.ref (nextOf a)]
  | false => []
noncomputable def clO (P : Params) (lim : Nat) (s : Stmt) (nm : Str) (own : Bool) (body : List Stmt) (sa : List Str) (pm : Value) (prev : Nat) (pmro : List Value) (b t : Nat) : List Obj × Nat × Nat × Nat :=
  match memO P nm pm body (b + 7) (t + 12) with
  | (os, ps, es, m, u) =>
    let k := u + sa.length
    let me : Value := .ref (m + 2)
    let e1 := dE P "__module__" (t + 7) pm
    let e2 := dE P "__qualname__" (t + 9) (.str nm (t + 8))
    let e3 := dE P "__firstlineno__" (t + 11) (.int (sPos s).line (t + 10))
    let e4 := dE P "__static_attributes__" k (.ref m)
    ([tupO (if own then [] else [.ref prev]), tyO "builtin_function_or_method" [.builtin "type.__prepare__", .type "type"], dcO (e1 :: e2 :: e3 :: es ++ [e4]) (4 + es.length), tupO [], fldO ps,
      codO nm nm (t + 2) (sPos s).line 0 0 (b + 3) false .none .none .none (t + 5), frO (b + 5) (b + 2) pm] ++ (os ++ ([tupO (strL sa u)] ++
     if own then
      [dcO (e1 :: e3 :: es ++ [e4, dE P "__dict__" (k + 2) (.ref (m + 3)), dE P "__weakref__" (k + 4) (.ref (m + 4)), dE P "__doc__" (k + 5) .none]) 4,
       ⟨.type "type", none, .cls { name := nm, bases := [.type "object"], mro := [me, .type "object"], ns := m + 1, qualname := nm, subclasses := subAt lim (m + 2) }, #[none, none, some (.str nm t), some (.str nm (t + 8)), some (.builtin "object.__new__"), some (.bool true)]⟩,
       tyO "getset_descriptor" [.str "__dict__" (k + 1), me, .builtin "function.__dict__", .builtin "function.__dict__#set"], tyO "getset_descriptor" [.str "__weakref__" (k + 3), me, .builtin "ExceptionGroup.__weakref__", .none],
       tyO "super" [me, me, me], tyO "builtin_function_or_method" [.builtin "object.__init_subclass__", me]]
     else
      [dcO (e1 :: e3 :: es ++ [e4, dE P "__doc__" (k + 1) .none]) 2,
       ⟨.type "type", none, .cls { name := nm, bases := [.ref prev], mro := me :: pmro, ns := m + 1, qualname := nm, subclasses := subAt lim (m + 2) }, #[some (.ref b), none, some (.str nm t), some (.str nm (t + 8)), some (.builtin "object.__new__"), some (.bool true)]⟩,
       tyO "super" [me, me, me], tyO "builtin_function_or_method" [.builtin "object.__init_subclass__", me]])), m + 2, (if own then k + 7 else k + 3), (if own then m + 7 else m + 5))
noncomputable def topO (P : Params) (lim : Nat) : List Stmt → Value → Nat → List Value → Nat → Nat → List Obj × List DictEntry × List Value
  | [], _, _, _, _, _ => ([], [], [])
  | s :: r, pm, prev, pmro, b, t => match s with
    | .FunctionDef nm _ _ _ _ _ _ _ _ _ => match fnO s nm pm b t with
      | (os, c, k) => match topO P lim r pm prev pmro (c + 2) (k + 1) with
        | (os', es, ps) => (os ++ os', dE P nm k (.ref (c + 1)) :: es, plc s c ps)
    | .ClassDef nm bs _ body _ _ _ _ _ sa _ => match clO P lim s nm bs.isEmpty body sa pm prev pmro b t with
      | (os, c, k, b') => match topO P lim r pm c (.ref c :: if bs.isEmpty then [.type "object"] else pmro) b' (k + 1) with
        | (os', es, ps) => (os ++ os', dE P nm k (.ref c) :: es, plc s (b + 5) ps)
    | .Assign [.Name x _] (.Constant (.int i) _ _) _ => match topO P lim r pm prev pmro b (t + 2) with
      | (os, es, ps) => (os, dE P x (t + 1) (.int i t) :: es, ps)
    | .Assign _ (.Constant (.str x) _ _) _ => topO P lim r (.str x t) prev pmro b (t + 2)
    | _ => ([], [], [])
noncomputable def mainPm : Value := .str "__main__" 164
noncomputable def objsAt (P : Params) (k lim : Nat) (nm : Value) : List Obj := match topO P lim (top.take k) mainPm 0 [] 15 187 with
  | (os, es, ps) => [boot_o_0 P, boot_o_1 P, boot_o_2 P,
      dcO (dE P "__name__" 165 nm :: dE P "__doc__" 166 .none :: dE P "__package__" 167 .none :: dE P "__loader__" 168 (.builtin "__main__.__loader__#opaque") :: dE P "__spec__" 169 .none :: dE P "__annotations__" 170 (.ref 6) :: dE P "__builtins__" 171 (.ref 4) :: dE P "__file__" 173 (.str fileS 172) :: dE P "__cached__" 174 .none :: es) (9 + es.length),
      boot_o_4 P, boot_o_5 P, boot_o_6 P, boot_o_7 P, boot_o_8 P, boot_o_9 P, boot_o_10 P, tupO [], fldO ps, codO "<module>" "<module>" 182 1 0 0 11 false .none .none .none 185, frO 13 3 mainPm] ++ os
noncomputable def objsL (P : Params) : List Obj := objsAt P 45 645 (.str "law_sa0157_01" 1043)
end
section
set_option maxRecDepth 100000
noncomputable def alt : Bool → List Obj → List Obj
  | _, [] => []
  | true, x :: r => x :: alt false r
  | false, _ :: r => alt true r
noncomputable def bt : Nat → List Obj → BT
  | 0, _ => .nil
  | _ + 1, [] => .nil
  | n + 1, x :: r => .node x (bt n (alt true r)) (bt n (alt false r))
noncomputable abbrev pwT : Program := PySem.Challenge.pw_sa0157_01
noncomputable def p0 : Pos := ⟨0, 0, 0, 0⟩
noncomputable def envT : Env := { scope := pwT.main.scope, locals := mainNs, globals := mainNs, cells := [], code := .ref 13, frame := some 14 }
noncomputable def codT : Code := .body (behindTheImports pwT) envT
noncomputable def objs0 (P : Params) : List Obj := [boot_o_0 P, boot_o_1 P, boot_o_2 P, boot_o_3 P, boot_o_4 P, boot_o_5 P, boot_o_6 P, boot_o_7 P, boot_o_8 P, boot_o_9 P, boot_o_10 P, tupO [], fldO [], codO "<module>" "<module>" 182 1 0 0 11 false .none .none .none 185, frO 13 3 mainPm]
noncomputable def shT (l : List Obj) (n tk : Nat) (P : Params) (os : OsState) : SharedT := ⟨bt 12 l, n, (boot_heap P).life, #[], boot_drawn, tk, os⟩
theorem run_pre (w : World) (os : OsState) : topGo treeTable pwT w 11 (some (.ref 6)) 12 ⟨boot_heap w.params, #[], boot_drawn, boot_toks, os⟩ (topStub pwT) = some ((shT (objs0 w.params) 15 187 w.params os).abs, ⟨denote treeTable codT, codT, p0, [topFrame p0]⟩) := by
  kernel_rfl
theorem fast_run {F G : (String → Option Builtin) → Program → World → Nat → Option Value → Nat → Nat → SharedT → Thread → Option (Flow × SharedT × Code × Pos)} {T T' : String → Option Builtin} (e : F = G) (e' : T = T') {p : Program} {w : World} {n : Nat} {a : Option Value} {b m : Nat} {s : SharedT} {t : Thread} {r : Option (Flow × SharedT × Code × Pos)} (h : G T' p w n a b m s t = r) : F T p w n a b m s t = r := by
  subst e e'; exact h
noncomputable def bodyT (a b : Nat) : List Stmt := ((behindTheImports pwT).take b).drop a
noncomputable abbrev SegOk (a b n : Nat) (o o' : Params → List Obj) (m t m' t' : Nat) (p p' : Pos) : Prop :=
  ∀ (w : World) (os : OsState), segRunT treeTable pwT w 11 (some (.ref 6)) 1 n (shT (o w.params) m t w.params os) (piecesOf (bodyT a b) envT codT p [topFrame p0]) = some (.next, shT (o' w.params) m' t' w.params os, codT, p')
theorem run_1 : SegOk 0 11 702 objs0 (fun P => objsAt P 11 127 (.str "clausemill.symbols" 194)) 15 187 127 340 p0 ⟨15, 0, 71, 58⟩ := fun w os => fast_run PySem.W.Fast.te10110043849684766642 PySem.W.Fast.te14364793385576792824 (by kernel_rfl)
theorem run_2 : SegOk 11 20 549 (fun P => objsAt P 11 127 (.str "clausemill.symbols" 194)) (fun P => objsAt P 20 211 (.str "clausemill.abstract" 374)) 127 340 211 459 ⟨15, 0, 71, 58⟩ ⟨105, 0, 133, 23⟩ := fun w os => fast_run PySem.W.Fast.te10110043849684766642 PySem.W.Fast.te14364793385576792824 (by kernel_rfl)
theorem run_3 : SegOk 20 21 352 (fun P => objsAt P 20 211 (.str "clausemill.abstract" 374)) (fun P => objsAt P 21 251 (.str "clausemill.abstract" 374)) 211 459 251 518 ⟨105, 0, 133, 23⟩ ⟨134, 0, 192, 53⟩ := fun w os => fast_run PySem.W.Fast.te10110043849684766642 PySem.W.Fast.te14364793385576792824 (by kernel_rfl)
theorem run_4 : SegOk 21 22 403 (fun P => objsAt P 21 251 (.str "clausemill.abstract" 374)) (fun P => objsAt P 22 298 (.str "clausemill.abstract" 374)) 251 518 298 590 ⟨134, 0, 192, 53⟩ ⟨193, 0, 265, 51⟩ := fun w os => fast_run PySem.W.Fast.te10110043849684766642 PySem.W.Fast.te14364793385576792824 (by kernel_rfl)
theorem run_5 : SegOk 22 23 543 (fun P => objsAt P 22 298 (.str "clausemill.abstract" 374)) (fun P => objsAt P 23 373 (.str "clausemill.abstract" 374)) 298 590 373 692 ⟨193, 0, 265, 51⟩ ⟨266, 0, 371, 61⟩ := fun w os => fast_run PySem.W.Fast.te10110043849684766642 PySem.W.Fast.te14364793385576792824 (by kernel_rfl)
theorem run_6 : SegOk 23 24 430 (fun P => objsAt P 23 373 (.str "clausemill.abstract" 374)) (fun P => objsAt P 24 420 (.str "clausemill.abstract" 374)) 373 692 420 763 ⟨266, 0, 371, 61⟩ ⟨372, 0, 451, 24⟩ := fun w os => fast_run PySem.W.Fast.te10110043849684766642 PySem.W.Fast.te14364793385576792824 (by kernel_rfl)
theorem run_7 : SegOk 24 27 269 (fun P => objsAt P 24 420 (.str "clausemill.abstract" 374)) (fun P => objsAt P 27 448 (.str "clausemill.kernel" 772)) 420 763 448 809 ⟨372, 0, 451, 24⟩ ⟨455, 0, 461, 26⟩ := fun w os => fast_run PySem.W.Fast.te10110043849684766642 PySem.W.Fast.te14364793385576792824 (by kernel_rfl)
theorem run_8 : SegOk 27 32 689 (fun P => objsAt P 27 448 (.str "clausemill.kernel" 772)) (fun P => objsAt P 32 539 (.str "clausemill.classify" 824)) 448 809 539 940 ⟨455, 0, 461, 26⟩ ⟨486, 0, 508, 16⟩ := fun w os => fast_run PySem.W.Fast.te10110043849684766642 PySem.W.Fast.te14364793385576792824 (by kernel_rfl)
theorem run_9 : SegOk 32 37 433 (fun P => objsAt P 32 539 (.str "clausemill.classify" 824)) (fun P => objsAt P 37 602 (.str "clausemill.classify" 824)) 539 940 602 1043 ⟨486, 0, 508, 16⟩ ⟨555, 0, 583, 71⟩ := fun w os => fast_run PySem.W.Fast.te10110043849684766642 PySem.W.Fast.te14364793385576792824 (by kernel_rfl)
theorem run_10 : SegOk 37 45 221 (fun P => objsAt P 37 602 (.str "clausemill.classify" 824)) objsL 602 1043 645 1108 ⟨555, 0, 583, 71⟩ ⟨660, 0, 673, 82⟩ := fun w os => fast_run PySem.W.Fast.te10110043849684766642 PySem.W.Fast.te14364793385576792824 (by kernel_rfl)
end
section
set_option maxRecDepth 100000
noncomputable def H1 (P : Params) : Heap := absHeap (bt 12 (objsL P)) 645 (boot_heap P).life
theorem body_all : behindTheImports pwT = (bodyT 0 11 ++ (bodyT 11 20 ++ (bodyT 20 21 ++ (bodyT 21 22 ++ (bodyT 22 23 ++ (bodyT 23 24 ++ (bodyT 24 27 ++ (bodyT 27 32 ++ (bodyT 32 37 ++ (bodyT 37 45 ++ [])))))))))) := by kernel_rfl
noncomputable def fuelT : Nat := 12 + (1 + (702 + (549 + (352 + (403 + (543 + (430 + (269 + (689 + (433 + (221 + 2)))))))))))
theorem run_top (w : World) (os : OsState) : topRun treeTable pwT w 11 (some (.ref 6)) fuelT ⟨boot_heap w.params, #[], boot_drawn, boot_toks, os⟩ (topStub pwT) = some ⟨H1 w.params, #[], boot_drawn, 1108, os⟩ := by
  refine go_top (run_pre w os) (piece_block (b := behindTheImports pwT) (env := envT) (c := codT) (q := p0) (pos := p0) (p' := p0) (s' := (shT (objs0 w.params) 15 187 w.params os).abs) (by kernel_rfl) ?_)
  have h := piece_app (segRun_of (run_1 w os)) (piece_app (segRun_of (run_2 w os)) (piece_app (segRun_of (run_3 w os)) (piece_app (segRun_of (run_4 w os)) (piece_app (segRun_of (run_5 w os)) (piece_app (segRun_of (run_6 w os)) (piece_app (segRun_of (run_7 w os)) (piece_app (segRun_of (run_8 w os)) (piece_app (segRun_of (run_9 w os)) (piece_app (segRun_of (run_10 w os)) (piece_nil (N := 2) (r := ⟨H1 w.params, #[], boot_drawn, 1108, os⟩) (by kernel_rfl)))))))))))
  rw [← body_all] at h
  exact h
theorem open_top1 (w : World) : (fencedOpening treeTable pwT w 10000).map (fun s => (s.heap, s.gens, s.drawn, s.toks)) = some (boot_heap w.params, Array.mk [], boot_drawn, boot_toks) :=
  boot_open (by kernel_rfl) (by kernel_rfl) (fun s => by kernel_rfl) w
theorem size_top (w : World) : ((boot_heap w.params).isNs mainGlobals && (#[] : Array GenState).size == 0, (boot_heap w.params).objs.size, (boot_heap w.params).nsMap mainGlobals "__annotations__") = (true, 11, some (.ref 6)) := by kernel_rfl
end
section
set_option maxRecDepth 100000
noncomputable def qT : Program := { pwT with main := { pwT.main with body := [st 44] } }
noncomputable def looseT : List Str := pwT.boundNames.dropLast
noncomputable def modsT : List Str := importedModules pwT.main.body
noncomputable def shd (P : Params) (os : OsState) : Shared := ⟨H1 P, #[], boot_drawn, 1108, os⟩
theorem look1 (w : World) : staticsOk modsT (boot_heap w.params) (H1 w.params) = true := by kernel_rfl
theorem look2 (w : World) : namesBound pwT (H1 w.params) = true := by kernel_rfl
theorem look3 (w : World) : laidKept (boot_heap w.params) (H1 w.params) = true := by kernel_rfl
theorem look4 (w : World) (os : OsState) : openSeen qT looseT modsT (fun _ => true) true (shd w.params os) = openGood qT looseT := by kernel_rfl
end
section
set_option maxRecDepth 100000
theorem left : LeftO pwT qT looseT (fun _ => true) (fun s => s.heap) (fun w => H1 w.params) 10000 :=
  LeftO.of_pieces (H₀ := boot_heap) (H₁ := H1) (gs₀ := #[]) (gs₁ := #[]) (d₁ := boot_drawn) (k₁ := 1108) (m₀ := 11) (ann := some (.ref 6)) (M := fuelT) open_top1 size_top run_top (by kernel_rfl) fun w => funext fun os => by
    have e := look4 w os
    have a := look1 w
    have b := look2 w
    have c := look3 w
    unfold modsT at a e
    unfold shd at e
    rw [a, b, c, e]; rfl
noncomputable abbrev rwT : OpenLaw := PySem.Challenge.rw_sa0157_01
noncomputable def dT : DefRec := ⟨Str.ofString "law", fnA (st 44), fnB (st 44), fnS (st 44), sPos (st 44)⟩
theorem and_ok {a b : Bool} (h : a = true) (h' : b = true) : (a && b) = true := by rw [h, h']; rfl
noncomputable def lkT : Look := { strict := !(importedModules pwT.main.body).all cThrough.contains, foot := none, bare := (["vars", "dir", "locals"] : List Str).filter (readsOut pwT pwT.main.body) }
theorem road_app (lk : Look) (a b : List Stmt) : noRoadLSs lk (a ++ b) = (noRoadLSs lk a && noRoadLSs lk b) := by
  induction a with
  | nil => rfl
  | cons s r ih =>
    show (noRoadLS lk s && noRoadLSs lk (r ++ b)) = ((noRoadLS lk s && noRoadLSs lk r) && noRoadLSs lk b)
    rw [ih, Bool.and_assoc]
theorem road_at (lk : Look) (n : Nat) {l : List Stmt} (h : noRoadLSs lk (l.take n) = true) (h' : noRoadLSs lk (l.drop n) = true) : noRoadLSs lk l = true := by
  rw [← List.take_append_drop n l, road_app, h, h']; rfl
noncomputable def lk0 : Look := { strict := false, foot := none, bare := [] }
theorem lk_eq : lkT = lk0 := by kernel_rfl
theorem road1 : noRoadLSs lk0 (pwT.main.body.take 20) = true := by kernel_rfl
theorem road2 : noRoadLSs lk0 ((pwT.main.body.drop 20).take 3) = true := by kernel_rfl
theorem road3 : noRoadLSs lk0 (((pwT.main.body.drop 20).drop 3).take 12) = true := by kernel_rfl
theorem road4 : noRoadLSs lk0 (((pwT.main.body.drop 20).drop 3).drop 12) = true := by kernel_rfl
theorem road_all : noRoadLSs lkT pwT.main.body = true := by
  rw [lk_eq]; exact road_at lk0 20 road1 (road_at lk0 3 road2 (road_at lk0 12 road3 road4))
theorem resolves : namesResolve pwT = true := by kernel_rfl
theorem meets : (namesMeet pwT pwT.main.body fun _ n => attrL n) = true := by kernel_rfl
theorem opens : looksOpen pwT = true := by
  unfold looksOpen
  exact and_ok (and_ok (and_ok (and_ok (and_ok (by kernel_rfl) (by kernel_rfl)) resolves) (by kernel_rfl)) road_all) meets
theorem part_said : rwT.row.partSaid = true := by
  unfold OpenRow.partSaid
  exact and_ok (and_ok (and_ok (and_ok (and_ok (and_ok (and_ok (and_ok (and_ok (and_ok (and_ok (and_ok (and_ok opens (by kernel_rfl)) (by kernel_rfl)) (by kernel_rfl)) (by kernel_rfl)) (by kernel_rfl)) (by kernel_rfl)) (by kernel_rfl)) (by kernel_rfl)) (by kernel_rfl)) (by kernel_rfl)) (by kernel_rfl)) (by kernel_rfl)) (by kernel_rfl)
theorem row_said : rwT.row.wellSaid = true := by
  unfold OpenRow.wellSaid
  exact and_ok (and_ok part_said (by kernel_rfl)) (by kernel_rfl)
theorem said : rwT.wellSaid = true := by
  unfold OpenLaw.wellSaid
  exact and_ok (and_ok (and_ok (and_ok (and_ok (and_ok (and_ok (and_ok (and_ok (and_ok (and_ok (and_ok (and_ok (and_ok (and_ok (and_ok (and_ok (and_ok (row_said) (by kernel_rfl)) (by kernel_rfl)) (by kernel_rfl)) (by kernel_rfl)) (by kernel_rfl)) (by kernel_rfl)) (by kernel_rfl)) (by kernel_rfl)) (by kernel_rfl)) (by kernel_rfl)) (by kernel_rfl)) (by kernel_rfl)) (by kernel_rfl)) (by kernel_rfl)) (by kernel_rfl)) (by kernel_rfl)) (by kernel_rfl)) (by kernel_rfl)
theorem head (call : WalkO qT looseT (fun _ _ => True) (fun w h => ∀ b o, (H1 w.params).get? b = some o → h.get? b = some o) rwT.row.toRowW dT [] fun f vs => PySem.call f vs) : rwT.Holds :=
  holds_law said fun s => holds_open (N := 10000) left (fun w s e b o h => by rw [show s.heap = _ from e]; exact h) (fun w h h' a k b o e => k b o (a b o e)) (fun _ _ => trivial) (fun _ _ _ _ _ => trivial)
    (by kernel_rfl) (by kernel_rfl) (by kernel_rfl) (fun s _ => recFacts_nil rfl) rfl s (by kernel_rfl) ⟨rfl, rfl, rfl, rfl, rfl, by decide +kernel⟩ ⟨[.list []], by decide +kernel, by decide +kernel⟩ call
end
section
set_option maxRecDepth 100000
theorem alt_len : ∀ (b : Bool) (l : List Obj), (alt b l).length ≤ (l.length + 1) / 2 ∧ (b = false → (alt b l).length ≤ l.length / 2)
  | _, [] => ⟨Nat.zero_le _, fun _ => Nat.zero_le _⟩
  | true, x :: r => ⟨by have := (alt_len false r).2 rfl; show (alt false r).length + 1 ≤ (r.length + 1 + 1) / 2; (first | lia | omega), nofun⟩
  | false, x :: r => have := (alt_len true r).1; ⟨by show (alt true r).length ≤ (r.length + 1 + 1) / 2; (first | lia | omega), fun _ => this⟩
theorem alt_get : ∀ (b : Bool) (l : List Obj) (i : Nat), (alt b l)[i]? = l[2 * i + (if b then 0 else 1)]?
  | _, [], i => rfl
  | true, x :: r, 0 => rfl
  | true, x :: r, i + 1 => (alt_get false r i).trans (by rw [show 2 * (i + 1) + (if true = true then 0 else 1) = (2 * i + 1) + 1 from rfl, List.getElem?_cons_succ]; rfl)
  | false, x :: r, i => (alt_get true r i).trans (by rw [show 2 * i + (if false = true then 0 else 1) = (2 * i) + 1 from rfl, List.getElem?_cons_succ]; rfl)
theorem bt_get : ∀ (n : Nat) (l : List Obj) (i : Nat), l.length < 2 ^ n → (bt n l).get i = l[i]?
  | 0, l, i, h => by
    cases l with
    | nil => rfl
    | cons x r => exact absurd h (by rw [List.length_cons]; (first | lia | omega))
  | n + 1, [], i, h => rfl
  | n + 1, x :: r, i, h => by
    have h : r.length + 1 < 2 ^ (n + 1) := h
    rw [Nat.pow_succ] at h
    unfold bt
    rw [BT.get_node]
    cases i with
    | zero => rfl
    | succ i =>
      rw [if_neg (Nat.succ_ne_zero i), List.getElem?_cons_succ]
      split
      · rw [bt_get n _ _ (by have := (alt_len true r).1; (first | lia | omega)), alt_get, if_pos rfl]; congr 1; (first | lia | omega)
      · rw [bt_get n _ _ (by have := (alt_len false r).1; (first | lia | omega)), alt_get, if_neg nofun]; congr 1; (first | lia | omega)
noncomputable def numL : Nat → List Obj → Frag
  | _, [] => []
  | k, o :: r => (k, o) :: numL (k + 1) r
theorem numL_look : ∀ {l : List Obj} {k a : Nat} {o : Obj}, (numL k l).lookup a = some o → ∃ i, a = k + i ∧ l[i]? = some o
  | [], _, _, _, h => nomatch h
  | x :: r, k, a, o, h => by
    unfold numL at h
    rw [List.lookup_cons] at h
    split at h
    · rename_i e; cases h; exact ⟨0, eq_of_beq e, rfl⟩
    · obtain ⟨i, e, q⟩ := numL_look h; exact ⟨i + 1, by (first | lia | omega), q⟩
noncomputable def KT (P : Params) : Frag := numL 0 (objsL P)
noncomputable def liveO (o : Obj) : Bool := match o.data with
  | .freed => false
  | _ => true
theorem objs_ok (P : Params) : ((objsL P).length == 645 && (objsL P).all liveO) = true := by kernel_rfl
theorem H1_at {P : Params} {a : Nat} {o : Obj} (h : (KT P).lookup a = some o) : (H1 P).get? a = some o := by
  obtain ⟨i, e, q⟩ := numL_look h
  rw [Nat.zero_add] at e
  subst e
  obtain ⟨e1, e2⟩ := Bool.and_eq_true_iff.mp (objs_ok P)
  have len : (objsL P).length = 645 := eq_of_beq e1
  unfold H1
  rw [abs_get (len ▸ (List.getElem?_eq_some_iff.mp q).1) ((bt_get 12 _ _ (by rw [len]; decide)).trans q)]
  have := List.all_eq_true.mp e2 o (List.mem_of_getElem? q)
  unfold liveO at this
  obtain ⟨c, d, dt, sl⟩ := o
  cases dt <;> first | rfl | cases this
noncomputable def faL : List (Nat × Nat) := [(8, 28), (9, 35), (12, 133), (13, 140), (14, 147), (18, 154), (24, 426), (27, 454), (28, 461), (32, 545), (34, 587), (35, 594), (36, 601), (38, 608), (39, 615), (40, 620), (41, 627), (42, 634), (43, 639), (44, 644), (2000, 49), (2001, 56), (2003, 70), (2004, 77), (2900, 168), (2901, 175), (2902, 182), (2903, 189), (2904, 196), (2905, 203), (3000, 224), (3001, 231), (3002, 238), (3003, 245), (3100, 264), (3101, 271), (3102, 278), (3103, 285), (3104, 292), (3200, 311), (3300, 386), (3301, 393), (3302, 400), (3303, 407), (3304, 414), (3600, 440), (4000, 475), (4100, 496), (4103, 517), (4300, 559), (4301, 566), (4302, 573)]
noncomputable def clL : List (Nat × Nat) := [(0, 122), (5, 417), (6, 443), (7, 478), (8, 534), (9, 576)]
noncomputable def tkL : List Nat := [370, 0, 0, 204, 206, 196, 200, 198, 202, 372]
noncomputable def faF (n : Nat) : Nat := (faL.lookup n).getD 0
noncomputable def clF (n : Nat) : Nat := (clL.lookup n).getD 0
noncomputable def tkF (n : Nat) : Nat := tkL.getD n 0
noncomputable def oF (K : Frag) (n : Nat) : Obj := (K.lookup (faF n)).getD default
noncomputable def fdOf (o : Obj) : FuncData := match o.data with
  | .func f => f
  | _ => default
noncomputable def fnC (K : Frag) (n : Nat) (l : List Str) (k : Nat) : Bool :=
  codeIn K (fdOf (oF K n)).code (fdOf (oF K n)).qualname && decide ((fnS (fnOf n)).kind = .function) && !(fnS (fnOf n)).isGenerator && !(fnS (fnOf n)).isCoroutine && decide l.Nodup && decide (k ≤ l.length)
noncomputable def fnD (n : Nat) (l : List Str) : Bool := (fnS (fnOf n)).names.all (fun x => decide (x.2 ≠ .cell)) && l.all fun x => decide ((fnS (fnOf n)).names.lookup x = some .local)
theorem fn_all (P : Params) : (fnTab.all (fun e => fnC (KT P) e.1 e.2.1 e.2.2 && fnD e.1 e.2.1) && fnC (KT P) 43 (cnms 43) 2 && fnC (KT P) 44 (cnms 44) 1) = true := by kernel_rfl
theorem fn_obj (P : Params) : ((43, [], 0) :: (44, [], 0) :: fnTab).map (fun e => (KT P).lookup (faF e.1)) = ((43, [], 0) :: (44, [], 0) :: fnTab).map fun e => some ⟨.type "function", none, .func (mkFd (fnOf e.1) (fdOf (oF (KT P) e.1)).qualname .none (fdOf (oF (KT P) e.1)).pyModule (fdOf (oF (KT P) e.1)).code), #[]⟩ := by kernel_rfl
theorem fn_bind (q : Str) (pm co : Value) (f : Nat → Value) : ((43, cnms 43, 2) :: (44, cnms 44, 1) :: fnTab).map (fun e => bindArgs (mkFd (fnOf e.1) q .none pm co) ⟨(List.range e.2.2).map f, []⟩) = ((43, cnms 43, 2) :: (44, cnms 44, 1) :: fnTab).map fun e => pure ((e.2.1.take e.2.2).zip ((List.range e.2.2).map f)) := by kernel_rfl
theorem cl_all (P : Params) : ([0, 5, 6, 7, 8, 9].all (fun c => (attrsOf c).all (fun x => getOkB (KT P) (clF c) x && setOkB (KT P) (clF c) x) && decide (attrsOf c).Nodup && decide ((attrsOf c).length ≤ 64)) && initTab.all (fun e => newOkB (KT P) (clF e.1) (faF e.2)) &&
    [0, 5, 8, 9].all (fun c => (mlist c).all fun p => methOkB (KT P) (clF c) p.1 (faF p.2) && keepIn (KT P) (.ref (faF p.2)) && !(attrsOf c).contains p.1) &&
    gTab.all (fun p => match p.2 with | .fn n => keepIn (KT P) (.ref (faF n)) | .cls c => keepIn (KT P) (.ref (clF c)) | _ => true)) = true := by kernel_rfl
end
section
set_option maxRecDepth 100000
noncomputable def XT (w : World) (mg mb : Str → Option Value) (base : Heap) : Ctx := ⟨pwT, w, base, KT w.params, mg, mb, clF, attrsOf⟩
noncomputable def gLook (P : Params) (x : Str) : Option Value := match lookIn x (((KT P).lookup 3).getD default) with
  | some (some v) => some v
  | some none => (lookIn x (boot_o_0 P)).getD none
  | none => none
noncomputable def gval (t : Tok) : GV → Value
  | .int n => .int n t
  | .blt s => .builtin s
  | .ty s => .type s
  | .fn n => .ref (faF n)
  | .cls c => .ref (clF c)
theorem g_all (P : Params) : gTab.map (fun p => gLook P p.1) = gTab.zipIdx.map fun p => some (gval (tkF p.2) p.1.2) := by kernel_rfl
theorem at3 (P : Params) : (KT P).lookup mainGlobals = some (((KT P).lookup 3).getD default) := by kernel_rfl
theorem at0 (P : Params) : (KT P).lookup builtinsNs = some (boot_o_0 P) := by kernel_rfl
theorem at1 (P : Params) : (KT P).lookup sysModules = some (boot_o_1 P) := by kernel_rfl
theorem lk_mem {β : Type} : ∀ {l : List (Str × β)} {y : Str} {c : β}, l.lookup y = some c → (y, c) ∈ l
  | (k, v) :: r, y, c, h => by
    rw [List.lookup_cons] at h
    split at h
    · rename_i e; cases h; rw [eq_of_beq e]; exact .head _
    · exact .tail _ (lk_mem h)
theorem range_getD {vs : List Value} {k : Nat} (h : vs.length = k) : (List.range k).map (fun i => vs.getD i default) = vs := by
  subst h
  refine List.ext_getElem? fun i => ?_
  rw [List.getElem?_map]
  by_cases q : i < vs.length
  · rw [List.getElem?_range q, List.getElem?_eq_getElem q]; show some (vs.getD i default) = _; rw [List.getD_eq_getElem?_getD, List.getElem?_eq_getElem q]; rfl
  · rw [List.getElem?_eq_none (by rw [List.length_range]; (first | lia | omega)), List.getElem?_eq_none (by (first | lia | omega))]; rfl
theorem cellsAt (b : Nat) : cellsFrom b (fnS (fnOf 43)).names [] = [(Str.ofString "words", b)] ∧ cellsFrom b (fnS (fnOf 44)).names [] = [(Str.ofString "tape", b)] := ⟨by kernel_rfl, by kernel_rfl⟩
theorem cell_all : (((cnms 43).take 2).all (fun x => decide ((fnS (fnOf 43)).names.lookup x = some .local)) && ((cnms 44).take 1).all (fun x => decide ((fnS (fnOf 44)).names.lookup x = some .local)) && decide ((fnS (fnOf 43)).names.lookup (Str.ofString "words") = some .cell) && decide ((fnS (fnOf 44)).names.lookup (Str.ofString "tape") = some .cell)) = true := by kernel_rfl
theorem cls_or (c : Nat) : c ∈ [0, 5, 6, 7, 8, 9] ∨ attrsOf c = [] := by
  unfold attrsOf; split <;> simp
theorem mls_or (c : Nat) : c ∈ [0, 5, 8, 9] ∨ mlist c = [] := by
  unfold mlist; split <;> simp
theorem bind_of {e : Nat × List Str × Nat} (h : e ∈ (43, cnms 43, 2) :: (44, cnms 44, 1) :: fnTab) (q : Str) (pm co : Value) {vs : List Value} (hv : vs.length = e.2.2) : bindArgs (mkFd (fnOf e.1) q .none pm co) ⟨vs, []⟩ = pure ((e.2.1.take e.2.2).zip vs) := by
  have := List.map_inj_left.mp (fn_bind q pm co fun i => vs.getD i default) e h
  rw [range_getD hv] at this
  exact this
section
variable {w : World} {mg mb : Str → Option Value} {base : Heap}
theorem fn_fact {n k : Nat} {l : List Str} (h : (n, l, k) ∈ fnTab) : ∃ q dc pm co, FnFact (XT w mg mb base) (faF n) (mkFd (fnOf n) q dc pm co) l k (fnB (fnOf n)) := by
  have a := fn_all w.params
  simp only [Bool.and_eq_true] at a
  have b := List.all_eq_true.mp a.1.1 _ h
  unfold fnC fnD at b
  simp only [Bool.and_eq_true, decide_eq_true_eq, Bool.not_eq_true', List.all_eq_true] at b
  obtain ⟨⟨⟨⟨⟨⟨b1, b2⟩, b3⟩, b4⟩, b5⟩, b6⟩, b7, b8⟩ := b
  exact ⟨_, _, _, _, ⟨_, _, _, List.map_inj_left.mp (fn_obj w.params) (n, l, k) (.tail _ (.tail _ h))⟩, b1, rfl, rfl, rfl, rfl, b2, b3, b4, b7, b5, b8, b6, fun vs hv s => .of_eq (bind_of (e := (n, l, k)) (.tail _ (.tail _ h)) _ _ _ hv)⟩
theorem fn_factC {n k : Nat} {cn : Str} (h : (n, cnms n, k) ∈ [(43, cnms 43, 2), (44, cnms 44, 1)]) (hc : fnC (KT w.params) n (cnms n) k = true) (hp : ((cnms n).take k).all (fun x => decide ((fnS (fnOf n)).names.lookup x = some .local)) = true)
    (hk : decide ((fnS (fnOf n)).names.lookup cn = some .cell) = true) (hs : ∀ b, cellsFrom b (fnS (fnOf n)).names [] = [(cn, b)]) (ho : (n, ([] : List Str), 0) ∈ ((43, [], 0) :: (44, [], 0) :: fnTab : List (Nat × List Str × Nat))) :
    ∃ q dc pm co, FnFactC (XT w mg mb base) (faF n) (mkFd (fnOf n) q dc pm co) (cnms n) k (fnB (fnOf n)) cn := by
  unfold fnC at hc
  simp only [Bool.and_eq_true, decide_eq_true_eq, Bool.not_eq_true', List.all_eq_true] at hc hp hk
  obtain ⟨⟨⟨⟨⟨b1, b2⟩, b3⟩, b4⟩, b5⟩, b6⟩ := hc
  exact ⟨_, _, _, _, ⟨_, _, _, List.map_inj_left.mp (fn_obj w.params) _ ho⟩, b1, rfl, rfl, rfl, rfl, b2, b3, b4, b5, hp, hk, hs, b6, fun vs hv => bind_of (e := (n, cnms n, k)) (List.mem_append_left fnTab h) _ _ _ hv⟩
theorem pf_of (hb : ∀ b o, (KT w.params).lookup b = some o → base.get? b = some o) (hg : base.Ns mainGlobals mg) (hl : base.Ns builtinsNs mb) : PF (XT w mg mb base) faF tkF := by
  have a := cl_all w.params
  simp only [Bool.and_eq_true] at a
  obtain ⟨⟨⟨a1, a2⟩, a3⟩, a4⟩ := a
  have mt : ∀ c name f, mtab faF c name = some f → methOkB (KT w.params) (clF c) name f = true ∧ keepIn (KT w.params) (.ref f) = true ∧ name ∉ attrsOf c := fun c name f h => by
    obtain ⟨n, hn, rfl⟩ := Option.map_eq_some_iff.mp h
    rcases mls_or c with hc | hc
    · have := List.all_eq_true.mp (List.all_eq_true.mp a3 c hc) _ (lk_mem hn)
      simp only [Bool.and_eq_true, Bool.not_eq_true', List.contains_eq_mem, decide_eq_false_iff_not] at this
      exact ⟨this.1.1, this.1.2, this.2⟩
    · rw [hc] at hn; cases hn
  have b := fn_all w.params
  simp only [Bool.and_eq_true] at b
  have c := cell_all
  simp only [Bool.and_eq_true] at c
  refine ⟨rfl, ⟨fun c n f h => (mt c n f h).1, fun c n f h => (mt c n f h).2.2, fun c n f h => (mt c n f h).2.1⟩, fun i x v h => ?_, fun i n x h => ?_, fun i c x h => ?_, fun i c n h => ?_, ?_, ?_, fun i n k l h => fn_fact (List.mem_of_getElem? h)⟩
  · have e1 := ns_look hg (hb _ _ (at3 _)) x
    have e2 := ns_look hl (hb _ _ (at0 _)) x
    have e := congrArg (fun l => l[i]?) (g_all w.params)
    simp only [List.getElem?_map, List.getElem?_zipIdx, h, Option.map_some, Option.some.injEq] at e
    have ev : v.val (XT w mg mb base) faF (tkF i) = gval (tkF i) v := by cases v <;> rfl
    unfold gLook at e
    rw [e1, e2] at e
    rw [ev]
    show mg x = _ ∨ (mg x = none ∧ mb x = _)
    rw [Nat.zero_add] at e
    cases q : mg x with
    | some u => rw [q] at e; exact .inl e
    | none => rw [q] at e; exact .inr ⟨rfl, e⟩
  · exact List.all_eq_true.mp a4 _ (List.mem_of_getElem? h)
  · exact List.all_eq_true.mp a4 _ (List.mem_of_getElem? h)
  · exact List.all_eq_true.mp a2 _ (List.mem_of_getElem? h)
  · exact fn_factC (.head _) b.1.2 c.1.1.1 c.1.2 (fun b => (cellsAt b).1) (.head _)
  · exact fn_factC (.tail _ (.head _)) b.2 c.1.1.2 c.2 (fun b => (cellsAt b).2) (.tail _ (.head _))
theorem ok_of (hb : ∀ b o, (KT w.params).lookup b = some o → base.get? b = some o) (hg : base.Ns mainGlobals mg) (hl : base.Ns builtinsNs mb) (hn : base.NoLimit) : (XT w mg mb base).Ok :=
  ⟨hb, hn, hg, hl, fun e => nomatch e.symm.trans (hb _ _ (at1 _))⟩
theorem cls_of : (XT w mg mb base).Cls := by
  have a := cl_all w.params
  simp only [Bool.and_eq_true] at a
  have key : ∀ c, (∀ x ∈ attrsOf c, getOkB (KT w.params) (clF c) x = true ∧ setOkB (KT w.params) (clF c) x = true) ∧ (attrsOf c).Nodup ∧ (attrsOf c).length ≤ 64 := fun c => by
    rcases cls_or c with hc | hc
    · have := List.all_eq_true.mp a.1.1.1 c hc
      simp only [Bool.and_eq_true, decide_eq_true_eq, List.all_eq_true] at this
      exact ⟨this.1.1, this.1.2, this.2⟩
    · rw [hc]; exact ⟨nofun, .nil, Nat.zero_le _⟩
  exact ⟨fun c i x h => ((key c).1 x (List.mem_of_getElem? h)).1, fun c i x h => ((key c).1 x (List.mem_of_getElem? h)).2, fun c => (key c).2.1, fun c => (key c).2.2⟩
end
end
section
set_option maxRecDepth 100000
theorem atLaw (P : Params) : lookIn (Str.ofString "law") (((KT P).lookup 3).getD default) = some (some (.ref 644)) := by kernel_rfl
theorem room9 : Room 9 callerA := ⟨by decide, by decide, rfl⟩
theorem postT (ds : List WData) : rwT.row.claim.post ds (.bool true) ds = true := by kernel_rfl
theorem raisesT (ds : List WData) (c : ExcName) : rwT.row.claim.raises ds c = false := by kernel_rfl
theorem fin_of {X : Ctx} {cl : Str → Option Addr} {me : ExcName → Option Value} {ds : List WData} {s₁ s' : Shared} {v : Value} (hb : X.base = s₁.heap) (hg : s₁.gens = #[]) (p : OPost X s₁ (fun _ => none) (fun m _ => m = .bool true) v s') : GoodWG rwT.row.claim cl me ds s₁ (.ok (.ret v)) s' := by
  obtain ⟨_, H', vr, rep, evo, rfl⟩ := p
  cases iB vr
  exact GoodW.toG ⟨.inl ⟨_, .bool true, [], rfl, raisesT ds, .bool true, postT ds, fun _ => ⟨.nil, nofun⟩⟩, hb ▸ rep.keep, evo.os, evo.gens.trans hg⟩
theorem entry0 {X : Ctx} {fa : Nat → Addr} {tk : Nat → Tok} (ok : X.Ok) (cl : X.Cls) (pf : PF X fa tk) {s : Shared} {la : Addr} {vs : List Value} {ns : List Int} (hb : X.base = s.heap) (hL : s.heap.IsList la vs.toArray) (hI : IntsAre vs ns) (h63 : ns.length ≤ 63) :
    wpAny (mdl X) callerA (call (.ref (fa 44)) [.ref la]) (OPost X s (fun _ => none) fun m _ => m = .bool true) NoE s :=
  call_op (d := 9) room9 ⟨fun b o h => hb ▸ h, fun _ h => (h rfl).elim, fun a c h => (ne_of_some (show (none : Option Cell) = some c from h) rfl).elim⟩ (.one vR) (c44 (d := 0) ok cl pf (hb ▸ hL) hI h63 fun _ => rfl)
theorem entry : WalkO qT looseT (fun _ _ => True) (fun w h => ∀ b o, (H1 w.params).get? b = some o → h.get? b = some o) rwT.row.toRowW dT [] fun f vs => PySem.call f vs := by
  intro w s₀ s₁ mg mb G Y a o pm cd doc dV kV ho hd hcd hD hmg hg args vals as hpre hlay hrd hwl hlo
  have hb : ∀ b o, (KT w.params).lookup b = some o → s₁.heap.get? b = some o := fun b o h => Y b o (H1_at h)
  have T := G.T
  have e1 := ns_look T.g (hb _ _ (at3 _)) (Str.ofString "law")
  rw [atLaw] at e1
  obtain rfl : a = 644 := by
    have := (Option.some.inj e1).trans hmg
    cases this; rfl
  clear ho hd hcd hD e1 hmg
  wrow_args hpre hlay hrd hwl hlo
  rename_i ns _ _ _ _ _ _ _ la vs _ hL _ _ _ hI _ hc _
  have ok := ok_of (w := w) hb T.g T.b T.nolimit
  have pf := pf_of (w := w) hb T.g T.b
  have h63 : ns.length ≤ 63 := by (first | lia | omega)
  exact wpAny_mono (entry0 ok cls_of pf rfl hL hI h63) (fun v s' p => fin_of (X := XT w mg mb s₁.heap) rfl hg p) fun _ _ x => x.elim
theorem whole : rwT.Holds := head entry
end
end Mine
theorem PySem.Challenge.cw_sa0157_01_holds : PySem.Challenge.rw_sa0157_01.Holds :=
  Mine.whole
