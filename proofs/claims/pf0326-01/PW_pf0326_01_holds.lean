import PyProof.Rows.All
import Wide.All
import OpenK.AllK
import Wide.FinOn
import PySem.Challenge.RW_pf0326_01
set_option Elab.async false
set_option genSizeOf false
set_option genInjectivity false
set_option maxRecDepth 100000
set_option autoImplicit false
set_option linter.all false
set_option maxHeartbeats 8000000
-- B1
namespace Mine
open PySem PySem.W PyProof.Rows
noncomputable abbrev D := PyData
noncomputable abbrev Kp (h h' : Heap) : Prop := ∀ b o, h.get? b = some o → h'.get? b = some o
mutual
/-- the value bears the datum in the heap; none of its lists is at an address of O -/
inductive Rp (O : Addr → Prop) (h : Heap) : Value → D → Prop
  | none : Rp O h .none .none
  | bool (b : Bool) : Rp O h (.bool b) (.bool b)
  | int (i : Int) (t : Tok) : Rp O h (.int i t) (.int i)
  | str (x : Str) (t : Tok) : Rp O h (.str x t) (.str x)
  | tup {a : Addr} {vs : List Value} {n : Nat} {ds : List D} : IsT h a vs.toArray n → RpAll O h vs ds → Rp O h (.ref a) (.tuple ds)
  | lst {a : Addr} {vs : List Value} {n : Nat} {ds : List D} : IsL h a vs.toArray n → ¬ O a → RpAll O h vs ds → Rp O h (.ref a) (.list ds)
inductive RpAll (O : Addr → Prop) (h : Heap) : List Value → List D → Prop
  | nil : RpAll O h [] []
  | cons {v : Value} {vs : List Value} {d : D} {ds : List D} : Rp O h v d → RpAll O h vs ds → RpAll O h (v :: vs) (d :: ds)
end
variable {O O' : Addr → Prop} {h h' : Heap} {v : Value} {d : D} {vs ws : List Value} {ds es : List D}
theorem Rp.trans (hO : ∀ a, O' a → O a) (hl : ∀ a vs n, IsL h a vs n → ¬ O a → IsL h' a vs n) (ht : ∀ a vs n, IsT h a vs n → IsT h' a vs n) (r : Rp O h v d) : Rp O' h' v d :=
  Rp.rec (motive_1 := fun v d _ => Rp O' h' v d) (motive_2 := fun vs ds _ => RpAll O' h' vs ds) .none .bool .int .str
    (fun a _ r => .tup (ht _ _ _ a) r) (fun a n _ r => .lst (hl _ _ _ a n) (fun q => n (hO _ q)) r) .nil (fun _ _ a r => .cons a r) r
@[elab_as_elim] theorem RpAll.nilE {P : List Value → Prop} (r : RpAll O h vs []) (k : P []) : P vs :=
  RpAll.casesOn (motive_2 := fun vs ds _ => ds = [] → P vs) r (fun _ => k) (fun _ _ e => nomatch e) rfl
@[elab_as_elim] theorem RpAll.consE {P : List Value → Prop} (r : RpAll O h vs (d :: ds)) (k : ∀ (v : Value) (vs : List Value), Rp O h v d → RpAll O h vs ds → P (v :: vs)) : P vs :=
  RpAll.casesOn (motive_2 := fun vs es _ => es = d :: ds → P vs) r (fun e => nomatch e) (fun {v vs _ _} a r e => k v vs ((List.cons.inj e).1 ▸ a) ((List.cons.inj e).2 ▸ r)) rfl
theorem RpAll.trans (hO : ∀ a, O' a → O a) (hl : ∀ a vs n, IsL h a vs n → ¬ O a → IsL h' a vs n) (ht : ∀ a vs n, IsT h a vs n → IsT h' a vs n) (r : RpAll O h vs ds) : RpAll O' h' vs ds := by
  induction ds generalizing vs with
  | nil => exact r.nilE .nil
  | cons d ds ih => exact r.consE fun v vs a r => .cons (a.trans hO hl ht) (ih r)
theorem Rp.keeps (k : Kp h h') (r : Rp O h v d) : Rp O h' v d := r.trans (fun _ x => x) (fun _ _ _ e _ => k _ _ e) (fun _ _ _ e => k _ _ e)
theorem RpAll.keeps (k : Kp h h') (r : RpAll O h vs ds) : RpAll O h' vs ds := r.trans (fun _ x => x) (fun _ _ _ e _ => k _ _ e) (fun _ _ _ e => k _ _ e)
theorem Rp.mono (k : ∀ a, O' a → O a) (r : Rp O h v d) : Rp O' h v d := r.trans k (fun _ _ _ e _ => e) (fun _ _ _ e => e)
theorem RpAll.mono (k : ∀ a, O' a → O a) (r : RpAll O h vs ds) : RpAll O' h vs ds := r.trans k (fun _ _ _ e _ => e) (fun _ _ _ e => e)
/-- what a statement may store into: a namespace, a cell, a list of its own -/
noncomputable def Mut (O : Addr → Prop) (a : Addr) (o : Obj) : Prop := (∃ es n, o.data = .dict es n) ∨ (∃ v, o.data = .cell v) ∨ (O a ∧ o.cls = .type "list")
/-- what a statement leaves as it was; what it may come to own -/
structure Go (O : Addr → Prop) (h : Heap) (O' : Addr → Prop) (h' : Heap) : Prop where
  sv : ∀ a o, h.get? a = some o → ¬ Mut O a o → h'.get? a = some o
  dom : ∀ a o, h.get? a = some o → ∃ o', h'.get? a = some o'
  own : ∀ a, O' a → O a ∨ h.get? a = none
theorem Go.none {O O' : Addr → Prop} {h h' : Heap} (g : Go O h O' h') {a : Addr} (e : h'.get? a = none) : h.get? a = none := by
  cases q : h.get? a with
  | none => rfl
  | some o => obtain ⟨o', x⟩ := g.dom a o q; rw [e] at x; cases x
theorem Go.trans {O O' O'' : Addr → Prop} {h h' h'' : Heap} (g : Go O h O' h') (k : Go O' h' O'' h'') : Go O h O'' h'' where
  sv := fun a o e n => k.sv a o (g.sv a o e n) fun q => n (q.imp id (Or.imp id fun q => ⟨(g.own a q.1).resolve_right (by rw [e]; simp), q.2⟩))
  dom := fun a o e => let ⟨o', e'⟩ := g.dom a o e; k.dom a o' e'
  own := fun a q => (k.own a q).elim (g.own a) fun e => .inr (g.none e)
theorem Go.kp {O : Addr → Prop} {h h' : Heap} (k : Kp h h') : Go O h O h' := ⟨fun a o e _ => k a o e, fun a o e => ⟨o, k a o e⟩, fun _ x => .inl x⟩
theorem Go.refl (O : Addr → Prop) (h : Heap) : Go O h O h := .kp fun _ _ e => e
theorem Go.store {O : Addr → Prop} {h h' : Heap} {a : Addr} {o o' : Obj} (e : h.get? a = some o) (m : Mut O a o) (x : Heap.ExtBut a h h') (e' : h'.get? a = some o') : Go O h O h' where
  sv := fun b q eb nb => x b q (fun z => by subst z; rw [e] at eb; cases eb; exact nb m) eb
  dom := fun b q eb => by
    by_cases z : b = a
    · subst z; exact ⟨o', e'⟩
    · exact ⟨q, x b q z eb⟩
  own := fun _ x => .inl x
theorem not_mut_fields {O : Addr → Prop} {a : Addr} {o : Obj} {vs : Array Value} (e : o.data = .fields vs) (hc : o.cls ≠ .type "list") : ¬ Mut O a o := by
  rintro (⟨_, _, q⟩ | ⟨_, q⟩ | q)
  · rw [e] at q; cases q
  · rw [e] at q; cases q
  · exact hc q.2
theorem not_mut_t {O : Addr → Prop} {a : Addr} {vs : Array Value} {n : Nat} : ¬ Mut O a { cls := .type "tuple", dict := none, data := .seq vs n, slots := #[] } := by
  rintro (⟨_, _, q⟩ | ⟨_, q⟩ | q)
  · cases q
  · cases q
  · exact absurd q.2 (by simp)
theorem not_mut_l {O : Addr → Prop} {a : Addr} {vs : Array Value} {n : Nat} (h : ¬ O a) : ¬ Mut O a { cls := .type "list", dict := none, data := .seq vs n, slots := #[] } := by
  rintro (⟨_, _, q⟩ | ⟨_, q⟩ | q)
  · cases q
  · cases q
  · exact h q.1
theorem Rp.go (g : Go O h O' h') (r : Rp O h v d) : Rp O' h' v d := by
  have key : ∀ a o, O' a → h.get? a = some o → O a := fun a o q e => (g.own a q).resolve_right (by rw [e]; simp)
  have key2 : ∀ {a : Addr} {vs : Array Value} {n : Nat}, IsL h a vs n → ¬ O a → ¬ O' a := fun e n q => n (key _ _ q e)
  suffices H : (∀ {v : Value} {d : D}, Rp O h v d → Rp O' h' v d) from H r
  intro v d r
  exact Rp.rec (motive_1 := fun v d _ => Rp O' h' v d) (motive_2 := fun vs ds _ => RpAll O' h' vs ds) .none .bool .int .str
    (fun a _ r => .tup (g.sv _ _ a not_mut_t) r) (fun a n _ r => .lst (g.sv _ _ a (not_mut_l n)) (key2 a n) r) .nil (fun _ _ a r => .cons a r) r
theorem RpAll.go (g : Go O h O' h') (r : RpAll O h vs ds) : RpAll O' h' vs ds := by
  induction ds generalizing vs with
  | nil => exact r.nilE .nil
  | cons d ds ih => exact r.consE fun v vs a r => .cons (a.go g) (ih r)
theorem RpAll.length (r : RpAll O h vs ds) : vs.length = ds.length := by
  induction ds generalizing vs with
  | nil => exact r.nilE rfl
  | cons d ds ih => exact r.consE fun v vs a r => congrArg Nat.succ (ih r)
theorem RpAll.append (r : RpAll O h vs ds) (q : RpAll O h ws es) : RpAll O h (vs ++ ws) (ds ++ es) := by
  induction ds generalizing vs with
  | nil => exact r.nilE q
  | cons d ds ih => exact r.consE fun v vs a r => .cons a (ih r)
theorem RpAll.one (r : Rp O h v d) : RpAll O h [v] [d] := .cons r .nil
theorem RpAll.get (r : RpAll O h vs ds) {k : Nat} {d : D} (hk : ds[k]? = some d) : ∃ v, vs[k]? = some v ∧ Rp O h v d := by
  induction ds generalizing vs k with
  | nil => exact nomatch hk
  | cons d' ds ih =>
    cases k with
    | zero => exact r.consE fun v vs a r => ⟨v, rfl, Option.some.inj hk ▸ a⟩
    | succ k => exact r.consE fun v vs a r => ih r (k := k) hk
theorem RpAll.drop (r : RpAll O h vs ds) (k : Nat) : RpAll O h (vs.drop k) (ds.drop k) := by
  induction k generalizing vs ds with
  | zero => exact r
  | succ k ih => cases ds with
    | nil => exact r.nilE .nil
    | cons d ds => exact r.consE fun v vs a r => ih r
theorem RpAll.take (r : RpAll O h vs ds) (k : Nat) : RpAll O h (vs.take k) (ds.take k) := by
  induction k generalizing vs ds with
  | zero => exact .nil
  | succ k ih => cases ds with
    | nil => exact r.nilE .nil
    | cons d ds => exact r.consE fun v vs a r => .cons a (ih r)
theorem RpAll.set (r : RpAll O h vs ds) (q : Rp O h v d) (k : Nat) : RpAll O h (vs.set k v) (ds.set k d) := by
  induction k generalizing vs ds with
  | zero => cases ds with
    | nil => exact r.nilE .nil
    | cons d ds => exact r.consE fun v vs a r => .cons q r
  | succ k ih => cases ds with
    | nil => exact r.nilE .nil
    | cons d ds => exact r.consE fun v vs a r => .cons a (ih r)
@[elab_as_elim] theorem Rp.tupE {P : Value → Prop} (r : Rp O h v (.tuple ds)) (k : ∀ (a : Addr) (vs : List Value) (n : Nat), IsT h a vs.toArray n → RpAll O h vs ds → P (.ref a)) : P v :=
  Rp.casesOn (motive_1 := fun v d _ => d = .tuple ds → P v) r (fun e => nomatch e) (fun _ e => nomatch e) (fun _ _ e => nomatch e) (fun _ _ e => nomatch e)
    (fun {a vs n es} i q e => k a vs n i (PyData.tuple.inj e ▸ q)) (fun _ _ _ e => nomatch e) rfl
@[elab_as_elim] theorem Rp.lstE {P : Value → Prop} (r : Rp O h v (.list ds)) (k : ∀ (a : Addr) (vs : List Value) (n : Nat), IsL h a vs.toArray n → ¬ O a → RpAll O h vs ds → P (.ref a)) : P v :=
  Rp.casesOn (motive_1 := fun v d _ => d = .list ds → P v) r (fun e => nomatch e) (fun _ e => nomatch e) (fun _ _ e => nomatch e) (fun _ _ e => nomatch e)
    (fun _ _ e => nomatch e) (fun {a vs n es} i x q e => k a vs n i x (PyData.list.inj e ▸ q)) rfl
/-- what a value is, by its datum -/
noncomputable def RpIs (v : Value) : D → Prop
  | .none => v = .none
  | .bool b => v = .bool b
  | .int i => ∃ t, v = .int i t
  | .str x => ∃ t, v = .str x t
  | .tuple _ => ∃ a, v = .ref a
  | .list _ => ∃ a, v = .ref a
  | .dict _ => False
theorem Rp.is (r : Rp O h v d) : RpIs v d :=
  Rp.casesOn (motive_1 := fun v d _ => RpIs v d) r rfl (fun _ => rfl) (fun _ t => ⟨t, rfl⟩) (fun _ t => ⟨t, rfl⟩) (fun {a _ _ _} _ _ => ⟨a, rfl⟩) (fun {a _ _ _} _ _ _ => ⟨a, rfl⟩)
theorem Rp.reads (r : Rp O h v d) : ∃ as, Reads h v d as :=
  Rp.rec (motive_1 := fun v d _ => ∃ as, Reads h v d as) (motive_2 := fun vs ds _ => ∃ as, ReadsAll h vs ds as) ⟨_, .none⟩ (fun b => ⟨_, .bool b⟩) (fun i t => ⟨_, .int i t⟩) (fun x t => ⟨_, .str x t⟩)
    (fun a _ r => r.elim fun _ q => ⟨_, .tuple a rfl rfl q⟩) (fun a _ _ r => r.elim fun _ q => ⟨_, .list a rfl rfl q⟩) ⟨_, .nil⟩ (fun _ _ p q => p.elim fun _ p => q.elim fun _ q => ⟨_, .cons p q⟩) r
/-- what an evaluation may do to the state -/
noncomputable def Ks (s s' : Shared) : Prop := ∃ h' tk, s' = { s with heap := h', toks := tk } ∧ Kp s.heap h'
theorem Ks.refl (s : Shared) : Ks s s := ⟨s.heap, s.toks, rfl, fun _ _ e => e⟩
theorem Ks.trans {s s' s'' : Shared} (a : Ks s s') (b : Ks s' s'') : Ks s s'' := by
  obtain ⟨h1, t1, rfl, k1⟩ := a
  obtain ⟨h2, t2, rfl, k2⟩ := b
  exact ⟨h2, t2, rfl, fun b o e => k2 b o (k1 b o e)⟩
theorem Ks.kp {s s' : Shared} (a : Ks s s') : Kp s.heap s'.heap := by
  obtain ⟨h1, t1, rfl, k1⟩ := a
  exact k1
theorem Ks.tok (s : Shared) (t : Nat) : Ks s { s with toks := t } := ⟨s.heap, t, rfl, fun _ _ e => e⟩
theorem Ks.push (s : Shared) (o : Obj) : Ks s { s with heap := s.heap.push o } := ⟨_, s.toks, rfl, fun _ _ e => Heap.get?_push_of_some _ e⟩
theorem Ks.heap (s : Shared) (h' : Heap) (t : Nat) (k : Kp s.heap h') : Ks s { s with heap := h', toks := t } := ⟨_, t, rfl, k⟩
end Mine
-- B2
namespace Mine
open PySem PySem.W PyProof.Rows
noncomputable def OIn (O : Addr → Prop) (h : Heap) : Prop := ∀ a, O a → (h.get? a).isSome
theorem OIn.keeps {O : Addr → Prop} {h h' : Heap} (x : OIn O h) (k : Kp h h') : OIn O h' := fun a ha => by
  obtain ⟨o, e⟩ := Option.isSome_iff_exists.mp (x a ha)
  rw [k a o e]; rfl
theorem OIn.fresh {O : Addr → Prop} {h : Heap} (x : OIn O h) : ¬ O h.objs.size := fun q => by
  obtain ⟨o, e⟩ := Option.isSome_iff_exists.mp (x _ q)
  exact absurd (Heap.lt_size e) (Nat.lt_irrefl _)
section
variable (prog : Program) (w : World) (A : Around) (env : Env)
/-- the expression's value, from s on -/
noncomputable def Ev (e : Expr) (O : Addr → Prop) (s : Shared) (d : D) : Prop :=
  ∀ (E : Value → Shared → Prop) (Q : Value → Shared → Prop), (∀ v s', Ks s s' → Rp O s'.heap v d → Q v s') → wpAny (model prog w) A (eval e env) Q E s
noncomputable def Evs (es : List Expr) (O : Addr → Prop) (s : Shared) (ds : List D) : Prop :=
  ∀ (pos : Pos) (E : Value → Shared → Prop) (Q : List Value → Shared → Prop), (∀ vs s', Ks s s' → RpAll O s'.heap vs ds → Q vs s') → wpAny (model prog w) A (spliced (backTo pos (starEach es env))) Q E s
noncomputable def EvB (e : Expr) (s : Shared) (b : Bool) : Prop :=
  ∀ (E : Value → Shared → Prop) (Q : Bool → Shared → Prop), (∀ s', Ks s s' → Q b s') → wpAny (model prog w) A (isTrue e env (eval e env)) Q E s
/-- the expression's value is a list (or a tuple) of these data -/
noncomputable def SeqRp (O : Addr → Prop) (h : Heap) (v : Value) (isL : Bool) (ds : List D) : Prop :=
  ∃ a vs n, v = .ref a ∧ (if isL then IsL h a vs.toArray n else IsT h a vs.toArray n) ∧ RpAll O h vs ds
noncomputable def EvSeq (e : Expr) (O : Addr → Prop) (s : Shared) (isL : Bool) (ds : List D) : Prop :=
  ∀ (E : Value → Shared → Prop) (Q : Value → Shared → Prop), (∀ v s', Ks s s' → SeqRp O s'.heap v isL ds → Q v s') → wpAny (model prog w) A (eval e env) Q E s
end
theorem SeqRp.keeps {O : Addr → Prop} {h h' : Heap} {v : Value} {isL : Bool} {ds : List D} (r : SeqRp O h v isL ds) (k : Kp h h') : SeqRp O h' v isL ds := by
  obtain ⟨a, vs, n, e, q, r⟩ := r
  refine ⟨a, vs, n, e, ?_, r.keeps k⟩
  cases isL
  · exact k _ _ q
  · exact k _ _ q
section
variable {prog : Program} {w : World} {A : Around} {env : Env} {O : Addr → Prop} {s : Shared} {d : D} {ds : List D} {e e₁ e₂ : Expr} {pos p : Pos}
theorem Ev.seqT (h : Ev prog w A env e O s (.tuple ds)) : EvSeq prog w A env e O s false ds := fun E Q hQ => h E Q fun v s' k r => hQ v s' k (r.tupE fun a _ _ i q => ⟨a, _, _, rfl, i, q⟩)
theorem Ev.seqL (h : Ev prog w A env e O s (.list ds)) : EvSeq prog w A env e O s true ds := fun E Q hQ => h E Q fun v s' k r => hQ v s' k (r.lstE fun a _ _ i _ q => ⟨a, _, _, rfl, i, q⟩)
theorem Ev.cInt (i : Int) (k : Nat) : Ev prog w A env (.Constant (.int i) k pos) O s (.int i) := fun _ _ hQ => wpAny_Constant_int (hQ _ _ (Ks.tok s _) (.int _ _))
theorem Ev.cStr (x : Str) (k : Nat) : Ev prog w A env (.Constant (.str x) k pos) O s (.str x) := fun _ _ hQ => wpAny_Constant_str (hQ _ _ (Ks.tok s _) (.str _ _))
theorem Ev.cNone (k : Nat) : Ev prog w A env (.Constant .none k pos) O s .none := fun _ _ hQ => wpAny_Constant_none (hQ _ _ (Ks.refl s) .none)
theorem Ev.cBool (b : Bool) (k : Nat) : Ev prog w A env (.Constant (.bool b) k pos) O s (.bool b) := fun _ _ hQ => wpAny_Constant_bool (hQ _ _ (Ks.refl s) (.bool b))
theorem Evs.nilE : Evs prog w A env [] O s [] := fun _ _ _ hQ => wpAny_items_nil (hQ _ _ (Ks.refl s) .nil)
theorem Evs.consE {es : List Expr} (h : Ev prog w A env e O s d) (hs : ∀ s', Ks s s' → Evs prog w A env es O s' ds)
    (he : starEach (e :: es) env = (false, eval e env) :: starEach es env) : Evs prog w A env (e :: es) O s (d :: ds) := fun pos E Q hQ =>
  wpAny_items_cons (he := he) (h E _ fun v s1 k1 r1 => hs s1 k1 pos E _ fun vs s2 k2 r2 => hQ _ _ (k1.trans k2) (.cons (r1.keeps k2.kp) r2))
theorem Ev.tupleD {es : List Expr} {k : Nat} (h : Evs prog w A env es O s ds) (hsz : ds.length ≤ 1000) : Ev prog w A env (.Tuple es k pos) O s (.tuple ds) := fun E Q hQ =>
  wpAny_Tuple (h pos E _ fun vs s' k r => ⟨by rw [r.length, sizeLine_eq]; omega, hQ _ _ (k.trans (Ks.push _ _)) (.tup (IsT.new _ _) (r.keeps fun _ _ q => Heap.get?_push_of_some _ q))⟩)
theorem Ev.listD {es : List Expr} (h : Evs prog w A env es O s ds) (hO : OIn O s.heap) (hsz : ds.length ≤ 1000) : Ev prog w A env (.List es pos) O s (.list ds) := fun E Q hQ =>
  wpAny_List (h pos E _ fun vs s' k r => ⟨by rw [r.length, sizeLine_eq]; omega, hQ _ _ (k.trans (Ks.push _ _)) (.lst (IsL.new _ _) (hO.keeps k.kp).fresh (r.keeps fun _ _ q => Heap.get?_push_of_some _ q))⟩)
theorem Rp.intE {h : Heap} {v : Value} {i : Int} (r : Rp O h v (.int i)) : ∃ t, v = .int i t := r.is
theorem Rp.strE {h : Heap} {v : Value} {i : Str} (r : Rp O h v (.str i)) : ∃ t, v = .str i t := r.is
/-- two operands in turn -/
theorem ev_two {a b : D} {E : Value → Shared → Prop} {Q : Value → Value → Shared → Prop} (h1 : Ev prog w A env e₁ O s a) (h2 : ∀ s', Ks s s' → Ev prog w A env e₂ O s' b)
    (h : ∀ v u s', Ks s s' → Rp O s'.heap v a → Rp O s'.heap u b → Q v u s') :
    wpAny (model prog w) A (eval e₁ env) (fun v s₁ => wpAny (model prog w) A (eval e₂ env) (fun u s₂ => Q v u s₂) E s₁) E s :=
  h1 E _ fun v s1 k1 r1 => h2 s1 k1 E _ fun u s2 k2 r2 => h v u s2 (k1.trans k2) (r1.keeps k2.kp) r2
theorem Ev.addI {a b : Int} (h1 : Ev prog w A env e₁ O s (.int a)) (h2 : ∀ s', Ks s s' → Ev prog w A env e₂ O s' (.int b)) : Ev prog w A env (.BinOp e₁ .Add e₂ pos) O s (.int (a + b)) := fun E Q hQ =>
  wpAny_BinOp (ev_two (E := E) (Q := fun v u s2 => wpAny (model prog w) A (binaryOp .Add v u) Q E s2) h1 h2 fun v u s' k r q => by
    obtain ⟨t, rfl⟩ := r.intE; obtain ⟨t', rfl⟩ := q.intE
    exact add_int (hQ _ _ (k.trans (Ks.tok _ _)) (.int _ _)))
theorem Ev.subI {a b : Int} (h1 : Ev prog w A env e₁ O s (.int a)) (h2 : ∀ s', Ks s s' → Ev prog w A env e₂ O s' (.int b)) : Ev prog w A env (.BinOp e₁ .Sub e₂ pos) O s (.int (a - b)) := fun E Q hQ =>
  wpAny_BinOp (ev_two (E := E) (Q := fun v u s2 => wpAny (model prog w) A (binaryOp .Sub v u) Q E s2) h1 h2 fun v u s' k r q => by
    obtain ⟨t, rfl⟩ := r.intE; obtain ⟨t', rfl⟩ := q.intE
    exact sub_int (hQ _ _ (k.trans (Ks.tok _ _)) (.int _ _)))
theorem Ev.mulI {a b : Int} (h1 : Ev prog w A env e₁ O s (.int a)) (h2 : ∀ s', Ks s s' → Ev prog w A env e₂ O s' (.int b)) (hm : IntMulOk a b) : Ev prog w A env (.BinOp e₁ .Mult e₂ pos) O s (.int (a * b)) := fun E Q hQ =>
  wpAny_BinOp (ev_two (E := E) (Q := fun v u s2 => wpAny (model prog w) A (binaryOp .Mult v u) Q E s2) h1 h2 fun v u s' k r q => by
    obtain ⟨t, rfl⟩ := r.intE; obtain ⟨t', rfl⟩ := q.intE
    exact mul_int (hm := hm) (hQ _ _ (k.trans (Ks.tok _ _)) (.int _ _)))
theorem Ev.modI {a b : Int} (h1 : Ev prog w A env e₁ O s (.int a)) (h2 : ∀ s', Ks s s' → Ev prog w A env e₂ O s' (.int b)) (hb : b ≠ 0) : Ev prog w A env (.BinOp e₁ .Mod e₂ pos) O s (.int (a.fmod b)) := fun E Q hQ =>
  wpAny_BinOp (ev_two (E := E) (Q := fun v u s2 => wpAny (model prog w) A (binaryOp .Mod v u) Q E s2) h1 h2 fun v u s' k r q => by
    obtain ⟨t, rfl⟩ := r.intE; obtain ⟨t', rfl⟩ := q.intE
    exact mod_int hb (hQ _ _ (k.trans (Ks.tok _ _)) (.int _ _)))
theorem Ev.divI {a b : Int} (h1 : Ev prog w A env e₁ O s (.int a)) (h2 : ∀ s', Ks s s' → Ev prog w A env e₂ O s' (.int b)) (hb : b ≠ 0) (hs : b.natAbs < 2 ^ 40) : Ev prog w A env (.BinOp e₁ .FloorDiv e₂ pos) O s (.int (a.fdiv b)) := fun E Q hQ =>
  wpAny_BinOp (ev_two (E := E) (Q := fun v u s2 => wpAny (model prog w) A (binaryOp .FloorDiv v u) Q E s2) h1 h2 fun v u s' k r q => by
    obtain ⟨t, rfl⟩ := r.intE; obtain ⟨t', rfl⟩ := q.intE
    exact floordiv_int hb (hQ _ _ (k.trans (Ks.tok _ _)) (.int _ _)) (.inl (PyProof.noPylong_of_log2 (by
      have h0 : b.natAbs ≠ 0 := by omega
      have := (Nat.log2_lt h0 (k := 40)).mpr hs
      omega))))
theorem Ev.powI {a b : Int} (h1 : Ev prog w A env e₁ O s (.int a)) (h2 : ∀ s', Ks s s' → Ev prog w A env e₂ O s' (.int b)) (hb : 0 ≤ b) (hb2 : b ≤ 1000000) (ha : a.natAbs < 2 ^ 64) : Ev prog w A env (.BinOp e₁ .Pow e₂ pos) O s (.int (a ^ b.toNat)) := fun E Q hQ =>
  wpAny_BinOp (ev_two (E := E) (Q := fun v u s2 => wpAny (model prog w) A (binaryOp .Pow v u) Q E s2) h1 h2 fun v u s' k r q => by
    obtain ⟨t, rfl⟩ := r.intE; obtain ⟨t', rfl⟩ := q.intE
    exact pow_int_small hb hb2 ha (hQ _ _ (k.trans (Ks.tok _ _)) (.int _ _)))
theorem Ev.addS {a b : Str} (h1 : Ev prog w A env e₁ O s (.str a)) (h2 : ∀ s', Ks s s' → Ev prog w A env e₂ O s' (.str b)) (hsz : a.length + b.length ≤ 1000) : Ev prog w A env (.BinOp e₁ .Add e₂ pos) O s (.str (a ++ b)) := fun E Q hQ =>
  wpAny_BinOp (ev_two (E := E) (Q := fun v u s2 => wpAny (model prog w) A (binaryOp .Add v u) Q E s2) h1 h2 fun v u s' k r q => by
    obtain ⟨t, rfl⟩ := r.strE; obtain ⟨t', rfl⟩ := q.strE
    exact add_str (hsz := by rw [sizeLine_eq]; omega) fun t' tk => hQ _ _ (k.trans (Ks.tok _ _)) (.str _ _))
theorem Ev.addL {a b : List D} (h1 : Ev prog w A env e₁ O s (.list a)) (h2 : ∀ s', Ks s s' → Ev prog w A env e₂ O s' (.list b)) (hO : OIn O s.heap) (hsz : a.length + b.length ≤ 1000) : Ev prog w A env (.BinOp e₁ .Add e₂ pos) O s (.list (a ++ b)) := fun E Q hQ =>
  wpAny_BinOp (ev_two (E := E) (Q := fun v u s2 => wpAny (model prog w) A (binaryOp .Add v u) Q E s2) h1 h2 fun v u s' k r q => by
    refine r.lstE fun l vs n l1 n1 r1 => q.lstE fun l' us n' l2 n2 r2 => ?_
    refine P.add_list l1 l2 ?_ (by rw [sizeLine_eq]; have := r1.length; have := r2.length; have : vs.toArray.size + us.toArray.size = vs.length + us.length := rfl; omega)
    refine hQ _ _ (k.trans (Ks.push _ _)) ?_
    rw [List.append_toArray]
    exact .lst (IsL.new _ _) (hO.keeps k.kp).fresh ((r1.append r2).keeps fun _ _ q => Heap.get?_push_of_some _ q))
theorem Ev.negI {a : Int} (h1 : Ev prog w A env e₁ O s (.int a)) : Ev prog w A env (.UnaryOp .USub e₁ pos) O s (.int (-a)) := fun E Q hQ =>
  wpAny_UnaryOp (h1 E _ fun v s' k r => by
    obtain ⟨t, rfl⟩ := r.intE
    exact neg_int (hQ _ _ (k.trans (Ks.tok _ _)) (.int _ _)))
/-- comparisons of ints -/
noncomputable def cmpI : CmpOp → Option (Int → Int → Bool)
  | .Lt => some fun a b => decide (a < b)
  | .LtE => some fun a b => decide (a ≤ b)
  | .Gt => some fun a b => decide (b < a)
  | .Eq => some fun a b => a == b
  | .NotEq => some fun a b => a != b
  | _ => none
theorem cmp_int {op : CmpOp} {f : Int → Int → Bool} (hf : cmpI op = some f) {a b : Int} {t u : Tok} {E : Value → Shared → Prop} {Q : Value → Shared → Prop} (h : Q (.bool (f a b)) s) :
    wpAny (model prog w) A (compareOp op (.int a t) (.int b u)) Q E s := by
  cases op with
  | Eq => cases hf; exact eq_int h
  | NotEq => cases hf; exact ne_int h
  | Lt => cases hf; exact lt_int h
  | LtE => cases hf; exact le_int h
  | Gt => cases hf; exact gt_int h
  | _ => exact nomatch hf
theorem Ev.cmpI {op : CmpOp} {f : Int → Int → Bool} {a b : Int} (hf : cmpI op = some f) (h1 : Ev prog w A env e₁ O s (.int a)) (h2 : ∀ s', Ks s s' → Ev prog w A env e₂ O s' (.int b)) (hm : behindInMarks op e₂ = false) :
    Ev prog w A env (.Compare e₁ [op] [e₂] pos) O s (.bool (f a b)) := fun E Q hQ =>
  wpAny_Compare1 (hm := hm) (ev_two (E := E) (Q := fun v u s2 => wpAny (model prog w) A (compareOp op v u) Q E s2) h1 h2 fun v u s' k r q => by
    obtain ⟨t, rfl⟩ := r.intE; obtain ⟨t', rfl⟩ := q.intE
    exact cmp_int hf (hQ _ _ k (.bool _)))
theorem EvB.cmpI {op : CmpOp} {f : Int → Int → Bool} {a b : Int} (hf : Mine.cmpI op = some f) (h1 : Ev prog w A env e₁ O s (.int a)) (h2 : ∀ s', Ks s s' → Ev prog w A env e₂ O s' (.int b)) (hm : behindInMarks op e₂ = false) :
    EvB prog w A env (.Compare e₁ [op] [e₂] pos) s (f a b) := fun E Q hQ =>
  wpAny_isTrue_Compare1 (hm := hm) (ev_two (E := E) (Q := fun v u s2 => wpAny (model prog w) A (compareOp op v u) (fun c s3 => wpAny (model prog w) A (truthy c) Q E s3) E s2) h1 h2 fun v u s' k r q => by
    obtain ⟨t, rfl⟩ := r.intE; obtain ⟨t', rfl⟩ := q.intE
    exact cmp_int hf (wpAny_truthy_bool (hQ _ k)))
/-- equality of data -/
noncomputable def layOk (d : D) : Bool := d.canLay0 && decide (d.depth ≤ 40)
theorem layOk_iff {d : D} (h : layOk d = true) : d.canLay0 = true ∧ d.depth ≤ 40 := by
  simpa only [layOk, Bool.and_eq_true, decide_eq_true_eq] using h
theorem cmp_eq {v u : Value} {a b : D} {E : Value → Shared → Prop} {Q : Value → Shared → Prop} (r : Rp O s.heap v a) (q : Rp O s.heap u b) (ha : layOk a = true) (hb : layOk b = true) (hu : A.units ≤ 9000) (h : Q (.bool (PyData.eqv a b)) s) :
    wpAny (model prog w) A (compareOp .Eq v u) Q E s := by
  obtain ⟨as, ra⟩ := r.reads
  obtain ⟨bs, rb⟩ := q.reads
  have ha := layOk_iff ha; have hb := layOk_iff hb
  exact SeqAt.compareEq_reads ra rb ha.1 hb.1 (by have := cLine_is; omega) h
theorem cmp_ne {v u : Value} {a b : D} {E : Value → Shared → Prop} {Q : Value → Shared → Prop} (r : Rp O s.heap v a) (q : Rp O s.heap u b) (ha : layOk a = true) (hb : layOk b = true) (hu : A.units ≤ 9000) (h : Q (.bool (!PyData.eqv a b)) s) :
    wpAny (model prog w) A (compareOp .NotEq v u) Q E s := by
  obtain ⟨as, ra⟩ := r.reads
  obtain ⟨bs, rb⟩ := q.reads
  have sh : ∀ {d : D}, layOk d = true → SeqAt.shaped d = true := fun e => by
    have q := layOk_iff e
    simp only [SeqAt.shaped, Bool.and_eq_true, decide_eq_true_eq]; exact ⟨q.1, by omega⟩
  exact SeqAt.compareNe_shaped ra rb (sh ha) (sh hb) (by have := cLine_is; omega) h
theorem EvB.eqD {a b : D} (h1 : Ev prog w A env e₁ O s a) (h2 : ∀ s', Ks s s' → Ev prog w A env e₂ O s' b) (ha : layOk a = true) (hb : layOk b = true) (hu : A.units ≤ 9000) (hm : behindInMarks .Eq e₂ = false) :
    EvB prog w A env (.Compare e₁ [.Eq] [e₂] pos) s (PyData.eqv a b) := fun E Q hQ =>
  wpAny_isTrue_Compare1 (hm := hm) (ev_two (E := E) (Q := fun v u s2 => wpAny (model prog w) A (compareOp .Eq v u) (fun c s3 => wpAny (model prog w) A (truthy c) Q E s3) E s2) h1 h2 fun v u s' k r q =>
    cmp_eq r q ha hb hu (wpAny_truthy_bool (hQ _ k)))
theorem EvB.neD {a b : D} (h1 : Ev prog w A env e₁ O s a) (h2 : ∀ s', Ks s s' → Ev prog w A env e₂ O s' b) (ha : layOk a = true) (hb : layOk b = true) (hu : A.units ≤ 9000) (hm : behindInMarks .NotEq e₂ = false) :
    EvB prog w A env (.Compare e₁ [.NotEq] [e₂] pos) s (!PyData.eqv a b) := fun E Q hQ =>
  wpAny_isTrue_Compare1 (hm := hm) (ev_two (E := E) (Q := fun v u s2 => wpAny (model prog w) A (compareOp .NotEq v u) (fun c s3 => wpAny (model prog w) A (truthy c) Q E s3) E s2) h1 h2 fun v u s' k r q =>
    cmp_ne r q ha hb hu (wpAny_truthy_bool (hQ _ k)))
/-- x is None -/
noncomputable def isNoneD : D → Bool | .none => true | _ => false
theorem Rp.isNone {h : Heap} {v : Value} {d : D} (r : Rp O h v d) : (v == .none) = isNoneD d :=
  Rp.casesOn (motive_1 := fun v d _ => (v == .none) = isNoneD d) r rfl (fun _ => rfl) (fun _ _ => rfl) (fun _ _ => rfl) (fun _ _ => rfl) (fun _ _ _ => rfl)
theorem EvB.isN {a : D} {k : Nat} {p : Pos} (h1 : Ev prog w A env e₁ O s a) : EvB prog w A env (.Compare e₁ [.Is] [.Constant .none k p] pos) s (isNoneD a) := fun E Q hQ =>
  wpAny_isTrue_Compare1 (h1 E _ fun v s' ks r => wpAny_Constant_none (is_none (wpAny_truthy_bool (by rw [r.isNone]; exact hQ _ ks))))
theorem EvB.notN {a : D} {k : Nat} {p : Pos} (h1 : Ev prog w A env e₁ O s a) : EvB prog w A env (.Compare e₁ [.IsNot] [.Constant .none k p] pos) s (!isNoneD a) := fun E Q hQ =>
  wpAny_isTrue_Compare1 (h1 E _ fun v s' ks r => wpAny_Constant_none (isNot_none (wpAny_truthy_bool (by rw [r.isNone]; exact hQ _ ks))))
theorem EvB.notB {b : Bool} (h : EvB prog w A env e s b) : EvB prog w A env (.UnaryOp .Not e pos) s (!b) := fun E Q hQ =>
  isTrue_not (h E _ fun s' k => hQ s' k)
theorem EvB.and2 {b c : Bool} (h1 : EvB prog w A env e₁ s b) (h2 : b = true → ∀ s', Ks s s' → EvB prog w A env e₂ s' c) : EvB prog w A env (.BoolOp .And [e₁, e₂] pos) s (b && c) := fun E Q hQ =>
  wpAny_isTrue_BoolOp (wpAny_allTrue_And_cons (h1 E _ fun s' k => by
    cases b with
    | false => exact hQ s' k
    | true => exact wpAny_allTrue_And_cons (h2 rfl s' k E _ fun s'' k' => by
        cases c with
        | false => exact hQ _ (k.trans k')
        | true => exact wpAny_allTrue_And_nil (hQ _ (k.trans k')))))
theorem EvB.or2 {b c : Bool} (h1 : EvB prog w A env e₁ s b) (h2 : b = false → ∀ s', Ks s s' → EvB prog w A env e₂ s' c) : EvB prog w A env (.BoolOp .Or [e₁, e₂] pos) s (b || c) := fun E Q hQ =>
  wpAny_isTrue_BoolOp (wpAny_allTrue_Or_cons (h1 E _ fun s' k => by
    cases b with
    | true => exact hQ s' k
    | false => exact wpAny_allTrue_Or_cons (h2 rfl s' k E _ fun s'' k' => by
        cases c with
        | true => exact hQ _ (k.trans k')
        | false => exact wpAny_allTrue_Or_nil (hQ _ (k.trans k')))))
theorem Ev.ife {b : Bool} {e₃ : Expr} (h1 : EvB prog w A env e₁ s b) (h2 : b = true → ∀ s', Ks s s' → Ev prog w A env e₂ O s' d) (h3 : b = false → ∀ s', Ks s s' → Ev prog w A env e₃ O s' d) :
    Ev prog w A env (.IfExp e₁ e₂ e₃ pos) O s d := fun E Q hQ => wpAny_IfExp (h1 E _ fun s' k => by
      cases b with
      | true => exact h2 rfl s' k E _ fun v s'' k' r => hQ _ _ (k.trans k') r
      | false => exact h3 rfl s' k E _ fun v s'' k' r => hQ _ _ (k.trans k') r)
end
end Mine
-- B3
namespace Mine
open PySem PySem.W PyProof.Rows PySem.Calls
noncomputable def idxD (ds : List D) (k : Int) : Option D :=
  if ds.length ≤ 100000 then (if 0 ≤ k then ds[k.toNat]? else if -(ds.length : Int) ≤ k then ds[(k + ds.length).toNat]? else none) else none
section
variable {prog : Program} {w : World} {A : Around} {env : Env} {O : Addr → Prop} {s : Shared} {d : D} {ds : List D} {e f e₁ e₂ : Expr} {pos p : Pos} {isL : Bool}
theorem seqIx {k : Int} {n : Nat} (h0 : 0 ≤ k) (h1 : k < n) : seqIndex? k n = some k.toNat := by
  unfold seqIndex?
  simp only [show ¬ k < 0 by omega, if_false]
  rw [if_pos (by simp only [Bool.and_eq_true, decide_eq_true_eq]; omega)]
theorem seq_getItem {v : Value} {k : Int} {t : Tok} {E : Value → Shared → Prop} {Q : Value → Shared → Prop} (r : SeqRp O s.heap v isL ds) (hd : idxD ds k = some d) (h : ∀ u, Rp O s.heap u d → Q u s) :
    wpAny (model prog w) A (getItem v (.int k t)) Q E s := by
  obtain ⟨a, vs, n, rfl, q, r⟩ := r
  have hl := r.length
  unfold idxD at hd
  split at hd
  case isFalse => cases hd
  case isTrue hsz =>
  by_cases h0 : 0 ≤ k
  · rw [if_pos h0] at hd
    obtain ⟨u, hu, ru⟩ := r.get hd
    have hk : k.toNat < vs.length := by
      rcases Nat.lt_or_ge k.toNat vs.length with q | q
      · exact q
      · rw [List.getElem?_eq_none q] at hu; cases hu
    cases isL with
    | true => exact wpAny_getItem_list (IsL.isList q) h0 (by omega) (by simpa using hu) (h u ru)
    | false => exact getItem_tuple (j := k.toNat) ⟨_, q, rfl, _, rfl⟩ (by omega) (by omega) (seqIx h0 (by simp only [List.size_toArray]; omega)) (by simpa using hu) (h u ru)
  · rw [if_neg h0] at hd
    split at hd
    case isFalse => cases hd
    case isTrue h1 =>
    obtain ⟨u, hu, ru⟩ := r.get hd
    cases isL with
    | true => exact wpAny_getItem_list_neg (IsL.isList q) (by omega) (by simp only [List.size_toArray]; omega) (by omega) (by simpa [hl] using hu) (h u ru)
    | false => exact getItem_tuple (j := (k + ds.length).toNat) ⟨_, q, rfl, _, rfl⟩ (by omega) (by omega) (by rw [← hl]; simpa using seqIndex_neg (n := vs.length) (show k < 0 by omega) (by omega)) (by simpa using hu) (h u ru)
theorem SeqRp.slot {v : Value} (r : SeqRp O s.heap v isL ds) : ∃ T id, s.TypeIs v T ∧ typeLookup (.type T) "__getitem__" = pure (some (.builtin id)) := by
  obtain ⟨a, vs, n, rfl, q, r⟩ := r
  cases isL with
  | true => exact ⟨"list", _, (IsL.isList q).typeIs, slot_list_getitem.lookup⟩
  | false => exact ⟨"tuple", _, ⟨_, q, rfl⟩, slot_tuple_getitem.lookup⟩
theorem Ev.idx {k : Int} (h1 : EvSeq prog w A env e₁ O s isL ds) (h2 : ∀ s', Ks s s' → Ev prog w A env e₂ O s' (.int k)) (hd : idxD ds k = some d)
    (hs : ∀ o i, subscripted e₂ false o i = operate [o, i] (getItem o i)) : Ev prog w A env (.Subscript e₁ e₂ pos) O s d := fun E Q hQ =>
  Subscript_ (h1 E _ fun v s1 k1 r1 => h2 s1 k1 E _ fun u s2 k2 r2 => by
    obtain ⟨t, rfl⟩ := r2.intE
    have r1' := r1.keeps k2.kp
    obtain ⟨T, id, hT, hl⟩ := r1'.slot
    exact tail_any hT hl (seq_getItem r1' hd fun u ru => hQ u s2 (k1.trans k2) ru) (hs _ _))
/-- a slice of a list -/
theorem sub_slice {lower upper : Option Expr} {sp : Pos} {E : Value → Shared → Prop} {Q : Value → Shared → Prop}
    (h : wpAny (model prog w) A (eval e env) (fun o s₁ => wpAny (model prog w) A (eval (.Slice lower upper none sp) env) (fun i s₂ => s₂.TypeIs o "list" ∧ wpAny (model prog w) A (getItem o i) Q E s₂) E s₁) E s) :
    wpAny (model prog w) A (eval (.Subscript e (.Slice lower upper none sp) pos) env) Q E s :=
  Subscript_ (wpAny_mono h (fun o s1 h1 => wpAny_mono h1 (fun i s2 h2 => tail_any h2.1 slot_list_getitem.lookup h2.2 rfl) fun _ _ x => x) fun _ _ x => x)
theorem Ev.from_ {k : Int} {sp : Pos} (h1 : EvSeq prog w A env e₁ O s true ds) (h2 : ∀ s', Ks s s' → Ev prog w A env e₂ O s' (.int k)) (hO : OIn O s.heap) (hk : 0 ≤ k) (hsz : ds.length ≤ 1000) :
    Ev prog w A env (.Subscript e₁ (.Slice (some e₂) none none sp) pos) O s (.list (ds.drop k.toNat)) := fun E Q hQ =>
  sub_slice (h1 E _ fun v s1 k1 r1 => wpAny_Slice (evalPart_some_step (h2 s1 k1 E _ fun u s2 k2 r2 => evalPart_none_step (evalPart_none_step (by
    obtain ⟨t, rfl⟩ := r2.intE
    obtain ⟨a, vs, n, rfl, q, r⟩ := r1.keeps k2.kp
    have hl := r.length
    have q' : IsL (s2.heap.push { cls := .type "slice", data := .fields #[.int k t, .none, .none] }) a vs.toArray n := Heap.get?_push_of_some _ q
    refine ⟨(IsL.isList q').typeIs, wpAny_getItem_list_slice (IsL.isList q') (Heap.IsSliceOf.new ..) (.int _ _) .none .none (by simp) ?_ (by simp [hl, sizeLine_eq]; omega)⟩
    have e : k = ((k.toNat : Nat) : Int) := by omega
    rw [e, slicePick_from', ← e]
    refine hQ _ _ ((k1.trans k2).trans ((Ks.push _ _).trans (Ks.push _ _))) ?_
    exact .lst (IsL.new _ _) ((hO.keeps (k1.trans k2).kp).keeps (Ks.push s2 _).kp).fresh ((r.drop _).keeps ((Ks.push _ _).trans (Ks.push _ _)).kp))))))
theorem Ev.upto {k : Int} {sp : Pos} (h1 : EvSeq prog w A env e₁ O s true ds) (h2 : ∀ s', Ks s s' → Ev prog w A env e₂ O s' (.int k)) (hO : OIn O s.heap) (hk : 0 ≤ k) (hsz : ds.length ≤ 1000) :
    Ev prog w A env (.Subscript e₁ (.Slice none (some e₂) none sp) pos) O s (.list (ds.take k.toNat)) := fun E Q hQ =>
  sub_slice (h1 E _ fun v s1 k1 r1 => wpAny_Slice (evalPart_none_step (evalPart_some_step (h2 s1 k1 E _ fun u s2 k2 r2 => evalPart_none_step (by
    obtain ⟨t, rfl⟩ := r2.intE
    obtain ⟨a, vs, n, rfl, q, r⟩ := r1.keeps k2.kp
    have hl := r.length
    have q' : IsL (s2.heap.push { cls := .type "slice", data := .fields #[.none, .int k t, .none] }) a vs.toArray n := Heap.get?_push_of_some _ q
    refine ⟨(IsL.isList q').typeIs, wpAny_getItem_list_slice (IsL.isList q') (Heap.IsSliceOf.new ..) .none (.int _ _) .none (by simp) ?_ (by simp [hl, sizeLine_eq]; omega)⟩
    have e : k = ((k.toNat : Nat) : Int) := by omega
    rw [e, slicePick_upto', ← e]
    refine hQ _ _ ((k1.trans k2).trans ((Ks.push _ _).trans (Ks.push _ _))) ?_
    exact .lst (IsL.new _ _) ((hO.keeps (k1.trans k2).kp).keeps (Ks.push s2 _).kp).fresh ((r.take _).keeps ((Ks.push _ _).trans (Ks.push _ _)).kp))))))
/-- a name of the module's or of the built-ins -/
noncomputable def EvG (prog : Program) (w : World) (A : Around) (env : Env) (e : Expr) (s : Shared) (v : Value) : Prop :=
  ∀ (E : Value → Shared → Prop) (Q : Value → Shared → Prop), Q v s → wpAny (model prog w) A (eval e env) Q E s
/-- the arguments are plain -/
noncomputable def PlainArgs (env : Env) (args : List Expr) : Prop := ∃ e r, args = e :: r ∧ starEach (e :: r) env = (false, eval e env) :: starEach r env ∧ (∀ pos, (backTo pos (starEach r env)).any (·.1) = false)
noncomputable def CallForm (env : Env) (f : Expr) (args : List Expr) (pos : Pos) : Prop := eval (.Call f args [] pos) env = (do callWith pos (← eval f env) [] (backTo pos (starEach args env)) (backToKw pos (keywordEach [] env)))
theorem callB {id : String} {args : List Expr} {E : Value → Shared → Prop} {Q : Value → Shared → Prop} (hg : EvG prog w A env f s (.builtin id)) (hp : PlainArgs env args) (hc : CallForm env f args pos)
    (h : wpAny (model prog w) A (spliced (backTo pos (starEach args env))) (fun vs s₁ => wpAny (model prog w) A (call (.builtin id) vs) Q E s₁) E s) :
    wpAny (model prog w) A (eval (.Call f args [] pos) env) Q E s := by
  obtain ⟨e, r, rfl, h1, h2⟩ := hp
  exact Call_ (he := hc) (hg E _ (PyProof.Rows.callWith_builtin1 h h1 (h2 pos)))
theorem callT {id : String} {args : List Expr} {E : Value → Shared → Prop} {Q : Value → Shared → Prop} (hg : EvG prog w A env f s (.type id)) (hp : PlainArgs env args) (hc : CallForm env f args pos)
    (h : wpAny (model prog w) A (spliced (backTo pos (starEach args env))) (fun vs s₁ => wpAny (model prog w) A (call (.type id) vs) Q E s₁) E s) :
    wpAny (model prog w) A (eval (.Call f args [] pos) env) Q E s := by
  obtain ⟨e, r, rfl, h1, h2⟩ := hp
  exact Call_ (he := hc) (hg E _ (PyProof.Rows.callWith_type1 h h1 (h2 pos)))
theorem callD {q : Addr} {o : Obj} {fd : FuncData} {args : List Expr} {E : Value → Shared → Prop} {Q : Value → Shared → Prop} (hg : EvG prog w A env f s (.ref q)) (hp : PlainArgs env args) (hc : CallForm env f args pos) (hdat : o.data = .func fd)
    (h : wpAny (model prog w) A (spliced (backTo pos (starEach args env))) (fun vs s₁ => s₁.heap.get? q = some o ∧ wpAny (model prog w) A (call (.ref q) vs) Q E s₁) E s) :
    wpAny (model prog w) A (eval (.Call f args [] pos) env) Q E s := by
  obtain ⟨e, r, rfl, h1, h2⟩ := hp
  exact Call_ (he := hc) (hg E _ (callWith_def hdat h h1))
/-- one argument -/
theorem arg1 {E : Value → Shared → Prop} {Q : List Value → Shared → Prop} (hp : starEach [e] env = [(false, eval e env)]) (h : wpAny (model prog w) A (eval e env) (fun v s₁ => Q [v] s₁) E s) :
    wpAny (model prog w) A (spliced (backTo pos (starEach [e] env))) Q E s := wpAny_items_cons (he := hp) (wpAny_mono h (fun v s1 h1 => wpAny_items_nil h1) fun _ _ x => x)
theorem Ev.len (hg : EvG prog w A env f s (.builtin "len")) (h1 : EvSeq prog w A env e O s isL ds) (hp : starEach [e] env = [(false, eval e env)]) (hc : CallForm env f [e] pos) (hsz : ds.length ≤ 100000) :
    Ev prog w A env (.Call f [e] [] pos) O s (.int ds.length) := fun E Q hQ =>
  callB hg ⟨e, [], rfl, hp, fun _ => rfl⟩ hc (arg1 hp (h1 E _ fun v s1 k1 r1 => by
    obtain ⟨a, vs, n, rfl, q, r⟩ := r1
    have hl := r.length
    cases isL with
    | true =>
      refine len_list (IsL.isList q) (by simp [hl]; omega) ?_
      have := hQ (.int vs.toArray.size (s1.toks + 1)) _ (k1.trans (Ks.tok s1 (s1.toks + 1 + 1))) (by simp only [List.size_toArray, hl]; exact .int _ _)
      exact this
    | false =>
      refine PyProof.Rows.len_tuple ⟨_, q, rfl, _, rfl⟩ (by simp [hl]; omega) ?_
      have := hQ (.int vs.toArray.size (s1.toks + 1)) _ (k1.trans (Ks.tok s1 (s1.toks + 1 + 1))) (by simp only [List.size_toArray, hl]; exact .int _ _)
      exact this))
theorem Ev.strI {i : Int} (hg : EvG prog w A env f s (.type "str")) (h1 : Ev prog w A env e O s (.int i)) (hp : starEach [e] env = [(false, eval e env)]) (hc : CallForm env f [e] pos) (hi : i.natAbs < 1000000) :
    Ev prog w A env (.Call f [e] [] pos) O s (.str (Str.ofString (toString i))) := fun E Q hQ =>
  callT hg ⟨e, [], rfl, hp, fun _ => rfl⟩ hc (arg1 hp (h1 E _ fun v s1 k1 r1 => by
    obtain ⟨t, rfl⟩ := r1.intE
    refine PySem.P.str_of_int ?_ (hQ _ _ (k1.trans (Ks.tok _ _)) (.str _ _))
    by_cases h0 : i.natAbs = 0
    · rw [h0]; decide +kernel
    · have := (Nat.log2_lt h0 (k := 40)).mpr (by omega)
      omega))
theorem Ev.tupOf (hg : EvG prog w A env f s (.type "tuple")) (h1 : EvSeq prog w A env e O s true ds) (hp : starEach [e] env = [(false, eval e env)]) (hc : CallForm env f [e] pos) (hsz : ds.length ≤ 1000) :
    Ev prog w A env (.Call f [e] [] pos) O s (.tuple ds) := fun E Q hQ =>
  callT hg ⟨e, [], rfl, hp, fun _ => rfl⟩ hc (arg1 hp (h1 E _ fun v s1 k1 r1 => by
    obtain ⟨a, vs, n, rfl, q, r⟩ := r1
    have hl := r.length
    refine call_tuple_list (IsL.isList q) (fun h' hk => ?_) (by simp [hl, sizeLine_eq]; omega)
    exact hQ _ _ ((k1.trans (Ks.heap s1 h' s1.toks hk)).trans (Ks.push _ _)) (.tup (IsT.new _ _) ((r.keeps hk).keeps fun _ _ q => Heap.get?_push_of_some _ q))))
theorem Ev.lstOf (hg : EvG prog w A env f s (.type "list")) (h1 : EvSeq prog w A env e O s true ds) (hp : starEach [e] env = [(false, eval e env)]) (hc : CallForm env f [e] pos) (hO : OIn O s.heap) (hsz : ds.length ≤ 1000) :
    Ev prog w A env (.Call f [e] [] pos) O s (.list ds) := fun E Q hQ =>
  callT hg ⟨e, [], rfl, hp, fun _ => rfl⟩ hc (arg1 hp (h1 E _ fun v s1 k1 r1 => by
    obtain ⟨a, vs, n, rfl, q, r⟩ := r1
    have hl := r.length
    refine call_list_seq a (.inl rfl) q rfl rfl (fun h' c' hk hn => ?_) (by simp [hl, sizeLine_eq]; omega)
    exact hQ _ _ (k1.trans (Ks.heap s1 h' s1.toks hk)) (.lst hn (hO.keeps k1.kp).fresh (r.keeps hk))))
theorem Ev.max2 {a b : Int} (hg : EvG prog w A env f s (.builtin "max")) (h1 : Ev prog w A env e₁ O s (.int a)) (h2 : ∀ s', Ks s s' → Ev prog w A env e₂ O s' (.int b)) (hA : A.handled = none)
    (hp : starEach [e₁, e₂] env = [(false, eval e₁ env), (false, eval e₂ env)]) (hp2 : starEach [e₂] env = [(false, eval e₂ env)]) (hc : CallForm env f [e₁, e₂] pos) :
    Ev prog w A env (.Call f [e₁, e₂] [] pos) O s (.int (if b > a then b else a)) := fun E Q hQ =>
  callB hg ⟨e₁, [e₂], rfl, by rw [hp, hp2], fun p => by rw [hp2]; rfl⟩ hc (wpAny_items_cons (he := by rw [hp, hp2]) (h1 E _ fun v s1 k1 r1 => arg1 hp2 (h2 s1 k1 E _ fun u s2 k2 r2 => by
    obtain ⟨t, rfl⟩ := r1.intE
    obtain ⟨t', rfl⟩ := r2.intE
    refine max_two_ints hA fun h' tk hk => ?_
    have := hQ (if b > a then .int b t' else .int a t) _ ((k1.trans k2).trans (Ks.heap s2 h' tk hk)) (by split <;> exact .int _ _)
    exact this)))
end
end Mine
-- B4
namespace Mine
open PySem PySem.W PyProof.Rows PySem.Calls
noncomputable def intsFrom (a : Int) : Nat → List D
  | 0 => []
  | n + 1 => .int a :: intsFrom (a + 1) n
/-- an iterator at I, the data that it still holds -/
inductive IterAt (P : Addr → Prop) (O : Addr → Prop) (h : Heap) (I : Addr) : List D → Prop
  | list {l : Addr} {vs : List Value} {n i : Nat} {ds : List D} : IsL h l vs.toArray n → P l → h.IsListIter I l i → i ≤ vs.length → RpAll O h (vs.drop i) ds → IterAt P O h I ds
  | tup {l : Addr} {vs : List Value} {n i : Nat} {ds : List D} : IsT h l vs.toArray n → h.IsTupleIter I l i → i ≤ vs.length → RpAll O h (vs.drop i) ds → IterAt P O h I ds
  | range {a : Int} {n : Nat} : IsRangeIter h I a n 1 → IterAt P O h I (intsFrom a n)
variable {P : Addr → Prop} {O O' : Addr → Prop} {h h' : Heap} {I : Addr} {d : D} {ds : List D}
theorem IterAt.there (x : IterAt P O h I ds) : ∃ o vs, h.get? I = some o ∧ o.data = .fields vs ∧ (o.cls = .type "list_iterator" ∨ o.cls = .type "tuple_iterator" ∨ o.cls = .type "range_iterator") := by
  induction x with
  | list _ _ i _ _ => obtain ⟨o, e, c, d⟩ := i; exact ⟨o, _, e, d, .inl c⟩
  | tup _ i _ _ => obtain ⟨o, e, c, d⟩ := i; exact ⟨o, _, e, d, .inr (.inl c)⟩
  | range r => exact ⟨_, _, r, rfl, .inr (.inr rfl)⟩
theorem IterAt.keeps (k : Kp h h') (x : IterAt P O h I ds) : IterAt P O h' I ds := by
  induction x with
  | list l p i b r => exact .list (k _ _ l) p (i.at fun o e => k _ _ e) b (r.keeps k)
  | tup l i b r => exact .tup (k _ _ l) (let ⟨o, e, q⟩ := i; ⟨o, k _ _ e, q⟩) b (r.keeps k)
  | range r => exact .range (k _ _ r)
theorem IterAt.go (g : Go O h O' h') (x : IterAt (fun a => ¬ O a) O h I ds) : IterAt (fun a => ¬ O' a) O' h' I ds := by
  have ne : ∀ {o : Obj} {vs : Array Value}, h.get? I = some o → o.data = .fields vs → o.cls ≠ .type "list" → h'.get? I = some o := fun e d c => g.sv _ _ e (not_mut_fields d c)
  induction x with
  | list l p i b r =>
    obtain ⟨o, e, c, d⟩ := i
    exact .list (g.sv _ _ l (not_mut_l p)) (fun q => p ((g.own _ q).resolve_right (by rw [l]; simp))) ⟨o, ne e d (by rw [c]; simp), c, d⟩ b (r.go g)
  | tup l i b r =>
    obtain ⟨o, e, c, d⟩ := i
    exact .tup (g.sv _ _ l not_mut_t) ⟨o, ne e d (by rw [c]; simp), c, d⟩ b (r.go g)
  | range r => exact .range (ne r rfl (by simp))
section
variable {prog : Program} {w : World} {A : Around} {E : Value → Shared → Prop} {s : Shared}
theorem ne_data {h : Heap} {I b : Addr} {o o' : Obj} (e : h.get? I = some o) (q : h.get? b = some o') (hd : o'.data ≠ o.data) : b ≠ I := fun z => hd (by subst z; rw [Option.some.inj (e.symm.trans q)])
theorem ne_fieldsL {h : Heap} {I b : Addr} {o : Obj} {vs us : Array Value} {n : Nat} (e : h.get? I = some o) (hd : o.data = .fields vs) (q : IsL h b us n) : b ≠ I := ne_data e q fun z => nomatch z.trans hd
theorem ne_fieldsT {h : Heap} {I b : Addr} {o : Obj} {vs us : Array Value} {n : Nat} (e : h.get? I = some o) (hd : o.data = .fields vs) (q : IsT h b us n) : b ≠ I := ne_data e q fun z => nomatch z.trans hd
theorem ne_list_iter {h : Heap} {l I : Addr} {vs : Array Value} {n : Nat} {i : Nat} {l' : Addr} (a : IsL h l vs n) (b : h.IsListIter I l' i) : l ≠ I := b.elim fun _ b => ne_fieldsL b.1 b.2.2 a
theorem ne_tup_iter {h : Heap} {l I : Addr} {vs : Array Value} {n : Nat} {i : Nat} {l' : Addr} (a : IsT h l vs n) (b : h.IsTupleIter I l' i) : l ≠ I := b.elim fun _ b => ne_fieldsT b.1 b.2.2 a
/-- data do not stand at an iterator -/
theorem RpAll.but {o : Obj} {vs : Array Value} {ws : List Value} (e : h.get? I = some o) (hd : o.data = .fields vs) (x : Heap.ExtBut I h h') (r : RpAll O h ws ds) : RpAll O h' ws ds :=
  r.trans (fun _ x => x) (fun b us n q _ => x b _ (ne_fieldsL e hd q) q) (fun b us n q => x b _ (ne_fieldsT e hd q) q)
theorem Rp.but {o : Obj} {vs : Array Value} {v : Value} {d : D} (e : h.get? I = some o) (hd : o.data = .fields vs) (x : Heap.ExtBut I h h') (r : Rp O h v d) : Rp O h' v d :=
  r.trans (fun _ x => x) (fun b us n q _ => x b _ (ne_fieldsL e hd q) q) (fun b us n q => x b _ (ne_fieldsT e hd q) q)
theorem drop_split {α : Type} {vs : List α} {i : Nat} {v : α} {ws : List α} (hw : vs.drop i = v :: ws) : i < vs.length ∧ vs[i]? = some v ∧ vs.drop (i + 1) = ws := by
  have hlt : i < vs.length := by
    rcases Nat.lt_or_ge i vs.length with q | q
    · exact q
    · rw [List.drop_eq_nil_of_le q] at hw; cases hw
  rw [List.drop_eq_getElem_cons hlt] at hw
  injection hw with h1 h2
  exact ⟨hlt, by rw [← h1]; simp [hlt], h2⟩
theorem RpAll.dropE {h : Heap} {vs : List Value} {i : Nat} (r : RpAll O h (vs.drop i) (d :: ds)) : ∃ v, i < vs.length ∧ vs[i]? = some v ∧ Rp O h v d ∧ RpAll O h (vs.drop (i + 1)) ds := by
  generalize hw : vs.drop i = ws at r
  revert hw
  refine r.consE fun v ws rv rs hw => ?_
  obtain ⟨hlt, hv, hd'⟩ := drop_split hw
  exact ⟨v, hlt, hv, rv, hd' ▸ rs⟩
theorem iter_next {Q : Option Value → Shared → Prop} (x : IterAt P O s.heap I (d :: ds))
    (h : ∀ v h' tk, Heap.ExtBut I s.heap h' → Rp O h' v d → IterAt P O h' I ds → Q (some v) { s with heap := h', toks := tk }) : wpAny (model prog w) A (pyNext (.ref I)) Q E s := by
  generalize hd : d :: ds = dds at x
  induction x with
  | @list l vs n i _ l p it b r =>
    subst hd
    have hne := ne_list_iter l it
    obtain ⟨o, eo, co, do'⟩ := id it
    obtain ⟨v, hlt, hv, rv, rs⟩ := r.dropE
    refine wpAny_pyNext_list_item it (IsL.isList l) (by rwa [List.getElem?_toArray]) fun h' it' sb => ?_
    exact h v h' s.toks sb.extBut (rv.but eo do' sb.extBut) (.list (sb.extBut _ _ hne l) p it' hlt (rs.but eo do' sb.extBut))
  | @tup l vs n i _ l it b r =>
    subst hd
    have hne := ne_tup_iter l it
    obtain ⟨o, eo, co, do'⟩ := id it
    obtain ⟨v, hlt, hv, rv, rs⟩ := r.dropE
    refine wpAny_pyNext_tuple_item it ⟨_, l, rfl, _, rfl⟩ (by rwa [List.getElem?_toArray]) fun h' it' sb => ?_
    exact h v h' s.toks sb.extBut (rv.but eo do' sb.extBut) (.tup (sb.extBut _ _ hne l) it' hlt (rs.but eo do' sb.extBut))
  | @range a n r =>
    cases n with
    | zero => cases hd
    | succ n =>
      simp only [intsFrom, List.cons.injEq] at hd
      obtain ⟨rfl, rfl⟩ := hd
      refine wpAny_pyNext_range_item r (by omega) fun h' it' sb => ?_
      have e : ((n + 1 : Nat) : Int) - 1 = n := by omega
      rw [e] at it'
      exact h _ h' _ sb.extBut (.int _ _) (.range it')
theorem iter_end {Q : Option Value → Shared → Prop} (hA : A.handled = none) (x : IterAt P O s.heap I []) (h : ∀ h', Heap.ExtBut I s.heap h' → Q none { s with heap := h' }) :
    wpAny (model prog w) A (pyNext (.ref I)) Q E s := by
  generalize hd : ([] : List D) = dds at x
  induction x with
  | @list l vs n i _ l p it b r =>
    subst hd
    have hlen := r.length
    simp at hlen
    exact wpAny_pyNext_list_end hA it (IsL.isList l) (by simp; omega) fun h' x => h h' x
  | @tup l vs n i _ l it b r =>
    subst hd
    have hlen := r.length
    simp at hlen
    exact wpAny_pyNext_tuple_end hA it ⟨_, l, rfl, _, rfl⟩ (by simp; omega) fun h' x => h h' x
  | @range a n r =>
    cases n with
    | succ n => cases hd
    | zero => exact wpAny_pyNext_range_end hA r (by simp) fun h' x => h h' x
theorem iter_self {Q : Value → Shared → Prop} (x : IterAt P O s.heap I ds) (h : Q (.ref I) s) : wpAny (model prog w) A (pyIter (.ref I)) Q E s := by
  induction x with
  | list _ _ it _ _ => exact wpAny_pyIter_listiter it h
  | tup _ it _ _ => exact wpAny_pyIter_tupleiter it h
  | range r => exact wpAny_pyIter_rangeiter r h
/-- what may be looped over -/
inductive ItRp (P : Addr → Prop) (O : Addr → Prop) (h : Heap) : Value → List D → Prop
  | list {l : Addr} {vs : List Value} {n : Nat} {ds : List D} : IsL h l vs.toArray n → P l → RpAll O h vs ds → ItRp P O h (.ref l) ds
  | tup {l : Addr} {vs : List Value} {n : Nat} {ds : List D} : IsT h l vs.toArray n → RpAll O h vs ds → ItRp P O h (.ref l) ds
  | range {r : Addr} {n : Int} {t u v : Tok} : IsRange h r 0 n 1 t u v → -1000000 ≤ n ∧ n ≤ 1000000 → ItRp P O h (.ref r) (intsFrom 0 n.toNat)
theorem iter_start {v : Value} {Q : Value → Shared → Prop} (x : ItRp P O s.heap v ds) (h : ∀ I h', Kp s.heap h' → s.heap.get? I = none → IterAt P O h' I ds → Q (.ref I) { s with heap := h' }) :
    wpAny (model prog w) A (pyIter v) Q E s := by
  have fresh : s.heap.get? s.heap.objs.size = none := Heap.get?_none_of_le (Nat.le_refl _)
  induction x with
  | list l p r =>
    refine wpAny_pyIter_list (IsL.isList l) (h _ _ (fun _ _ e => Heap.get?_push_of_some _ e) fresh ?_)
    exact .list (i := 0) (Heap.get?_push_of_some _ l) p ⟨_, Heap.get?_push_size _ rfl, rfl, rfl⟩ (Nat.zero_le _) (r.keeps fun _ _ e => Heap.get?_push_of_some _ e)
  | tup l r =>
    refine wpAny_pyIter_tuple ⟨_, l, rfl, _, rfl⟩ (h _ _ (fun _ _ e => Heap.get?_push_of_some _ e) fresh ?_)
    exact .tup (i := 0) (Heap.get?_push_of_some _ l) ⟨_, Heap.get?_push_size _ rfl, rfl, rfl⟩ (Nat.zero_le _) (r.keeps fun _ _ e => Heap.get?_push_of_some _ e)
  | @range r n t u v ir hn =>
    refine wpAny_pyIter_range ir (small_one (by decide) (by decide) (by omega) (by omega)) (h _ _ (fun _ _ e => Heap.get?_push_of_some _ e) fresh ?_)
    refine .range ?_
    have e : Builtin.Range.rangeSize 0 n 1 = ((n.toNat : Nat) : Int) := by rw [rangeSize_one]; split <;> omega
    rw [← e]
    exact Heap.get?_push_size _ rfl
/-- no tuple of the iterator's own -/
theorem letOwned {target : Expr} {v : Value} {Q : Unit → Shared → Prop} (x : IterAt P O s.heap I ds) (h : Q () s) : wpAny (model prog w) A (letOwnedTupleGo target (.ref I) v) Q E s := by
  obtain ⟨o, vs, e, d, c⟩ := x.there
  have key : wpAny (model prog w) A (letOwnedTupleGo (.Tuple [] 0 default) (.ref I) v) Q E s := by
    cases v with
    | ref a =>
      show wpAny _ _ (load I >>= _) _ _ s
      refine wpAny_bind (wpAny_load e ?_)
      rcases c with c | c | c <;> rw [c, d] <;> exact wpAny_pure h
    | _ => exact wpAny_pure h
  cases target <;> first | exact wpAny_pure h | exact key
end
end Mine
-- B5
namespace Mine
open PySem PySem.W PyProof.Rows PySem.Calls
section
variable {prog : Program} {w : World} {A : Around} {E : Value → Shared → Prop} {s : Shared}
/-- append to a plain list -/
theorem append_at {l : Addr} {items : Array Value} {n : Nat} {x : Value} {Q : Value → Shared → Prop} (hl : IsL s.heap l items n) (hsz : items.size ≤ 1000000)
    (h : ∀ h' n', IsL h' l (items.push x) n' → Heap.ExtBut l s.heap h' → Q .none { s with heap := h' }) : wpAny (model prog w) A (call (.builtin "list.append") [.ref l, x]) Q E s := by
  refine wpAny_call_entry slot_list_append (IsL.isList hl).typeIs entry_list_append ?_ (args_list_append _ _)
  show wpAny _ _ (updateSeq l (·.push x) >>= fun _ => ret .none) _ _ s
  refine wpAny_bind (wpAny_updateSeq hl rfl (wpAny_pure ⟨.none, rfl, h _ _ (IsL.update hl (·.push x)) (Heap.SameBut.update ..).extBut⟩) (by rw [sizeLine_eq]; omega) (by simp only [Array.size_push]; rw [sizeLine_eq]; omega))
/-- the loop of a comprehension, a turn at a time -/
theorem compLoop_any {elt target iter : Expr} {ifs : List Expr} {scope : Scope} {pos : Pos} {it acc : Value} {env : Env} {R : Result → Shared → Prop} (I : Nat → Shared → Prop)
    (turn : ∀ n s, I n s → wpAny (model prog w) A (pyNext it) (fun r s₁ => match r with
      | none => R (.ok .next) s₁
      | some v => wpAny (model prog w) A (letOwnedTupleGo target it v) (fun _ s₂ => wpAny (model prog w) A (assign target env v) (fun _ s₃ =>
          wpAny (model prog w) A (forIn ifs true fun c r => if r = true then do let ok ← isTrue c env (eval c env); pure (ForInStep.yield ok) else pure (ForInStep.yield r)) (fun ok s₄ =>
            if ok = true then wpAny (model prog w) A (eval elt env) (fun x s₅ => wpAny (model prog w) A (call (.builtin "list.append") [acc, x]) (fun _ s₆ => ∃ m, m < n ∧ I m s₆) (fun _ _ => False) s₅) (fun _ _ => False) s₄
            else ∃ m, m < n ∧ I m s₄) (fun _ _ => False) s₃) (fun _ _ => False) s₂) (fun _ _ => False) s₁) (fun _ _ => False) s)
    (n : Nat) (h : I n s) : codeAny (model prog w) A (.compLoop (.ListComp elt [⟨target, iter, ifs, 0⟩] scope pos) 0 it acc env) R s := by
  refine codeAny_loop rfl I (fun n s hI => ?_) n h
  show wpAny _ A ((compTurn (.ListComp elt [⟨target, iter, ifs, 0⟩] scope pos) 0 it acc env).onRaise (fun x => do noteFrame x env; theTreesLotGoes x)) _ _ s
  refine wpAny_noted ?_
  rw [compTurn_list]
  refine wpAny_mono (E := fun _ _ => False) (wpAny_bind (wpAny_standAt (wpAny_bind (wpAny_mono (turn n s hI) (fun r s₁ h₁ => ?_) fun _ _ h' => h')))) (fun _ _ x => x) fun _ _ x => x.elim
  cases r with
  | none => exact wpAny_pure h₁
  | some v =>
    refine wpAny_bind (wpAny_mono h₁ (fun _ s₂ h₂ => wpAny_bind (wpAny_mono h₂ (fun _ s₃ h₃ => wpAny_bind (wpAny_mono h₃ (fun ok s₄ h₄ => ?_) fun _ _ x => x)) fun _ _ x => x)) fun _ _ x => x)
    cases ok with
    | false => exact wpAny_pure ⟨rfl, h₄⟩
    | true => exact wpAny_bind (wpAny_bind (wpAny_mono h₄ (fun x s₅ h₅ => wpAny_bind (wpAny_mono h₅ (fun _ s₆ h₆ => wpAny_pure (wpAny_pure ⟨rfl, h₆⟩)) fun _ _ x => x)) fun _ _ x => x))
end
/-- heap and tokens alone turn, and of the heap what stood nowhere but at C -/
noncomputable def KsB (C : Addr) (s s' : Shared) : Prop := ∃ h' tk, s' = { s with heap := h', toks := tk } ∧ Heap.ExtBut C s.heap h'
theorem KsB.refl (C : Addr) (s : Shared) : KsB C s s := ⟨s.heap, s.toks, rfl, fun _ _ _ e => e⟩
theorem KsB.trans {C : Addr} {s s' s'' : Shared} (a : KsB C s s') (b : KsB C s' s'') : KsB C s s'' := by
  obtain ⟨h1, t1, rfl, k1⟩ := a
  obtain ⟨h2, t2, rfl, k2⟩ := b
  exact ⟨h2, t2, rfl, k1.trans k2⟩
theorem Ks.but {s s' : Shared} (C : Addr) (a : Ks s s') : KsB C s s' := by
  obtain ⟨h1, t1, rfl, k1⟩ := a
  exact ⟨h1, t1, rfl, fun b o _ e => k1 b o e⟩
theorem KsB.ext {C : Addr} {s s' : Shared} (a : KsB C s s') : Heap.ExtBut C s.heap s'.heap := by
  obtain ⟨h1, t1, rfl, k1⟩ := a
  exact k1
/-- a comprehension's turn on a datum: assign, the tests, the element -/
noncomputable def CompBody (prog : Program) (w : World) (A : Around) (cenv : Addr → Env) (target elt : Expr) (ifs : List Expr) (O : Addr → Prop) (hb : Heap) (g : D → Option (Option D)) : Prop :=
  ∀ (C : Addr) (s' : Shared) (m : Str → Option Value) (v : Value) (d : D) (r : Option D), hb.get? C = none → Kp hb s'.heap → OIn O s'.heap → s'.heap.Ns C m → Rp O s'.heap v d → g d = some r →
    ∀ (E : Value → Shared → Prop) (Qt : Value → Shared → Prop) (Qf : Shared → Prop),
      (∀ s'' m', s''.heap.Ns C m' → KsB C s' s'' → r = none → Qf s'') → (∀ x s'' m' dx, s''.heap.Ns C m' → KsB C s' s'' → r = some dx → Rp O s''.heap x dx → Qt x s'') →
      wpAny (model prog w) A (assign target (cenv C) v) (fun _ s₂ =>
        wpAny (model prog w) A (forIn ifs true fun c r => if r = true then do let ok ← isTrue c (cenv C) (eval c (cenv C)); pure (ForInStep.yield ok) else pure (ForInStep.yield r)) (fun ok s₃ =>
          if ok = true then wpAny (model prog w) A (eval elt (cenv C)) Qt E s₃ else Qf s₃) E s₂) E s'
noncomputable def compL (g : D → Option (Option D)) : List D → Option (List D)
  | [] => some []
  | d :: ds => match g d with
    | none => none
    | some r => (compL g ds).map fun rest => (match r with | none => rest | some x => x :: rest)
theorem ns_ne_data {h : Heap} {C I : Addr} {m : Str → Option Value} {o : Obj} (a : h.Ns C m) (e : h.get? I = some o) (d : ∀ es n, o.data ≠ .dict es n) : I ≠ C := by
  obtain ⟨o', es, ep, e', d', _⟩ := a
  exact ne_data e' e fun z => d _ _ (z.trans d')
theorem ns_ne_L {h : Heap} {C D : Addr} {m : Str → Option Value} {vs : Array Value} {n : Nat} (a : h.Ns C m) (b : IsL h D vs n) : D ≠ C := ns_ne_data a b fun _ _ z => nomatch z
theorem ns_ne_fields {h : Heap} {C I : Addr} {m : Str → Option Value} {o : Obj} {vs : Array Value} (a : h.Ns C m) (e : h.get? I = some o) (d : o.data = .fields vs) : I ≠ C := ns_ne_data a e fun _ _ z => nomatch d.symm.trans z
theorem ns_ne_LL {h : Heap} {C b : Addr} {m : Str → Option Value} {vs : Array Value} {n : Nat} (a : h.Ns C m) (q : IsL h b vs n) : b ≠ C := ns_ne_L a q
theorem ns_ne_T {h : Heap} {C b : Addr} {m : Str → Option Value} {vs : Array Value} {n : Nat} (a : h.Ns C m) (q : IsT h b vs n) : b ≠ C := ns_ne_data a q fun _ _ z => nomatch z
theorem RpAll.ns {O : Addr → Prop} {h h' : Heap} {C : Addr} {m : Str → Option Value} {vs : List Value} {ds : List D} (a : h.Ns C m) (x : Heap.ExtBut C h h') (r : RpAll O h vs ds) : RpAll O h' vs ds :=
  r.trans (fun _ x => x) (fun b us n q _ => x b _ (ns_ne_LL a q) q) (fun b us n q => x b _ (ns_ne_T a q) q)
/-- a store at an address that is no list's, no tuple's, not the iterator's -/
theorem IterAt.ns {P O : Addr → Prop} {h h' : Heap} {I C : Addr} {m : Str → Option Value} {ds : List D} (a : h.Ns C m) (x : Heap.ExtBut C h h') (it : IterAt P O h I ds) : IterAt P O h' I ds := by
  induction it with
  | list l p i b r => obtain ⟨o', e', q⟩ := i; exact .list (x _ _ (ns_ne_LL a l) l) p ⟨_, x _ _ (ns_ne_fields a e' q.2) e', q⟩ b (r.ns a x)
  | tup l i b r => obtain ⟨o', e', q⟩ := i; exact .tup (x _ _ (ns_ne_T a l) l) ⟨_, x _ _ (ns_ne_fields a e' q.2) e', q⟩ b (r.ns a x)
  | range r => exact .range (x _ _ (ns_ne_fields a r rfl) r)
/-- a store into a list that is neither the source nor among the data -/
theorem IterAt.acc {P O : Addr → Prop} {h h' : Heap} {I L : Addr} {ds : List D} {us : Array Value} {k : Nat} (a : IsL h L us k) (hP : ¬ P L) (hO : O L) (x : Heap.ExtBut L h h') (it : IterAt P O h I ds) : IterAt P O h' I ds := by
  have xI : ∀ {o : Obj} {vs : Array Value}, h.get? I = some o → o.data = .fields vs → h'.get? I = some o := fun e d => x _ _ (fun z => ne_fieldsL e d a z.symm) e
  have xT : ∀ {b : Addr} {us : Array Value} {n : Nat}, IsT h b us n → IsT h' b us n := fun q => x _ _ (fun z => by subst z; exact absurd (Value.type.inj (congrArg Obj.cls (Option.some.inj (q.symm.trans a)))) (by decide)) q
  have rr : ∀ {ws : List Value} {ds : List D}, RpAll O h ws ds → RpAll O h' ws ds := fun r =>
    r.trans (fun _ x => x) (fun b us n q nb => x b _ (fun z => nb (by rw [z]; exact hO)) q) (fun b us n q => xT q)
  induction it with
  | list l p i b r => obtain ⟨o', e', q⟩ := i; exact .list (x _ _ (fun z => hP (z ▸ p)) l) p ⟨_, xI e' q.2, q⟩ b (rr r)
  | tup l i b r => obtain ⟨o', e', q⟩ := i; exact .tup (xT l) ⟨_, xI e' q.2, q⟩ b (rr r)
  | range r => exact .range (xI r rfl)
theorem IterAt.weak {P P' O O' : Addr → Prop} {h : Heap} {I : Addr} {ds : List D} (hP : ∀ a vs n, IsL h a vs n → P a → P' a) (hr : ∀ {vs : List Value} {ds : List D}, RpAll O h vs ds → RpAll O' h vs ds) (it : IterAt P O h I ds) : IterAt P' O' h I ds := by
  induction it with
  | list l p i b r => exact .list l (hP _ _ _ l p) i b (hr r)
  | tup l i b r => exact .tup l i b (hr r)
  | range r => exact .range r
section
variable {prog : Program} {w : World} {A : Around} {E : Value → Shared → Prop} {env : Env}
/-- what the loop of a comprehension keeps -/
inductive CInv (O : Addr → Prop) (hb : Heap) (s₂ : Shared) (I D C : Addr) (g : PyData → Option (Option PyData)) (out : List PyData) : Nat → Shared → Prop
  | mk (rs done rest : List PyData) (h : Heap) (tk : Nat) (m : Str → Option Value) (ys : Array Value) (k : Nat) : Kp hb h → h.Ns C m → IsL h D ys k → RpAll (fun a => O a ∨ a = D) h ys.toList done → IterAt (fun a => a ≠ D) (fun a => O a ∨ a = D) h I rs →
    compL g rs = some rest → done ++ rest = out → ys.size + rs.length ≤ 1000 → CInv O hb s₂ I D C g out rs.length { s₂ with heap := h, toks := tk }
noncomputable def consO : Option PyData → List PyData → List PyData
  | none, r => r
  | some x, r => x :: r
theorem compL_nil {g : PyData → Option (Option PyData)} {r : List PyData} (h : compL g [] = some r) : r = [] := (Option.some.inj h).symm
theorem compL_cons {g : PyData → Option (Option PyData)} {d : PyData} {ds r : List PyData} (h : compL g (d :: ds) = some r) : ∃ x rest, g d = some x ∧ compL g ds = some rest ∧ r = consO x rest := by
  unfold compL at h
  cases hgd : g d with
  | none => rw [hgd] at h; cases h
  | some r =>
    rw [hgd] at h
    obtain ⟨rest', a, b⟩ := Option.map_eq_some_iff.mp h
    exact ⟨r, rest', rfl, a, b ▸ by cases r <;> rfl⟩
theorem but_kp {hb h h' : Heap} {I : Addr} (hI : hb.get? I = none) (kb : Kp hb h) (x : Heap.ExtBut I h h') : Kp hb h' := fun b o e => x b o (fun z => by subst z; exact nomatch hI.symm.trans e) (kb b o e)
theorem comp_turn {elt target : Expr} {ifs : List Expr} {cenv : Addr → Env} {O : Addr → Prop} {hb : Heap} {s₂ : Shared} {I D C : Addr} {out : List PyData} {g : PyData → Option (Option PyData)} {R : Shared → Prop}
    (hA : A.handled = none) (hI : hb.get? I = none) (hO : OIn O hb) (hDb : hb.get? D = none) (hCn : hb.get? C = none) (hDC : D ≠ C)
    (hbody : CompBody prog w A cenv target elt ifs (fun a => O a ∨ a = D) hb g)
    (hRR : ∀ h' tk m' ys n, Kp hb h' → h'.Ns C m' → IsL h' D ys n → RpAll (fun a => O a ∨ a = D) h' ys.toList out → R { s₂ with heap := h', toks := tk })
    (n : Nat) (s : Shared) (hinv : CInv O hb s₂ I D C g out n s) : wpAny (model prog w) A (pyNext (.ref I)) (fun r s₁ => match r with
      | none => R s₁
      | some v => wpAny (model prog w) A (letOwnedTupleGo target (.ref I) v) (fun _ s₂' => wpAny (model prog w) A (assign target (cenv C) v) (fun _ s₃ =>
          wpAny (model prog w) A (forIn ifs true fun c r => if r = true then do let ok ← isTrue c (cenv C) (eval c (cenv C)); pure (ForInStep.yield ok) else pure (ForInStep.yield r)) (fun ok s₄ =>
            if ok = true then wpAny (model prog w) A (eval elt (cenv C)) (fun x s₅ => wpAny (model prog w) A (call (.builtin "list.append") [.ref D, x]) (fun _ s₆ => ∃ m, m < n ∧ CInv O hb s₂ I D C g out m s₆) (fun _ _ => False) s₅) (fun _ _ => False) s₄
            else ∃ m, m < n ∧ CInv O hb s₂ I D C g out m s₄) (fun _ _ => False) s₃) (fun _ _ => False) s₂') (fun _ _ => False) s₁) (fun _ _ => False) s := by
  induction hinv with
  | mk rs done rest h tk m ys k kb hn hl hr hit hgr hout hz =>
  obtain ⟨oI, vI, eI, dI, cI⟩ := hit.there
  cases rs with
  | nil =>
    refine iter_end hA hit fun h' x => hRR h' tk m ys k (but_kp hI kb x) (hn.extBut x (ns_ne_fields hn eI dI).symm) (x _ _ (ne_fieldsL eI dI hl) hl) ?_
    rw [← hout, compL_nil hgr, List.append_nil]
    exact hr.but eI dI x
  | cons d rs =>
    obtain ⟨r, rest', hgd, hrest, hrest2⟩ := compL_cons hgr
    have hz' : ys.size + rs.length + 1 ≤ 1000 := hz
    clear hgr hz
    refine iter_next hit fun v h' tk' x rv it' => letOwned it' ?_
    have kb' : Kp hb h' := but_kp hI kb x
    have hn' : h'.Ns C m := hn.extBut x (ns_ne_fields hn eI dI).symm
    have hl' : IsL h' D ys k := x _ _ (ne_fieldsL eI dI hl) hl
    have hr' := hr.but eI dI x
    clear x hit hr hl hn kb eI dI cI
    have hO' : OIn (fun a => O a ∨ a = D) h' := fun a q => q.elim (hO.keeps kb' a) fun z => by subst z; rw [show h'.get? a = _ from hl']; rfl
    refine hbody C { s₂ with heap := h', toks := tk' } m v d r hCn kb' hO' hn' rv hgd _ _ _ (fun s₄ m₄ hn₄ ks₄ hx => ?_) fun xv s₄ m₄ dx hn₄ ks₄ hx rx => ?_
    · obtain ⟨h₄, t₄, rfl, e₄⟩ := ks₄
      subst hx
      exact ⟨rs.length, Nat.lt_succ_self _, .mk rs done rest' h₄ t₄ m₄ ys k (but_kp hCn kb' e₄) hn₄ (e₄ _ _ (ns_ne_L hn' hl') hl') (hr'.ns hn' e₄) (it'.ns hn' e₄) hrest (by rw [← hout, hrest2]; rfl) (by omega)⟩
    · obtain ⟨h₄, t₄, rfl, e₄⟩ := ks₄
      subst hx
      have hl₄ : IsL h₄ D ys k := e₄ _ _ (ns_ne_L hn' hl') hl'
      have hr₄ := hr'.ns hn' e₄
      have it₄ := it'.ns hn' e₄
      have kb₄ := but_kp hCn kb' e₄
      clear e₄ hn' hl' hr' kb' hO' it' rv
      refine append_at hl₄ (by omega) fun h₅ n₅ hl₅ e₅ => ?_
      have go := Go.store (O := fun a => O a ∨ a = D) hl₄ (.inr (.inr ⟨.inr rfl, rfl⟩)) e₅ hl₅
      exact ⟨rs.length, Nat.lt_succ_self _, .mk rs (done ++ [dx]) rest' h₅ t₄ m₄ _ n₅ (but_kp hDb kb₄ e₅) (hn₄.extBut e₅ hDC.symm) hl₅ (by rw [Array.toList_push]; exact (hr₄.append (.one rx)).go go)
        (it₄.acc hl₄ (fun q => q rfl) (.inr rfl) e₅) hrest (by rw [← hout, hrest2, List.append_assoc]; rfl) (by rw [Array.size_push]; omega)⟩
theorem comp_block {elt target iter : Expr} {ifs : List Expr} {scope : Scope} {cl : List (Str × Addr)} {pos : Pos} {O : Addr → Prop} {hb : Heap} {s₂ : Shared} {I : Addr} {ds out : List D} {g : D → Option (Option D)} {RR : Value → Addr → Result → Shared → Prop}
    (hA : A.handled = none) (it : IterAt (fun _ => True) O s₂.heap I ds) (hkb : Kp hb s₂.heap) (hI : hb.get? I = none) (hO : OIn O hb) (hcell : ∀ y ∈ scope.names, y.2 ≠ .cell) (hkind : scope.kind = .function) (hg : compL g ds = some out) (hsz : ds.length ≤ 1000)
    (hbody : ∀ D, hb.get? D = none → CompBody prog w A (fun C => compEnvC scope cl C env) target elt ifs (fun a => O a ∨ a = D) hb g)
    (hRR : ∀ D C h' tk m' ys n, Kp hb h' → hb.get? C = none → hb.get? D = none → h'.Ns C m' → IsL h' D ys n → RpAll (fun a => O a ∨ a = D) h' ys.toList out → RR (.ref D) C (.ok .next) { s₂ with heap := h', toks := tk }) :
    wpAny (model prog w) A (newList []) (fun acc s₃ => wpAny (model prog w) A (newFunctionEnv scope env.globals cl [] env.qual none .none (some env)) (fun cenv s₄ =>
      codeAny (model prog w) A (.compStart (.ListComp elt [⟨target, iter, ifs, 0⟩] scope pos) 0 (.ref I) acc { cenv with scope := relabel scope env }) (RR acc cenv.locals) s₄) E s₃) E s₂ := by
  refine wpAny_newList (wpAny_newFunctionEnv hcell (by intro y hy; simp at hy) (fun h₁ hns₁ hsb₁ => ?_) hkind) (Nat.zero_le _)
  dsimp only at hns₁ hsb₁ ⊢
  have hDC : s₂.heap.objs.size ≠ (s₂.heap.push { cls := .type "list", data := .seq ([] : List Value).toArray }).objs.size := by rw [Heap.size_push]; exact Nat.ne_of_lt (Nat.lt_succ_self _)
  have old : ∀ b o, s₂.heap.get? b = some o → h₁.get? b = some o := fun b o e => hsb₁.extBut b o (by rw [Heap.size_push]; exact Nat.ne_of_lt (Nat.lt_succ_of_lt (Heap.lt_size e))) (Heap.get?_push_of_some _ (Heap.get?_push_of_some _ e))
  have hDl : IsL h₁ s₂.heap.objs.size #[] 0 := hsb₁.extBut _ _ hDC (Heap.get?_push_of_some _ (IsL.new _ _))
  have hDn : s₂.heap.get? s₂.heap.objs.size = none := Heap.get?_none_of_le (Nat.le_refl _)
  have back : ∀ {a : Addr}, s₂.heap.get? a = none → hb.get? a = none := fun {a} e => by
    cases q : hb.get? a with
    | none => rfl
    | some o => exact nomatch e.symm.trans (hkb a o q)
  have hCn : hb.get? (s₂.heap.push { cls := .type "list", data := .seq ([] : List Value).toArray }).objs.size = none := back (Heap.get?_none_of_le (by rw [Heap.size_push]; exact Nat.le_succ _))
  clear hsb₁
  generalize (s₂.heap.push { cls := .type "list", data := .seq ([] : List Value).toArray }).objs.size = C at hns₁ hDC hCn ⊢
  generalize s₂.heap.objs.size = D at hDl hDC hDn ⊢
  have hDb := back hDn
  have it₁ : IterAt (fun a => a ≠ D) (fun a => O a ∨ a = D) h₁ I ds :=
    (it.weak (P' := fun a => a ≠ D) (O' := fun a => O a ∨ a = D) (fun a vs n e _ z => by subst z; exact nomatch hDn.symm.trans e) fun r =>
      r.go ⟨fun a o e _ => e, fun a o e => ⟨o, e⟩, fun a q => q.imp id fun z => by subst z; exact hDn⟩).keeps old
  have loop : ∀ tk : Nat, codeAny (model prog w) A (.compLoop (.ListComp elt [⟨target, iter, ifs, 0⟩] scope pos) 0 (.ref I) (.ref D) (compEnvC scope cl C env)) (RR (.ref D) C) { s₂ with heap := h₁, toks := tk } := fun tk =>
    compLoop_any _ (comp_turn (cenv := fun C => compEnvC scope cl C env) hA hI hO hDb hCn hDC (hbody D hDb) fun h' tk m' ys n k x y z => hRR D C h' tk m' ys n k hCn hDb x y z) ds.length
      (.mk ds [] out h₁ tk _ #[] 0 (fun b o e => old b o (hkb b o e)) hns₁ hDl .nil it₁ hg rfl (by simpa using hsz))
  exact codeAny_compStart_list (loop _) (iter_self (s := { s₂ with heap := h₁, toks := _ }) it₁ (loop _))
end
end Mine
-- B6
namespace Mine
open PySem PySem.W PyProof.Rows PySem.Calls
inductive Slot where
  | fro (d : D)
  | own (ds : List D)
noncomputable abbrev Vars := Nat → Option Slot
noncomputable def upd (ρ : Vars) (i : Nat) (s : Slot) : Vars := fun j => if j = i then some s else ρ j
noncomputable def updV (vl : Nat → Value) (i : Nat) (v : Value) : Nat → Value := fun j => if j = i then v else vl j
noncomputable def lim (caps : List Nat) (ρ : Vars) : Vars := fun i => if i ∈ caps then ρ i else none
/-- what the name loads -/
noncomputable def VarIs (env : Env) (h : Heap) (x : Str) (v : Value) : Prop :=
  (env.kindOf x = some .local ∧ ∃ m, h.Ns env.locals m ∧ m x = some v) ∨ ((env.kindOf x = some .cell ∨ env.kindOf x = some .free) ∧ ∃ c, env.cells.lookup x = some c ∧ h.IsCell c (some v))
theorem VarIs.keeps {env : Env} {h h' : Heap} {x : Str} {v : Value} (a : VarIs env h x v) (k : Kp h h') : VarIs env h' x v := by
  rcases a with ⟨a, m, n, e⟩ | ⟨a, c, l, n⟩
  · exact .inl ⟨a, m, n.keeps k, e⟩
  · exact .inr ⟨a, c, l, n.keeps k⟩
noncomputable def NmOk (nm : Nat → Str) : Prop := ∀ i, (nm i == ("__debug__" : Str)) = false ∧ (nm i == ("__classdict__" : Str)) = false
structure EnvOk (kd : Str → Option NameKind) (env : Env) : Prop where
  kind : env.scope.kind = .function
  gl : env.globals = mainGlobals
  bu : env.builtins = builtinsNs
  kinds : ∀ x, env.kindOf x = kd x
  cells : ∀ x, kd x = some .cell ∨ kd x = some .free → (env.cells.lookup x).isSome
/-- what the frame's names bear -/
structure Vw (nm : Nat → Str) (env : Env) (O : Addr → Prop) (h : Heap) (ρ : Vars) (vl : Nat → Value) : Prop where
  vars : ∀ i, (ρ i).isSome → VarIs env h (nm i) (vl i)
  fro : ∀ i d, ρ i = some (.fro d) → Rp O h (vl i) d
  own : ∀ i ds, ρ i = some (.own ds) → ∃ a vs n, vl i = .ref a ∧ IsL h a vs.toArray n ∧ RpAll O h vs ds
theorem Vw.keeps {nm : Nat → Str} {env : Env} {O : Addr → Prop} {h h' : Heap} {ρ : Vars} {vl : Nat → Value} (a : Vw nm env O h ρ vl) (k : Kp h h') : Vw nm env O h' ρ vl where
  vars := fun i q => (a.vars i q).keeps k
  fro := fun i d q => (a.fro i d q).keeps k
  own := fun i ds q => let ⟨b, vs, n, e, l, r⟩ := a.own i ds q; ⟨b, vs, n, e, k _ _ l, r.keeps k⟩
section
variable {prog : Program} {w : World} {A : Around} {env : Env} {O : Addr → Prop} {s : Shared} {d : D} {ds : List D} {e : Expr} {pos p : Pos} {nm : Nat → Str} {ρ : Vars} {vl : Nat → Value} {kd : Str → Option NameKind}
theorem load_var {x : Str} {v : Value} {E : Value → Shared → Prop} {Q : Value → Shared → Prop} (ek : env.scope.kind = .function) (a : VarIs env s.heap x v) (h1 : (x == ("__debug__" : Str)) = false) (h2 : (x == ("__classdict__" : Str)) = false) (h : Q v s) :
    wpAny (model prog w) A (eval (.Name x p) env) Q E s := by
  rcases a with ⟨a, m, n, e⟩ | ⟨a | a, c, l, n⟩
  · exact wpAny_Name (wpAny_loadName_local ek a n e h) h1
  · exact wpAny_Name (wpAny_loadName_cell ek a l n h) h1
  · exact wpAny_Name (wpAny_loadName_free ek a l n h h2) h1
theorem Ev.var {i : Nat} (ek : EnvOk kd env) (hn : NmOk nm) (V : Vw nm env O s.heap ρ vl) (hi : ρ i = some (.fro d)) : Ev prog w A env (.Name (nm i) p) O s d := fun E Q hQ =>
  load_var ek.kind (V.vars i (by rw [hi]; rfl)) (hn i).1 (hn i).2 (hQ _ _ (Ks.refl s) (V.fro i d hi))
theorem EvSeq.var {i : Nat} (ek : EnvOk kd env) (hn : NmOk nm) (V : Vw nm env O s.heap ρ vl) (hi : ρ i = some (.own ds)) : EvSeq prog w A env (.Name (nm i) p) O s true ds := fun E Q hQ =>
  load_var ek.kind (V.vars i (by rw [hi]; rfl)) (hn i).1 (hn i).2 (hQ _ _ (Ks.refl s) (let ⟨a, vs, n, e, l, r⟩ := V.own i ds hi; ⟨a, vs, n, e, l, r⟩))
/-- names of the module and of the built-ins -/
noncomputable def GlobOk (H : Heap) (gl : Str → Option Value) : Prop := ∃ mg mb, H.Ns mainGlobals mg ∧ H.Ns builtinsNs mb ∧ ∀ x v, gl x = some v → mg x = some v ∨ (mg x = none ∧ mb x = some v)
theorem EvG.of {H : Heap} {gl : Str → Option Value} {x : Str} {v : Value} (G : GlobOk H gl) (k : Kp H s.heap) (ek : EnvOk kd env) (hx : kd x = some .globalImplicit) (hv : gl x = some v) (hd : (x == ("__debug__" : Str)) = false) :
    EvG prog w A env (.Name x p) s v := fun E Q hQ => by
  obtain ⟨mg, mb, hg, hb, hr⟩ := G
  refine Name_function_global ek.kind ((ek.kinds x).trans hx) ?_ hd
  rcases hr x v hv with q | ⟨q, q'⟩
  · exact loadGlobal_global (by rw [ek.gl]; exact hg.keeps k) q hQ
  · exact loadGlobal_builtin (by rw [ek.gl]; exact hg.keeps k) q (by rw [ek.bu]; exact hb.keeps k) q' hQ
/-- truth -/
noncomputable def truthD : D → Option Bool
  | .none => some false
  | .bool b => some b
  | .list ds => if ds.length ≤ 100000 then some (!ds.isEmpty) else none
  | _ => none
theorem truthy_seq {v : Value} {E : Value → Shared → Prop} {Q : Bool → Shared → Prop} (r : SeqRp O s.heap v true ds) (hsz : ds.length ≤ 100000) (h : ∀ s', Ks s s' → Q (!ds.isEmpty) s') : wpAny (model prog w) A (truthy v) Q E s := by
  obtain ⟨a, vs, n, rfl, q, r⟩ := r
  have hl := r.length
  refine wpAny_truthy_list (IsL.isList q) (by simp [hl]; omega) ?_
  have e : vs.toArray.isEmpty = ds.isEmpty := by
    cases ds with
    | nil => rw [List.eq_nil_of_length_eq_zero hl]; rfl
    | cons d ds => cases vs with
      | nil => exact nomatch hl
      | cons _ _ => rfl
  rw [e]
  exact h _ (Ks.tok _ _)
theorem ifSome {α : Type} {c : Prop} [Decidable c] {a b : α} (h : (if c then some a else none) = some b) : c ∧ b = a := by
  by_cases q : c
  · rw [if_pos q] at h; exact ⟨q, (Option.some.inj h).symm⟩
  · rw [if_neg q] at h; exact nomatch h
theorem EvB.val {b : Bool} (h : Ev prog w A env e O s d) (ht : truthD d = some b) (he : ∀ t : Sem Value, PySem.isTrue e env t = (do let v ← t; standAt e.pos; holding [v] (truthy v))) : EvB prog w A env e s b := fun E Q hQ =>
  wpAny_isTrue_value (he := he _) (h E _ fun v s' k r => by
    cases d with
    | none => rw [show v = .none from r.is]; exact wpAny_pure (Option.some.inj ht ▸ hQ _ k)
    | bool c => rw [show v = .bool c from r.is]; exact wpAny_truthy_bool (Option.some.inj ht ▸ hQ _ k)
    | list ds =>
      obtain ⟨c, e⟩ := ifSome ht
      exact r.lstE fun a vs n l _ r => truthy_seq ⟨a, vs, n, rfl, l, r⟩ c fun s'' k' => e ▸ hQ _ (k.trans k')
    | _ => exact nomatch ht)
theorem EvB.valSeq (h : EvSeq prog w A env e O s true ds) (hsz : ds.length ≤ 100000) (he : ∀ t : Sem Value, PySem.isTrue e env t = (do let v ← t; standAt e.pos; holding [v] (truthy v))) : EvB prog w A env e s (!ds.isEmpty) := fun E Q hQ =>
  wpAny_isTrue_value (he := he _) (h E _ fun v s' k r => truthy_seq r hsz fun s'' k' => hQ _ (k.trans k'))
/-- a chain of two comparisons of ints -/
theorem EvB.chain {e₁ e₂ e₃ : Expr} {o₁ o₂ : CmpOp} {f g : Int → Int → Bool} {a b c : Int} (hf : Mine.cmpI o₁ = some f) (hg : Mine.cmpI o₂ = some g) (h1 : Ev prog w A env e₁ O s (.int a)) (h2 : ∀ s', Ks s s' → Ev prog w A env e₂ O s' (.int b))
    (h3 : ∀ s', Ks s s' → Ev prog w A env e₃ O s' (.int c)) (hm : lastMarks [o₁, o₂] [e₂, e₃] = false) (he : evalEach [e₂, e₃] env = [eval e₂ env, eval e₃ env]) : EvB prog w A env (.Compare e₁ [o₁, o₂] [e₂, e₃] pos) s (f a b && g b c) := fun E Q hQ =>
  isTrue_chain (rs := []) (hm := hm) (h1 E _ fun v s1 k1 r1 => test_link (h2 s1 k1 E _ fun u s2 k2 r2 => by
    obtain ⟨t, rfl⟩ := r1.intE; obtain ⟨t', rfl⟩ := r2.intE
    refine cmp_int hf (wpAny_truthy_bool ?_)
    cases hfb : f a b with
    | false => exact Eq.mp (congrArg (Q · s2) (show (f a b && g b c) = false by rw [hfb]; rfl)) (hQ s2 (k1.trans k2))
    | true =>
      refine test_last (h3 s2 (k1.trans k2) E _ fun x s3 k3 r3 => ?_)
      obtain ⟨t'', rfl⟩ := r3.intE
      refine cmp_int hg (wpAny_truthy_bool ?_)
      have := hQ s3 ((k1.trans k2).trans k3)
      rwa [hfb, Bool.true_and] at this))
/-- what is looped over -/
noncomputable def EvIt (prog : Program) (w : World) (A : Around) (env : Env) (e : Expr) (P : Addr → Prop) (O : Addr → Prop) (s : Shared) (ds : List D) : Prop :=
  ∀ (E : Value → Shared → Prop) (Q : Value → Shared → Prop), (∀ v s', Ks s s' → ItRp P O s'.heap v ds → Q v s') → wpAny (model prog w) A (eval e env) Q E s
theorem EvSeq.it {isL : Bool} (h : EvSeq prog w A env e O s isL ds) : EvIt prog w A env e (fun _ => True) O s ds := fun E Q hQ => h E Q fun v s' k r => hQ v s' k (by
  obtain ⟨a, vs, n, rfl, q, r⟩ := r
  cases isL with
  | true => exact .list q trivial r
  | false => exact .tup q r)
theorem Ev.itL (h : Ev prog w A env e O s (.list ds)) : EvIt prog w A env e (fun a => ¬ O a) O s ds := fun E Q hQ => h E Q fun v s' k r => hQ v s' k (r.lstE fun _ _ _ l n r => .list l n r)
theorem Ev.itT (h : Ev prog w A env e O s (.tuple ds)) : EvIt prog w A env e (fun a => ¬ O a) O s ds := fun E Q hQ => h E Q fun v s' k r => hQ v s' k (r.tupE fun _ _ _ l r => .tup l r)
theorem EvIt.range {P : Addr → Prop} {f : Expr} {n : Int} (hg : EvG prog w A env f s (.type "range")) (h1 : Ev prog w A env e O s (.int n)) (hp : starEach [e] env = [(false, eval e env)]) (hc : CallForm env f [e] pos) (hn : -1000000 ≤ n ∧ n ≤ 1000000) :
    EvIt prog w A env (.Call f [e] [] pos) P O s (intsFrom 0 n.toNat) := fun E Q hQ =>
  callT hg ⟨e, [], rfl, hp, fun _ => rfl⟩ hc (arg1 hp (h1 E _ fun v s1 k1 r1 => by
    obtain ⟨t, rfl⟩ := r1.intE
    exact call_range_1 (hQ _ _ (k1.trans (Ks.heap s1 _ _ fun _ _ e => Heap.get?_push_of_some _ e)) (.range (IsRange.new ..) hn))))
end
theorem closure_go {env : Env} (l : List (Str × NameKind)) : ∀ (cs : List (Str × Addr)), (∀ x, (x, NameKind.free) ∈ l → (env.cells.lookup x).isSome) → (∀ x c, cs.lookup x = some c → env.cells.lookup x = some c) →
      ∃ cl, (forIn l cs fun (x : Str × NameKind) cs => (do if x.2 == .free then do let c ← cellOf env x.1; pure (ForInStep.yield ((x.1, c) :: cs)) else pure (ForInStep.yield cs) : Sem _)) = pure cl ∧
        (∀ x c, cl.lookup x = some c → env.cells.lookup x = some c) ∧ (∀ x, (cs.lookup x).isSome ∨ (x, NameKind.free) ∈ l → (cl.lookup x).isSome) := by
  induction l with
  | nil => exact fun cs h1 h2 => ⟨cs, rfl, h2, fun x q => q.elim id fun q => nomatch q⟩
  | cons p l ih =>
    intro cs h1 h2
    rw [List.forIn_cons]
    have tl : ∀ y, (y, NameKind.free) ∈ l → (env.cells.lookup y).isSome := fun y hy => h1 y (.tail _ hy)
    by_cases hk : p.2 = .free
    · have hp : p = (p.1, .free) := by rw [← hk]
      obtain ⟨c, hc⟩ := Option.isSome_iff_exists.mp (h1 p.1 (hp ▸ .head _))
      have look : ∀ y, List.lookup y ((p.1, c) :: cs) = if y = p.1 then some c else List.lookup y cs := fun y => by
        rw [List.lookup_cons]
        cases hb : y == p.1 with
        | true => rw [if_pos (beq_iff_eq.mp hb)]
        | false => rw [if_neg (beq_eq_false_iff_ne.mp hb)]
      obtain ⟨cl, e1, e2, e3⟩ := ih ((p.1, c) :: cs) tl (fun y d q => by
        rw [look] at q
        by_cases hb : y = p.1
        · rw [if_pos hb] at q; rw [hb, hc, q]
        · rw [if_neg hb] at q; exact h2 y d q)
      refine ⟨cl, ?_, e2, fun y q => e3 y ?_⟩
      · have : cellOf env p.1 = pure c := by unfold cellOf; rw [hc]
        rw [← e1, hk, this]; rfl
      · rw [look]
        by_cases hb : y = p.1
        · rw [if_pos hb]; exact .inl rfl
        · rw [if_neg hb]; exact q.imp id fun q => (List.mem_cons.mp q).resolve_left fun z => hb (congrArg Prod.fst z)
    · obtain ⟨cl, e1, e2, e3⟩ := ih cs tl h2
      refine ⟨cl, ?_, e2, fun y q => e3 y (q.imp id fun q => (List.mem_cons.mp q).resolve_left fun z => hk (congrArg Prod.snd z).symm)⟩
      rw [if_neg (fun z => hk (beq_iff_eq.mp z)), ← e1]; rfl
/-- the cells that a comprehension closes over -/
theorem closure_ok {scope : Scope} {env : Env} (h : ∀ x, (x, NameKind.free) ∈ scope.names → (env.cells.lookup x).isSome) :
    ∃ cl, closureFor scope env = pure cl ∧ ∀ x, (x, NameKind.free) ∈ scope.names → cl.lookup x = env.cells.lookup x := by
  obtain ⟨cl, h1, h2, h3⟩ := closure_go scope.names [] h (fun x c q => nomatch q)
  exact ⟨cl, (congrArg (· >>= pure) h1 : _), fun x hx => (Option.isSome_iff_exists.mp (h3 x (.inr hx))).elim fun c hc => by rw [hc, h2 x c hc]⟩
section
variable {prog : Program} {w : World} {A : Around} {env : Env} {O : Addr → Prop} {s : Shared} {ds out : List D}
/-- a comprehension -/
theorem Ev.comp {elt target iter : Expr} {ifs : List Expr} {scope : Scope} {cl : List (Str × Addr)} {pos : Pos} {g : D → Option (Option D)} (hA : A.handled = none) (hit : EvIt prog w A env iter (fun _ => True) O s ds) (hO : OIn O s.heap)
    (hs : ∀ x, foldedSetIterable iter env x = pure x) (hclos : closureFor scope env = pure cl) (hcell : ∀ y ∈ scope.names, y.2 ≠ .cell) (hkind : scope.kind = .function)
    (hnames : ∀ x ∈ scope.names, x.2 = .local → scope.names.lookup x.1 = some .local) (hg : compL g ds = some out) (hsz : ds.length ≤ 1000)
    (hbody : ∀ s₁, Ks s s₁ → ∀ D, s₁.heap.get? D = none → CompBody prog w A (fun C => compEnvC scope cl C env) target elt ifs (fun a => O a ∨ a = D) s₁.heap g) :
    Ev prog w A env (.ListComp elt [⟨target, iter, ifs, 0⟩] scope pos) O s (.list out) := fun E Q hQ => by
  rw [eval_ListComp]
  refine wpAny_comprehension_free (use := none) rfl hs hclos hkind hnames ?_
  show wpAny (model prog w) A (eval iter env) _ E s
  refine hit E _ fun v s₁ k₁ r₁ => iter_start r₁ fun I h₂ kp₂ hI it => ?_
  refine comp_block (RR := fun acc C => compPost (model prog w) A E none Q acc C) (s₂ := { s₁ with heap := h₂ }) (hb := s₁.heap) hA it kp₂ hI (hO.keeps k₁.kp) hcell hkind hg hsz (hbody s₁ k₁) ?_
  intro D C h' tk m' ys n kb hC hD hn hl hr
  refine ⟨m', hn, fun h'' sb => ?_⟩
  have hl' : IsL h'' D ys.toList.toArray n := by rw [Array.toArray_toList]; exact sb.extBut _ _ (ns_ne_L hn hl) hl
  have kb' : Kp s₁.heap h'' := fun b o e => sb.extBut _ _ (fun z => by subst z; rw [hC] at e; cases e) (kb b o e)
  refine hQ _ _ (k₁.trans (Ks.heap s₁ h'' tk kb')) (.lst hl' (fun q => ?_) ((hr.ns hn sb.extBut).mono fun a q => .inl q))
  have := (hO.keeps k₁.kp) D q
  rw [hD] at this; cases this
end
end Mine
-- S1
namespace Mine
open PySem PySem.W PyProof.Rows PySem.Calls
/-- the tree's answer, when asks of n items are answered by lt -/
noncomputable def runT {α : Type} (n : Nat) (lt : Nat → Nat → Bool) : KasT α → Option α
  | .ret a => some a
  | .ask i j k => if i < n ∧ j < n then runT n lt (k (lt i j)) else none
noncomputable def insAll (x : Nat) : List Nat → List (List Nat)
  | [] => [[x]]
  | y :: ys => (x :: y :: ys) :: (insAll x ys).map (y :: ·)
noncomputable def permsAll : List Nat → List (List Nat)
  | [] => [[]]
  | x :: xs => (permsAll xs).flatMap (insAll x)
noncomputable def goodR (n : Nat) (r : List Nat) : Bool := match runT n (fun i j => decide (r.getD i 0 < r.getD j 0)) (kas_sort n) with
  | some p => p.toList.isPerm (List.range n) && p.toList.map (fun i => r.getD i 0) == List.range n
  | none => false
theorem good2 : (permsAll (List.range 2)).all (goodR 2) = true := by decide +kernel
theorem good3 : (permsAll (List.range 3)).all (goodR 3) = true := by decide +kernel
theorem good4 : (permsAll (List.range 4)).all (goodR 4) = true := by decide +kernel
theorem good5 : (permsAll (List.range 5)).all (goodR 5) = true := by decide +kernel
noncomputable def five : List (List Nat) := permsAll [1, 2, 3, 4, 5]
noncomputable def goodA (l : List Nat) : Bool := (insAll 0 l).all (goodR 6)
theorem all_td {α : Type} {p : α → Bool} (n : Nat) {l : List α} (h1 : (l.take n).all p = true) (h2 : (l.drop n).all p = true) : l.all p = true := by
  rw [← List.take_append_drop n l, List.all_append, h1, h2]; rfl
theorem six0 : ((five.drop 0).take 20).all goodA = true := by decide +kernel
theorem six1 : ((five.drop 20).take 20).all goodA = true := by decide +kernel
theorem six2 : ((five.drop 40).take 20).all goodA = true := by decide +kernel
theorem six3 : ((five.drop 60).take 20).all goodA = true := by decide +kernel
theorem six4 : ((five.drop 80).take 20).all goodA = true := by decide +kernel
theorem six5 : ((five.drop 100).take 20).all goodA = true := by decide +kernel
theorem six6 : (five.drop 120).all goodA = true := by decide +kernel
theorem six_step {i : Nat} (h1 : ((five.drop i).take 20).all goodA = true) (h2 : (five.drop (i + 20)).all goodA = true) : (five.drop i).all goodA = true := all_td 20 h1 (by rw [List.drop_drop]; exact h2)
theorem good6 : (permsAll (List.range 6)).all (goodR 6) = true := by
  show (five.flatMap (insAll 0)).all (goodR 6) = true
  rw [List.all_flatMap]
  exact six_step (i := 0) six0 (six_step (i := 20) six1 (six_step (i := 40) six2 (six_step (i := 60) six3 (six_step (i := 80) six4 (six_step (i := 100) six5 six6)))))
end Mine
-- S2
namespace Mine
open PySem PySem.W PyProof.Rows PySem.Calls PySem.SeqAt
noncomputable def LtAt (A : Around) (s : Shared) (y x : Value) (b : Bool) : Prop :=
  ∀ (prog : Program) (w : World) (E : Value → Shared → Prop) (Q : Value → Shared → Prop), Q (.bool b) s → wpAny (model prog w) A (richCompare .Lt y x) Q E s
noncomputable def LexAt (A : Around) (s : Shared) (fin : Bool) : List (Value × Value) → Bool → Prop
  | [], r => r = fin
  | (p, q) :: rest, r => ∃ e, EqAt A s p q e ∧ (e = true → LexAt A s fin rest r) ∧ (e = false → LtAt A s p q r)
theorem tuple_lt (l b : Addr) (items items2 : Array Value) (n n2 : Nat) (dd dd2 : Option Addr) (sl sl2 : Array (Option Value)) :
    Meets (Builtin.«tuple.__lt__» ⟨[.ref l, .ref b], []⟩)
      (fun A R s => s.heap.get? l = some { cls := .type "tuple", dict := dd, data := .seq items n, slots := sl } ∧ s.heap.get? b = some { cls := .type "tuple", dict := dd2, data := .seq items2 n2, slots := sl2 } ∧
        ∃ r, LexAt A.in1 s (decide (items.size < items2.size)) (items.toList.zip items2.toList) r ∧ R (.ok (.ret (.bool r))) s) :=
  .of_wp fun prog w A R s h => by
    obtain ⟨hp, g, d, tk, os⟩ := s; obtain ⟨hl, hb, r, he, h⟩ := h
    have f2 := AutoSeq1.sub_tuple_tuple
    wp_walk using wpAny_loadPart' hl, wpAny_loadPart' hb, wpAny_forIn_list _ (fun rest b s' => b.1 = none ∧ s' = ⟨hp, g, d, tk, os⟩ ∧ LexAt A.in1 ⟨hp, g, d, tk, os⟩ (decide (items.size < items2.size)) rest r) _
    case turn =>
      rintro ⟨y, x⟩ rest b s' ⟨hb', rfl, hR⟩
      obtain ⟨e, h1, h2, h3⟩ := hR
      refine wpAny_bind (h1 prog w _ _ ?_)
      cases e with
      | true =>
        wp_walk
        exact ⟨rfl, rfl, h2 rfl⟩
      | false =>
        have h4 := h3 rfl
        rw [if_pos (by decide)]
        dsimp only
        exact wpAny_bind (wpAny_rule (wpAny_bind (h4 prog w _ _ (wpAny_bind (wpAny_pure (wpAny_pure (wpAny_pure ⟨_, rfl, h⟩)))))))
    case fin =>
      rintro ⟨b1, b2⟩ s' ⟨hb', rfl, hR⟩
      simp only at hb'
      subst hb'
      have hR' : r = decide (items.size < items2.size) := hR
      wp_walk
      refine ⟨_, rfl, ?_⟩
      rw [hR'] at h
      exact h
    case h =>
      exact ⟨rfl, rfl, he⟩
section
variable {A : Around} {s : Shared}
theorem LtAt.tuples {l b : Addr} {items items2 : Array Value} {n n2 : Nat} {r : Bool} (hl : IsT s.heap l items n) (hb : IsT s.heap b items2 n2) (hu : A.units < cLine) (h : LexAt A.in1 s (decide (items.size < items2.size)) (items.toList.zip items2.toList) r) : LtAt A s (.ref l) (.ref b) r := fun prog w E Q hq =>
  richCompare_meets_room (op := .Lt) ⟨_, hl, rfl⟩ ⟨_, hb, rfl⟩ PySem.F.slot_tuple_lt PySem.F.entry_tuple_lt (PySem.F.args_tuple_lt_2 _ _) (tuple_lt l b items items2 n n2 none none #[] #[])
    ⟨hl, hb, r, h, show Value.bool r ≠ Value.notImplemented ∧ Q (.bool r) s from ⟨(fun x => nomatch x), hq⟩⟩ hu
theorem LtAt.ints (a b : Int) (t u : Tok) : LtAt A s (.int a t) (.int b u) (decide (a < b)) := fun prog w E Q h => lt_int h
end
open Builtin in
theorem loop_lt (l b : Addr) (items items2 : Array Value) (n n2 : Nat) (hsz : items.size = items2.size) (k : Nat) :
    ∀ i : Nat, items.size - i = k → Meets (Builtin.«list.__eq__.loop» ⟨[.ref l, .ref b, rawInt i, rawInt 0], []⟩)
      (fun A R s => IsL s.heap l items n ∧ IsL s.heap b items2 n2 ∧ ∃ r, LexAt A.in1 s false ((items.toList.zip items2.toList).drop i) r ∧ R (.ok (.ret (.bool r))) s) := by
  induction k with
  | zero =>
    intro i hk prog w A R s h
    obtain ⟨hp, g, d, tk, os⟩ := s; obtain ⟨hl, hb, r, he, h⟩ := h
    wp_walk using wpAny_loadPart' hl, wpAny_loadPart' hb
    have hi1 : items[((i : Nat) : Int).toNat]? = none := by simp; omega
    have hi2 : items2[((i : Nat) : Int).toNat]? = none := by simp; omega
    have hd : (items.toList.zip items2.toList).drop i = [] := by simp; omega
    rw [hd] at he
    have he' : r = false := he
    rw [hi1, hi2]
    wp_walk using wpAny_loadPart' hl, wpAny_loadPart' hb
    show R (.ok (.ret (.bool (decide (items.size < items2.size))))) _
    rw [hsz]
    subst he'
    simpa using h
  | succ k ih =>
    intro i hk prog w A R s h
    obtain ⟨hp, g, d, tk, os⟩ := s; obtain ⟨hl, hb, r, he, h⟩ := h
    wp_walk using wpAny_loadPart' hl, wpAny_loadPart' hb
    have hlt : i < items.size := by omega
    have hlt2 : i < items2.size := by omega
    have hi1 : items[((i : Nat) : Int).toNat]? = some items[i] := by simp [hlt]
    have hi2 : items2[((i : Nat) : Int).toNat]? = some items2[i] := by simp [hlt2]
    have hd : (items.toList.zip items2.toList).drop i = (items[i], items2[i]) :: (items.toList.zip items2.toList).drop (i + 1) := by
      rw [List.drop_eq_getElem_cons (by simp; omega)]; simp
    have hc : ((i : Int) + 1) = ((i + 1 : Nat) : Int) := by push_cast; rfl
    rw [hd] at he
    obtain ⟨e, e1, e2, e3⟩ := he
    rw [hi1, hi2]
    refine wpAny_bind (e1 prog w _ _ ?_)
    cases e with
    | true =>
      wp_walk
      rw [hc]
      exact ⟨plainId_quiet MeetsSeq3.plain_eq_loop _, codeAny_builtin MeetsSeq3.entry_eq_loop (by
        rw [Around.under_plainId MeetsSeq3.plain_eq_loop _]
        exact ih (i + 1) (by omega) prog w A R _ ⟨hl, hb, r, e2 rfl, h⟩)⟩
    | false =>
      have h4 := e3 rfl
      wp_walk using wpAny_loadPart' hl, wpAny_loadPart' hb
      rw [hi1, hi2]
      exact wpAny_bind (h4 prog w _ _ (wpAny_pure h))
open Builtin in
theorem list_lt (l b : Addr) (items items2 : Array Value) (n n2 : Nat) (hsz : items.size = items2.size) :
    Meets (Builtin.«list.__lt__» ⟨[.ref l, .ref b], []⟩)
      (fun A R s => IsL s.heap l items n ∧ IsL s.heap b items2 n2 ∧ ∃ r, LexAt A.in1 s false (items.toList.zip items2.toList) r ∧ R (.ok (.ret (.bool r))) s) := by
  intro prog w A R s h
  obtain ⟨hp, g, d, tk, os⟩ := s; obtain ⟨hl, hb, r, he, h⟩ := h
  have f3 := AutoSeq1.sub_list_list
  wp_walk using wpAny_loadPart' hl, wpAny_loadPart' hb
  exact ⟨plainId_quiet MeetsSeq3.plain_eq_loop _, codeAny_builtin MeetsSeq3.entry_eq_loop (by
    rw [Around.under_plainId MeetsSeq3.plain_eq_loop _]
    exact loop_lt l b items items2 n n2 hsz _ 0 rfl prog w A R _ ⟨hl, hb, r, he, h⟩)⟩
/-- the sort's own question of two lists -/
theorem oneLt_lists {prog : Program} {w : World} {A : Around} {s : Shared} {E : Value → Shared → Prop} {Q : Bool → Shared → Prop} {l b : Addr} {items items2 : Array Value} {n n2 : Nat} {r : Bool} (hl : IsL s.heap l items n) (hb : IsL s.heap b items2 n2) (hu : A.units < cLine) (hsz : items.size = items2.size)
    (he : LexAt A.in1 s false (items.toList.zip items2.toList) r) (h : Q r s) : wpAny (model prog w) A (oneLt' true (.ref l) (.ref b)) Q E s := by
  rw [oneLt'_eq]
  simp only [if_true]
  refine wpAny_bind (wpAny_cRoomFor hu ?_)
  refine wpAny_bind (wpAny_callSpecialIfBound?_slot (T := "list") ⟨_, hl, rfl⟩ PySem.F.slot_list_lt (call_meets PySem.F.slot_list_lt ⟨_, hl, rfl⟩ PySem.F.entry_list_lt (PySem.F.args_list_lt_2 _ _) (list_lt l b items items2 n n2 hsz) ⟨hl, hb, r, he, ?_⟩))
  exact wpAny_truthy_bool h
end Mine
-- S3
namespace Mine
open PySem PySem.W PyProof.Rows PySem.Calls PySem.SeqAt
mutual
/-- Python's < on nested ints -/
noncomputable def ltD : D → D → Bool
  | .int a, .int b => decide (a < b)
  | .tuple xs, .tuple ys => ltL xs ys
  | .list xs, .list ys => ltL xs ys
  | _, _ => false
noncomputable def ltL : List D → List D → Bool
  | [], [] => false
  | [], _ :: _ => true
  | _ :: _, [] => false
  | x :: xs, y :: ys => if PyData.eqv x y then ltL xs ys else ltD x y
end
mutual
noncomputable def okLt : D → D → Bool
  | .int _, .int _ => true
  | .tuple xs, .tuple ys => okLtL xs ys
  | _, _ => false
noncomputable def okLtL : List D → List D → Bool
  | x :: xs, y :: ys => okLt x y && okLtL xs ys
  | _, _ => true
end
theorem eqAt_rp {A : Around} {O : Addr → Prop} {s : Shared} {v u : Value} {a b : D} (r : Rp O s.heap v a) (q : Rp O s.heap u b) (ha : a.canLay0 = true) (hb : b.canLay0 = true) (hu : A.units + a.depth ≤ 9800) : EqAt A s v u (PyData.eqv a b) := by
  obtain ⟨as, ra⟩ := r.reads
  obtain ⟨bs, rb⟩ := q.reads
  exact SeqAt.eqAt_reads a b A s v u as bs ra rb ha hb (by have := cLine_is; omega)
theorem units_in1' (A : Around) : A.in1.units = A.units + 1 := units_in1 A
theorem canLay_cons {x : D} {xs : List D} (h : PyData.canLayAll0 (x :: xs) = true) : x.canLay0 = true ∧ PyData.canLayAll0 xs = true := by
  simpa only [PyData.canLayAll0, Bool.and_eq_true] using h
theorem LexAt.step {A : Around} {s : Shared} {fin : Bool} {x y : D} {xs ys : List D} {v u : Value} {vs us : List Value} (e : EqAt A s v u (PyData.eqv x y)) (h1 : LexAt A s fin (vs.zip us) (ltL xs ys)) (h2 : LtAt A s v u (ltD x y)) :
    LexAt A s fin ((v :: vs).zip (u :: us)) (ltL (x :: xs) (y :: ys)) :=
  ⟨PyData.eqv x y, e, fun q => by show LexAt A s fin (vs.zip us) (if PyData.eqv x y = true then ltL xs ys else ltD x y); rw [if_pos q]; exact h1,
    fun q => by show LtAt A s v u (if PyData.eqv x y = true then ltL xs ys else ltD x y); rw [if_neg (by rw [q]; exact Bool.false_ne_true)]; exact h2⟩
theorem zip_nilL {vs us : List Value} (h : vs.length = 0) : vs.zip us = [] := by rw [List.eq_nil_of_length_eq_zero h]; rfl
theorem zip_nilR {vs us : List Value} (h : us.length = 0) : vs.zip us = [] := by rw [List.eq_nil_of_length_eq_zero h]; exact List.zip_nil_right
mutual
theorem lt_rp : ∀ (a b : D) {A : Around} {O : Addr → Prop} {s : Shared} {v u : Value}, Rp O s.heap v a → Rp O s.heap u b → okLt a b = true → a.canLay0 = true → b.canLay0 = true → A.units + a.depth ≤ 9800 → LtAt A s v u (ltD a b)
  | .int a, b, A, O, s, v, u, r, q, h, _, _, _ => by
    obtain ⟨t, rfl⟩ := r.is
    cases b with
    | int b => obtain ⟨t', rfl⟩ := q.is; exact LtAt.ints _ _ _ _
    | _ => exact nomatch h
  | .tuple xs, b, A, O, s, v, u, r, q, h, ha, hb, hu => by
    cases b with
    | tuple ys =>
      refine r.tupE fun l vs n i1 r1 => q.tupE fun l' us n' i2 r2 => LtAt.tuples i1 i2 (by have := cLine_is; omega) ?_
      have e : (decide (vs.toArray.size < us.toArray.size)) = decide (xs.length < ys.length) := by rw [← r1.length, ← r2.length]; rfl
      rw [e]
      exact lex_rp xs ys r1 r2 h ha hb (by rw [units_in1']; simp only [PyData.depth] at hu; omega)
    | _ => exact nomatch h
  | .none, _, _, _, _, _, _, _, _, h, _, _, _ => nomatch h
  | .bool _, _, _, _, _, _, _, _, _, h, _, _, _ => nomatch h
  | .str _, _, _, _, _, _, _, _, _, h, _, _, _ => nomatch h
  | .list _, _, _, _, _, _, _, _, _, h, _, _, _ => nomatch h
  | .dict _, _, _, _, _, _, _, _, _, h, _, _, _ => nomatch h
theorem lex_rp : ∀ (xs ys : List D) {A : Around} {O : Addr → Prop} {s : Shared} {vs us : List Value}, RpAll O s.heap vs xs → RpAll O s.heap us ys → okLtL xs ys = true → PyData.canLayAll0 xs = true → PyData.canLayAll0 ys = true →
    A.units + PyData.depthAll xs ≤ 9800 → LexAt A s (decide (xs.length < ys.length)) (vs.zip us) (ltL xs ys)
  | [], [], A, O, s, vs, us, r, q, _, _, _, _ => by rw [zip_nilL r.length]; rfl
  | [], y :: ys, A, O, s, vs, us, r, q, _, _, _, _ => by rw [zip_nilL r.length]; rfl
  | x :: xs, [], A, O, s, vs, us, r, q, _, _, _, _ => by rw [zip_nilR q.length]; rfl
  | x :: xs, y :: ys, A, O, s, vs, us, r, q, h, ha, hb, hu => by
    have h := (Bool.and_eq_true_iff.mp h : okLt x y = true ∧ okLtL xs ys = true)
    have ha := canLay_cons ha
    have hb := canLay_cons hb
    have hu1 : A.units + x.depth ≤ 9800 := by simp only [PyData.depthAll] at hu; omega
    have hu2 : A.units + PyData.depthAll xs ≤ 9800 := by simp only [PyData.depthAll] at hu; omega
    have ed : decide ((x :: xs).length < (y :: ys).length) = decide (xs.length < ys.length) := by rw [List.length_cons, List.length_cons]; exact decide_eq_decide.mpr Nat.add_lt_add_iff_right
    rw [ed]
    exact r.consE fun v vs r1 r2 => q.consE fun u us q1 q2 => LexAt.step (eqAt_rp r1 q1 ha.1 hb.1 hu1) (lex_rp xs ys r2 q2 h.2 ha.2 hb.2 hu2) (lt_rp x y r1 q1 h.1 ha.1 hb.1 hu1)
end
theorem eqAt_lex_ints {A : Around} {s : Shared} (xs : List D) : ∀ (ys : List D) {O : Addr → Prop} {vs us : List Value}, RpAll O s.heap vs xs → RpAll O s.heap us ys → xs.length = ys.length → (∀ x ∈ xs, ∃ i, x = .int i) → (∀ x ∈ ys, ∃ i, x = .int i) →
    A.units ≤ 9700 → LexAt A s false (vs.zip us) (ltL xs ys) := by
  induction xs with
  | nil =>
    intro ys O vs us r q e _ _ _
    rw [zip_nilL r.length, List.eq_nil_of_length_eq_zero e.symm]; rfl
  | cons x xs ih =>
    intro ys O vs us r q e hx hy hu
    cases ys with
    | nil => exact nomatch e
    | cons y ys =>
      obtain ⟨i, rfl⟩ := hx x (.head _)
      obtain ⟨j, rfl⟩ := hy y (.head _)
      have d : ∀ k : Int, (PyData.int k).depth ≤ 1 := fun k => by simp only [PyData.depth]; omega
      have d := d i
      exact r.consE fun v vs r1 r2 => q.consE fun u us q1 q2 => LexAt.step (eqAt_rp r1 q1 rfl rfl (by omega)) (ih ys r2 q2 (Nat.succ.inj e) (fun x m => hx x (.tail _ m)) (fun x m => hy x (.tail _ m)) hu)
        (lt_rp _ _ r1 q1 rfl rfl rfl (by omega))
/-- pairs of a first and an int: the firsts are tuples, or lists of ints of one length -/
inductive Pair2 (m : Nat) : Bool → D → Prop
  | tup (xs : List D) (n : Int) : Pair2 m false (.tuple [.tuple xs, .int n])
  | lst (xs : List D) (n : Int) : xs.length = m → (∀ x ∈ xs, ∃ i, x = .int i) → Pair2 m true (.tuple [.list xs, .int n])
section
variable {prog : Program} {w : World} {A : Around} {O : Addr → Prop} {s : Shared} {E : Value → Shared → Prop}
theorem eqAt_pair {x y : Value} {e : Bool} {b fin : Bool} {Q : Bool → Shared → Prop} {r : List (Value × Value)} {i : Nat} (h : EqAt A s x y e) (h1 : e = true → KatLex prog w A b fin Q r (i + 1) s)
    (h2 : e = false → wpAny (model prog w) A (oneLt' (b && i == 0) x y) Q (fun _ _ => False) s) : KatLex prog w A b fin Q ((x, y) :: r) i s :=
  kat_cons (h prog w _ _ (kat_go (fun e' => kat_yes (h1 (by assumption))) (fun e' => kat_no (h2 (by assumption)))))
theorem one_of_lt {x y : Value} {c : Bool} {Q : Bool → Shared → Prop} (h : LtAt A s x y c) (hq : Q c s) : wpAny (model prog w) A (oneLt' false x y) Q (fun _ _ => False) s :=
  kat_one x y (h prog w _ _ (show PySem.W.BoolBack Q (.bool c) s from hq))
@[elab_as_elim] theorem Rp.pairE {h : Heap} {v : Value} {x : D} {n : Int} {P : Value → Prop} (r : Rp O h v (.tuple [x, .int n])) (k : ∀ (a : Addr) (u : Value) (t : Tok) (m : Nat), IsT h a [u, .int n t].toArray m → Rp O h u x → P (.ref a)) : P v := by
  refine r.tupE fun a vs m i r => ?_
  revert i
  refine r.consE fun u vs r1 r => r.consE fun u' vs r2 r => r.nilE ?_
  obtain ⟨t, rfl⟩ := r2.is
  exact fun i => k a u t m i r1
noncomputable def bx (b : Bool) (xs : List D) : D := if b then .list xs else .tuple xs
theorem Pair2.inv {m : Nat} {b : Bool} {x : D} (p : Pair2 m b x) : ∃ xs n, x = .tuple [bx b xs, .int n] ∧ (b = true → xs.length = m ∧ ∀ x ∈ xs, ∃ i, x = .int i) := by
  induction p with
  | tup xs n => exact ⟨xs, n, rfl, fun e => nomatch e⟩
  | lst xs n l j => exact ⟨xs, n, rfl, fun _ => ⟨l, j⟩⟩
theorem layOk_pair {x : D} {n : Int} (h : layOk (.tuple [x, .int n]) = true) : x.canLay0 = true ∧ x.depth ≤ 40 := by
  have q := layOk_iff h
  have q1 := canLay_cons q.1
  have q2 := q.2
  simp only [PyData.depth, PyData.depthAll] at q2
  exact ⟨q1.1, by omega⟩
theorem item_lt {m : Nat} {b : Bool} {x y : D} {v u : Value} {Q : Bool → Shared → Prop} (px : Pair2 m b x) (py : Pair2 m b y) (r : Rp O s.heap v x) (q : Rp O s.heap u y) (ok : b = false → okLt x y = true) (hx : layOk x = true) (hy : layOk y = true)
    (hu : A.units ≤ 9100) (h : Q (ltD x y) s) : wpAny (model prog w) A (keyLt' (tuples' b) v u) Q E s := by
  obtain ⟨xs, n, rfl, jx⟩ := px.inv
  obtain ⟨ys, k, rfl, jy⟩ := py.inv
  have hx := layOk_pair hx
  have hy := layOk_pair hy
  have ok : b = false → okLt (bx b xs) (bx b ys) = true := fun e => (Bool.and_eq_true_iff.mp (ok e)).1
  have h : Q (if PyData.eqv (bx b xs) (bx b ys) = true then (if PyData.eqv (.int n) (.int k) = true then false else decide (n < k)) else ltD (bx b xs) (bx b ys)) s := h
  clear px py
  refine r.pairE fun a v t m1 i1 a1 => q.pairE fun a' u t' m2 i2 b1 => kat_lt i1 rfl i2 rfl (eqAt_pair (eqAt_rp a1 b1 hx.1 hy.1 (by omega)) (fun e => ?_) (fun e => ?_))
  · rw [if_pos e] at h
    have d : (PyData.int n).depth ≤ 1 := by simp only [PyData.depth]; omega
    refine eqAt_pair (eqAt_rp (O := O) (.int n t) (.int k t') rfl rfl (by omega)) (fun e => ?_) (fun e => ?_)
    · rw [if_pos e] at h
      exact kat_nil h
    · rw [if_neg (by rw [e]; exact Bool.false_ne_true)] at h
      have e0 : (b && (0 + 1 == 0 : Bool)) = false := by cases b <;> rfl
      rw [e0]
      exact one_of_lt (LtAt.ints _ _ _ _) h
  · rw [if_neg (by rw [e]; exact Bool.false_ne_true)] at h
    cases b with
    | false => exact one_of_lt (lt_rp _ _ a1 b1 (ok rfl) hx.1 hy.1 (by omega)) h
    | true =>
      obtain ⟨l1, j1⟩ := jx rfl
      obtain ⟨l2, j2⟩ := jy rfl
      refine a1.lstE fun l vs n1 k1 _ c1 => b1.lstE fun l' us n2 k2 _ c2 => oneLt_lists k1 k2 (by have := cLine_is; omega) ?_ (eqAt_lex_ints xs ys c1 c2 (by rw [l1, l2]) j1 j2 (by rw [units_in1']; omega)) h
      show vs.length = us.length
      rw [c1.length, c2.length, l1, l2]
theorem kas_pure {α : Type} {n : Nat} {lt : Nat → Nat → Bool} {cmp : Nat → Nat → (Bool → Shared → Prop) → Shared → Prop} {Q : α → Shared → Prop} (hc : ∀ i j, i < n → j < n → ∀ C : Bool → Shared → Prop, C (lt i j) s → cmp i j C s) :
    ∀ (t : KasT α) (r : α), runT n lt t = some r → Q r s → t.kasWp cmp Q s
  | .ret a, r, h, hq => by
    simp only [runT, Option.some.injEq] at h
    subst h
    exact hq
  | .ask i j k, r, h, hq => by
    simp only [runT] at h
    split at h
    · rename_i c
      exact hc i j c.1 c.2 _ (kas_pure hc (k (lt i j)) r h hq)
    · cases h
end
end Mine
-- S4
namespace Mine
open PySem PySem.W PyProof.Rows PySem.Calls PySem.SeqAt
theorem insAll_mem (x : Nat) : ∀ (l1 l2 : List Nat), l1 ++ x :: l2 ∈ insAll x (l1 ++ l2)
  | [], [] => by simp [insAll]
  | [], y :: ys => by simp [insAll]
  | y :: l1, l2 => by
    simp only [List.cons_append, insAll, List.mem_cons, List.mem_map]
    exact .inr ⟨_, insAll_mem x l1 l2, rfl⟩
theorem perms_mem : ∀ (xs l : List Nat), l.Perm xs → l ∈ permsAll xs
  | [], l, h => by simp [permsAll, h.eq_nil]
  | x :: xs, l, h => by
    obtain ⟨l1, l2, rfl⟩ := List.append_of_mem (h.symm.subset (List.mem_cons_self))
    have h' : (l1 ++ l2).Perm xs := (List.perm_middle.symm.trans h).cons_inv
    simp only [permsAll, List.mem_flatMap]
    exact ⟨_, perms_mem xs _ h', insAll_mem x l1 l2⟩
/-- pigeonhole -/
theorem perm_range : ∀ (n : Nat) (l : List Nat), l.Nodup → (∀ x ∈ l, x < n) → l.length = n → l.Perm (List.range n)
  | 0, l, _, _, h => by simp [List.length_eq_zero_iff.mp h]
  | n + 1, l, nd, lt, h => by
    have hm : n ∈ l := by
      refine Classical.byContradiction fun c => ?_
      have lt' : ∀ x ∈ l, x < n := fun x m => by
        have := lt x m
        have : x ≠ n := fun e => c (e ▸ m)
        omega
      have : ∀ (n : Nat) (l : List Nat), l.Nodup → (∀ x ∈ l, x < n) → l.length ≤ n := by
        intro n
        induction n with
        | zero =>
          intro l _ lt
          cases l with
          | nil => simp
          | cons x _ => exact absurd (lt x (.head _)) (by omega)
        | succ n ih =>
          intro l nd lt
          have := ih (l.erase n) (nd.erase n) (fun x m => by
            have h1 := lt x (List.mem_of_mem_erase m)
            have h2 : x ≠ n := fun e => by
              subst e
              exact absurd m (nd.not_mem_erase)
            omega)
          have h3 := List.length_erase (a := n) (l := l)
          split at h3 <;> omega
      have := this n l nd lt'
      omega
    obtain ⟨l1, l2, rfl⟩ := List.append_of_mem hm
    have p : (l1 ++ n :: l2).Perm (n :: (l1 ++ l2)) := List.perm_middle
    have nd' := p.nodup_iff.mp nd
    rw [List.nodup_cons] at nd'
    have := perm_range n (l1 ++ l2) nd'.2 (fun x m => by
      have h1 := lt x (p.symm.subset (.tail _ m))
      have h2 : x ≠ n := fun e => nd'.1 (e ▸ m)
      omega) (by simp at h ⊢; omega)
    rw [List.range_succ]
    exact p.trans ((this.cons n).trans (List.perm_append_singleton n (List.range n)).symm)
theorem runT_congr {α : Type} {n : Nat} {lt lt' : Nat → Nat → Bool} (e : ∀ i j, i < n → j < n → lt i j = lt' i j) : ∀ t : KasT α, runT n lt t = runT n lt' t
  | .ret a => rfl
  | .ask i j k => by
    simp only [runT]
    split
    · rename_i c
      rw [e i j c.1 c.2, runT_congr e (k (lt' i j))]
    · rfl
theorem good_of (n : Nat) (h2 : 2 ≤ n) (h6 : n ≤ 6) (r : List Nat) (h : r.Perm (List.range n)) : goodR n r = true := by
  have m := perms_mem _ _ h
  have : n = 2 ∨ n = 3 ∨ n = 4 ∨ n = 5 ∨ n = 6 := by omega
  rcases this with rfl | rfl | rfl | rfl | rfl
  · exact List.all_eq_true.mp good2 _ m
  · exact List.all_eq_true.mp good3 _ m
  · exact List.all_eq_true.mp good4 _ m
  · exact List.all_eq_true.mp good5 _ m
  · exact List.all_eq_true.mp good6 _ m
/-- the tree sorts: ds, of which out is the sequence from low to high -/
theorem sort_run {ds out : List D} (h2 : 2 ≤ ds.length) (h6 : ds.length ≤ 6) (pm : out.Perm ds) (srt : out.Pairwise fun a b => ltD a b = true ∧ ltD b a = false) (irr : ∀ a ∈ ds, ltD a a = false) :
    ∃ p : Array Nat, runT ds.length (fun i j => ltD (ds.getD i .none) (ds.getD j .none)) (kas_sort ds.length) = some p ∧ (∀ x ∈ p.toList, x < ds.length) ∧ p.toList.map (fun i => ds.getD i .none) = out := by
  have hl : out.length = ds.length := pm.length_eq
  have ndo : out.Nodup := by
    refine srt.imp_of_mem ?_
    intro a b ma mb q e
    subst e
    rw [irr a (pm.subset ma)] at q
    exact absurd q.1 (by simp)
  have nds : ds.Nodup := pm.nodup_iff.mp ndo
  have ex : ∀ i, ∃ k, i < ds.length → k < out.length ∧ out[k]? = ds[i]? := fun i => by
    by_cases hi : i < ds.length
    · have : ds[i] ∈ out := pm.symm.subset (List.getElem_mem hi)
      obtain ⟨k, hk, e⟩ := List.getElem_of_mem this
      exact ⟨k, fun _ => ⟨hk, by rw [List.getElem?_eq_getElem hk, List.getElem?_eq_getElem hi, e]⟩⟩
    · exact ⟨0, fun q => absurd q hi⟩
  have ex := Classical.skolem.mp ex
  obtain ⟨rk, hrk⟩ := ex
  let r := (List.range ds.length).map rk
  have hr : ∀ i, i < ds.length → r.getD i 0 = rk i := fun i hi => by
    simp [r, hi]
  have pr : r.Perm (List.range ds.length) := by
    refine perm_range _ _ ?_ ?_ (by simp [r])
    · show List.Pairwise _ _
      rw [List.pairwise_map]
      refine List.nodup_range.imp_of_mem ?_
      intro i j mi mj ne e
      simp only [List.mem_range] at mi mj
      have a := (hrk i mi).2
      have b := (hrk j mj).2
      rw [e] at a
      have c := a.symm.trans b
      exact ne ((List.getElem?_inj mi nds).mp c)
    · intro x m
      simp only [r, List.mem_map, List.mem_range] at m
      obtain ⟨i, hi, rfl⟩ := m
      have := (hrk i hi).1
      omega
  have g := good_of ds.length h2 h6 r pr
  have lt : ∀ i j, i < ds.length → j < ds.length → ltD (ds.getD i .none) (ds.getD j .none) = decide (r.getD i 0 < r.getD j 0) := fun i j hi hj => by
    rw [hr i hi, hr j hj]
    obtain ⟨a1, a2⟩ := hrk i hi
    obtain ⟨b1, b2⟩ := hrk j hj
    have e1 : ds.getD i .none = out[rk i] := by
      rw [List.getElem?_eq_getElem a1, List.getElem?_eq_getElem hi] at a2
      simp only [Option.some.injEq] at a2
      simp [hi, a2]
    have e2 : ds.getD j .none = out[rk j] := by
      rw [List.getElem?_eq_getElem b1, List.getElem?_eq_getElem hj] at b2
      simp only [Option.some.injEq] at b2
      simp [hj, b2]
    rw [e1, e2]
    have sp := List.pairwise_iff_getElem.mp srt
    rcases Nat.lt_trichotomy (rk i) (rk j) with q | q | q
    · rw [(sp _ _ a1 b1 q).1]; simp [q]
    · simp only [q]
      rw [irr _ (pm.subset (List.getElem_mem b1))]; simp
    · rw [(sp _ _ b1 a1 q).2]
      have : ¬ rk i < rk j := by omega
      simp [this]
  rw [runT_congr lt]
  unfold goodR at g
  revert g
  cases runT ds.length (fun i j => decide (r.getD i 0 < r.getD j 0)) (kas_sort ds.length) with
  | none => simp
  | some p =>
    simp only [Bool.and_eq_true, beq_iff_eq]
    rintro ⟨g1, g2⟩
    have g1 := List.isPerm_iff.mp g1
    have lt' : ∀ x ∈ p.toList, x < ds.length := fun x m => List.mem_range.mp (g1.subset m)
    refine ⟨p, rfl, lt', ?_⟩
    have lp : p.toList.length = ds.length := by rw [g1.length_eq, List.length_range]
    refine List.ext_getElem (by simp only [List.length_map]; omega) fun k k1 k2 => ?_
    simp only [List.getElem_map]
    have hk : k < ds.length := by omega
    have hx := lt' _ (List.getElem_mem (by omega : k < p.toList.length))
    have e : r.getD (p.toList[k]'(by omega)) 0 = k := by
      have := congrArg (fun l => l[k]?) g2
      simp only [List.getElem?_map, List.getElem?_range hk] at this
      rw [List.getElem?_eq_getElem (by omega : k < p.toList.length)] at this
      simpa using this
    rw [hr _ hx] at e
    obtain ⟨a1, a2⟩ := hrk _ hx
    rw [List.getElem?_eq_getElem a1, List.getElem?_eq_getElem hx] at a2
    simp only [Option.some.injEq] at a2
    simp only [e] at a2
    rw [a2]
    simp only [List.getD_eq_getElem?_getD, List.getElem?_eq_getElem hx, Option.getD_some]
end Mine
-- SRT
namespace Mine
open PySem PySem.W PyProof.Rows PySem.Calls
structure Sorts (ds out : List D) : Prop where
  len : ds.length ≤ 6
  lay : ∀ d ∈ ds, layOk d = true
  shp : ∃ m b, (∀ d ∈ ds, Pair2 m b d) ∧ (b = false → ∀ x ∈ ds, ∀ y ∈ ds, okLt x y = true)
  pm : out.Perm ds
  srt : out.Pairwise fun a b => ltD a b = true ∧ ltD b a = false
  irr : ∀ a ∈ ds, ltD a a = false
theorem RpAll.pick {O : Addr → Prop} {h : Heap} {vs : List Value} {ds : List D} (r : RpAll O h vs ds) : ∀ (l : List Nat), (∀ x ∈ l, x < ds.length) → RpAll O h (l.map fun i => vs.getD i Value.none) (l.map fun i => ds.getD i .none)
  | [], _ => .nil
  | x :: l, hl => by
    have hx := hl x (.head _)
    obtain ⟨v, hv, rv⟩ := r.get (k := x) (d := ds[x]) (by simp [hx])
    simp only [List.map_cons]
    refine .cons ?_ (r.pick l fun y m => hl y (.tail _ m))
    have e1 : vs.getD x Value.none = v := by simp [List.getD_eq_getElem?_getD, hv]
    have e2 : ds.getD x .none = ds[x] := by simp [List.getD_eq_getElem?_getD, hx]
    rw [e1, e2]
    exact rv
section
variable {prog : Program} {w : World} {A : Around} {O : Addr → Prop} {s : Shared} {E : Value → Shared → Prop} {ds out : List D} {vs : List Value}
theorem pairs_tups {m : Nat} {b : Bool} (ds : List D) : ∀ {vs : List Value}, RpAll O s.heap vs ds → (∀ d ∈ ds, Pair2 m b d) → ∃ fs, KatTups s.heap vs fs ∧ fs.length = vs.length ∧ ∀ M, ∀ v ∈ fs, Looks M s.heap (typeOf v) (.type (if b then "list" else "tuple")) := by
  induction ds with
  | nil => exact fun r _ => r.nilE ⟨[], .nil, rfl, fun _ v m => nomatch m⟩
  | cons d ds ih =>
    intro vs r h
    obtain ⟨xs, n, rfl, _⟩ := (h d (.head _)).inv
    refine r.consE fun v vs r rs => ?_
    obtain ⟨fs, k, l, t⟩ := ih rs fun d m => h d (.tail _ m)
    refine r.pairE fun a u tk m' i1 r1 => ⟨u :: fs, KatTups.cons i1 rfl rfl rfl k, congrArg Nat.succ l, fun M v mv => ?_⟩
    rcases List.mem_cons.mp mv with rfl | mv
    · cases b with
      | false => exact r1.tupE fun _ _ _ j _ => (Looks.ld j).andThen .now
      | true => exact r1.lstE fun _ _ _ j _ _ => (Looks.ld j).andThen .now
    · exact t M v mv
theorem sort_core (r : RpAll O s.heap vs ds) (S : Sorts ds out) (h2 : 2 ≤ vs.length) (hu : A.units ≤ 9100) {a : Addr} {Q : SortSt → Shared → Prop}
    (h : ∀ st (l : List Nat), (∀ x ∈ l, x < ds.length) → (arrOf st).map (·.2) = List.toArray (l.map fun i => vs.getD i Value.none) → (l.map fun i => ds.getD i .none) = out → failedOf st = none → Q st s) :
    wpAny (model prog w) A (keyKind' vs.toArray) (fun κ s' => wpAny (model prog w) A ((sortRuns').run (SortSt.mk' κ (vs.toArray.zip vs.toArray) #[] 7 none)) (fun r s'' => Q r.2 s'') E s') E s := by
  have hl := r.length
  have h6 := S.len
  obtain ⟨m, b, sh, ok⟩ := S.shp
  obtain ⟨fs, kt, lf, ty⟩ := pairs_tups ds r sh
  obtain ⟨p, run, plt, pout⟩ := sort_run (by omega) S.len S.pm S.srt S.irr
  refine (kat_kind kt (by omega) (ty _) (by cases b <;> decide) ?_)
  have eb : (Value.type (if b = true then "list" else "tuple") != Value.type "tuple") = b := by cases b <;> decide
  rw [eb]
  refine kat_run (G := fun p' s' => p' = p ∧ s' = s) rfl h2 (by omega) (fun p' st' s' hp har hf hg => ?_) ?_
  · obtain ⟨rfl, rfl⟩ := hg
    exact h st' p'.toList plt (kat_snds rfl har) pout hf
  · rw [hl]
    refine kas_pure (fun i j hi hj C hC => ?_) _ p run ⟨rfl, rfl⟩
    have e1 : ds.getD i .none = ds[i] := by simp [List.getD_eq_getElem?_getD, hi]
    have e2 : ds.getD j .none = ds[j] := by simp [List.getD_eq_getElem?_getD, hj]
    obtain ⟨v1, hv1, r1⟩ := r.get (k := i) (d := ds[i]) (by simp [hi])
    obtain ⟨v2, hv2, r2⟩ := r.get (k := j) (d := ds[j]) (by simp [hj])
    have mi : ds[i] ∈ ds := List.getElem_mem hi
    have mj : ds[j] ∈ ds := List.getElem_mem hj
    rw [e1, e2] at hC
    show wpAny (model prog w) A (keyLt' _ (vs.getD i Value.none) (vs.getD j Value.none)) C _ s
    have f1 : vs.getD i Value.none = v1 := by simp [List.getD_eq_getElem?_getD, hv1]
    have f2 : vs.getD j Value.none = v2 := by simp [List.getD_eq_getElem?_getD, hv2]
    rw [f1, f2]
    exact item_lt (sh _ mi) (sh _ mj) r1 r2 (fun e => ok e _ mi _ mj) (S.lay _ mi) (S.lay _ mj) hu hC
/-- with fewer than two items there is one order -/
theorem Sorts.few (S : Sorts ds out) (h : ds.length < 2) : out = ds := by
  have pm := S.pm
  rcases Nat.lt_or_ge ds.length 1 with q | q
  · rw [List.eq_nil_of_length_eq_zero (Nat.lt_one_iff.mp q)] at pm ⊢; exact pm.eq_nil
  · obtain ⟨x, e⟩ := List.length_eq_one_iff.mp (by omega : ds.length = 1)
    rw [e] at pm ⊢; exact List.perm_singleton.mp pm
theorem list_sort_D {a : Addr} {n : Nat} {P : PySem.Fin → Shared → Prop} {h0 : Heap} (k0 : Kp h0 s.heap) (a0 : h0.get? a = none) (ho : s.heap.get? a = some (seqObj "list" vs.toArray n)) (r : RpAll O h0 vs ds) (S : Sorts ds out) (hu : A.units ≤ 9100)
    (h : ∀ h' us n', Kp h0 h' → h'.get? a = some (seqObj "list" (List.toArray us) n') → RpAll O h' us out → P (.done (.ret .none)) { s with heap := h' }) :
    wpAny (model prog w) A (Builtin.«list.sort» ⟨[.ref a], []⟩) P E s := by
  have ha : a < s.heap.objs.size := Heap.lt_size ho
  have hl := r.length
  have h6 := S.len
  have s1 := Heap.SameBut.update s.heap a (Obj.mapSeq fun _ => (#[] : Array Value))
  obtain ⟨e1, ho1⟩ : ∃ e1, (s.heap.update a (Obj.mapSeq fun _ => (#[] : Array Value))).get? a = some (seqObj "list" #[] e1) := ⟨_, get?_update_seq ho fun _ => #[]⟩
  have kb : ∀ b o, h0.get? b = some o → b ≠ a := fun b o e q => by rw [q, a0] at e; cases e
  have K1 : Kp h0 (((s.heap.update a (Obj.mapSeq fun _ => (#[] : Array Value))).push (seqObj "tuple" vs.toArray 0)).push (seqObj "list" #[] 0)) := fun b o e =>
    Heap.get?_push_of_some _ (Heap.get?_push_of_some _ ((s1.2 b (kb b o e)).trans (k0 b o e)))
  have ho2 : (((s.heap.update a (Obj.mapSeq fun _ => (#[] : Array Value))).push (seqObj "tuple" vs.toArray 0)).push (seqObj "list" #[] 0)).get? a = some (seqObj "list" #[] e1) := Heap.get?_push_of_some _ (Heap.get?_push_of_some _ ho1)
  rw [list_sort_plain]
  refine wpAny_bind (listItems_at ho rfl ?_)
  refine wpAny_bind (listUpdate_at ho rfl ?_ (by rw [List.size_toArray, sizeLine_eq]; omega) (Nat.zero_le _))
  refine wpAny_bind (seqEpoch_at ho1 rfl ?_)
  refine wpAny_bind (wpAny_newTuple ?_ (by show vs.length ≤ _; rw [sizeLine_eq]; omega))
  refine wpAny_bind (wpAny_newList ?_ (Nat.zero_le _))
  refine wpAny_holding ?_
  show wpAny (model prog w) A _ P E { s with heap := ((s.heap.update a (Obj.mapSeq fun _ => (#[] : Array Value))).push (seqObj "tuple" vs.toArray 0)).push (seqObj "list" #[] 0) }
  generalize hh : (((s.heap.update a (Obj.mapSeq fun _ => (#[] : Array Value))).push (seqObj "tuple" vs.toArray 0)).push (seqObj "list" #[] 0)) = h2 at *
  dsimp only
  have fin : ∀ (st : SortSt) (l : List Nat), (∀ x ∈ l, x < ds.length) → (arrOf st).map (·.2) = List.toArray (l.map fun i => vs.getD i Value.none) → (l.map fun i => ds.getD i .none) = out → failedOf st = none → wpAny (model prog w) A (do
      let sorted := (arrOf st).map (·.2)
      let touched := (← seqEpoch a) != e1
      Builtin.List.listUpdate (.ref a) fun _ => sorted
      if let some e := failedOf st then rule "list.sort.comparison-raised"; throw e
      if touched then rule "list.sort.modified"; raiseError "ValueError" "list modified during sort"
      ret .none) P E { s with heap := h2 } := fun st l hlt hv hd hf => by
    have lo : l.length = ds.length := by have := S.pm.length_eq; rw [← hd] at this; simpa using this
    have s2 := Heap.SameBut.update h2 a (Obj.mapSeq fun _ => List.toArray (l.map fun i => vs.getD i Value.none))
    obtain ⟨c2, hc2⟩ : ∃ c2, (h2.update a (Obj.mapSeq fun _ => List.toArray (l.map fun i => vs.getD i Value.none))).get? a = some (seqObj "list" (List.toArray (l.map fun i => vs.getD i Value.none)) c2) := ⟨_, get?_update_seq ho2 fun _ => List.toArray (l.map fun i => vs.getD i Value.none)⟩
    dsimp only
    rw [hv]
    refine wpAny_bind (seqEpoch_at ho2 rfl ?_)
    refine wpAny_bind (listUpdate_at ho2 rfl ?_ (Nat.zero_le _) (by simp only [List.size_toArray, List.length_map]; rw [sizeLine_eq]; omega))
    rw [hf]
    simp only [bne_self_eq_false, Bool.false_eq_true, if_false]
    have kk : Kp h0 (h2.update a (Obj.mapSeq fun _ => List.toArray (l.map fun i => vs.getD i Value.none))) := fun b o e => (s2.2 b (kb b o e)).trans (K1 b o e)
    refine wpAny_pure (h _ (l.map fun i => vs.getD i Value.none) c2 kk hc2 ?_)
    have := (r.pick l hlt).keeps kk
    rw [hd] at this
    exact this
  by_cases hn2 : vs.length < 2
  · have hn2' : vs.toArray.size < 2 := by rw [List.size_toArray]; exact hn2
    rw [if_pos hn2', if_pos hn2']
    have e := S.few (by omega)
    subst e
    refine wpAny_bind (wpAny_pure ?_)
    refine wpAny_bind ?_
    refine wpAny_pure ?_
    refine fin _ (List.range vs.length) (fun x m => by rw [List.mem_range] at m; omega) ?_ ?_ rfl
    · show (vs.toArray.zip vs.toArray).map (·.2) = _
      apply Array.toList_inj.mp
      refine List.ext_getElem (by simp) fun k k1 k2 => ?_
      have : k < vs.length := by simpa using k2
      simp [this]
    · refine List.ext_getElem (by simp; omega) fun k k1 k2 => ?_
      have : k < vs.length := by omega
      simp [this, k2]
  · have hn2' : ¬ vs.toArray.size < 2 := by rw [List.size_toArray]; exact hn2
    rw [if_neg hn2', if_neg hn2']
    have rk : RpAll O h2 vs ds := r.keeps K1
    have core := sort_core (prog := prog) (w := w) (A := A) (E := E) (s := { s with heap := h2 }) (vs := vs) (ds := ds) (out := out) rk S (by omega) hu (a := a)
      (Q := fun st s' => s' = { s with heap := h2 } ∧ ∃ l : List Nat, (∀ x ∈ l, x < ds.length) ∧ (arrOf st).map (·.2) = List.toArray (l.map fun i => vs.getD i Value.none) ∧ (l.map fun i => ds.getD i .none) = out ∧ failedOf st = none)
      (fun st l a1 a2 a3 a4 => ⟨rfl, l, a1, a2, a3, a4⟩)
    refine wpAny_bind (wpAny_mono core (fun κ s' hk => wpAny_bind (wpAny_mono hk ?_ fun _ _ e => e)) fun _ _ e => e)
    rintro ⟨⟨⟩, st⟩ s'' ⟨rfl, l, a1, a2, a3, a4⟩
    exact fin st l a1 a2 a3 a4
theorem sorted_D {l : Addr} {n : Nat} {Q : Value → Shared → Prop} (q : IsL s.heap l vs.toArray n) (hO : OIn O s.heap) (r : RpAll O s.heap vs ds) (S : Sorts ds out) (hu : A.units ≤ 9000)
    (h : ∀ v h', Kp s.heap h' → Rp O h' v (.list out) → Q v { s with heap := h' }) :
    wpAny (model prog w) A (call (.builtin "sorted") [.ref l]) Q E s := by
  have hl := r.length
  have h6 := S.len
  refine Calls.call_function_entry kind_sorted plain_sorted entry_sorted (args_sorted1 _) ?_
  unfold Builtin.«sorted»
  refine wpAny_bind (m := checkCount "sorted" 1 1 _) (wpAny_pure ?_)
  refine wpAny_bind (collect_list (IsL.isList q) ?_ (by rw [sizeLine_eq]; omega))
  refine wpAny_bind (wpAny_newList ?_ (by rw [sizeLine_eq]; omega))
  have hsz : ((s.heap.push (seqObj "list" #[] 0)).update s.heap.objs.size (Obj.mapSeq (· ++ vs.toArray))).objs.size = s.heap.objs.size + 1 := by
    rw [Heap.size_update, size_push']
  have hoL : (((s.heap.push (seqObj "list" #[] 0)).update s.heap.objs.size (Obj.mapSeq (· ++ vs.toArray))).push (seqObj "list" vs.toArray 0)).get? (s.heap.objs.size + 1) = some (seqObj "list" vs.toArray 0) := by
    rw [← hsz]; exact Heap.get?_push_size _ rfl
  have keep : ∀ b o, s.heap.get? b = some o → (((s.heap.push (seqObj "list" #[] 0)).update s.heap.objs.size (Obj.mapSeq (· ++ vs.toArray))).push (seqObj "list" vs.toArray 0)).get? b = some o := fun b o q => by
    have hlt : b < s.heap.objs.size := Heap.lt_size q
    rw [Heap.get?_push_ne _ _ _ (by rw [hsz]; exact Nat.ne_of_lt (Nat.lt_succ_of_lt hlt)), Heap.get?_update_ne _ _ _ _ (Nat.ne_of_lt hlt), Heap.get?_push_ne _ _ _ (Nat.ne_of_lt hlt)]
    exact q
  have hn : s.heap.get? (s.heap.objs.size + 1) = none := Heap.get?_none_of_le (Nat.le_succ _)
  show wpAny _ _ _ _ _ { s with heap := ((s.heap.push (seqObj "list" #[] 0)).update s.heap.objs.size (Obj.mapSeq (· ++ vs.toArray))).push (seqObj "list" vs.toArray 0) }
  rw [hsz]
  refine wpAny_bind (wpAny_holding (wpAny_call_entry slot_list_sort ⟨_, hoL, rfl⟩ entry_list_sort ?body (args_list_sort _)))
  case body =>
    refine list_sort_D (s := { s with heap := ((s.heap.push (seqObj "list" #[] 0)).update s.heap.objs.size (Obj.mapSeq (· ++ vs.toArray))).push (seqObj "list" vs.toArray 0) }) (h0 := s.heap) (O := O)
      keep hn hoL r S (by simp only [units_in1]; omega) fun h' us n' kk hg ru => ?_
    refine ⟨_, rfl, wpAny_pure ⟨_, rfl, ?_⟩⟩
    exact h _ h' kk (.lst hg (fun o => by have := hO _ o; rw [hn] at this; cases this) ru)
theorem Ev.sorted {env : Env} {e f : Expr} {pos : Pos} (hg : EvG prog w A env f s (.builtin "sorted")) (h1 : EvSeq prog w A env e O s true ds) (hp : starEach [e] env = [(false, eval e env)]) (hc : CallForm env f [e] pos) (hO : OIn O s.heap) (hA : A.handled = none) (hu : A.units ≤ 9000) (S : Sorts ds out) :
    Ev prog w A env (.Call f [e] [] pos) O s (.list out) := fun E Q hQ =>
  callB hg ⟨e, [], rfl, hp, fun _ => rfl⟩ hc (arg1 hp (h1 E _ fun v s1 k1 r1 => by
    obtain ⟨a, vs, n, rfl, q, r⟩ := r1
    exact sorted_D q (hO.keeps k1.kp) r S hu fun v h' kk rv => hQ v _ (k1.trans (Ks.heap s1 h' s1.toks kk)) rv))
/-- there is one such sequence -/
theorem Sorts.uniq {ds o1 o2 : List D} (a : Sorts ds o1) (b : Sorts ds o2) : o1 = o2 := by
  by_cases h : ds.length < 2
  · rw [a.few h, b.few h]
  · obtain ⟨p, e1, _, f1⟩ := sort_run (by omega) a.len a.pm a.srt a.irr
    obtain ⟨q, e2, _, f2⟩ := sort_run (by omega) b.len b.pm b.srt b.irr
    rw [e1] at e2
    simp only [Option.some.injEq] at e2
    subst e2
    rw [← f1, ← f2]
end
end Mine
-- B7
namespace Mine
open PySem PySem.W PyProof.Rows PySem.Calls
mutual
inductive X where
  | var (i : Nat)
  | lit (d : D)
  | tup (es : XS)
  | lst (es : XS)
  | bin (o : Operator) (a b : X)
  | neg (a : X)
  | cmp (o : CmpOp) (a b : X)
  | ife (c : B) (a b : X)
  | idx (a i : X)
  | from_ (a i : X)
  | upto (a i : X)
  | len (a : X)
  | max2 (a b : X)
  | str (a : X)
  | tupOf (a : X)
  | lstOf (a : X)
  | sorted (a : X)
  | call (f : Nat) (es : XS)
  | comp (elt : X) (tg : List Nat) (it : It) (c : B) (caps : List Nat)
  | flat (it : It)
inductive XS where
  | nil
  | cons (a : X) (r : XS)
inductive B where
  | tt
  | cmp (o : CmpOp) (a b : X)
  | eq (a b : X)
  | ne (a b : X)
  | isN (a : X)
  | notN (a : X)
  | chain (o o' : CmpOp) (a b c : X)
  | and (a b : B)
  | or (a b : B)
  | not (a : B)
  | val (a : X)
inductive It where
  | seq (a : X)
  | range (a : X)
end
noncomputable def seqOf : D → Option (Bool × List D)
  | .list ds => some (true, ds)
  | .tuple ds => some (false, ds)
  | _ => none
noncomputable def seqV (a : X) (ρ : Vars) (r : Option D) : Option (Bool × List D) :=
  match a with
  | .var i => (match ρ i with | some (.own ds) => some (true, ds) | _ => r.bind seqOf)
  | _ => r.bind seqOf
noncomputable def intD : D → Option Int
  | .int i => some i
  | _ => none
noncomputable def strD : D → Option Str
  | .str x => some x
  | _ => none
noncomputable def lstD : D → Option (List D)
  | .list x => some x
  | _ => none
noncomputable def int2 (x y : D) (f : Int → Int → Option D) : Option D := (intD x).bind fun a => (intD y).bind fun b => f a b
noncomputable def addD (x y : D) : Option D :=
  match x with
  | .int a => (intD y).bind fun b => some (.int (a + b))
  | .str a => (strD y).bind fun b => if a.length + b.length ≤ 1000 then some (.str (a ++ b)) else none
  | .list a => (lstD y).bind fun b => if a.length + b.length ≤ 1000 then some (.list (a ++ b)) else none
  | _ => none
noncomputable def binD (o : Operator) (x y : D) : Option D :=
  match o with
  | .Add => addD x y
  | .Sub => int2 x y fun a b => some (.int (a - b))
  | .Mult => int2 x y fun a b => if -(2 ^ 64) < b ∧ b < 2 ^ 64 then some (.int (a * b)) else none
  | .FloorDiv => int2 x y fun a b => if b ≠ 0 ∧ b.natAbs < 2 ^ 40 then some (.int (a.fdiv b)) else none
  | .Mod => int2 x y fun a b => if b ≠ 0 then some (.int (a.fmod b)) else none
  | .Pow => int2 x y fun a b => if 0 ≤ b ∧ b ≤ 1000 ∧ a.natAbs < 2 ^ 64 then some (.int (a ^ b.toNat)) else none
  | _ => none
noncomputable def cmpD (o : CmpOp) (x y : D) : Option Bool := (intD x).bind fun a => (intD y).bind fun b => (cmpI o).map fun f => f a b
noncomputable def pairL : List D → Option (D × D)
  | [a, b] => some (a, b)
  | _ => none
noncomputable def pairD : D → Option (D × D)
  | .tuple ds => pairL ds
  | _ => none
noncomputable def bindT (tg : List Nat) (d : D) (ρ : Vars) : Option Vars :=
  match tg with
  | [i] => some (upd ρ i (.fro d))
  | [i, j] => (pairD d).map fun p => upd (upd ρ i (.fro p.1)) j (.fro p.2)
  | _ => none
noncomputable def small (n : Nat) (r : D) : Option D := if n ≤ 1000 then some r else none
noncomputable def itemsD : D → Option (List D)
  | .tuple xs => some xs
  | _ => none
noncomputable def flatL : List D → Option (List D)
  | [] => some []
  | d :: ds => (itemsD d).bind fun xs => (flatL ds).map fun r => xs ++ r
open Classical in
noncomputable def sortX (ds : List D) : Option D := if h : ∃ out, Sorts ds out then some (.list h.choose) else none
theorem sortX_of {ds out : List D} (h : Sorts ds out) : sortX ds = some (.list out) := by
  unfold sortX
  have e : ∃ out, Sorts ds out := ⟨out, h⟩
  rw [dif_pos e, Sorts.uniq h e.choose_spec]
mutual
noncomputable def eval (Φ : Nat → List D → Option (Except Unit D)) : X → Vars → Option D
  | .var i, ρ => (match ρ i with | some (.fro d) => some d | _ => none)
  | .lit d, _ => some d
  | .tup es, ρ => (evals Φ es ρ).bind fun ds => small ds.length (.tuple ds)
  | .lst es, ρ => (evals Φ es ρ).bind fun ds => small ds.length (.list ds)
  | .bin o a b, ρ => (eval Φ a ρ).bind fun x => (eval Φ b ρ).bind fun y => binD o x y
  | .neg a, ρ => ((eval Φ a ρ).bind intD).bind fun i => some (.int (-i))
  | .cmp o a b, ρ => (eval Φ a ρ).bind fun x => (eval Φ b ρ).bind fun y => (cmpD o x y).map .bool
  | .ife c a b, ρ => (evB Φ c ρ).bind fun t => if t then eval Φ a ρ else eval Φ b ρ
  | .idx a i, ρ => (seqV a ρ (eval Φ a ρ)).bind fun ds => ((eval Φ i ρ).bind intD).bind fun k => idxD ds.2 k
  | .from_ a i, ρ => (seqV a ρ (eval Φ a ρ)).bind fun ds => ((eval Φ i ρ).bind intD).bind fun k => if ds.1 = true ∧ 0 ≤ k ∧ ds.2.length ≤ 1000 then some (.list (ds.2.drop k.toNat)) else none
  | .upto a i, ρ => (seqV a ρ (eval Φ a ρ)).bind fun ds => ((eval Φ i ρ).bind intD).bind fun k => if ds.1 = true ∧ 0 ≤ k ∧ ds.2.length ≤ 1000 then some (.list (ds.2.take k.toNat)) else none
  | .len a, ρ => (seqV a ρ (eval Φ a ρ)).bind fun ds => if ds.2.length ≤ 100000 then some (.int ds.2.length) else none
  | .max2 a b, ρ => ((eval Φ a ρ).bind intD).bind fun i => ((eval Φ b ρ).bind intD).bind fun j => some (.int (if j > i then j else i))
  | .str a, ρ => ((eval Φ a ρ).bind intD).bind fun i => if i.natAbs < 1000000 then some (.str (Str.ofString (toString i))) else none
  | .tupOf a, ρ => (seqV a ρ (eval Φ a ρ)).bind fun ds => if ds.1 = true then small ds.2.length (.tuple ds.2) else none
  | .lstOf a, ρ => (seqV a ρ (eval Φ a ρ)).bind fun ds => if ds.1 = true then small ds.2.length (.list ds.2) else none
  | .sorted a, ρ => (seqV a ρ (eval Φ a ρ)).bind fun ds => if ds.1 = true then sortX ds.2 else none
  | .call f es, ρ => (evals Φ es ρ).bind fun ds => (match Φ f ds with | some (.ok d) => some d | _ => none)
  | .comp elt tg it c caps, ρ => (evIt Φ it ρ).bind fun ds => (compL (fun d => (bindT tg d (lim caps ρ)).bind fun ρ' => (evB Φ c ρ').bind fun t => if t then (eval Φ elt ρ').map some else some none) ds).bind fun out => small ds.length (.list out)
  | .flat it, ρ => (evIt Φ it ρ).bind fun ds => (flatL ds).bind fun out => small out.length (.list out)
noncomputable def evals (Φ : Nat → List D → Option (Except Unit D)) : XS → Vars → Option (List D)
  | .nil, _ => some []
  | .cons a r, ρ => (eval Φ a ρ).bind fun d => (evals Φ r ρ).map fun ds => d :: ds
noncomputable def evB (Φ : Nat → List D → Option (Except Unit D)) : B → Vars → Option Bool
  | .tt, _ => some true
  | .cmp o a b, ρ => (eval Φ a ρ).bind fun x => (eval Φ b ρ).bind fun y => cmpD o x y
  | .eq a b, ρ => (eval Φ a ρ).bind fun x => (eval Φ b ρ).bind fun y => if layOk x = true ∧ layOk y = true then some (PyData.eqv x y) else none
  | .ne a b, ρ => (eval Φ a ρ).bind fun x => (eval Φ b ρ).bind fun y => if layOk x = true ∧ layOk y = true then some (!PyData.eqv x y) else none
  | .isN a, ρ => (eval Φ a ρ).map isNoneD
  | .notN a, ρ => (eval Φ a ρ).map fun d => !isNoneD d
  | .chain o o' a b c, ρ => ((eval Φ a ρ).bind intD).bind fun x => ((eval Φ b ρ).bind intD).bind fun y => ((eval Φ c ρ).bind intD).bind fun z => (cmpI o).bind fun f => (cmpI o').map fun g => f x y && g y z
  | .and a b, ρ => (evB Φ a ρ).bind fun t => if t then evB Φ b ρ else some false
  | .or a b, ρ => (evB Φ a ρ).bind fun t => if t then some true else evB Φ b ρ
  | .not a, ρ => (evB Φ a ρ).map fun t => !t
  | .val a, ρ => (match a with
    | .var i => (match ρ i with | some (.own ds) => if ds.length ≤ 100000 then some (!ds.isEmpty) else none | _ => (eval Φ a ρ).bind truthD)
    | _ => (eval Φ a ρ).bind truthD)
noncomputable def evIt (Φ : Nat → List D → Option (Except Unit D)) : It → Vars → Option (List D)
  | .seq a, ρ => (seqV a ρ (eval Φ a ρ)).map (·.2)
  | .range a, ρ => ((eval Φ a ρ).bind intD).bind fun n => if -1000000 ≤ n ∧ n ≤ 1000000 then some (intsFrom 0 n.toNat) else none
end
/-- the kinds of the names within a comprehension -/
noncomputable def relab (kd : Str → Option NameKind) (p : Str × NameKind) : Str × NameKind := if (p.2 == NameKind.free && kd p.1 == some NameKind.cell) = true then (p.1, NameKind.cell) else p
noncomputable def kdC (kd : Str → Option NameKind) (scope : Scope) : Str → Option NameKind := fun x => List.lookup x (scope.names.map (relab kd))
/-- a target's names -/
inductive Tg (kd : Str → Option NameKind) (nm : Nat → Str) : Expr → List Nat → Prop
  | one {i : Nat} {p : Pos} : kd (nm i) = some .local → Tg kd nm (.Name (nm i) p) [i]
  | two {i j k : Nat} {p q r : Pos} : kd (nm i) = some .local → kd (nm j) = some .local → nm i ≠ nm j → i ≠ j → Tg kd nm (.Tuple [.Name (nm i) p, .Name (nm j) q] k r) [i, j]
noncomputable def kstD : Const → Option D
  | .int i => some (.int i)
  | .str x => some (.str x)
  | .none => some .none
  | .bool b => some (.bool b)
  | _ => none
/-- a comprehension's scope -/
structure ScopeOk (kd : Str → Option NameKind) (scope : Scope) : Prop where
  cell : ∀ y ∈ scope.names, y.2 ≠ .cell
  kind : scope.kind = .function
  names : ∀ y ∈ scope.names, y.2 = .local → scope.names.lookup y.1 = some .local
  free : ∀ y ∈ scope.names, y.2 = .free → kd y.1 = some .cell
noncomputable abbrev Kd := Str → Option NameKind
mutual
/-- the expression stands for the term: whatever holds of all expressions of that form holds of it -/
noncomputable def CX (nm fn : Nat → Str) : Kd → Expr → X → Prop
  | _, e, .var i => ∀ P : Expr → Prop, (∀ p, P (.Name (nm i) p)) → P e
  | _, e, .lit d => ∀ P : Expr → Prop, (∀ c k p, kstD c = some d → P (.Constant c k p)) → P e
  | kd, e, .tup xs => ∀ P : Expr → Prop, (∀ es k p, CXs nm fn kd es xs → P (.Tuple es k p)) → P e
  | kd, e, .lst xs => ∀ P : Expr → Prop, (∀ es p, CXs nm fn kd es xs → P (.List es p)) → P e
  | kd, e, .bin o x y => ∀ P : Expr → Prop, (∀ a b p, CX nm fn kd a x → CX nm fn kd b y → P (.BinOp a o b p)) → P e
  | kd, e, .neg x => ∀ P : Expr → Prop, (∀ a p, CX nm fn kd a x → P (.UnaryOp .USub a p)) → P e
  | kd, e, .cmp o x y => ∀ P : Expr → Prop, (∀ a b p, CX nm fn kd a x → CX nm fn kd b y → P (.Compare a [o] [b] p)) → P e
  | kd, e, .ife t x y => ∀ P : Expr → Prop, (∀ c a b p, CB nm fn kd c t → CX nm fn kd a x → CX nm fn kd b y → P (.IfExp c a b p)) → P e
  | kd, e, .idx x y => ∀ P : Expr → Prop, (∀ a b p, CX nm fn kd a x → CX nm fn kd b y → P (.Subscript a b p)) → P e
  | kd, e, .from_ x y => ∀ P : Expr → Prop, (∀ a b p q, CX nm fn kd a x → CX nm fn kd b y → P (.Subscript a (.Slice (some b) none none q) p)) → P e
  | kd, e, .upto x y => ∀ P : Expr → Prop, (∀ a b p q, CX nm fn kd a x → CX nm fn kd b y → P (.Subscript a (.Slice none (some b) none q) p)) → P e
  | kd, e, .len x => ∀ P : Expr → Prop, (∀ a p q, kd "len" = some .globalImplicit → CX nm fn kd a x → P (.Call (.Name "len" q) [a] [] p)) → P e
  | kd, e, .max2 x y => ∀ P : Expr → Prop, (∀ a b p q, kd "max" = some .globalImplicit → CX nm fn kd a x → CX nm fn kd b y → P (.Call (.Name "max" q) [a, b] [] p)) → P e
  | kd, e, .str x => ∀ P : Expr → Prop, (∀ a p q, kd "str" = some .globalImplicit → CX nm fn kd a x → P (.Call (.Name "str" q) [a] [] p)) → P e
  | kd, e, .tupOf x => ∀ P : Expr → Prop, (∀ a p q, kd "tuple" = some .globalImplicit → CX nm fn kd a x → P (.Call (.Name "tuple" q) [a] [] p)) → P e
  | kd, e, .lstOf x => ∀ P : Expr → Prop, (∀ a p q, kd "list" = some .globalImplicit → CX nm fn kd a x → P (.Call (.Name "list" q) [a] [] p)) → P e
  | kd, e, .sorted x => ∀ P : Expr → Prop, (∀ a p q, kd "sorted" = some .globalImplicit → CX nm fn kd a x → P (.Call (.Name "sorted" q) [a] [] p)) → P e
  | kd, e, .call f xs => ∀ P : Expr → Prop, (∀ a es p q, kd (fn f) = some .globalImplicit → CXs nm fn kd (a :: es) xs → P (.Call (.Name (fn f) q) (a :: es) [] p)) → P e
  | kd, e, .comp x tg it c caps => ∀ P : Expr → Prop, (∀ elt target iter ifs scope p, CIt nm fn kd iter it → Tg (kdC kd scope) nm target tg → ((ifs = [] ∧ c = .tt) ∨ ∃ e, ifs = [e] ∧ CB nm fn (kdC kd scope) e c) → CX nm fn (kdC kd scope) elt x → ScopeOk kd scope →
      (∀ i ∈ caps, (nm i, NameKind.free) ∈ scope.names ∧ kdC kd scope (nm i) = some .cell ∧ i ∉ tg) → P (.ListComp elt [⟨target, iter, ifs, 0⟩] scope p)) → P e
  | kd, e, .flat it => ∀ P : Expr → Prop, (∀ iter scope sp n p p1 p2 p3 p4, CIt nm fn kd iter it → kdC kd scope n = some .local → kdC kd scope sp = some .local → (n == ("__debug__" : Str)) = false → (sp == ("__debug__" : Str)) = false → ScopeOk kd scope →
      P (.ListComp (.Name n p1) [⟨.Name sp p2, iter, [], 0⟩, ⟨.Name n p3, .Name sp p4, [], 0⟩] scope p)) → P e
noncomputable def CXs (nm fn : Nat → Str) : Kd → List Expr → XS → Prop
  | _, es, .nil => es = []
  | kd, es, .cons x xs => ∀ P : List Expr → Prop, (∀ e r, CX nm fn kd e x → CXs nm fn kd r xs → P (e :: r)) → P es
noncomputable def CB (nm fn : Nat → Str) : Kd → Expr → B → Prop
  | _, _, .tt => False
  | kd, e, .cmp o x y => ∀ P : Expr → Prop, (∀ a b p, CX nm fn kd a x → CX nm fn kd b y → P (.Compare a [o] [b] p)) → P e
  | kd, e, .eq x y => ∀ P : Expr → Prop, (∀ a b p, CX nm fn kd a x → CX nm fn kd b y → P (.Compare a [.Eq] [b] p)) → P e
  | kd, e, .ne x y => ∀ P : Expr → Prop, (∀ a b p, CX nm fn kd a x → CX nm fn kd b y → P (.Compare a [.NotEq] [b] p)) → P e
  | kd, e, .isN x => ∀ P : Expr → Prop, (∀ a p q k, CX nm fn kd a x → P (.Compare a [.Is] [.Constant .none k q] p)) → P e
  | kd, e, .notN x => ∀ P : Expr → Prop, (∀ a p q k, CX nm fn kd a x → P (.Compare a [.IsNot] [.Constant .none k q] p)) → P e
  | kd, e, .chain o o' x y z => ∀ P : Expr → Prop, (∀ a b c p, CX nm fn kd a x → CX nm fn kd b y → CX nm fn kd c z → P (.Compare a [o, o'] [b, c] p)) → P e
  | kd, e, .and x y => ∀ P : Expr → Prop, (∀ a b p, CB nm fn kd a x → CB nm fn kd b y → P (.BoolOp .And [a, b] p)) → (∀ a b c p, CB nm fn kd a x → CB nm fn kd (.BoolOp .And [b, c] p) y → P (.BoolOp .And [a, b, c] p)) → P e
  | kd, e, .or x y => ∀ P : Expr → Prop, (∀ a b p, CB nm fn kd a x → CB nm fn kd b y → P (.BoolOp .Or [a, b] p)) → P e
  | kd, e, .not x => ∀ P : Expr → Prop, (∀ a p, CB nm fn kd a x → P (.UnaryOp .Not a p)) → P e
  | kd, e, .val x => ∀ P : Expr → X → Prop, (∀ i p, P (.Name (nm i) p) (.var i)) → (∀ f as p, CX nm fn kd (.Call f as [] p) x → P (.Call f as [] p) x) → P e x
noncomputable def CIt (nm fn : Nat → Str) : Kd → Expr → It → Prop
  | kd, e, .seq x => CX nm fn kd e x
  | kd, e, .range x => ∀ P : Expr → Prop, (∀ a p q, kd "range" = some .globalImplicit → CX nm fn kd a x → P (.Call (.Name "range" q) [a] [] p)) → P e
end
noncomputable def CIf (nm fn : Nat → Str) (kd : Kd) (ifs : List Expr) (c : B) : Prop := (ifs = [] ∧ c = .tt) ∨ ∃ e, ifs = [e] ∧ CB nm fn kd e c
section
variable {nm fn : Nat → Str} {kd : Kd} {o o' : Operator} {r r' : CmpOp} {a b c e : Expr} {es : List Expr} {x y z : X} {xs : XS} {s t u : B} {it : It} {k : Nat} {p q p1 p2 p3 p4 : Pos}
theorem CX.var (i : Nat) : CX nm fn kd (.Name (nm i) p) (.var i) := fun _ k => k p
theorem CX.int {i : Int} : CX nm fn kd (.Constant (.int i) k p) (.lit (.int i)) := fun _ g => g _ k p rfl
theorem CX.strC {i : Str} : CX nm fn kd (.Constant (.str i) k p) (.lit (.str i)) := fun _ g => g _ k p rfl
theorem CX.noneC : CX nm fn kd (.Constant .none k p) (.lit .none) := fun _ g => g _ k p rfl
theorem CX.boolC {i : Bool} : CX nm fn kd (.Constant (.bool i) k p) (.lit (.bool i)) := fun _ g => g _ k p rfl
theorem CX.tup (h : CXs nm fn kd es xs) : CX nm fn kd (.Tuple es k p) (.tup xs) := fun _ g => g es k p h
theorem CX.lst (h : CXs nm fn kd es xs) : CX nm fn kd (.List es p) (.lst xs) := fun _ g => g es p h
theorem CX.bin (h : CX nm fn kd a x) (i : CX nm fn kd b y) : CX nm fn kd (.BinOp a o b p) (.bin o x y) := fun _ k => k a b p h i
theorem CX.neg (h : CX nm fn kd a x) : CX nm fn kd (.UnaryOp .USub a p) (.neg x) := fun _ k => k a p h
theorem CX.cmp (h : CX nm fn kd a x) (i : CX nm fn kd b y) : CX nm fn kd (.Compare a [r] [b] p) (.cmp r x y) := fun _ k => k a b p h i
theorem CX.ife (j : CB nm fn kd c s) (h : CX nm fn kd a x) (i : CX nm fn kd b y) : CX nm fn kd (.IfExp c a b p) (.ife s x y) := fun _ k => k c a b p j h i
theorem CX.idx (h : CX nm fn kd a x) (i : CX nm fn kd b y) : CX nm fn kd (.Subscript a b p) (.idx x y) := fun _ k => k a b p h i
theorem CX.from_ (h : CX nm fn kd a x) (i : CX nm fn kd b y) : CX nm fn kd (.Subscript a (.Slice (some b) none none q) p) (.from_ x y) := fun _ k => k a b p q h i
theorem CX.upto (h : CX nm fn kd a x) (i : CX nm fn kd b y) : CX nm fn kd (.Subscript a (.Slice none (some b) none q) p) (.upto x y) := fun _ k => k a b p q h i
theorem CX.len (g : kd "len" = some .globalImplicit) (h : CX nm fn kd a x) : CX nm fn kd (.Call (.Name "len" q) [a] [] p) (.len x) := fun _ k => k a p q g h
theorem CX.max2 (g : kd "max" = some .globalImplicit) (h : CX nm fn kd a x) (i : CX nm fn kd b y) : CX nm fn kd (.Call (.Name "max" q) [a, b] [] p) (.max2 x y) := fun _ k => k a b p q g h i
theorem CX.str (g : kd "str" = some .globalImplicit) (h : CX nm fn kd a x) : CX nm fn kd (.Call (.Name "str" q) [a] [] p) (.str x) := fun _ k => k a p q g h
theorem CX.tupOf (g : kd "tuple" = some .globalImplicit) (h : CX nm fn kd a x) : CX nm fn kd (.Call (.Name "tuple" q) [a] [] p) (.tupOf x) := fun _ k => k a p q g h
theorem CX.lstOf (g : kd "list" = some .globalImplicit) (h : CX nm fn kd a x) : CX nm fn kd (.Call (.Name "list" q) [a] [] p) (.lstOf x) := fun _ k => k a p q g h
theorem CX.sorted (g : kd "sorted" = some .globalImplicit) (h : CX nm fn kd a x) : CX nm fn kd (.Call (.Name "sorted" q) [a] [] p) (.sorted x) := fun _ k => k a p q g h
theorem CX.call (f : Nat) (g : kd (fn f) = some .globalImplicit) (h : CX nm fn kd a x) (i : CXs nm fn kd es xs) : CX nm fn kd (.Call (.Name (fn f) q) (a :: es) [] p) (.call f (.cons x xs)) := fun _ k => k a es p q g fun _ k => k a es h i
theorem CX.comp {elt target iter : Expr} {ifs : List Expr} {scope : Scope} {tg : List Nat} (caps : List Nat) (i : CIt nm fn kd iter it) (T : Tg (kdC kd scope) nm target tg) (f : CIf nm fn (kdC kd scope) ifs s) (h : CX nm fn (kdC kd scope) elt x)
    (h1 : ∀ y ∈ scope.names, y.2 ≠ .cell) (h2 : scope.kind = .function) (h3 : ∀ y ∈ scope.names, y.2 = .local → scope.names.lookup y.1 = some .local) (h4 : ∀ y ∈ scope.names, y.2 = .free → kd y.1 = some .cell)
    (h5 : ∀ i ∈ caps, (nm i, NameKind.free) ∈ scope.names ∧ kdC kd scope (nm i) = some .cell ∧ i ∉ tg) : CX nm fn kd (.ListComp elt [⟨target, iter, ifs, 0⟩] scope p) (.comp x tg it s caps) := fun _ k => k elt target iter ifs scope p i T f h ⟨h1, h2, h3, h4⟩ h5
theorem CX.flat {iter : Expr} {scope : Scope} {sp n : Str} (i : CIt nm fn kd iter it) (g1 : kdC kd scope n = some .local) (g2 : kdC kd scope sp = some .local) (g3 : (n == ("__debug__" : Str)) = false) (g4 : (sp == ("__debug__" : Str)) = false)
    (h1 : ∀ y ∈ scope.names, y.2 ≠ .cell) (h2 : scope.kind = .function) (h3 : ∀ y ∈ scope.names, y.2 = .local → scope.names.lookup y.1 = some .local) (h4 : ∀ y ∈ scope.names, y.2 = .free → kd y.1 = some .cell) :
    CX nm fn kd (.ListComp (.Name n p1) [⟨.Name sp p2, iter, [], 0⟩, ⟨.Name n p3, .Name sp p4, [], 0⟩] scope p) (.flat it) := fun _ k => k iter scope sp n p p1 p2 p3 p4 i g1 g2 g3 g4 ⟨h1, h2, h3, h4⟩
theorem CXs.nil : CXs nm fn kd [] .nil := (rfl : ([] : List Expr) = [])
theorem CXs.cons (h : CX nm fn kd e x) (i : CXs nm fn kd es xs) : CXs nm fn kd (e :: es) (.cons x xs) := fun _ k => k e es h i
theorem CB.cmp (h : CX nm fn kd a x) (i : CX nm fn kd b y) : CB nm fn kd (.Compare a [r] [b] p) (.cmp r x y) := fun _ k => k a b p h i
theorem CB.eq (h : CX nm fn kd a x) (i : CX nm fn kd b y) : CB nm fn kd (.Compare a [.Eq] [b] p) (.eq x y) := fun _ k => k a b p h i
theorem CB.ne (h : CX nm fn kd a x) (i : CX nm fn kd b y) : CB nm fn kd (.Compare a [.NotEq] [b] p) (.ne x y) := fun _ k => k a b p h i
theorem CB.isN (h : CX nm fn kd a x) : CB nm fn kd (.Compare a [.Is] [.Constant .none k q] p) (.isN x) := fun _ g => g a p q k h
theorem CB.notN (h : CX nm fn kd a x) : CB nm fn kd (.Compare a [.IsNot] [.Constant .none k q] p) (.notN x) := fun _ g => g a p q k h
theorem CB.chain (h : CX nm fn kd a x) (i : CX nm fn kd b y) (j : CX nm fn kd c z) : CB nm fn kd (.Compare a [r, r'] [b, c] p) (.chain r r' x y z) := fun _ k => k a b c p h i j
theorem CB.and (h : CB nm fn kd a s) (i : CB nm fn kd b t) : CB nm fn kd (.BoolOp .And [a, b] p) (.and s t) := fun _ k _ => k a b p h i
theorem CB.and3 (h : CB nm fn kd a s) (i : CB nm fn kd b t) (j : CB nm fn kd c u) : CB nm fn kd (.BoolOp .And [a, b, c] p) (.and s (.and t u)) := fun _ _ k => k a b c p h (.and i j)
theorem CB.or (h : CB nm fn kd a s) (i : CB nm fn kd b t) : CB nm fn kd (.BoolOp .Or [a, b] p) (.or s t) := fun _ k => k a b p h i
theorem CB.not (h : CB nm fn kd a s) : CB nm fn kd (.UnaryOp .Not a p) (.not s) := fun _ k => k a p h
theorem CB.name (i : Nat) : CB nm fn kd (.Name (nm i) p) (.val (.var i)) := fun _ k _ => k i p
theorem CB.callV {f : Expr} (h : CX nm fn kd (.Call f es [] p) x) : CB nm fn kd (.Call f es [] p) (.val x) := fun _ _ k => k f es p h
theorem CIf.none : CIf nm fn kd [] .tt := .inl ⟨rfl, rfl⟩
theorem CIf.one (h : CB nm fn kd e s) : CIf nm fn kd [e] s := .inr ⟨e, rfl, h⟩
theorem CIt.seq (h : CX nm fn kd e x) : CIt nm fn kd e (.seq x) := h
theorem CIt.range (g : kd "range" = some .globalImplicit) (h : CX nm fn kd a x) : CIt nm fn kd (.Call (.Name "range" q) [a] [] p) (.range x) := fun _ k => k a p q g h
end
section
variable {nm fn : Nat → Str} {kd : Str → Option NameKind} {e : Expr} {x : X}
/-- what the walk asks of an expression's form -/
structure PlainX (e : Expr) : Prop where
  star : ∀ (es : List Expr) (env : Env), starEach (e :: es) env = (false, PySem.eval e env) :: starEach es env
  marks : ∀ o : CmpOp, behindInMarks o e = false
  sub : ∀ o i : Value, subscripted e false o i = operate [o, i] (getItem o i)
  foldS : ∀ (env : Env) (v : Value), foldedSetIterable e env v = pure v
theorem CX.plainX (c : CX nm fn kd e x) : PlainX e := by
  cases x with
  | tup _ | bin _ _ _ | cmp _ _ _ | idx _ _ | len _ | str _ | tupOf _ | lstOf _ | sorted _ | var _ | lit _ | lst _ | neg _ | ife _ _ _ | from_ _ _ | upto _ _ | max2 _ _ | call _ _ | comp _ _ _ _ _ | flat _ =>
    apply c; intros; exact ⟨fun _ _ => rfl, fun _ => rfl, fun _ _ => rfl, fun _ _ => rfl⟩
theorem CX.star (c : CX nm fn kd e x) (es : List Expr) (env : Env) : starEach (e :: es) env = (false, PySem.eval e env) :: starEach es env := c.plainX.star es env
theorem CX.marks (c : CX nm fn kd e x) (o : CmpOp) : behindInMarks o e = false := c.plainX.marks o
theorem CX.sub (c : CX nm fn kd e x) (o i : Value) : subscripted e false o i = operate [o, i] (getItem o i) := c.plainX.sub o i
theorem CX.foldS (c : CX nm fn kd e x) (env : Env) (v : Value) : foldedSetIterable e env v = pure v := c.plainX.foldS env v
theorem CIt.foldS {it : It} (c : CIt nm fn kd e it) (env : Env) (v : Value) : foldedSetIterable e env v = pure v := by
  cases it with
  | seq x => exact CX.foldS c env v
  | range x => exact c (fun e => foldedSetIterable e env v = pure v) fun _ _ _ _ _ => rfl
end
end Mine
-- B8
namespace Mine
open PySem PySem.W PyProof.Rows PySem.Calls
structure Cx (prog : Program) (w : World) (A : Around) (H : Heap) (gl : Str → Option Value) (fn : Nat → Str) (Φ : Nat → List D → Option (Except Unit D)) (W : Heap → Prop) : Prop where
  hA : A.handled = none
  hu : A.units ≤ 9000
  top : GlobOk H gl
  len : gl "len" = some (.builtin "len")
  max : gl "max" = some (.builtin "max")
  str : gl "str" = some (.type "str")
  tup : gl "tuple" = some (.type "tuple")
  lst : gl "list" = some (.type "list")
  srt : gl "sorted" = some (.builtin "sorted")
  rng : gl "range" = some (.type "range")
  mono : ∀ h h', W h → Kp h h' → W h'
  sub : ∀ h, W h → Kp H h
  calls : ∀ f ds d, Φ f ds = some (.ok d) → ∃ q o fd, gl (fn f) = some (.ref q) ∧ H.get? q = some o ∧ o.data = .func fd ∧ (fn f == ("__debug__" : Str)) = false ∧
    ∀ O s vs, W s.heap → OIn O s.heap → RpAll O s.heap vs ds → ∀ (E : Value → Shared → Prop) (Q : Value → Shared → Prop), (∀ v s', Ks s s' → Rp O s'.heap v d → Q v s') → wpAny (model prog w) A (call (.ref q) vs) Q E s
theorem bindK {α β : Type} {x : Option α} {f : α → Option β} {b : β} {P : Prop} (h : x.bind f = some b) (k : ∀ a, x = some a → f a = some b → P) : P := by
  cases x with
  | none => exact nomatch h
  | some a => exact k a rfl h
@[elab_as_elim] theorem mapK {α β : Type} {f : α → β} {b : β} {P : β → Prop} {x : Option α} (h : x.map f = some b) (k : ∀ a, x = some a → P (f a)) : P b := by
  cases x with
  | none => exact nomatch h
  | some a => exact Option.some.inj h ▸ k a rfl
@[elab_as_elim] theorem ifK {α : Type} {c : Prop} [Decidable c] {a b : α} {P : α → Prop} (h : (if c then some a else none) = some b) (k : c → P a) : P b := by
  by_cases q : c
  · rw [if_pos q] at h; exact Option.some.inj h ▸ k q
  · rw [if_neg q] at h; exact nomatch h
theorem ifOK {α : Type} {c : Prop} [Decidable c] {a : Option α} {b : α} {P : Prop} (h : (if c then a else none) = some b) (k : c → a = some b → P) : P := by
  by_cases q : c
  · rw [if_pos q] at h; exact k q h
  · rw [if_neg q] at h; exact nomatch h
@[elab_as_elim] theorem smallK {n : Nat} {r d : D} {P : D → Prop} (h : small n r = some d) (k : n ≤ 1000 → P r) : P d := ifK h k
@[elab_as_elim] theorem someK {α : Type} {a b : α} {P : α → Prop} (h : some a = some b) (k : P a) : P b := Option.some.inj h ▸ k
@[elab_as_elim] theorem intK {d : D} {i : Int} {P : D → Prop} (h : intD d = some i) (k : P (.int i)) : P d := by
  cases d with
  | int j => exact Option.some.inj h ▸ k
  | _ => exact nomatch h
@[elab_as_elim] theorem strK {d : D} {i : Str} {P : D → Prop} (h : strD d = some i) (k : P (.str i)) : P d := by
  cases d with
  | str j => exact Option.some.inj h ▸ k
  | _ => exact nomatch h
@[elab_as_elim] theorem lstK {d : D} {i : List D} {P : D → Prop} (h : lstD d = some i) (k : P (.list i)) : P d := by
  cases d with
  | list j => exact Option.some.inj h ▸ k
  | _ => exact nomatch h
@[elab_as_elim] theorem pairK {d : D} {p : D × D} {P : D → Prop} (h : pairD d = some p) (k : P (.tuple [p.1, p.2])) : P d := by
  cases d with
  | tuple l => cases l with
    | nil => exact nomatch h
    | cons a l => cases l with
      | nil => exact nomatch h
      | cons b l => cases l with
        | nil => cases h; exact k
        | cons _ _ => exact nomatch h
  | _ => exact nomatch h
theorem int2K {x y d : D} {f : Int → Int → Option D} {P : D → D → Prop} (h : int2 x y f = some d) (k : ∀ a b, f a b = some d → P (.int a) (.int b)) : P x y :=
  bindK h fun a h1 h => bindK h fun b h2 h => intK h1 (intK h2 (k a b h))
theorem bindIK {x : Option D} {β : Type} {f : Int → Option β} {b : β} {P : Prop} (h : (x.bind intD).bind f = some b) (k : ∀ i, x = some (.int i) → f i = some b → P) : P :=
  bindK h fun i h1 h2 => bindK h1 fun d h3 h4 => k i (h3.trans (congrArg some (intK (P := fun d => d = .int i) h4 rfl))) h2
theorem bind_some {α β : Type} {x : Option α} {f : α → Option β} {b : β} (h : x.bind f = some b) : ∃ a, x = some a ∧ f a = some b := bindK h fun a h1 h2 => ⟨a, h1, h2⟩
theorem map_some' {α β : Type} {x : Option α} {f : α → β} {b : β} (h : x.map f = some b) : ∃ a, x = some a ∧ f a = b := mapK h fun a h1 => ⟨a, h1, rfl⟩
theorem intD_some {d : D} {i : Int} (h : intD d = some i) : d = .int i := intK h rfl
theorem bindI {x : Option D} {β : Type} {f : Int → Option β} {b : β} (h : (x.bind intD).bind f = some b) : ∃ i, x = some (.int i) ∧ f i = some b := bindIK h fun i h1 h2 => ⟨i, h1, h2⟩
theorem small_some {n : Nat} {r d : D} (h : small n r = some d) : n ≤ 1000 ∧ d = r := smallK h fun c => ⟨c, rfl⟩
theorem if_some {α : Type} {c : Prop} [Decidable c] {a b : α} (h : (if c then some a else none) = some b) : c ∧ a = b := ifK h fun c => ⟨c, rfl⟩
theorem if_someO {α : Type} {c : Prop} [Decidable c] {a : Option α} {b : α} (h : (if c then a else none) = some b) : c ∧ a = some b := ifOK h fun c e => ⟨c, e⟩
section
variable {prog : Program} {w : World} {A : Around} {H : Heap} {gl : Str → Option Value} {nm fn : Nat → Str} {Φ : Nat → List D → Option (Except Unit D)} {W : Heap → Prop}
theorem seqK {x : X} {ρ : Vars} {r : Option D} {b : Bool} {ds : List D} {P : X → Bool → List D → Prop} (h : seqV x ρ r = some (b, ds)) (k1 : ∀ i es, ρ i = some (.own es) → P (.var i) true es) (k2 : ∀ d, r = some d → seqOf d = some (b, ds) → P x b ds) : P x b ds := by
  have key : r.bind seqOf = some (b, ds) → P x b ds := fun h => bindK h k2
  cases x with
  | var i =>
    have h : (match ρ i with | some (.own ds) => some (true, ds) | _ => r.bind seqOf) = some (b, ds) := h
    cases hi : ρ i with
    | none => rw [hi] at h; exact key h
    | some sl =>
      rw [hi] at h
      cases sl with
      | fro d => exact key h
      | own es => cases h; exact k1 i _ hi
  | _ => exact key h
theorem seq_of {kd : Str → Option NameKind} {e : Expr} {x : X} {env : Env} {O : Addr → Prop} {ρ : Vars} {vl : Nat → Value} {s : Shared} {b : Bool} {ds : List D} (hn : NmOk nm) (c : CX nm fn kd e x) (ek : EnvOk kd env) (V : Vw nm env O s.heap ρ vl)
    (ih : ∀ d, eval Φ x ρ = some d → Ev prog w A env e O s d) (h : seqV x ρ (eval Φ x ρ) = some (b, ds)) : EvSeq prog w A env e O s b ds := by
  revert c ih
  refine seqK (P := fun x b ds => CX nm fn kd e x → (∀ d, eval Φ x ρ = some d → Ev prog w A env e O s d) → EvSeq prog w A env e O s b ds) h (fun i es hi c ih => ?_) fun d h1 h2 c ih => ?_
  · exact c (fun e => EvSeq prog w A env e O s true es) fun p => EvSeq.var ek hn V hi
  · cases d with
    | list l => cases h2; exact (ih _ h1).seqL
    | tuple l => cases h2; exact (ih _ h1).seqT
    | _ => exact nomatch h2
theorem num {env : Env} {O : Addr → Prop} {s : Shared} {a b : Expr} {x y d : D} {f : Int → Int → Option D} {P : Prop} (h1 : Ev prog w A env a O s x) (h2 : ∀ s', Ks s s' → Ev prog w A env b O s' y) (h : int2 x y f = some d)
    (k : ∀ i j, Ev prog w A env a O s (.int i) → (∀ s', Ks s s' → Ev prog w A env b O s' (.int j)) → f i j = some d → P) : P :=
  int2K (P := fun x y => Ev prog w A env a O s x → (∀ s', Ks s s' → Ev prog w A env b O s' y) → P) h (fun i j h h1 h2 => k i j h1 h2 h) h1 h2
theorem bin_sound {env : Env} {O : Addr → Prop} {s : Shared} {a b : Expr} {o : Operator} {p : Pos} {x y d : D} (hO : OIn O s.heap) (h1 : Ev prog w A env a O s x) (h2 : ∀ s', Ks s s' → Ev prog w A env b O s' y) (h : binD o x y = some d) : Ev prog w A env (.BinOp a o b p) O s d := by
  cases o with
  | Add =>
    cases x with
    | int a => exact bindK h fun b h3 h => by cases intD_some h3; exact someK h (Ev.addI h1 h2)
    | str a => exact bindK h fun b h3 h => by cases (strK h3 rfl : y = .str b); exact ifK h fun hc => Ev.addS h1 h2 hc
    | list a => exact bindK h fun b h3 h => by cases (lstK h3 rfl : y = .list b); exact ifK h fun hc => Ev.addL h1 h2 hO hc
    | _ => exact nomatch h
  | Sub => exact num h1 h2 h fun a b i j h => someK h (Ev.subI i j)
  | Mult => exact num h1 h2 h fun a b i j h => ifK h fun hc => Ev.mulI i j (.of_right (intBits_le_64 hc.1 hc.2))
  | FloorDiv => exact num h1 h2 h fun a b i j h => ifK h fun hc => Ev.divI i j hc.1 hc.2
  | Mod => exact num h1 h2 h fun a b i j h => ifK h fun hc => Ev.modI i j hc
  | Pow => exact num h1 h2 h fun a b i j h => ifK h fun hc => Ev.powI i j hc.1 (Int.le_trans hc.2.1 (by decide)) hc.2.2
  | _ => exact nomatch h
theorem cmpDK {o : CmpOp} {x y : D} {b : Bool} {P : D → D → Bool → Prop} (h : cmpD o x y = some b) (k : ∀ f i j, cmpI o = some f → P (.int i) (.int j) (f i j)) : P x y b :=
  bindK h fun i h1 h => bindK h fun j h2 h => intK h1 (intK h2 (mapK h fun f h3 => k f i j h3))
end
theorem Rp.ns {O : Addr → Prop} {h h' : Heap} {C : Addr} {m : Str → Option Value} {v : Value} {d : D} (a : h.Ns C m) (x : Heap.ExtBut C h h') (r : Rp O h v d) : Rp O h' v d :=
  r.trans (fun _ x => x) (fun b us n q _ => x b _ (ns_ne_LL a q) q) (fun b us n q => x b _ (ns_ne_T a q) q)
section
variable {prog : Program} {w : World} {A : Around} {kd : Str → Option NameKind} {nm : Nat → Str} {env : Env}
theorem store_local {x : Str} {v : Value} {m : Str → Option Value} {s : Shared} {E : Value → Shared → Prop} {Q : Unit → Shared → Prop} (ek : env.scope.kind = .function) (hx : env.kindOf x = some .local) (hn : s.heap.Ns env.locals m)
    (h : ∀ s', s'.heap.Ns env.locals (fun y => if y = x then some v else m y) → KsB env.locals s s' → Q () s') : wpAny (model prog w) A (storeName env x v) Q E s :=
  wpAny_storeName_local hx hn (fun h' hn' sb => h _ hn' ⟨h', _, rfl, sb.extBut⟩) (by rw [ek]; rfl)
/-- a loop's or a comprehension's target, its names local -/
theorem assign_local {target : Expr} {tg : List Nat} {O : Addr → Prop} {s : Shared} {m : Str → Option Value} {v : Value} {d : D} {ρ ρ' : Vars} {vl : Nat → Value} {E : Value → Shared → Prop} {Q : Unit → Shared → Prop} (hA : A.handled = none) (T : Tg kd nm target tg)
    (ek : env.scope.kind = .function) (hk : ∀ x, env.kindOf x = kd x) (hn : s.heap.Ns env.locals m) (r : Rp O s.heap v d) (hb : bindT tg d ρ = some ρ')
    (h : ∀ (s' : Shared) (m' : Str → Option Value) (vl' : Nat → Value), s'.heap.Ns env.locals m' → KsB env.locals s s' → (∀ j ∈ tg, m' (nm j) = some (vl' j) ∧ kd (nm j) = some .local ∧ ∃ d, ρ' j = some (.fro d) ∧ Rp O s'.heap (vl' j) d) → (∀ j, j ∉ tg → vl' j = vl j ∧ ρ' j = ρ j) → Q () s') :
    wpAny (model prog w) A (assign target env v) Q E s := by
  induction T with
  | @one i p hi =>
    have e := Option.some.inj hb
    subst e
    refine wpAny_assign_Name (store_local ek ((hk _).trans hi) hn fun s' hn' ks => h s' _ (updV vl i v) hn' ks (fun j hj => ?_) fun j hj => ?_)
    · cases List.mem_singleton.mp hj
      have ui : updV vl i v i = v := if_pos rfl
      exact ⟨(if_pos rfl).trans (congrArg some ui.symm), hi, d, if_pos rfl, (congrArg (Rp O s'.heap · d) ui).mpr (r.ns hn ks.ext)⟩
    · have q : j ≠ i := fun z => hj (List.mem_singleton.mpr z)
      exact ⟨if_neg q, if_neg q⟩
  | @two i j k p q z hi hj hne hij =>
    obtain ⟨⟨d1, d2⟩, hp, rfl⟩ := map_some' hb
    have r : Rp O s.heap v (.tuple [d1, d2]) := pairK (P := fun d => Rp O s.heap v d → Rp O s.heap v (.tuple [d1, d2])) hp id r
    refine r.tupE fun a vs n ht rs => ?_
    revert ht
    refine rs.consE fun v1 vs r1 rs => rs.consE fun v2 vs r2 rs => rs.nilE fun ht => ?_
    refine wpAny_assign_Tuple hA ⟨_, ht, rfl, _, rfl⟩ rfl rfl fun h' x => ?_
    have kp : Kp s.heap h' := fun b o e => x b o (Nat.ne_of_lt (Heap.lt_size e)) e
    refine assignInOrder_cons (wpAny_assign_Name (store_local (s := { s with heap := h' }) ek ((hk _).trans hi) (hn.keeps kp) fun s1 hn1 ks1 => ?_))
    refine assignInOrder_cons (wpAny_assign_Name (store_local ek ((hk _).trans hj) hn1 fun s2 hn2 ks2 => ?_))
    have ui : updV (updV vl i v1) j v2 i = v1 := (if_neg hij).trans (if_pos rfl)
    have uj : updV (updV vl i v1) j v2 j = v2 := if_pos rfl
    refine assignInOrder_nil (h s2 _ (updV (updV vl i v1) j v2) hn2 (((Ks.heap s h' s.toks kp).but _).trans (ks1.trans ks2)) (fun k hk' => ?_) fun k hk' => ?_)
    · rcases List.mem_cons.mp hk' with rfl | hk'
      · exact ⟨(if_neg hne).trans ((if_pos rfl).trans (congrArg some ui.symm)), hi, d1, (if_neg hij).trans (if_pos rfl), ui.symm ▸ ((r1.keeps kp).ns (hn.keeps kp) ks1.ext).ns hn1 ks2.ext⟩
      · cases List.mem_singleton.mp hk'
        exact ⟨(if_pos rfl).trans (congrArg some uj.symm), hj, d2, if_pos rfl, uj.symm ▸ ((r2.keeps kp).ns (hn.keeps kp) ks1.ext).ns hn1 ks2.ext⟩
    · have q1 : k ≠ i := fun z => hk' (z ▸ .head _)
      have q2 : k ≠ j := fun z => hk' (z ▸ .tail _ (.head _))
      exact ⟨(if_neg q2).trans (if_neg q1), (if_neg q2).trans (if_neg q1)⟩
end
end Mine
-- F1
namespace Mine
open PySem PySem.W PyProof.Rows PySem.Calls
section
variable {elt t1 i1 t2 i2 : Expr} {scope : Scope} {pos : Pos} {it acc : Value} {env : Env}
theorem turn0 : compTurn (.ListComp elt [⟨t1, i1, [], 0⟩, ⟨t2, i2, [], 0⟩] scope pos) 0 it acc env = (standAt i1.pos >>= fun _ => pyNext it >>= fun r => match r with
    | none => pure (.done .next)
    | some v => letOwnedTupleGo t1 it v >>= fun _ => assign t1 env v >>= fun _ =>
      (PySem.eval i2 env >>= fun x => standAt i2.pos >>= fun _ => foldedSetIterable i2 env x >>= fun x => holding [x] (pyIter x) >>= fun it' =>
        runOwn (.compStart (.ListComp elt [⟨t1, i1, [], 0⟩, ⟨t2, i2, [], 0⟩] scope pos) 1 it' acc env) env >>= fun _ =>
      again (.compLoop (.ListComp elt [⟨t1, i1, [], 0⟩, ⟨t2, i2, [], 0⟩] scope pos) 0 it acc env))) := by rfl
theorem turn1 : compTurn (.ListComp elt [⟨t1, i1, [], 0⟩, ⟨t2, i2, [], 0⟩] scope pos) 1 it acc env = (standAt i2.pos >>= fun _ => pyNext it >>= fun r => match r with
    | none => pure (.done .next)
    | some v => letOwnedTupleGo t2 it v >>= fun _ => assign t2 env v >>= fun _ =>
      (PySem.eval elt env >>= fun x => call (.builtin "list.append") [acc, x] >>= fun _ => pure ()) >>= fun _ =>
      again (.compLoop (.ListComp elt [⟨t1, i1, [], 0⟩, ⟨t2, i2, [], 0⟩] scope pos) 1 it acc env)) := by rfl
variable {prog : Program} {w : World} {A : Around} {s : Shared} {R : Result → Shared → Prop}
theorem start1 (h0 : codeAny (model prog w) A (.compLoop (.ListComp elt [⟨t1, i1, [], 0⟩, ⟨t2, i2, [], 0⟩] scope pos) 1 it acc env) R s)
    (h : wpAny (model prog w) A (pyIter it) (fun it' s' => codeAny (model prog w) A (.compLoop (.ListComp elt [⟨t1, i1, [], 0⟩, ⟨t2, i2, [], 0⟩] scope pos) 1 it' acc env) R s') (fun _ _ => False) s) :
    codeAny (model prog w) A (.compStart (.ListComp elt [⟨t1, i1, [], 0⟩, ⟨t2, i2, [], 0⟩] scope pos) 1 it acc env) R s := by
  refine codeAny_of_tree ?_
  show wpAny _ _ ((compStart (.ListComp elt [⟨t1, i1, [], 0⟩, ⟨t2, i2, [], 0⟩] scope pos) 1 it acc env).onRaise (fun x => do noteFrame x env; standAt theWindowsPlace)) _ _ s
  refine wpAny_notedAt ?_
  unfold compStart
  show wpAny _ _ (ask >>= _) _ _ s
  refine wpAny_bind (wpAny_askSetting (wpAny_ite ?_))
  split
  · first
      | exact wpAny_bind (wpAny_pure (wpAny_pure (And.intro rfl h0)))
      | exact wpAny_pure (And.intro rfl h0)
  · first
      | exact wpAny_bind (wpAny_rule (wpAny_bind (wpAny_standAt (wpAny_bind (wpAny_mono h (fun it' s' h' => wpAny_pure (And.intro rfl h')) fun _ _ x => x.elim)))))
      | (refine wpAny_bind (wpAny_rule ?_); show wpAny _ _ (standAt i2.pos >>= _) _ _ s; exact wpAny_bind (wpAny_standAt (wpAny_bind (wpAny_mono h (fun it' s' h' => wpAny_pure (And.intro rfl h')) fun _ _ x => x.elim))))
theorem loop0 (I : Nat → Shared → Prop)
    (turn : ∀ n s, I n s → wpAny (model prog w) A (pyNext it) (fun r s₁ => match r with
      | none => R (.ok .next) s₁
      | some v => wpAny (model prog w) A (letOwnedTupleGo t1 it v) (fun _ s₂ => wpAny (model prog w) A (assign t1 env v) (fun _ s₃ =>
          wpAny (model prog w) A (PySem.eval i2 env) (fun x s₄ => wpAny (model prog w) A (pyIter x) (fun it' s₅ => codeAny (model prog w) A (.compStart (.ListComp elt [⟨t1, i1, [], 0⟩, ⟨t2, i2, [], 0⟩] scope pos) 1 it' acc env)
            (fun r s' => match r with | .ok _ => ∃ m, m < n ∧ I m s' | .error _ => False) s₅) (fun _ _ => False) s₄) (fun _ _ => False) s₃) (fun _ _ => False) s₂) (fun _ _ => False) s₁) (fun _ _ => False) s)
    (hf : ∀ x, foldedSetIterable i2 env x = pure x) (n : Nat) (h : I n s) : codeAny (model prog w) A (.compLoop (.ListComp elt [⟨t1, i1, [], 0⟩, ⟨t2, i2, [], 0⟩] scope pos) 0 it acc env) R s := by
  refine codeAny_loop rfl I (fun n s hI => ?_) n h
  show wpAny _ A ((compTurn (.ListComp elt [⟨t1, i1, [], 0⟩, ⟨t2, i2, [], 0⟩] scope pos) 0 it acc env).onRaise (fun x => do noteFrame x env; theTreesLotGoes x)) _ _ s
  refine wpAny_noted ?_
  rw [turn0]
  refine wpAny_mono (E := fun _ _ => False) (wpAny_bind (wpAny_standAt (wpAny_bind (wpAny_mono (turn n s hI) (fun r s₁ h₁ => ?_) fun _ _ h' => h')))) (fun _ _ x => x) fun _ _ x => x.elim
  cases r with
  | none => exact wpAny_pure h₁
  | some v =>
    refine wpAny_bind (wpAny_mono h₁ (fun _ s₂ h₂ => wpAny_bind (wpAny_mono h₂ (fun _ s₃ h₃ => wpAny_bind (wpAny_mono h₃ (fun x s₄ h₄ => wpAny_bind (wpAny_standAt ?_)) fun _ _ x => x)) fun _ _ x => x)) fun _ _ x => x)
    rw [hf]
    refine wpAny_bind (wpAny_pure (wpAny_bind (wpAny_holding (wpAny_mono h₄ (fun it' s₅ h₅ => wpAny_bind (wpAny_runOwn (codeAny_mono h₅ fun r s' hr => ?_))) fun _ _ x => x))))
    cases r with
    | ok f => exact wpAny_pure ⟨rfl, hr⟩
    | error e => exact hr.elim
theorem loop1 (I : Nat → Shared → Prop)
    (turn : ∀ n s, I n s → wpAny (model prog w) A (pyNext it) (fun r s₁ => match r with
      | none => R (.ok .next) s₁
      | some v => wpAny (model prog w) A (letOwnedTupleGo t2 it v) (fun _ s₂ => wpAny (model prog w) A (assign t2 env v) (fun _ s₃ =>
          wpAny (model prog w) A (PySem.eval elt env) (fun x s₅ => wpAny (model prog w) A (call (.builtin "list.append") [acc, x]) (fun _ s₆ => ∃ m, m < n ∧ I m s₆) (fun _ _ => False) s₅) (fun _ _ => False) s₃) (fun _ _ => False) s₂) (fun _ _ => False) s₁) (fun _ _ => False) s)
    (n : Nat) (h : I n s) : codeAny (model prog w) A (.compLoop (.ListComp elt [⟨t1, i1, [], 0⟩, ⟨t2, i2, [], 0⟩] scope pos) 1 it acc env) R s := by
  refine codeAny_loop rfl I (fun n s hI => ?_) n h
  show wpAny _ A ((compTurn (.ListComp elt [⟨t1, i1, [], 0⟩, ⟨t2, i2, [], 0⟩] scope pos) 1 it acc env).onRaise (fun x => do noteFrame x env; theTreesLotGoes x)) _ _ s
  refine wpAny_noted ?_
  rw [turn1]
  refine wpAny_mono (E := fun _ _ => False) (wpAny_bind (wpAny_standAt (wpAny_bind (wpAny_mono (turn n s hI) (fun r s₁ h₁ => ?_) fun _ _ h' => h')))) (fun _ _ x => x) fun _ _ x => x.elim
  cases r with
  | none => exact wpAny_pure h₁
  | some v =>
    refine wpAny_bind (wpAny_mono h₁ (fun _ s₂ h₂ => wpAny_bind (wpAny_mono h₂ (fun _ s₃ h₃ => ?_) fun _ _ x => x)) fun _ _ x => x)
    exact wpAny_bind (wpAny_bind (wpAny_mono h₃ (fun x s₅ h₅ => wpAny_bind (wpAny_mono h₅ (fun _ s₆ h₆ => wpAny_pure (wpAny_pure ⟨rfl, h₆⟩)) fun _ _ x => x)) fun _ _ x => x))
end
/-- an iterator stays when another one turns -/
theorem IterAt.other {P O : Addr → Prop} {h h' : Heap} {I J : Addr} {ds : List D} {o : Obj} {vs : Array Value} (eJ : h.get? J = some o) (dJ : o.data = .fields vs) (hIJ : I ≠ J) (x : Heap.ExtBut J h h') (it : IterAt P O h I ds) : IterAt P O h' I ds := by
  induction it with
  | list l p i b r => obtain ⟨o', e', q⟩ := i; exact .list (x _ _ (ne_fieldsL eJ dJ l) l) p ⟨_, x _ _ hIJ e', q⟩ b (r.but eJ dJ x)
  | tup l i b r => obtain ⟨o', e', q⟩ := i; exact .tup (x _ _ (ne_fieldsT eJ dJ l) l) ⟨_, x _ _ hIJ e', q⟩ b (r.but eJ dJ x)
  | range r => exact .range (x _ _ hIJ r)
end Mine
-- F2
namespace Mine
open PySem PySem.W PyProof.Rows PySem.Calls
structure FI (hb : Heap) (O : Addr → Prop) (Dn C I : Addr) (rs done : List D) (h : Heap) : Prop where
  kb : Kp hb h
  ns : ∃ m, h.Ns C m
  acc : ∃ ys k, IsL h Dn ys k ∧ RpAll O h ys.toList done
  it : IterAt (fun a => a ≠ Dn) O h I rs
theorem kp_none' {h h' : Heap} (k : Kp h h') {a : Addr} (e : h'.get? a = none) : h.get? a = none := by
  cases q : h.get? a with
  | none => rfl
  | some o => exact nomatch e.symm.trans (k a o q)
theorem FI.turn {hb h h' : Heap} {O : Addr → Prop} {Dn C I J : Addr} {rs done : List D} {o : Obj} {vs : Array Value} (f : FI hb O Dn C I rs done h) (eJ : h.get? J = some o) (dJ : o.data = .fields vs) (hJ : hb.get? J = none) (hIJ : I ≠ J) (x : Heap.ExtBut J h h') : FI hb O Dn C I rs done h' := by
  obtain ⟨m, hn⟩ := f.ns
  obtain ⟨ys, k, hl, hr⟩ := f.acc
  exact ⟨but_kp hJ f.kb x, ⟨m, hn.extBut x (fun z => ns_ne_fields hn eJ dJ z.symm)⟩, ⟨ys, k, x _ _ (ne_fieldsL eJ dJ hl) hl, hr.but eJ dJ x⟩, f.it.other eJ dJ hIJ x⟩
theorem FI.stored {hb h h' : Heap} {O : Addr → Prop} {Dn C I : Addr} {rs done : List D} {m m' : Str → Option Value} (f : FI hb O Dn C I rs done h) (hn : h.Ns C m) (hC : hb.get? C = none) (x : Heap.ExtBut C h h') (hn' : h'.Ns C m') : FI hb O Dn C I rs done h' := by
  obtain ⟨ys, k, hl, hr⟩ := f.acc
  exact ⟨but_kp hC f.kb x, ⟨m', hn'⟩, ⟨ys, k, x _ _ (ns_ne_L hn hl) hl, hr.ns hn x⟩, f.it.ns hn x⟩
section
variable {prog : Program} {w : World} {A : Around} {s : Shared} {R : Result → Shared → Prop} {env : Env} {O : Addr → Prop} {hb : Heap} {Dn I J : Addr} {scope : Scope} {pos : Pos} {i1 : Expr} {sp n : Str} {p1 p2 p3 p4 : Pos}
/-- what the inner loop keeps, what the outer one keeps -/
inductive NI (s : Shared) (hb : Heap) (O : Addr → Prop) (Dn C I J : Addr) (rs all : List D) : Nat → Shared → Prop
  | mk (r2 d2 : List D) (h : Heap) (tk : Nat) : FI hb O Dn C I rs d2 h → IterAt (fun a => a ≠ Dn) O h J r2 → d2 ++ r2 = all → NI s hb O Dn C I J rs all r2.length { s with heap := h, toks := tk }
inductive NO (s : Shared) (hb : Heap) (O : Addr → Prop) (Dn C I : Addr) (all : List D) : Nat → Shared → Prop
  | mk (r2 d2 o2 : List D) (h : Heap) (tk : Nat) : FI hb O Dn C I r2 d2 h → flatL r2 = some o2 → d2 ++ o2 = all → NO s hb O Dn C I all r2.length { s with heap := h, toks := tk }
theorem len_of_app {d r all : List D} {x : D} (e : d ++ x :: r = all) : d.length < all.length := by rw [← e, List.length_append, List.length_cons]; omega
theorem FI.add {hb h h' : Heap} {O : Addr → Prop} {Dn C I : Addr} {rs done : List D} {m : Str → Option Value} {ys : Array Value} {k k' : Nat} {v : Value} {d : D} (f : FI hb O Dn C I rs done h) (hDb : hb.get? Dn = none) (hDO : O Dn) (hDC : Dn ≠ C) (hn : h.Ns C m) (hl : IsL h Dn ys k) (hr : RpAll O h ys.toList done) (r : Rp O h v d)
    (hl' : IsL h' Dn (ys.push v) k') (x : Heap.ExtBut Dn h h') : FI hb O Dn C I rs (done ++ [d]) h' :=
  ⟨but_kp hDb f.kb x, ⟨m, hn.extBut x hDC.symm⟩, ⟨_, k', hl', by rw [Array.toList_push]; exact (hr.append (.one r)).go (Go.store (O := O) hl (.inr (.inr ⟨hDO, rfl⟩)) x hl')⟩, f.it.acc hl (fun q => q rfl) hDO x⟩
theorem inner_turn (hA : A.handled = none) (hk : env.scope.kind = .function) (kn : env.kindOf n = some .local) (dn : (n == ("__debug__" : Str)) = false) (hC : hb.get? env.locals = none) (hDb : hb.get? Dn = none) (hDO : O Dn) (hDC : Dn ≠ env.locals) (hIJ : I ≠ J) (hJ : hb.get? J = none) {rs all : List D} (hz : all.length ≤ 1000)
    (hR : ∀ h' tk, FI hb O Dn env.locals I rs all h' → R (.ok .next) { s with heap := h', toks := tk }) (k : Nat) (s' : Shared) (hinv : NI s hb O Dn env.locals I J rs all k s') :
    wpAny (model prog w) A (pyNext (.ref J)) (fun r s₁ => match r with
      | none => R (.ok .next) s₁
      | some v => wpAny (model prog w) A (letOwnedTupleGo (.Name n p3) (.ref J) v) (fun _ s₂ => wpAny (model prog w) A (assign (.Name n p3) env v) (fun _ s₃ =>
          wpAny (model prog w) A (PySem.eval (.Name n p1) env) (fun x s₅ => wpAny (model prog w) A (call (.builtin "list.append") [.ref Dn, x]) (fun _ s₆ => ∃ m, m < k ∧ NI s hb O Dn env.locals I J rs all m s₆) (fun _ _ => False) s₅) (fun _ _ => False) s₃) (fun _ _ => False) s₂) (fun _ _ => False) s₁) (fun _ _ => False) s' := by
  induction hinv with
  | mk r2 d2 h2 tk2 f2 it2 e2 =>
  obtain ⟨oJ, vJ, eJ, dJ, cJ⟩ := it2.there
  cases r2 with
  | nil =>
    rw [List.append_nil] at e2
    exact iter_end hA it2 fun h' x => hR h' tk2 (e2 ▸ f2.turn eJ dJ hJ hIJ x)
  | cons d r2 =>
    refine iter_next it2 fun v h' tk' x rv it' => ?_
    have f3 := f2.turn eJ dJ hJ hIJ x
    clear x eJ dJ it2 f2
    refine letOwned it' (wpAny_assign_Name ?_)
    obtain ⟨m, hn⟩ := f3.ns
    refine store_local (s := { s with heap := h', toks := tk' }) hk kn hn fun s4 n4 k4 => ?_
    obtain ⟨h4, t4, rfl, x4⟩ := k4
    have f4 := f3.stored hn hC x4 n4
    have it4 := it'.ns hn x4
    have r4 : Rp O h4 v d := rv.ns hn x4
    clear f3 it' rv hn x4
    refine wpAny_Name (wpAny_loadName_local (v := v) hk kn n4 (if_pos rfl) ?_) dn
    obtain ⟨ys, k, hl, hr⟩ := f4.acc
    have hlen := hr.length
    have hz' := len_of_app e2
    refine append_at (s := { s with heap := h4, toks := t4 }) hl (by rw [Array.length_toList] at hlen; omega) fun h5 n5 hl5 x5 => ?_
    exact ⟨r2.length, Nat.lt_succ_self _, .mk r2 (d2 ++ [d]) h5 t4 (f4.add hDb hDO hDC n4 hl hr r4 hl5 x5) (it4.acc hl (fun q => q rfl) hDO x5) (by rw [List.append_assoc]; exact e2)⟩
theorem inner (hA : A.handled = none) (hk : env.scope.kind = .function) (kn : env.kindOf n = some .local) (dn : (n == ("__debug__" : Str)) = false) (hC : hb.get? env.locals = none) (hDb : hb.get? Dn = none) (hDO : O Dn) (hDC : Dn ≠ env.locals) (hIJ : I ≠ J) (hJ : hb.get? J = none) {rs done xs : List D} {h : Heap}
    (f : FI hb O Dn env.locals I rs done h) (itJ : IterAt (fun a => a ≠ Dn) O h J xs) (hz : (done ++ xs).length ≤ 1000) {tk : Tok}
    (hR : ∀ h' tk, FI hb O Dn env.locals I rs (done ++ xs) h' → R (.ok .next) { s with heap := h', toks := tk }) :
    codeAny (model prog w) A (.compLoop (.ListComp (.Name n p1) [⟨.Name sp p2, i1, [], 0⟩, ⟨.Name n p3, .Name sp p4, [], 0⟩] scope pos) 1 (.ref J) (.ref Dn) env) R { s with heap := h, toks := tk } :=
  loop1 _ (inner_turn hA hk kn dn hC hDb hDO hDC hIJ hJ hz hR) xs.length (.mk xs done h tk f itJ rfl)
theorem flatL_cons {d : D} {r o : List D} (h : flatL (d :: r) = some o) : ∃ xs o', d = .tuple xs ∧ flatL r = some o' ∧ o = xs ++ o' := by
  obtain ⟨xs, h1, h⟩ := bind_some (f := fun xs => (flatL r).map fun r => xs ++ r) h
  obtain ⟨o', h2, h3⟩ := map_some' h
  cases d with
  | tuple ys => cases h1; exact ⟨_, o', rfl, h2, h3.symm⟩
  | _ => exact nomatch h1
theorem outer_turn (hA : A.handled = none) (hk : env.scope.kind = .function) (kn : env.kindOf n = some .local) (ks : env.kindOf sp = some .local) (dn : (n == ("__debug__" : Str)) = false) (ds : (sp == ("__debug__" : Str)) = false) (hC : hb.get? env.locals = none) (hDb : hb.get? Dn = none) (hDO : O Dn) (hDC : Dn ≠ env.locals) (hI : hb.get? I = none)
    {all : List D} (hz : all.length ≤ 1000) (hR : ∀ h' tk m ys k, Kp hb h' → h'.Ns env.locals m → IsL h' Dn ys k → RpAll O h' ys.toList all → R (.ok .next) { s with heap := h', toks := tk }) (k : Nat) (s' : Shared) (hinv : NO s hb O Dn env.locals I all k s') :
    wpAny (model prog w) A (pyNext (.ref I)) (fun r s₁ => match r with
      | none => R (.ok .next) s₁
      | some v => wpAny (model prog w) A (letOwnedTupleGo (.Name sp p2) (.ref I) v) (fun _ s₂ => wpAny (model prog w) A (assign (.Name sp p2) env v) (fun _ s₃ =>
          wpAny (model prog w) A (PySem.eval (.Name sp p4) env) (fun x s₄ => wpAny (model prog w) A (pyIter x) (fun it' s₅ => codeAny (model prog w) A (.compStart (.ListComp (.Name n p1) [⟨.Name sp p2, i1, [], 0⟩, ⟨.Name n p3, .Name sp p4, [], 0⟩] scope pos) 1 it' (.ref Dn) env)
            (fun r s' => match r with | .ok _ => ∃ m, m < k ∧ NO s hb O Dn env.locals I all m s' | .error _ => False) s₅) (fun _ _ => False) s₄) (fun _ _ => False) s₃) (fun _ _ => False) s₂) (fun _ _ => False) s₁) (fun _ _ => False) s' := by
  induction hinv with
  | mk r2 d2 o2 h2 tk2 f2 g2 e2 =>
  obtain ⟨oI, vI, eI, dI, cI⟩ := f2.it.there
  obtain ⟨m, hn⟩ := f2.ns
  obtain ⟨ys, k, hl, hr⟩ := f2.acc
  have turnI : ∀ {h' : Heap}, Heap.ExtBut I h2 h' → Kp hb h' ∧ h'.Ns env.locals m ∧ IsL h' Dn ys k ∧ RpAll O h' ys.toList d2 := fun x => ⟨but_kp hI f2.kb x, hn.extBut x (ns_ne_fields hn eI dI).symm, x _ _ (ne_fieldsL eI dI hl) hl, hr.but eI dI x⟩
  have it2 := f2.it
  clear eI dI f2 hn hl hr
  cases r2 with
  | nil =>
    cases g2
    rw [List.append_nil] at e2
    exact iter_end hA it2 fun h' x => (turnI x).elim fun a b => hR h' tk2 m ys k a b.1 b.2.1 (e2 ▸ b.2.2)
  | cons d r2 =>
    obtain ⟨xs, o3, rfl, g3, rfl⟩ := flatL_cons g2
    refine iter_next it2 fun v h' tk' x rv it' => ?_
    obtain ⟨kb, hn, hl, hr⟩ := turnI x
    have f3 : FI hb O Dn env.locals I r2 d2 h' := ⟨kb, ⟨m, hn⟩, ⟨ys, k, hl, hr⟩, it'⟩
    refine letOwned it' (wpAny_assign_Name ?_)
    clear turnI x it2 kb hl hr it' g2
    refine store_local (s := { s with heap := h', toks := tk' }) hk ks hn fun s4 n4 k4 => ?_
    obtain ⟨h4, t4, rfl, x4⟩ := k4
    have f4 := f3.stored hn hC x4 n4
    have r4 : Rp O h4 v (.tuple xs) := rv.ns hn x4
    clear f3 rv hn x4
    refine wpAny_Name (wpAny_loadName_local (v := v) hk ks n4 (if_pos rfl) ?_) ds
    refine r4.tupE fun av vs nv ht hr4 => iter_start (P := fun a => a ≠ Dn) (O := O) (s := { s with heap := h4, toks := t4 }) (.tup ht hr4) fun J h5 k5 hJ itJ => ?_
    have f5 : FI hb O Dn env.locals I r2 d2 h5 := by
      obtain ⟨m, hn⟩ := f4.ns
      obtain ⟨ys, k, hl, hr⟩ := f4.acc
      exact ⟨fun b o e => k5 b o (f4.kb b o e), ⟨m, hn.keeps k5⟩, ⟨ys, k, k5 _ _ hl, hr.keeps k5⟩, f4.it.keeps k5⟩
    have hJb : hb.get? J = none := kp_none' f4.kb hJ
    have hIJ : I ≠ J := fun z => by
      obtain ⟨o, _, e, _⟩ := f4.it.there
      exact nomatch ((congrArg h4.get? z).trans hJ).symm.trans e
    have e3 : (d2 ++ xs) ++ o3 = all := by rw [List.append_assoc]; exact e2
    have zz : (d2 ++ xs).length ≤ 1000 := by rw [← e3, List.length_append] at hz; omega
    clear f4 ht hr4 hJ k5
    have go : ∀ {t}, codeAny (model prog w) A (.compLoop (.ListComp (.Name n p1) [⟨.Name sp p2, i1, [], 0⟩, ⟨.Name n p3, .Name sp p4, [], 0⟩] scope pos) 1 (.ref J) (.ref Dn) env) (fun r s' => match r with | .ok _ => ∃ m, m < (PyData.tuple xs :: r2).length ∧ NO s hb O Dn env.locals I all m s' | .error _ => False) { s with heap := h5, toks := t } :=
      inner hA hk kn dn hC hDb hDO hDC hIJ hJb f5 itJ zz fun h' tk f' => ⟨r2.length, Nat.lt_succ_self _, .mk r2 (d2 ++ xs) o3 h' tk f' g3 e3⟩
    exact start1 go (iter_self (s := { s with heap := h5, toks := t4 }) itJ go)
theorem outer (hA : A.handled = none) (hk : env.scope.kind = .function) (kn : env.kindOf n = some .local) (ks : env.kindOf sp = some .local) (dn : (n == ("__debug__" : Str)) = false) (ds : (sp == ("__debug__" : Str)) = false) (hC : hb.get? env.locals = none) (hDb : hb.get? Dn = none) (hDO : O Dn) (hDC : Dn ≠ env.locals) (hI : hb.get? I = none)
    {rs done out : List D} {h : Heap} (f : FI hb O Dn env.locals I rs done h) (hg : flatL rs = some out) (hz : (done ++ out).length ≤ 1000) {tk : Tok}
    (hR : ∀ h' tk m ys k, Kp hb h' → h'.Ns env.locals m → IsL h' Dn ys k → RpAll O h' ys.toList (done ++ out) → R (.ok .next) { s with heap := h', toks := tk }) :
    codeAny (model prog w) A (.compLoop (.ListComp (.Name n p1) [⟨.Name sp p2, i1, [], 0⟩, ⟨.Name n p3, .Name sp p4, [], 0⟩] scope pos) 0 (.ref I) (.ref Dn) env) R { s with heap := h, toks := tk } :=
  loop0 _ (outer_turn hA hk kn ks dn ds hC hDb hDO hDC hI hz hR) (fun _ => rfl) rs.length (.mk rs done out h tk f hg rfl)
end
section
variable {prog : Program} {w : World} {A : Around} {env : Env} {O : Addr → Prop} {s : Shared} {ds out : List D}
/-- a comprehension of two clauses that flattens -/
theorem Ev.flat {i1 : Expr} {sp n : Str} {p1 p2 p3 p4 pos : Pos} {scope : Scope} {cl : List (Str × Addr)} (hA : A.handled = none) (hit : EvIt prog w A env i1 (fun _ => True) O s ds) (hO : OIn O s.heap)
    (hs : ∀ x, foldedSetIterable i1 env x = pure x) (hclos : closureFor scope env = pure cl) (hcell : ∀ y ∈ scope.names, y.2 ≠ .cell) (hkind : scope.kind = .function)
    (hnames : ∀ x ∈ scope.names, x.2 = .local → scope.names.lookup x.1 = some .local) (kn : ∀ C, (compEnvC scope cl C env).kindOf n = some .local) (ks : ∀ C, (compEnvC scope cl C env).kindOf sp = some .local)
    (dn : (n == ("__debug__" : Str)) = false) (dsp : (sp == ("__debug__" : Str)) = false) (hg : flatL ds = some out) (hz : out.length ≤ 1000) :
    Ev prog w A env (.ListComp (.Name n p1) [⟨.Name sp p2, i1, [], 0⟩, ⟨.Name n p3, .Name sp p4, [], 0⟩] scope pos) O s (.list out) := fun E Q hQ => by
  rw [eval_ListComp]
  refine wpAny_comprehension_free (use := none) rfl hs hclos hkind hnames ?_
  show wpAny (model prog w) A (PySem.eval i1 env) _ E s
  refine hit E _ fun v s₁ k₁ r₁ => iter_start r₁ fun I h₂ kp₂ hI it => ?_
  obtain ⟨hh, tt, rfl, kk⟩ := k₁
  dsimp only at kp₂ hI it ⊢
  refine wpAny_newList (wpAny_newFunctionEnv hcell (by intro y hy; simp at hy) (fun h₁ hns₁ hsb₁ => ?_) hkind) (Nat.zero_le _)
  dsimp only at hns₁ hsb₁ ⊢
  have hDC : h₂.objs.size ≠ (h₂.push { cls := .type "list", data := .seq ([] : List Value).toArray }).objs.size := by rw [Heap.size_push]; exact Nat.ne_of_lt (Nat.lt_succ_self _)
  have old : ∀ b o, h₂.get? b = some o → h₁.get? b = some o := fun b o e => hsb₁.extBut b o (by rw [Heap.size_push]; exact Nat.ne_of_lt (Nat.lt_succ_of_lt (Heap.lt_size e))) (Heap.get?_push_of_some _ (Heap.get?_push_of_some _ e))
  have hDl : IsL h₁ h₂.objs.size #[] 0 := hsb₁.extBut _ _ hDC (Heap.get?_push_of_some _ (IsL.new _ _))
  have hDn : h₂.get? h₂.objs.size = none := Heap.get?_none_of_le (Nat.le_refl _)
  have hCn : hh.get? (h₂.push { cls := .type "list", data := .seq ([] : List Value).toArray }).objs.size = none := kp_none' kp₂ (Heap.get?_none_of_le (by rw [Heap.size_push]; exact Nat.le_succ _))
  generalize hC : (h₂.push { cls := .type "list", data := .seq ([] : List Value).toArray }).objs.size = C at hns₁ hDC hCn ⊢
  generalize hD : h₂.objs.size = Dn at hDl hDC hDn ⊢
  have hDb : hh.get? Dn = none := kp_none' kp₂ hDn
  have it₁ : IterAt (fun a => a ≠ Dn) (fun a => O a ∨ a = Dn) h₁ I ds := by
    refine (it.weak (P' := fun a => a ≠ Dn) (O' := fun a => O a ∨ a = Dn) (fun a vs n e _ z => by subst z; exact nomatch hDn.symm.trans e) fun r => ?_).keeps old
    exact r.go ⟨fun a o e _ => e, fun a o e => ⟨o, e⟩, fun a q => q.imp id fun z => by subst z; exact hDn⟩
  have kb₁ : Kp hh h₁ := fun b o e => old b o (kp₂ b o e)
  have post : ∀ h' tk m ys k, Kp hh h' → h'.Ns C m → IsL h' Dn ys k → RpAll (fun a => O a ∨ a = Dn) h' ys.toList ([] ++ out) → compPost (model prog w) A E none Q (.ref Dn) C (.ok .next) { s with heap := h', toks := tk } := fun h' tk m ys k kb hn hl hr => by
    refine ⟨m, hn, fun h'' sb => ?_⟩
    have hl' : IsL h'' Dn ys.toList.toArray k := by rw [Array.toArray_toList]; exact sb.extBut _ _ (ns_ne_L hn hl) hl
    have kb' : Kp s.heap h'' := fun b o e => sb.extBut _ _ (fun z => by subst z; rw [kp_none' kk hCn] at e; cases e) (kb b o (kk b o e))
    refine hQ _ _ (Ks.heap s h'' tk kb') (.lst hl' (fun q => ?_) ((hr.ns hn sb.extBut).mono fun a q => .inl q))
    have := hO.keeps kk Dn q
    rw [hDb] at this; cases this
  have loop : ∀ tk, codeAny (model prog w) A (.compLoop (.ListComp (.Name n p1) [⟨.Name sp p2, i1, [], 0⟩, ⟨.Name n p3, .Name sp p4, [], 0⟩] scope pos) 0 (.ref I) (.ref Dn) (compEnvC scope cl C env)) (compPost (model prog w) A E none Q (.ref Dn) C) { s with heap := h₁, toks := tk } := fun tk =>
    outer (env := compEnvC scope cl C env) (hb := hh) (O := fun a => O a ∨ a = Dn) (done := []) hA hkind (kn C) (ks C) dn dsp hCn hDb (.inr rfl) hDC hI ⟨kb₁, ⟨_, hns₁⟩, ⟨#[], 0, hDl, .nil⟩, it₁⟩ hg (by simpa using hz) post
  exact codeAny_compStart_list (loop _) (iter_self (s := { s with heap := h₁, toks := _ }) it₁ (loop _))
end
end Mine
-- B9
namespace Mine
open PySem PySem.W PyProof.Rows PySem.Calls
section
variable {prog : Program} {w : World} {A : Around} {H : Heap} {gl : Str → Option Value} {nm fn : Nat → Str} {Φ : Nat → List D → Option (Except Unit D)} {W : Heap → Prop}
theorem kdC_eq {kd : Str → Option NameKind} {env : Env} {scope : Scope} (ek : EnvOk kd env) (x : Str) (cl : List (Str × Addr)) (C : Addr) : (compEnvC scope cl C env).kindOf x = kdC kd scope x := by
  show List.lookup x (relabel scope env).names = _
  unfold relabel kdC
  refine congrArg (List.lookup x) (List.map_congr_left fun p _ => ?_)
  obtain ⟨n, k⟩ := p
  unfold relab
  simp only [ek.kind, ek.kinds, beq_self_eq_true, Bool.and_true]
theorem kdC_cell {kd : Str → Option NameKind} {scope : Scope} (hcell : ∀ y ∈ scope.names, y.2 ≠ .cell) {x : Str} (h : kdC kd scope x = some .cell ∨ kdC kd scope x = some .free) : (x, NameKind.free) ∈ scope.names := by
  unfold kdC at h
  suffices H : ∀ l : List (Str × NameKind), (∀ y ∈ l, y.2 ≠ .cell) → (List.lookup x (l.map (relab kd)) = some .cell ∨ List.lookup x (l.map (relab kd)) = some .free) → (x, NameKind.free) ∈ l from H _ hcell h
  intro l
  induction l with
  | nil => intro _ h; simp at h
  | cons p l ih =>
    intro hc h
    obtain ⟨n, k⟩ := p
    have hk := hc (n, k) (.head _)
    by_cases hb : (k == NameKind.free && kd n == some NameKind.cell) = true
    · have e : relab kd (n, k) = (n, NameKind.cell) := if_pos hb
      rw [List.map_cons, e, List.lookup_cons] at h
      cases hx : x == n with
      | true =>
        simp only [Bool.and_eq_true, beq_iff_eq] at hb hx
        rw [hx, ← hb.1]; exact .head _
      | false => simp only [hx] at h; exact .tail _ (ih (fun y hy => hc y (.tail _ hy)) h)
    · have e : relab kd (n, k) = (n, k) := if_neg hb
      rw [List.map_cons, e, List.lookup_cons] at h
      cases hx : x == n with
      | true =>
        simp only [hx] at h
        simp only [beq_iff_eq] at hx
        rcases h with h | h
        · exact absurd (Option.some.inj h) hk
        · rw [hx, ← Option.some.inj h]; exact .head _
      | false =>
        simp only [hx] at h
        exact .tail _ (ih (fun y hy => hc y (.tail _ hy)) h)
/-- what an expression is read in -/
structure Sit (nm : Nat → Str) (kd : Kd) (W : Heap → Prop) (env : Env) (O : Addr → Prop) (ρ : Vars) (vl : Nat → Value) (s : Shared) : Prop where
  ek : EnvOk kd env
  hW : W s.heap
  hO : OIn O s.heap
  V : Vw nm env O s.heap ρ vl
theorem Sit.keeps {kd : Kd} {env : Env} {O : Addr → Prop} {ρ : Vars} {vl : Nat → Value} {s s' : Shared} (S : Sit nm kd W env O ρ vl s) (C : Cx prog w A H gl fn Φ W) (k : Ks s s') : Sit nm kd W env O ρ vl s' :=
  ⟨S.ek, C.mono _ _ S.hW k.kp, S.hO.keeps k.kp, S.V.keeps k.kp⟩
theorem vw_comp {kd : Kd} {env : Env} {O : Addr → Prop} {ρ ρ' : Vars} {vl vl2 : Nat → Value} {h h2 : Heap} {scope : Scope} {tg caps : List Nat} {cl : List (Str × Addr)} {Dn Ca : Addr} {m2 : Str → Option Value}
    (ek : EnvOk kd env) (V : Vw nm env O h ρ vl) (hD : h.get? Dn = none) (hfree : ∀ y ∈ scope.names, y.2 = .free → kd y.1 = some .cell) (hcaps : ∀ i ∈ caps, (nm i, NameKind.free) ∈ scope.names ∧ kdC kd scope (nm i) = some .cell ∧ i ∉ tg)
    (hcl : ∀ x, (x, NameKind.free) ∈ scope.names → cl.lookup x = env.cells.lookup x) (kb2 : Kp h h2) (hn2 : h2.Ns Ca m2)
    (hin : ∀ j ∈ tg, m2 (nm j) = some (vl2 j) ∧ kdC kd scope (nm j) = some .local ∧ ∃ d, ρ' j = some (.fro d) ∧ Rp (fun a => O a ∨ a = Dn) h2 (vl2 j) d) (hout : ∀ j, j ∉ tg → vl2 j = vl j ∧ ρ' j = lim caps ρ j) :
    Vw nm (compEnvC scope cl Ca env) (fun a => O a ∨ a = Dn) h2 ρ' vl2 := by
  have cap : ∀ {i : Nat} {sl : Slot}, i ∉ tg → ρ' i = some sl → i ∈ caps ∧ ρ i = some sl := fun {i sl} hi hs => by
    rw [(hout i hi).2] at hs
    by_cases hc : i ∈ caps
    · exact ⟨hc, (if_pos hc).symm.trans hs⟩
    · exact nomatch (if_neg hc : lim caps ρ i = none).symm.trans hs
  have go : Go O h (fun a => O a ∨ a = Dn) h2 := ⟨fun a o e _ => kb2 a o e, fun a o e => ⟨o, kb2 a o e⟩, fun a q => q.imp id fun z => by subst z; exact hD⟩
  refine ⟨fun i hs => ?_, fun i d hi => ?_, fun i ds hi => ?_⟩
  · by_cases hi : i ∈ tg
    · obtain ⟨q1, q2, _⟩ := hin i hi
      exact .inl ⟨(kdC_eq ek _ cl Ca).trans q2, m2, hn2, q1⟩
    · obtain ⟨sl, e⟩ := Option.isSome_iff_exists.mp hs
      obtain ⟨hc1, hs1⟩ := cap hi e
      obtain ⟨q1, q2, _⟩ := hcaps i hc1
      rw [(hout i hi).1]
      refine .inr ⟨.inl ((kdC_eq ek _ cl Ca).trans q2), ?_⟩
      rcases V.vars i (hs1 ▸ rfl) with a | a
      · exact nomatch (((ek.kinds _).trans (hfree _ q1 rfl)).symm.trans a.1)
      · obtain ⟨cc, l, n⟩ := a.2; exact ⟨cc, (hcl _ q1).trans l, n.keeps kb2⟩
  · by_cases hi' : i ∈ tg
    · obtain ⟨_, _, d', q3, q4⟩ := hin i hi'
      cases hi.symm.trans q3; exact q4
    · rw [(hout i hi').1]
      exact (V.fro i d (cap hi' hi).2).go go
  · by_cases hi' : i ∈ tg
    · obtain ⟨_, _, d', q3, _⟩ := hin i hi'
      exact nomatch hi.symm.trans q3
    · rw [(hout i hi').1]
      obtain ⟨a, vs, n, e, l, r⟩ := V.own i ds (cap hi' hi).2
      exact ⟨a, vs, n, e, kb2 _ _ l, r.go go⟩
/-- the body of a comprehension -/
theorem comp_body {kd : Kd} {env : Env} {O : Addr → Prop} {ρ : Vars} {vl : Nat → Value} {s₁ : Shared} {target elt : Expr} {ifs : List Expr} {scope : Scope} {x : X} {tg caps : List Nat} {c : B} {cl : List (Str × Addr)} {Dn : Addr}
    (C : Cx prog w A H gl fn Φ W) (S : Sit nm kd W env O ρ vl s₁) (hD : s₁.heap.get? Dn = none)
    (T : Tg (kdC kd scope) nm target tg)
    (hc : (ifs = [] ∧ c = .tt) ∨ ∃ e, ifs = [e] ∧ ∀ (b : Bool) {env' : Env} {O' : Addr → Prop} {ρ' : Vars} {vl' : Nat → Value} {s : Shared}, Sit nm (kdC kd scope) W env' O' ρ' vl' s → evB Φ c ρ' = some b → EvB prog w A env' e s b)
    (he : ∀ {env' : Env} {O' : Addr → Prop} {ρ' : Vars} {vl' : Nat → Value} {s : Shared} {d : D}, Sit nm (kdC kd scope) W env' O' ρ' vl' s → eval Φ x ρ' = some d → Ev prog w A env' elt O' s d)
    (sc : ScopeOk kd scope) (hcaps : ∀ i ∈ caps, (nm i, NameKind.free) ∈ scope.names ∧ kdC kd scope (nm i) = some .cell ∧ i ∉ tg) (hcl : ∀ x, (x, NameKind.free) ∈ scope.names → cl.lookup x = env.cells.lookup x) :
    CompBody prog w A (fun C => compEnvC scope cl C env) target elt ifs (fun a => O a ∨ a = Dn) s₁.heap
      (fun d => (bindT tg d (lim caps ρ)).bind fun ρ' => (evB Φ c ρ').bind fun t => if t then (eval Φ x ρ').map some else some none) := by
  intro Ca s' m v d r hCn kb hO hns rv hg E Qt Qf hf ht
  refine bindK hg fun ρ' h1 hg => bindK hg fun t h2 hg => ?_
  have ek' : EnvOk (kdC kd scope) (compEnvC scope cl Ca env) :=
    ⟨sc.kind, S.ek.gl, S.ek.bu, fun y => kdC_eq S.ek y cl Ca, fun y hy => by
      have hm := kdC_cell sc.cell hy
      show (cl.lookup y).isSome
      rw [hcl y hm]
      exact S.ek.cells y (.inl (sc.free _ hm rfl))⟩
  refine assign_local (vl := vl) C.hA T sc.kind (fun y => kdC_eq S.ek y cl Ca) hns rv h1 fun s2 m2 vl2 hn2 ks2 hin hout => ?_
  have kb2 : Kp s₁.heap s2.heap := but_kp hCn kb ks2.ext
  have S2 : Sit nm (kdC kd scope) W (compEnvC scope cl Ca env) (fun a => O a ∨ a = Dn) ρ' vl2 s2 := ⟨ek', C.mono _ _ S.hW kb2, fun a q => by
    obtain ⟨o, eo⟩ := Option.isSome_iff_exists.mp (hO a q)
    by_cases z : a = Ca
    · subst z
      obtain ⟨o2, _, _, e2, _⟩ := hn2
      rw [show s2.heap.get? a = some o2 from e2]; rfl
    · rw [ks2.ext a o z eo]; rfl, vw_comp S.ek S.V hD sc.free hcaps hcl kb2 hn2 hin hout⟩
  clear ek' kb2 hin hout hO rv hns kb h1
  have ksC : ∀ {s3 : Shared}, Ks s2 s3 → KsB Ca s' s3 := fun k => ks2.trans (k.but Ca)
  have fin : ∀ s3, Ks s2 s3 → (if t = true then wpAny (model prog w) A (PySem.eval elt (compEnvC scope cl Ca env)) Qt E s3 else Qf s3) := fun s3 k3 => by
    cases t with
    | true =>
      have hg : (eval Φ x ρ').map some = some r := hg
      exact bindK (Option.map_eq_bind.symm.trans hg) fun dx hx z => he (S2.keeps C k3) hx E _ fun xv s4 k4 rx => ht xv s4 m2 dx (hn2.keeps (k3.trans k4).kp) (ksC (k3.trans k4)) (Option.some.inj z).symm rx
    | false => exact hf s3 m2 (hn2.keeps k3.kp) (ksC k3) (Option.some.inj hg).symm
  rcases hc with ⟨rfl, rfl⟩ | ⟨e, rfl, hce⟩
  · cases h2
    exact wpAny_tests_nil (fin s2 (Ks.refl s2))
  · exact wpAny_tests_one (hce t S2 h2 E _ fun s3 k3 => fin s3 k3)
end
end Mine
-- B10
namespace Mine
open PySem PySem.W PyProof.Rows PySem.Calls
section
variable (prog : Program) (w : World) (A : Around) (nm fn : Nat → Str) (Φ : Nat → List D → Option (Except Unit D)) (W : Heap → Prop)
noncomputable def GX (x : X) : Prop := ∀ {kd : Kd} {e : Expr}, CX nm fn kd e x → ∀ {env : Env} {O : Addr → Prop} {ρ : Vars} {vl : Nat → Value} {s : Shared} {d : D}, Sit nm kd W env O ρ vl s → eval Φ x ρ = some d → Ev prog w A env e O s d
noncomputable def GXs (xs : XS) : Prop := ∀ {kd : Kd} {es : List Expr}, CXs nm fn kd es xs → ∀ {env : Env} {O : Addr → Prop} {ρ : Vars} {vl : Nat → Value} {s : Shared} {ds : List D}, Sit nm kd W env O ρ vl s → evals Φ xs ρ = some ds → Evs prog w A env es O s ds
noncomputable def GB (c : B) : Prop := ∀ {kd : Kd} {e : Expr}, CB nm fn kd e c → ∀ {env : Env} {O : Addr → Prop} {ρ : Vars} {vl : Nat → Value} {s : Shared} {b : Bool}, Sit nm kd W env O ρ vl s → evB Φ c ρ = some b → EvB prog w A env e s b
noncomputable def GI (it : It) : Prop := ∀ {kd : Kd} {e : Expr}, CIt nm fn kd e it → ∀ {env : Env} {O : Addr → Prop} {ρ : Vars} {vl : Nat → Value} {s : Shared} {ds : List D}, Sit nm kd W env O ρ vl s → evIt Φ it ρ = some ds → EvIt prog w A env e (fun _ => True) O s ds
end
section
variable {prog : Program} {w : World} {A : Around} {H : Heap} {gl : Str → Option Value} {nm fn : Nat → Str} {Φ : Nat → List D → Option (Except Unit D)} {W : Heap → Prop}
@[elab_as_elim] theorem sortK {ds : List D} {d : D} {P : D → Prop} (h : sortX ds = some d) (k : ∀ out, Sorts ds out → P (.list out)) : P d := by
  unfold sortX at h
  split at h
  · rename_i c
    exact Option.some.inj h ▸ k _ c.choose_spec
  · cases h
theorem CXs.plain {kd : Kd} {es : List Expr} {xs : XS} (c : CXs nm fn kd es xs) (pos : Pos) (env : Env) : (backTo pos (starEach es env)).any (·.1) = false := by
  induction es generalizing xs with
  | nil => rfl
  | cons e es ih =>
    cases xs with
    | nil => exact nomatch (show e :: es = [] from c)
    | cons x xs =>
      have c : ∃ x xs, CX nm fn kd e x ∧ CXs nm fn kd es xs := (show CXs nm fn kd (e :: es) (.cons x xs) from c) (fun l => ∀ e es, l = e :: es → ∃ x xs, CX nm fn kd e x ∧ CXs nm fn kd es xs) (fun _ _ a b _ _ z => ⟨x, xs, (List.cons.inj z).1 ▸ a, (List.cons.inj z).2 ▸ b⟩) e es rfl
      obtain ⟨x, xs, cx, cs⟩ := c
      rw [cx.star]
      exact ih cs
section
variable (C : Cx prog w A H gl fn Φ W) (hn : NmOk nm)
theorem two {kd : Kd} {e : Expr} {x : X} {d : D} {env : Env} {O : Addr → Prop} {ρ : Vars} {vl : Nat → Value} {s : Shared} (C : Cx prog w A H gl fn Φ W) (i : GX prog w A nm fn Φ W x) (c : CX nm fn kd e x) (S : Sit nm kd W env O ρ vl s) (h : eval Φ x ρ = some d) : ∀ s', Ks s s' → Ev prog w A env e O s' d :=
  fun _ k => i c (S.keeps C k) h
theorem seqI {kd : Kd} {e : Expr} {x : X} {b : Bool} {ds : List D} {env : Env} {O : Addr → Prop} {ρ : Vars} {vl : Nat → Value} {s : Shared} (hn : NmOk nm) (i : GX prog w A nm fn Φ W x) (c : CX nm fn kd e x) (S : Sit nm kd W env O ρ vl s) (h : seqV x ρ (eval Φ x ρ) = some (b, ds)) : EvSeq prog w A env e O s b ds :=
  seq_of hn c S.ek S.V (fun _ hd => i c S hd) h
theorem evG {kd : Kd} {x : Str} {p : Pos} {v : Value} {env : Env} {O : Addr → Prop} {ρ : Vars} {vl : Nat → Value} {s : Shared} (C : Cx prog w A H gl fn Φ W) (S : Sit nm kd W env O ρ vl s) (hk : kd x = some .globalImplicit) (hv : gl x = some v) (hd : (x == ("__debug__" : Str)) = false) : EvG prog w A env (.Name x p) s v :=
  EvG.of C.top (C.sub _ S.hW) S.ek hk hv hd
include hn in
theorem g_var (i : Nat) : GX prog w A nm fn Φ W (.var i) := fun {_ _} c {_ _ ρ _ _ d} S h => c (Ev prog w A _ · _ _ _) fun p => by
  have h : (match ρ i with | some (.fro d) => some d | _ => none) = some d := h
  cases hi : ρ i with
  | none => rw [hi] at h; exact nomatch h
  | some sl =>
    rw [hi] at h
    cases sl with
    | fro d' => exact someK (P := fun d => Ev prog w A _ _ _ _ d) h (Ev.var S.ek hn S.V hi)
    | own _ => exact nomatch h
theorem litK {env : Env} {O : Addr → Prop} {s : Shared} {k : Const} {n : Nat} {p : Pos} {d : D} (hk : kstD k = some d) : Ev prog w A env (.Constant k n p) O s d := by
  cases k with
  | int i => exact someK hk (Ev.cInt _ _)
  | str x => exact someK hk (Ev.cStr _ _)
  | none => exact someK hk (Ev.cNone _)
  | bool b => exact someK hk (Ev.cBool _ _)
  | _ => exact nomatch hk
theorem g_lit (d : D) : GX prog w A nm fn Φ W (.lit d) := fun c _ _ _ _ _ _ _ h => c (Ev prog w A _ · _ _ _) fun k n p hk => someK (P := fun d => Ev prog w A _ _ _ _ d) h (litK hk)
theorem g_tup {xs : XS} (i : GXs prog w A nm fn Φ W xs) : GX prog w A nm fn Φ W (.tup xs) := fun c _ _ _ _ _ _ S h => c (Ev prog w A _ · _ _ _) fun es k p c => bindK h fun ds h1 h2 => smallK h2 fun h3 => Ev.tupleD (i c S h1) h3
theorem g_lst {xs : XS} (i : GXs prog w A nm fn Φ W xs) : GX prog w A nm fn Φ W (.lst xs) := fun c _ _ _ _ _ _ S h => c (Ev prog w A _ · _ _ _) fun es p c => bindK h fun ds h1 h2 => smallK h2 fun h3 => Ev.listD (i c S h1) S.hO h3
include C in
theorem g_bin {o : Operator} {x y : X} (i : GX prog w A nm fn Φ W x) (j : GX prog w A nm fn Φ W y) : GX prog w A nm fn Φ W (.bin o x y) := fun c _ _ _ _ _ _ S h => c (Ev prog w A _ · _ _ _) fun a b p c1 c2 =>
  bindK h fun u h1 h => bindK h fun v h2 h => bin_sound S.hO (i c1 S h1) (two C j c2 S h2) h
theorem g_neg {x : X} (i : GX prog w A nm fn Φ W x) : GX prog w A nm fn Φ W (.neg x) := fun c _ _ _ _ _ _ S h => c (Ev prog w A _ · _ _ _) fun a p c => bindIK h fun u h1 h2 => someK h2 (Ev.negI (i c S h1))
include C in
theorem g_cmp {o : CmpOp} {x y : X} (i : GX prog w A nm fn Φ W x) (j : GX prog w A nm fn Φ W y) : GX prog w A nm fn Φ W (.cmp o x y) := fun {_ _} c {env O _ _ s d} S h => c (Ev prog w A _ · _ _ _) fun a b p c1 c2 =>
  bindK h fun u h1 h => bindK h fun v h2 h => mapK h fun r h3 =>
    cmpDK (P := fun u v r => Ev prog w A env a O s u → (∀ s', Ks s s' → Ev prog w A env b O s' v) → Ev prog w A env (.Compare a [o] [b] p) O s (.bool r)) h3 (fun f _ _ hf e1 e2 => Ev.cmpI hf e1 e2 (c2.marks _)) (i c1 S h1) (two C j c2 S h2)
include C in
theorem g_ife {t : B} {x y : X} (k : GB prog w A nm fn Φ W t) (i : GX prog w A nm fn Φ W x) (j : GX prog w A nm fn Φ W y) : GX prog w A nm fn Φ W (.ife t x y) := fun c _ _ _ _ _ _ S h => c (Ev prog w A _ · _ _ _) fun e a b p c1 c2 c3 =>
  bindK h fun u h1 h => Ev.ife (k c1 S h1) (fun ht s' k => i c2 (S.keeps C k) ((if_pos ht).symm.trans h)) (fun ht s' k => j c3 (S.keeps C k) ((if_neg (ht ▸ Bool.false_ne_true)).symm.trans h))
include C hn in
theorem g_idx {x y : X} (i : GX prog w A nm fn Φ W x) (j : GX prog w A nm fn Φ W y) : GX prog w A nm fn Φ W (.idx x y) := fun c _ _ _ _ _ _ S h => c (Ev prog w A _ · _ _ _) fun a b p c1 c2 =>
  bindK h fun ds h1 h => bindIK h fun k h2 h => Ev.idx (seqI hn i c1 S h1) (two C j c2 S h2) h c2.sub
theorem trueL {b : Bool} {ds : List D} {env : Env} {e : Expr} {O : Addr → Prop} {s : Shared} (hb : b = true) (h : EvSeq prog w A env e O s b ds) : EvSeq prog w A env e O s true ds := hb ▸ h
include C hn in
theorem g_from {x y : X} (i : GX prog w A nm fn Φ W x) (j : GX prog w A nm fn Φ W y) : GX prog w A nm fn Φ W (.from_ x y) := fun c _ _ _ _ _ _ S h => c (Ev prog w A _ · _ _ _) fun a b p q c1 c2 =>
  bindK h fun ds h1 h => bindIK h fun k h2 h => ifK h fun hc => Ev.from_ (trueL hc.1 (seqI hn i c1 S h1)) (two C j c2 S h2) S.hO hc.2.1 hc.2.2
include C hn in
theorem g_upto {x y : X} (i : GX prog w A nm fn Φ W x) (j : GX prog w A nm fn Φ W y) : GX prog w A nm fn Φ W (.upto x y) := fun c _ _ _ _ _ _ S h => c (Ev prog w A _ · _ _ _) fun a b p q c1 c2 =>
  bindK h fun ds h1 h => bindIK h fun k h2 h => ifK h fun hc => Ev.upto (trueL hc.1 (seqI hn i c1 S h1)) (two C j c2 S h2) S.hO hc.2.1 hc.2.2
include C hn in
theorem g_len {x : X} (i : GX prog w A nm fn Φ W x) : GX prog w A nm fn Φ W (.len x) := fun c _ _ _ _ _ _ S h => c (Ev prog w A _ · _ _ _) fun a p q hk c =>
  bindK h fun ds h1 h => ifK h fun hl => Ev.len (evG C S hk C.len (by decide)) (seqI hn i c S h1) (c.star [] _) rfl hl
include C in
theorem g_max2 {x y : X} (i : GX prog w A nm fn Φ W x) (j : GX prog w A nm fn Φ W y) : GX prog w A nm fn Φ W (.max2 x y) := fun c _ _ _ _ _ _ S h => c (Ev prog w A _ · _ _ _) fun a b p q hk c1 c2 =>
  bindIK h fun u h1 h => bindIK h fun v h2 h => someK h (Ev.max2 (evG C S hk C.max (by decide)) (i c1 S h1) (two C j c2 S h2) C.hA ((c1.star [b] _).trans (congrArg _ (c2.star [] _))) (c2.star [] _) rfl)
include C in
theorem g_str {x : X} (i : GX prog w A nm fn Φ W x) : GX prog w A nm fn Φ W (.str x) := fun c _ _ _ _ _ _ S h => c (Ev prog w A _ · _ _ _) fun a p q hk c =>
  bindIK h fun u h1 h => ifK h fun hl => Ev.strI (evG C S hk C.str (by decide)) (i c S h1) (c.star [] _) rfl hl
include C hn in
theorem g_tupOf {x : X} (i : GX prog w A nm fn Φ W x) : GX prog w A nm fn Φ W (.tupOf x) := fun c _ _ _ _ _ _ S h => c (Ev prog w A _ · _ _ _) fun a p q hk c =>
  bindK h fun ds h1 h => ifOK h fun hb h => smallK h fun hl => Ev.tupOf (evG C S hk C.tup (by decide)) (trueL hb (seqI hn i c S h1)) (c.star [] _) rfl hl
include C hn in
theorem g_lstOf {x : X} (i : GX prog w A nm fn Φ W x) : GX prog w A nm fn Φ W (.lstOf x) := fun c _ _ _ _ _ _ S h => c (Ev prog w A _ · _ _ _) fun a p q hk c =>
  bindK h fun ds h1 h => ifOK h fun hb h => smallK h fun hl => Ev.lstOf (evG C S hk C.lst (by decide)) (trueL hb (seqI hn i c S h1)) (c.star [] _) rfl S.hO hl
include C hn in
theorem g_sorted {x : X} (i : GX prog w A nm fn Φ W x) : GX prog w A nm fn Φ W (.sorted x) := fun c _ _ _ _ _ _ S h => c (Ev prog w A _ · _ _ _) fun a p q hk c =>
  bindK h fun ds h1 h => ifOK h fun hb h => sortK h fun out hs => Ev.sorted (evG C S hk C.srt (by decide)) (trueL hb (seqI hn i c S h1)) (c.star [] _) rfl S.hO C.hA C.hu hs
theorem got {o : Option (Except Unit D)} {d : D} (h : (match o with | some (.ok d) => some d | _ => none) = some d) : o = some (.ok d) := by
  cases o with
  | none => exact nomatch h
  | some r => cases r with
    | ok d' => exact congrArg (fun d => some (Except.ok d)) (Option.some.inj h)
    | error _ => exact nomatch h
theorem CXs.first {kd : Kd} {a : Expr} {es : List Expr} {xs : XS} (c : CXs nm fn kd (a :: es) xs) (env : Env) : starEach (a :: es) env = (false, PySem.eval a env) :: starEach es env ∧ ∀ pos, (backTo pos (starEach es env)).any (·.1) = false := by
  cases xs with
  | nil => exact nomatch (show a :: es = [] from c)
  | cons x xs => exact (show CXs nm fn kd (a :: es) (.cons x xs) from c) (fun l => ∀ a es, l = a :: es → starEach (a :: es) env = (false, PySem.eval a env) :: starEach es env ∧ ∀ pos, (backTo pos (starEach es env)).any (·.1) = false) (fun e r cx cs _ _ z => by cases z; exact ⟨cx.star _ env, fun pos => CXs.plain cs pos env⟩) a es rfl
include C in
theorem g_call {f : Nat} {xs : XS} (i : GXs prog w A nm fn Φ W xs) : GX prog w A nm fn Φ W (.call f xs) := fun {_ _} c {env O ρ vl s d} S h => c (Ev prog w A _ · _ _ _) fun a es p q hk c => bindK h fun ds h1 h => by
  obtain ⟨q, o, fd, g1, g2, g3, g4, g5⟩ := C.calls f ds d (got h)
  exact fun E Q hQ => callD (evG C S hk g1 g4) ⟨a, es, rfl, c.first env⟩ rfl g3 (i c S h1 _ E _ fun vs s1 k1 r1 => ⟨k1.kp _ _ (C.sub _ S.hW _ _ g2), g5 O s1 vs (C.mono _ _ S.hW k1.kp) (S.hO.keeps k1.kp) r1 E Q fun v s2 k2 r2 => hQ v s2 (k1.trans k2) r2⟩)
theorem closK {kd : Kd} {scope : Scope} {env : Env} {P : Prop} (ek : EnvOk kd env) (sc : ScopeOk kd scope) (k : ∀ cl, closureFor scope env = pure cl → (∀ x, (x, NameKind.free) ∈ scope.names → cl.lookup x = env.cells.lookup x) → P) : P :=
  (closure_ok fun y hy => ek.cells y (.inl (sc.free _ hy rfl))).elim fun cl h => k cl h.1 h.2
include C in
theorem g_comp {x : X} {tg : List Nat} {it : It} {t : B} {caps : List Nat} (i : GX prog w A nm fn Φ W x) (j : GI prog w A nm fn Φ W it) (k : GB prog w A nm fn Φ W t) : GX prog w A nm fn Φ W (.comp x tg it t caps) := fun {_ _} c {env _ _ _ _ _} S h =>
  c (Ev prog w A _ · _ _ _) fun elt target iter ifs scope p ci T hif ce sc hcaps => bindK h fun ds h1 h => bindK h fun out h2 h => smallK h fun hl => closK S.ek sc fun cl hclos hcl =>
  Ev.comp C.hA (j ci S h1) S.hO (CIt.foldS ci env) hclos sc.cell sc.kind sc.names h2 hl fun s₁ k₁ Dn hD =>
    comp_body C (S.keeps C k₁) hD T (hif.imp id fun z => z.elim fun e z => ⟨e, z.1, fun b {_ _ _ _ _} S' hb' => k z.2 S' hb'⟩) (fun S' hd => i ce S' hd) sc hcaps hcl
include C in
theorem g_flat {it : It} (j : GI prog w A nm fn Φ W it) : GX prog w A nm fn Φ W (.flat it) := fun {_ _} c {env _ _ _ _ _} S h =>
  c (Ev prog w A _ · _ _ _) fun iter scope sp n p p1 p2 p3 p4 ci kn ks dn dsp sc => bindK h fun ds h1 h => bindK h fun out h2 h => smallK h fun hl => closK S.ek sc fun cl hclos hcl =>
  Ev.flat C.hA (j ci S h1) S.hO (CIt.foldS ci env) hclos sc.cell sc.kind sc.names (fun Ca => (kdC_eq S.ek _ cl Ca).trans kn) (fun Ca => (kdC_eq S.ek _ cl Ca).trans ks) dn dsp h2 hl
theorem g_nil : GXs prog w A nm fn Φ W .nil := fun {kd es} c _ _ _ _ _ _ _ h => someK h ((show es = [] from c) ▸ Evs.nilE)
include C in
theorem g_cons {x : X} {xs : XS} (i : GX prog w A nm fn Φ W x) (j : GXs prog w A nm fn Φ W xs) : GXs prog w A nm fn Φ W (.cons x xs) := fun c _ _ _ _ _ _ S h => c (Evs prog w A _ · _ _ _) fun e r c1 c2 =>
  bindK h fun d1 e1 h1 => mapK h1 fun dr e2 => Evs.consE (i c1 S e1) (fun s' k => j c2 (S.keeps C k) e2) (c1.star _ _)
include C in
theorem b_cmp {o : CmpOp} {x y : X} (i : GX prog w A nm fn Φ W x) (j : GX prog w A nm fn Φ W y) : GB prog w A nm fn Φ W (.cmp o x y) := fun {_ _} c {env O _ _ s _} S h => c (EvB prog w A _ · _ _) fun a b p c1 c2 =>
  bindK h fun u h1 h => bindK h fun v h2 h => cmpDK (P := fun u v r => Ev prog w A env a O s u → (∀ s', Ks s s' → Ev prog w A env b O s' v) → EvB prog w A env (.Compare a [o] [b] p) s r) h (fun f _ _ hf e1 e2 => EvB.cmpI hf e1 e2 (c2.marks _)) (i c1 S h1) (two C j c2 S h2)
include C in
theorem b_eq {x y : X} (i : GX prog w A nm fn Φ W x) (j : GX prog w A nm fn Φ W y) : GB prog w A nm fn Φ W (.eq x y) := fun c _ _ _ _ _ _ S h => c (EvB prog w A _ · _ _) fun a b p c1 c2 =>
  bindK h fun u h1 h => bindK h fun v h2 h => ifK h fun hl => EvB.eqD (i c1 S h1) (two C j c2 S h2) hl.1 hl.2 C.hu (c2.marks _)
include C in
theorem b_ne {x y : X} (i : GX prog w A nm fn Φ W x) (j : GX prog w A nm fn Φ W y) : GB prog w A nm fn Φ W (.ne x y) := fun c _ _ _ _ _ _ S h => c (EvB prog w A _ · _ _) fun a b p c1 c2 =>
  bindK h fun u h1 h => bindK h fun v h2 h => ifK h fun hl => EvB.neD (i c1 S h1) (two C j c2 S h2) hl.1 hl.2 C.hu (c2.marks _)
theorem b_isN {x : X} (i : GX prog w A nm fn Φ W x) : GB prog w A nm fn Φ W (.isN x) := fun c _ _ _ _ _ _ S h => c (EvB prog w A _ · _ _) fun a p q k c => mapK h fun u h1 => EvB.isN (i c S h1)
theorem b_notN {x : X} (i : GX prog w A nm fn Φ W x) : GB prog w A nm fn Φ W (.notN x) := fun c _ _ _ _ _ _ S h => c (EvB prog w A _ · _ _) fun a p q k c => mapK h fun u h1 => EvB.notN (i c S h1)
include C in
theorem b_chain {o o' : CmpOp} {x y z : X} (i : GX prog w A nm fn Φ W x) (j : GX prog w A nm fn Φ W y) (k : GX prog w A nm fn Φ W z) : GB prog w A nm fn Φ W (.chain o o' x y z) := fun c _ _ _ _ _ _ S h => c (EvB prog w A _ · _ _) fun a b c p c1 c2 c3 =>
  bindIK h fun x h1 h => bindIK h fun y h2 h => bindIK h fun z h3 h => bindK h fun f hf h => mapK h fun g hg =>
    EvB.chain hf hg (i c1 S h1) (two C j c2 S h2) (two C k c3 S h3) (show behindInMarks _ _ = false from c3.marks _) rfl
@[elab_as_elim] theorem andK {t b : Bool} {r : Option Bool} {P : Bool → Prop} (h : (if t = true then r else some false) = some b) (k : ∀ u, (t = true → r = some u) → P (t && u)) : P b := by
  cases t with
  | false => exact Option.some.inj h ▸ k false nofun
  | true => exact k b fun _ => h
@[elab_as_elim] theorem orK {t b : Bool} {r : Option Bool} {P : Bool → Prop} (h : (if t = true then some true else r) = some b) (k : ∀ u, (t = false → r = some u) → P (t || u)) : P b := by
  cases t with
  | true => exact Option.some.inj h ▸ k false nofun
  | false => exact k b fun _ => h
theorem EvB.and_cons {env : Env} {a b c : Expr} {p q : Pos} {s : Shared} {t u : Bool} (h1 : EvB prog w A env a s t) (h2 : t = true → ∀ s', Ks s s' → EvB prog w A env (.BoolOp .And [b, c] q) s' u) : EvB prog w A env (.BoolOp .And [a, b, c] p) s (t && u) := fun E Q hQ =>
  wpAny_isTrue_BoolOp (wpAny_allTrue_And_cons (h1 E _ fun s' k => by
    cases t with
    | false => exact hQ s' k
    | true =>
      have := h2 rfl s' k E Q fun s'' k' => hQ _ (k.trans k')
      rw [arm_isTrue_BoolOp] at this
      exact this))
include C in
theorem b_and {x y : B} (i : GB prog w A nm fn Φ W x) (j : GB prog w A nm fn Φ W y) : GB prog w A nm fn Φ W (.and x y) := fun c _ _ _ _ _ _ S h => bindK h fun t h1 h => andK h fun u h2 =>
  c (EvB prog w A _ · _ _) (fun a b p c1 c2 => EvB.and2 (i c1 S h1) fun e s' k => j c2 (S.keeps C k) (h2 e)) fun a b c p c1 c2 => EvB.and_cons (i c1 S h1) fun e s' k => j c2 (S.keeps C k) (h2 e)
include C in
theorem b_or {x y : B} (i : GB prog w A nm fn Φ W x) (j : GB prog w A nm fn Φ W y) : GB prog w A nm fn Φ W (.or x y) := fun c _ _ _ _ _ _ S h => bindK h fun t h1 h => orK h fun u h2 =>
  c (EvB prog w A _ · _ _) fun a b p c1 c2 => EvB.or2 (i c1 S h1) fun e s' k => j c2 (S.keeps C k) (h2 e)
theorem b_not {x : B} (i : GB prog w A nm fn Φ W x) : GB prog w A nm fn Φ W (.not x) := fun c _ _ _ _ _ _ S h => c (EvB prog w A _ · _ _) fun a p c => mapK h fun t h1 => EvB.notB (i c S h1)
theorem valK {x : X} {ρ : Vars} {b : Bool} {P : X → Bool → Prop} (h : evB Φ (.val x) ρ = some b) (k1 : ∀ i ds, ρ i = some (.own ds) → ds.length ≤ 100000 → P (.var i) (!ds.isEmpty)) (k2 : ∀ d, eval Φ x ρ = some d → truthD d = some b → P x b) : P x b := by
  have key : (eval Φ x ρ).bind truthD = some b → P x b := fun h => bindK h k2
  cases x with
  | var i =>
    have h : (match ρ i with | some (.own ds) => if ds.length ≤ 100000 then some (!ds.isEmpty) else none | _ => (eval Φ (.var i) ρ).bind truthD) = some b := h
    cases hi : ρ i with
    | none => rw [hi] at h; exact key h
    | some sl =>
      rw [hi] at h
      cases sl with
      | fro d => exact key h
      | own es => exact ifK h fun hl => k1 i es hi hl
  | _ => exact key h
include hn in
theorem b_val {x : X} (i : GX prog w A nm fn Φ W x) : GB prog w A nm fn Φ W (.val x) := fun {kd e} c {env _ ρ _ s b} S h => by
  refine c (fun e x => GX prog w A nm fn Φ W x → evB Φ (.val x) ρ = some b → EvB prog w A env e s b) (fun k p i h => ?_) (fun f as p c i h => ?_) i h
  · exact valK (P := fun x b => x = .var k → EvB prog w A env (.Name (nm k) p) s b) h (fun j ds hi hl z => EvB.valSeq (EvSeq.var S.ek hn S.V ((X.noConfusion z fun e => e : _ = _) ▸ hi)) hl fun _ => rfl) (fun d h1 h2 _ => EvB.val (i (CX.var k) S h1) h2 fun _ => rfl) rfl
  · exact valK (P := fun x b => CX nm fn kd (.Call f as [] p) x → EvB prog w A env (.Call f as [] p) s b) h (fun j ds hi hl c => (c (fun e => e = .Call f as [] p → False) (fun _ z => nomatch z) rfl).elim) (fun d h1 h2 c => EvB.val (i c S h1) h2 fun _ => rfl) c
include hn in
theorem i_seq {x : X} (i : GX prog w A nm fn Φ W x) : GI prog w A nm fn Φ W (.seq x) := fun c _ _ _ _ _ _ S h => mapK h fun b h1 => (seqI hn i c S h1).it
include C in
theorem i_range {x : X} (i : GX prog w A nm fn Φ W x) : GI prog w A nm fn Φ W (.range x) := fun c _ _ _ _ _ _ S h => c (EvIt prog w A _ · _ _ _ _) fun a p q hk c =>
  bindIK h fun n h1 h => ifK h fun hr => EvIt.range (evG C S hk C.rng (by decide)) (i c S h1) (c.star [] _) rfl hr
include C hn in
theorem sound4 : (∀ x, GX prog w A nm fn Φ W x) ∧ (∀ xs, GXs prog w A nm fn Φ W xs) ∧ (∀ c, GB prog w A nm fn Φ W c) ∧ ∀ it, GI prog w A nm fn Φ W it := by
  refine (fun m1 m2 m3 m4 => ⟨m1, m2, m3, m4⟩) (X.rec (motive_1 := GX prog w A nm fn Φ W) (motive_2 := GXs prog w A nm fn Φ W) (motive_3 := GB prog w A nm fn Φ W) (motive_4 := GI prog w A nm fn Φ W) (g_var hn) g_lit (fun _ => g_tup) (fun _ => g_lst) (fun _ _ _ => g_bin C) (fun _ => g_neg) (fun _ _ _ => g_cmp C) (fun _ _ _ => g_ife C) (fun _ _ => g_idx C hn) (fun _ _ => g_from C hn) (fun _ _ => g_upto C hn) (fun _ => g_len C hn) (fun _ _ => g_max2 C) (fun _ => g_str C) (fun _ => g_tupOf C hn) (fun _ => g_lstOf C hn) (fun _ => g_sorted C hn) (fun _ _ => g_call C) (fun _ _ _ _ _ => g_comp C) (fun _ => g_flat C)
      g_nil (fun _ _ => g_cons C) (fun c => c.elim) (fun _ _ _ => b_cmp C) (fun _ _ => b_eq C) (fun _ _ => b_ne C) (fun _ => b_isN) (fun _ => b_notN) (fun _ _ _ _ _ => b_chain C) (fun _ _ => b_and C) (fun _ _ => b_or C) (fun _ => b_not) (fun _ => b_val hn) (fun _ => i_seq hn) (fun _ => i_range C))
    (XS.rec (motive_1 := GX prog w A nm fn Φ W) (motive_2 := GXs prog w A nm fn Φ W) (motive_3 := GB prog w A nm fn Φ W) (motive_4 := GI prog w A nm fn Φ W) (g_var hn) g_lit (fun _ => g_tup) (fun _ => g_lst) (fun _ _ _ => g_bin C) (fun _ => g_neg) (fun _ _ _ => g_cmp C) (fun _ _ _ => g_ife C) (fun _ _ => g_idx C hn) (fun _ _ => g_from C hn) (fun _ _ => g_upto C hn) (fun _ => g_len C hn) (fun _ _ => g_max2 C) (fun _ => g_str C) (fun _ => g_tupOf C hn) (fun _ => g_lstOf C hn) (fun _ => g_sorted C hn) (fun _ _ => g_call C) (fun _ _ _ _ _ => g_comp C) (fun _ => g_flat C)
      g_nil (fun _ _ => g_cons C) (fun c => c.elim) (fun _ _ _ => b_cmp C) (fun _ _ => b_eq C) (fun _ _ => b_ne C) (fun _ => b_isN) (fun _ => b_notN) (fun _ _ _ _ _ => b_chain C) (fun _ _ => b_and C) (fun _ _ => b_or C) (fun _ => b_not) (fun _ => b_val hn) (fun _ => i_seq hn) (fun _ => i_range C))
    (B.rec (motive_1 := GX prog w A nm fn Φ W) (motive_2 := GXs prog w A nm fn Φ W) (motive_3 := GB prog w A nm fn Φ W) (motive_4 := GI prog w A nm fn Φ W) (g_var hn) g_lit (fun _ => g_tup) (fun _ => g_lst) (fun _ _ _ => g_bin C) (fun _ => g_neg) (fun _ _ _ => g_cmp C) (fun _ _ _ => g_ife C) (fun _ _ => g_idx C hn) (fun _ _ => g_from C hn) (fun _ _ => g_upto C hn) (fun _ => g_len C hn) (fun _ _ => g_max2 C) (fun _ => g_str C) (fun _ => g_tupOf C hn) (fun _ => g_lstOf C hn) (fun _ => g_sorted C hn) (fun _ _ => g_call C) (fun _ _ _ _ _ => g_comp C) (fun _ => g_flat C)
      g_nil (fun _ _ => g_cons C) (fun c => c.elim) (fun _ _ _ => b_cmp C) (fun _ _ => b_eq C) (fun _ _ => b_ne C) (fun _ => b_isN) (fun _ => b_notN) (fun _ _ _ _ _ => b_chain C) (fun _ _ => b_and C) (fun _ _ => b_or C) (fun _ => b_not) (fun _ => b_val hn) (fun _ => i_seq hn) (fun _ => i_range C))
    (It.rec (motive_1 := GX prog w A nm fn Φ W) (motive_2 := GXs prog w A nm fn Φ W) (motive_3 := GB prog w A nm fn Φ W) (motive_4 := GI prog w A nm fn Φ W) (g_var hn) g_lit (fun _ => g_tup) (fun _ => g_lst) (fun _ _ _ => g_bin C) (fun _ => g_neg) (fun _ _ _ => g_cmp C) (fun _ _ _ => g_ife C) (fun _ _ => g_idx C hn) (fun _ _ => g_from C hn) (fun _ _ => g_upto C hn) (fun _ => g_len C hn) (fun _ _ => g_max2 C) (fun _ => g_str C) (fun _ => g_tupOf C hn) (fun _ => g_lstOf C hn) (fun _ => g_sorted C hn) (fun _ _ => g_call C) (fun _ _ _ _ _ => g_comp C) (fun _ => g_flat C)
      g_nil (fun _ _ => g_cons C) (fun c => c.elim) (fun _ _ _ => b_cmp C) (fun _ _ => b_eq C) (fun _ _ => b_ne C) (fun _ => b_isN) (fun _ => b_notN) (fun _ _ _ _ _ => b_chain C) (fun _ _ => b_and C) (fun _ _ => b_or C) (fun _ => b_not) (fun _ => b_val hn) (fun _ => i_seq hn) (fun _ => i_range C))
end
theorem CX.sound (C : Cx prog w A H gl fn Φ W) (hn : NmOk nm) {kd : Str → Option NameKind} {e : Expr} {x : X} (c : CX nm fn kd e x) {env : Env} {O : Addr → Prop} {ρ : Vars} {vl : Nat → Value} {s : Shared} {d : D} : EnvOk kd env → W s.heap → OIn O s.heap → Vw nm env O s.heap ρ vl → eval Φ x ρ = some d → Ev prog w A env e O s d := fun ek hW hO V h => (sound4 C hn).1 _ c ⟨ek, hW, hO, V⟩ h
theorem CXs.sound (C : Cx prog w A H gl fn Φ W) (hn : NmOk nm) {kd : Str → Option NameKind} {es : List Expr} {xs : XS} (c : CXs nm fn kd es xs) {env : Env} {O : Addr → Prop} {ρ : Vars} {vl : Nat → Value} {s : Shared} {ds : List D} : EnvOk kd env → W s.heap → OIn O s.heap → Vw nm env O s.heap ρ vl → evals Φ xs ρ = some ds → Evs prog w A env es O s ds := fun ek hW hO V h => (sound4 C hn).2.1 _ c ⟨ek, hW, hO, V⟩ h
theorem CB.sound (C : Cx prog w A H gl fn Φ W) (hn : NmOk nm) {kd : Str → Option NameKind} {e : Expr} {t : B} (c : CB nm fn kd e t) {env : Env} {O : Addr → Prop} {ρ : Vars} {vl : Nat → Value} {s : Shared} {b : Bool} : EnvOk kd env → W s.heap → OIn O s.heap → Vw nm env O s.heap ρ vl → evB Φ t ρ = some b → EvB prog w A env e s b := fun ek hW hO V h => (sound4 C hn).2.2.1 _ c ⟨ek, hW, hO, V⟩ h
theorem CIt.sound (C : Cx prog w A H gl fn Φ W) (hn : NmOk nm) {kd : Str → Option NameKind} {e : Expr} {it : It} (c : CIt nm fn kd e it) {env : Env} {O : Addr → Prop} {ρ : Vars} {vl : Nat → Value} {s : Shared} {ds : List D} : EnvOk kd env → W s.heap → OIn O s.heap → Vw nm env O s.heap ρ vl → evIt Φ it ρ = some ds → EvIt prog w A env e (fun _ => True) O s ds := fun ek hW hO V h => (sound4 C hn).2.2.2 _ c ⟨ek, hW, hO, V⟩ h
end
end Mine
-- B11
namespace Mine
open PySem PySem.W PyProof.Rows PySem.Calls
noncomputable def fsA (fs : List Env) : List Addr := fs.filterMap (·.frame)
/-- each frame's names stand in the heap -/
noncomputable def FF (fs : List Env) (h : Heap) : Prop := ∀ env ∈ fs, env.scope.kind ≠ .module ∧ ∃ L o es n, env.frame = some L ∧ h.get? L = some o ∧ o.data = .dict es n
noncomputable abbrev emptyH : Heap := ⟨#[], {}⟩
theorem emptyH_none (a : Addr) : emptyH.get? a = none := by simp [Heap.get?]
theorem FF.funs {fs : List Env} {h : Heap} (x : FF fs h) : h.FunFrames emptyH fs := by
  induction fs with
  | nil => trivial
  | cons env fs ih =>
    obtain ⟨hk, L, o, es, n, hf, ho, hd⟩ := x env (.head _)
    exact ⟨hk, ⟨L, o, hf, emptyH_none L, ho, fun vs q => by rw [hd] at q; cases q⟩, ih fun e he => x e (.tail _ he)⟩
/-- the namespaces stay namespaces -/
noncomputable def DK (h h' : Heap) : Prop := ∀ a o es n, h.get? a = some o → o.data = .dict es n → ∃ o' es' n', h'.get? a = some o' ∧ o'.data = .dict es' n'
theorem DK.trans {h h' h'' : Heap} (a : DK h h') (b : DK h' h'') : DK h h'' := fun c o es n e d => let ⟨o', es', n', e', d'⟩ := a c o es n e d; b c o' es' n' e' d'
theorem DK.kp {h h' : Heap} (k : Kp h h') : DK h h' := fun c o es n e d => ⟨o, es, n, k _ _ e, d⟩
theorem FF.dk {fs : List Env} {h h' : Heap} (x : FF fs h) (k : DK h h') : FF fs h' := fun env he =>
  let ⟨hk, L, o, es, n, hf, ho, hd⟩ := x env he
  let ⟨o', es', n', e', d'⟩ := k L o es n ho hd
  ⟨hk, L, o', es', n', hf, e', d'⟩
theorem FF.mem {fs : List Env} {h : Heap} (x : FF fs h) {b : Addr} (hb : b ∈ fsA fs) : ∃ o es n, h.get? b = some o ∧ o.data = .dict es n := by
  obtain ⟨env, he, hf⟩ := List.mem_filterMap.mp hb
  obtain ⟨_, L, o, es, n, hf', ho, hd⟩ := x env he
  rw [hf] at hf'; cases hf'
  exact ⟨o, es, n, ho, hd⟩
/-- as it was, but for the slots of the frames -/
noncomputable def Up (F : List Addr) (h h' : Heap) : Prop := (∀ b o, h.get? b = some o → b ∉ F → h'.get? b = some o) ∧ (∀ b o, h.get? b = some o → b ∈ F → ∃ sl, h'.get? b = some { o with slots := sl })
theorem Up.kp {F : List Addr} {h h' : Heap} (k : Kp h h') : Up F h h' := ⟨fun b o e _ => k b o e, fun b o e _ => ⟨o.slots, k b o e⟩⟩
theorem Up.trans {F : List Addr} {h h' h'' : Heap} (a : Up F h h') (b : Up F h' h'') : Up F h h'' := by
  refine ⟨fun c o e n => b.1 c o (a.1 c o e n) n, fun c o e m => ?_⟩
  obtain ⟨sl, e'⟩ := a.2 c o e m
  obtain ⟨sl', e''⟩ := b.2 c _ e' m
  exact ⟨sl', e''⟩
theorem Up.kpL {F : List Addr} {h h' h'' : Heap} (a : Kp h h') (b : Up F h' h'') : Up F h h'' := (Up.kp a).trans b
theorem Up.less {F G : List Addr} {h h' : Heap} (a : Up F h h') (k : ∀ b, b ∈ F → b ∉ G → h.get? b = none) (g : ∀ b ∈ G, b ∈ F) : Up G h h' :=
  ⟨fun b o e n => a.1 b o e fun m => (by rw [k b m n] at e; cases e), fun b o e m => a.2 b o e (g b m)⟩
/-- the exception's traceback: none as yet, or an object of its own -/
inductive TbOk (noted : Bool) (h0 h : Heap) (e : Addr) (x : Option Value) : Prop
  | no : noted = false → x = some .none → TbOk noted h0 h e x
  | at_ (T : Addr) (oT : Obj) (ts : Array Value) (y : Value) : x = some (.ref T) → T ≠ e → h0.get? T = none → h.get? T = some oT → oT.data = .fields ts → ts[3]? = some y → TbOk noted h0 h e x
/-- the exception, in flight -/
inductive Exc (Cb : Addr) (why : Str) (F : List Addr) (noted : Bool) (h0 h : Heap) (e : Addr) : Prop
  | mk (dx : Addr) (sl : Array (Option Value)) (vs : Array Value) : h0.get? e = none → h.get? e = some ⟨.ref Cb, some dx, .fields vs, sl⟩ → h0.get? dx = none → dx ∉ F → (∃ m t, h.Ns dx m ∧ m ("why" : Str) = some (.str why t)) → TbOk noted h0 h e vs[1]? → Exc Cb why F noted h0 h e
theorem Exc.map {Cb : Addr} {why : Str} {F G : List Addr} {b b' : Bool} {h0 h0' h : Heap} {e : Addr} (x : Exc Cb why F b h0' h e) (hb : b = false → b' = false) (k : ∀ a, h0'.get? a = none → h0.get? a = none) (g : ∀ c ∈ G, c ∈ F) : Exc Cb why G b' h0 h e :=
  x.casesOn fun dx sl vs a h1 h2 h3 h4 h5 => .mk dx sl vs (k _ a) h1 (k _ h2) (fun q => h3 (g _ q)) h4 (h5.casesOn (fun q z => .no (hb q) z) fun T oT ts y a1 a2 a3 a4 a5 a6 => .at_ T oT ts y a1 a2 (k _ a3) a4 a5 a6)
theorem Exc.weak {Cb : Addr} {why : Str} {F : List Addr} {b : Bool} {h0 h : Heap} {e : Addr} (x : Exc Cb why F b h0 h e) : Exc Cb why F false h0 h e := x.map (fun _ => rfl) (fun _ q => q) fun _ q => q
theorem Exc.less {Cb : Addr} {why : Str} {F G : List Addr} {b : Bool} {h0 h : Heap} {e : Addr} (x : Exc Cb why F b h0 h e) (g : ∀ c ∈ G, c ∈ F) : Exc Cb why G b h0 h e := x.map id (fun _ q => q) g
theorem Exc.older {Cb : Addr} {why : Str} {F : List Addr} {b : Bool} {h0 h0' h : Heap} {e : Addr} (k : ∀ a, h0'.get? a = none → h0.get? a = none) (x : Exc Cb why F b h0' h e) : Exc Cb why F b h0 h e := x.map id k fun _ q => q
theorem kp_none {h h' : Heap} (k : Kp h h') {a : Addr} (e : h'.get? a = none) : h.get? a = none := by
  cases q : h.get? a with
  | none => rfl
  | some o => exact nomatch e.symm.trans (k a o q)
theorem ns_slots {h h' : Heap} {a : Addr} {m : Str → Option Value} (n : h.Ns a m) (k : ∀ o, h.get? a = some o → ∃ sl, h'.get? a = some { o with slots := sl }) : h'.Ns a m := by
  obtain ⟨o, es, ep, e, d, r⟩ := n
  obtain ⟨sl, e'⟩ := k o e
  exact ⟨_, es, ep, e', d, r⟩
section
variable {M : Model} {A : Around} {E : Value → Shared → Prop} {s : Shared} {env : Env} {fs : List Env} {L e Cb : Addr} {why : Str} {h0 : Heap}
theorem FF.but {h h1 h2 : Heap} {e : Addr} {oe : Obj} {vs : Array Value} (ff : FF fs h) (he : h.get? e = some oe) (de : oe.data = .fields vs) (sl : ∀ b o, h.get? b = some o → ∃ sl, h1.get? b = some { o with slots := sl }) (other : ∀ b o, b ≠ e → h1.get? b = some o → h2.get? b = some o) : FF fs h2 :=
  ff.dk fun a o es n ea da => (sl a o ea).elim fun s e' => ⟨_, es, n, other a _ (ne_data he ea fun z => nomatch (da.symm.trans z).trans de) e', da⟩
theorem Up.but {F : List Addr} {h0 h h1 h2 : Heap} {e : Addr} (u : Up F h0 h) (hen : h0.get? e = none) (off : ∀ b, b ∉ F → h1.get? b = h.get? b) (sl : ∀ b o, h.get? b = some o → ∃ sl, h1.get? b = some { o with slots := sl }) (other : ∀ b o, b ≠ e → h1.get? b = some o → h2.get? b = some o) : Up F h0 h2 := by
  have ne : ∀ {b o}, h0.get? b = some o → b ≠ e := fun q z => by subst z; exact nomatch hen.symm.trans q
  exact ⟨fun b o q n => other b o (ne q) ((off b n).trans (u.1 b o q n)), fun b o q n => (u.2 b o q n).elim fun s1 e' => (sl b _ e').elim fun s2 e'' => ⟨s2, other b _ (ne q) e''⟩⟩
theorem why_but {h h1 h2 : Heap} {dx e : Addr} {oe : Obj} {vs : Array Value} (hm : ∃ m t, h.Ns dx m ∧ m ("why" : Str) = some (.str why t)) (he : h.get? e = some oe) (de : oe.data = .fields vs) (off : h1.get? dx = h.get? dx) (other : ∀ b o, b ≠ e → h1.get? b = some o → h2.get? b = some o) :
    ∃ m t, h2.Ns dx m ∧ m ("why" : Str) = some (.str why t) := by
  obtain ⟨m, t, ⟨o, es, ep, eo, d, r⟩, hw⟩ := hm
  exact ⟨m, t, ⟨o, es, ep, other dx o (ne_data he eo fun z => nomatch (d.symm.trans z).trans de) (off.trans eo), d, r⟩, hw⟩
theorem sl_same {h : Heap} (b : Addr) (o : Obj) (e : h.get? b = some o) : ∃ sl, h.get? b = some { o with slots := sl } := ⟨o.slots, e⟩
theorem not_mem {h : Heap} {oe : Obj} {vs : Array Value} (ff : FF fs h) (he : h.get? e = some oe) (de : oe.data = .fields vs) : e ∉ fsA fs := fun hm => by
  obtain ⟨o, es, n, ho, hd⟩ := ff.mem hm
  exact ne_data he ho (fun z => nomatch (hd.symm.trans z).trans de) rfl
theorem Up.fresh {F : List Addr} {h : Heap} (u : Up F h0 h) {n : Nat} (hn : n = h.objs.size) : h0.get? n = none := by
  cases q : h0.get? n with
  | none => rfl
  | some o =>
    have : n < h.objs.size := by
      by_cases hb : n ∈ F
      · exact (u.2 _ o q hb).elim fun _ e' => Heap.lt_size e'
      · exact Heap.lt_size (u.1 _ o q hb)
    exact absurd this (by rw [hn]; exact Nat.lt_irrefl _)
/-- a new entry of the traceback -/
theorem note_new {head : Value} {hadNext : Bool} {Q : Unit → Shared → Prop} (hfr : A.frames = some (env :: fs)) (hL : env.frame = some L) (ff : FF (env :: fs) s.heap) {dx : Addr} {sl : Array (Option Value)} {vs : Array Value}
    (he : s.heap.get? e = some ⟨.ref Cb, some dx, .fields vs, sl⟩) (hen : h0.get? e = none) (hdx : h0.get? dx = none) (hdf : dx ∉ fsA (env :: fs)) (hm : ∃ m t, s.heap.Ns dx m ∧ m ("why" : Str) = some (.str why t)) (h1 : 1 < vs.size)
    (u : Up (fsA (env :: fs)) h0 s.heap)
    (hQ : ∀ h', FF (env :: fs) h' → Exc Cb why (fsA (env :: fs)) true h0 h' e → Up (fsA (env :: fs)) h0 h' → Q () { s with heap := h' }) :
    wpAny M A (do let a ← frameOf env; let pl ← entryPlaceOf L hadNext; let b ← EntryCells.newEntry head a .none (rawInt L) .none pl; setField (.ref e) 1 b) Q E s := by
  refine wpAny_bind (wpAny_frameOf_fun hfr ff.funs hL fun h₁ hs₁ => ?_)
  refine wpAny_bind (wpAny_entryPlaceOf fun pl hpl => ?_)
  unfold EntryCells.newEntry newFields
  refine wpAny_bind (wpAny_newObj_type ?_ (hpl.sizeOk5 _ _ _ _ _))
  have he₁ : h₁.get? e = some ⟨.ref Cb, some dx, .fields vs, sl⟩ := (hs₁.2.1 e (not_mem ff he rfl)).trans he
  generalize htb : (([head, .ref L, .none, rawInt L, .none] ++ (if pl.isEmpty then List.replicate 6 Value.none else pl)).toArray : Array Value) = tb
  have htb3 : tb[3]? = some (rawInt L) := by rw [← htb]; rfl
  clear htb
  have he₂ := Heap.get?_push_of_some (h := h₁) { cls := .type "traceback", dict := none, data := .fields tb } he₁
  have hTe : h₁.objs.size ≠ e := Nat.ne_of_gt (Heap.lt_size he₁)
  have other : ∀ b o, b ≠ e → h₁.get? b = some o → ((h₁.push { cls := .type "traceback", dict := none, data := .fields tb }).update e (Obj.mapFields (·.setIfInBounds 1 (Value.ref h₁.objs.size)))).get? b = some o := fun b o hb q => by
    rw [Heap.get?_update_other _ _ (Ne.symm hb)]; exact Heap.get?_push_of_some _ q
  exact wpAny_setField he₂ rfl h1 (hQ _ (ff.but he rfl hs₁.2.2 other) (.mk dx sl (vs.setIfInBounds 1 (Value.ref h₁.objs.size)) hen (Heap.get?_update_self _ he₂ rfl) hdx hdf (why_but hm he rfl (hs₁.2.1 dx hdf) other)
    (.at_ h₁.objs.size _ tb (rawInt L) (Array.getElem?_setIfInBounds_self_of_lt h1) hTe (u.fresh hs₁.1) ((Heap.get?_update_other _ _ hTe.symm).trans (Heap.get?_push_size h₁ rfl)) rfl htb3)) (u.but hen hs₁.2.1 hs₁.2.2 other))
theorem set_tb {T : Addr} {x : Value} {Q : Unit → Shared → Prop} {F : List Addr} {dx : Addr} {sl : Array (Option Value)} {vs : Array Value} {oT : Obj} {ts : Array Value} {y : Value}
    (ff : FF fs s.heap) (he : s.heap.get? e = some ⟨.ref Cb, some dx, .fields vs, sl⟩) (hm : ∃ m t, s.heap.Ns dx m ∧ m ("why" : Str) = some (.str why t)) (u : Up F h0 s.heap) (hTe : T ≠ e) (hTn : h0.get? T = none) (hT : s.heap.get? T = some oT) (hd : oT.data = .fields ts) (h3 : ts[3]? = some y)
    (hQ : ∀ h', FF fs h' → h'.get? e = some ⟨.ref Cb, some dx, .fields vs, sl⟩ → (∃ m t, h'.Ns dx m ∧ m ("why" : Str) = some (.str why t)) → Up F h0 h' → (∃ oT ts, h'.get? T = some oT ∧ oT.data = .fields ts ∧ ts[3]? = some x) → Q () { s with heap := h' }) :
    wpAny M A (setField (.ref T) 3 x) Q E s := by
  have hlt := (Array.getElem?_eq_some_iff.mp h3).1
  have other : ∀ b o, b ≠ T → s.heap.get? b = some o → (s.heap.update T (Obj.mapFields (·.setIfInBounds 3 x))).get? b = some o := fun b o hb q => (Heap.get?_update_other _ _ (Ne.symm hb)).trans q
  have hd3 := Obj.data_mapFields hd (·.setIfInBounds 3 x)
  exact wpAny_setField hT hd hlt (hQ _ (ff.but hT hd sl_same other) (other e _ hTe.symm he) (why_but hm hT hd rfl other) (u.but hTn (fun _ _ => rfl) sl_same other) ⟨_, _, Heap.get?_update_self _ hT (Obj.isFreed_of_fields hd3), hd3, by rw [Array.getElem?_setIfInBounds_self_of_lt hlt]⟩)
theorem ref_ne (T : Addr) : (Value.ref T != Value.none) = true := by simp
theorem note {b : Bool} {Q : Unit → Shared → Prop} (hfr : A.frames = some (env :: fs)) (hL : env.frame = some L) (ff : FF (env :: fs) s.heap) (x : Exc Cb why (fsA (env :: fs)) b h0 s.heap e) (u : Up (fsA (env :: fs)) h0 s.heap)
    (hQ : ∀ h', FF (env :: fs) h' → Exc Cb why (fsA (env :: fs)) true h0 h' e → Up (fsA (env :: fs)) h0 h' → Q () { s with heap := h' }) : wpAny M A (noteFrame (.ref e) env) Q E s := by
  unfold noteFrame
  rw [hL]
  induction x with
  | mk dx sl vs hen he hdx hdf hm tb =>
  cases tb with
  | no _ h1 =>
    refine wpAny_bind (wpAny_field he rfl h1 ?_)
    rw [if_neg (by decide)]
    exact note_new hfr hL ff he hen hdx hdf hm (Array.getElem?_eq_some_iff.mp h1).1 u hQ
  | at_ T oT ts y h1 hTe hTn hT hd h3 =>
    refine wpAny_bind (wpAny_field he rfl h1 ?_)
    rw [if_pos (ref_ne T)]
    refine wpAny_bind (wpAny_field hT hd h3 ?_)
    by_cases hy : (y == rawInt L) = true
    · rw [if_pos hy]
      exact wpAny_pure (hQ _ ff (.mk dx sl vs hen he hdx hdf hm (.at_ T oT ts y h1 hTe hTn hT hd h3)) u)
    · rw [if_neg hy]
      exact wpAny_bind (set_tb ff he hm u hTe hTn hT hd h3 fun h' ff' he' hm' u' _ => note_new (s := { s with heap := h' }) hfr hL ff' he' hen hdx hdf hm' (Array.getElem?_eq_some_iff.mp h1).1 u' hQ)
theorem flight {b : Bool} {f : Option Addr} {F : List Addr} {Q : Unit → Shared → Prop} (ff : FF fs s.heap) (x : Exc Cb why F b h0 s.heap e) (u : Up F h0 s.heap)
    (hQ : ∀ h', FF fs h' → Exc Cb why F b h0 h' e → Up F h0 h' → Q () { s with heap := h' }) : wpAny M A (setFlight (.ref e) f) Q E s := by
  unfold setFlight
  induction x with
  | mk dx sl vs hen he hdx hdf hm tb =>
  cases tb with
  | no hb h1 =>
    refine wpAny_bind (wpAny_field he rfl h1 ?_)
    rw [if_neg (by decide)]
    exact wpAny_pure (hQ _ ff (.mk dx sl vs hen he hdx hdf hm (.no hb h1)) u)
  | at_ T oT ts y h1 hTe hTn hT hd h3 =>
    refine wpAny_bind (wpAny_field he rfl h1 ?_)
    rw [if_pos (ref_ne T)]
    exact set_tb ff he hm u hTe hTn hT hd h3 fun h' ff' he' hm' u' q => q.elim fun oT' q => q.elim fun ts' q => hQ h' ff' (.mk dx sl vs hen he' hdx hdf hm' (.at_ T oT' ts' _ h1 hTe hTn q.1 q.2.1 q.2.2)) u'
/-- a loop's own activation: noted, and handed on -/
theorem pass_loop {b : Bool} (hfr : A.frames = some (env :: fs)) (hL : env.frame = some L) (ff : FF (env :: fs) s.heap) (x : Exc Cb why (fsA (env :: fs)) b h0 s.heap e) (u : Up (fsA (env :: fs)) h0 s.heap)
    (hQ : ∀ h', FF (env :: fs) h' → Exc Cb why (fsA (env :: fs)) true h0 h' e → Up (fsA (env :: fs)) h0 h' → E (.ref e) { s with heap := h' }) : notedBy M A env (fun e' s' => cameBackBy M A env E e' s') (.ref e) s := by
  unfold notedBy
  refine note hfr hL ff x u fun h' ff' x' u' => ?_
  unfold cameBackBy
  have fl := fun (f : Option Addr) => flight (s := { s with heap := h' }) (M := M) (A := A) (E := E) (f := f) (Q := fun _ s' => E (.ref e) s') ff' x' u' hQ
  cases x' with
  | mk dx sl vs hen he hdx hdf hm tb =>
  cases tb with
  | no q _ => exact nomatch q
  | at_ T oT ts y h1 =>
    refine wpAny_bind (wpAny_field (s := { s with heap := h' }) he rfl h1 ?_)
    rw [if_neg (by simp)]
    exact fl _
/-- a frame is left -/
theorem leaves {b : Bool} {Q : Unit → Shared → Prop} (hfr : A.frames = some (env :: fs)) (hL : env.frame = some L) (ff : FF (env :: fs) s.heap) (x : Exc Cb why (fsA (env :: fs)) b h0 s.heap e) (u : Up (fsA (env :: fs)) h0 s.heap)
    (hQ : ∀ h', FF (env :: fs) h' → Exc Cb why (fsA (env :: fs)) true h0 h' e → Up (fsA (env :: fs)) h0 h' → Q () { s with heap := h' }) : wpAny M A (leaving env (.ref e)) Q E s := by
  unfold leaving
  refine wpAny_bind (note hfr hL ff x u fun h' ff' x' u' => ?_)
  exact flight (s := { s with heap := h' }) ff' x' u' hQ
end
end Mine
-- B12
namespace Mine
open PySem PySem.W PyProof.Rows PySem.Calls
noncomputable def Ow (Oc : Addr → Prop) (ρ : Vars) (vl : Nat → Value) (a : Addr) : Prop := Oc a ∨ ∃ i ds, ρ i = some (.own ds) ∧ vl i = .ref a
noncomputable def VarAt (env : Env) (h : Heap) (m : Str → Option Value) (x : Str) (v : Value) : Prop :=
  (env.kindOf x = some .local ∧ m x = some v) ∨ (env.kindOf x = some .cell ∧ ∃ c, env.cells.lookup x = some c ∧ h.IsCell c (some v))
structure St (nm : Nat → Str) (env : Env) (Oc : Addr → Prop) (h₀ h : Heap) (ρ : Vars) (vl : Nat → Value) (m : Str → Option Value) : Prop where
  ns : h.Ns env.locals m
  lnew : h₀.get? env.locals = none
  cells : ∀ x c, env.cells.lookup x = some c → h₀.get? c = none ∧ ∃ v, h.IsCell c v
  apart : env.cells.Pairwise fun x y => x.2 ≠ y.2
  vars : ∀ i, (ρ i).isSome → VarAt env h m (nm i) (vl i)
  fro : ∀ i d, ρ i = some (.fro d) → Rp (Ow Oc ρ vl) h (vl i) d
  own : ∀ i ds, ρ i = some (.own ds) → ∃ a vs n, vl i = .ref a ∧ IsL h a vs.toArray n ∧ RpAll (Ow Oc ρ vl) h vs ds ∧ h₀.get? a = none
  inj : ∀ i j ds es, ρ i = some (.own ds) → ρ j = some (.own es) → vl i = vl j → i = j
  stays : Kp h₀ h
  oc : OIn Oc h₀
variable {nm : Nat → Str} {env : Env} {Oc : Addr → Prop} {h₀ h h' : Heap} {ρ : Vars} {vl : Nat → Value} {m : Str → Option Value}
theorem St.vw (S : St nm env Oc h₀ h ρ vl m) : Vw nm env (Ow Oc ρ vl) h ρ vl where
  vars := fun i q => (S.vars i q).imp (fun ⟨a, b⟩ => ⟨a, m, S.ns, b⟩) (fun ⟨a, b⟩ => ⟨.inl a, b⟩)
  fro := S.fro
  own := fun i ds q => let ⟨a, vs, n, e, l, r, _⟩ := S.own i ds q; ⟨a, vs, n, e, l, r⟩
theorem St.oin (S : St nm env Oc h₀ h ρ vl m) : OIn (Ow Oc ρ vl) h := by
  rintro a (q | ⟨i, ds, e, v⟩)
  · exact S.oc.keeps S.stays a q
  · obtain ⟨b, vs, n, ev, l, _⟩ := S.own i ds e
    rw [v] at ev; cases ev
    rw [show h.get? a = _ from l]; rfl
theorem St.keeps (S : St nm env Oc h₀ h ρ vl m) (k : Kp h h') : St nm env Oc h₀ h' ρ vl m where
  ns := S.ns.keeps k
  lnew := S.lnew
  cells := fun x c e => let ⟨a, v, q⟩ := S.cells x c e; ⟨a, v, q.keeps k⟩
  apart := S.apart
  vars := fun i q => (S.vars i q).imp id (fun ⟨a, c, l, q⟩ => ⟨a, c, l, q.keeps k⟩)
  fro := fun i d q => (S.fro i d q).keeps k
  own := fun i ds q => let ⟨a, vs, n, e, l, r, z⟩ := S.own i ds q; ⟨a, vs, n, e, k _ _ l, r.keeps k, z⟩
  inj := S.inj
  stays := fun b o e => k b o (S.stays b o e)
  oc := S.oc
structure NmInj (nm : Nat → Str) : Prop where
  ok : NmOk nm
  inj : ∀ i j, nm i = nm j → i = j
/-- what a name comes to bear -/
noncomputable def SlotAt (Oc : Addr → Prop) (h₀ h : Heap) (ρ ρ' : Vars) (vl vl' : Nat → Value) (i : Nat) (v : Value) : Slot → Prop
  | .fro d => Rp (Ow Oc ρ' vl') h v d
  | .own ds => ∃ a vs n, v = .ref a ∧ IsL h a vs.toArray n ∧ RpAll (Ow Oc ρ' vl') h vs ds ∧ h₀.get? a = none ∧ ∀ j es, j ≠ i → ρ j = some (.own es) → vl j ≠ v
section
variable {prog : Program} {w : World} {A : Around} {kd : Str → Option NameKind} {s : Shared} {E : Value → Shared → Prop} {Q : Unit → Shared → Prop} {i : Nat} {v : Value} {sl : Slot}
theorem updV_self : updV vl i v i = v := if_pos rfl
theorem updV_ne {j : Nat} (z : j ≠ i) : updV vl i v j = vl j := if_neg z
theorem upd_self : upd ρ i sl i = some sl := if_pos rfl
theorem upd_ne {j : Nat} (z : j ≠ i) : upd ρ i sl j = ρ j := if_neg z
theorem updK {j : Nat} {x : Slot} {P : Nat → Slot → Prop} (hj : upd ρ i sl j = some x) (k1 : P i sl) (k2 : j ≠ i → ρ j = some x → P j x) : P j x := by
  by_cases z : j = i
  · subst z; exact Option.some.inj (upd_self.symm.trans hj) ▸ k1
  · exact k2 z ((upd_ne z).symm.trans hj)
theorem not_l {b a : Addr} {o : Obj} {vs : Array Value} {n : Nat} (eb : h.get? b = some o) (mb : ∀ O, Mut O b o) (l : IsL h a vs n) : a ≠ b := fun w => by
  subst w
  have e := Option.some.inj (eb.symm.trans l)
  subst e
  exact not_mut_l (O := fun _ => False) id (mb _)
/-- a store to a name: what is common to both ways -/
theorem St.putFin (S : St nm env Oc h₀ h ρ vl m) {hp h1 : Heap} (hpk : Kp hp h) (hO : ∀ x, Ow Oc (upd ρ i sl) (updV vl i v) x → Ow Oc ρ vl x ∨ hp.get? x = none) (hS : St nm env Oc h₀ hp ρ vl m) (hs : SlotAt Oc h₀ h ρ (upd ρ i sl) vl (updV vl i v) i v sl)
    {b : Addr} {o o' : Obj} {m' : Str → Option Value} (eb : h.get? b = some o) (mb : ∀ O, Mut O b o) (db : (∃ es n, o'.data = .dict es n) ∨ (∃ v, o.data = .cell v)) (sb : Heap.SameBut b h h1) (eb' : h1.get? b = some o') (hb0 : h₀.get? b = none) (hns : h1.Ns env.locals m')
    (hv : ∀ j, (upd ρ i sl j).isSome → VarAt env h1 m' (nm j) (updV vl i v j)) (hc : ∀ x c, env.cells.lookup x = some c → ∃ v, h1.IsCell c v) :
      St nm env Oc h₀ h1 (upd ρ i sl) (updV vl i v) m' ∧ Go (Ow Oc ρ vl) hp (Ow Oc (upd ρ i sl) (updV vl i v)) h1 ∧ DK h h1 := by
  have go1 : Go (Ow Oc (upd ρ i sl) (updV vl i v)) h (Ow Oc (upd ρ i sl) (updV vl i v)) h1 := Go.store eb (mb _) sb.extBut eb'
  have go : Go (Ow Oc ρ vl) hp (Ow Oc (upd ρ i sl) (updV vl i v)) h1 := (Go.trans ⟨fun a o e _ => hpk a o e, fun a o e => ⟨o, hpk a o e⟩, hO⟩ go1)
  have dk : DK h h1 := fun a oa es n ea da => by
    by_cases z : a = b
    · subst z
      rcases db with ⟨es', n', q⟩ | ⟨v', q⟩
      · exact ⟨o', es', n', eb', q⟩
      · exact nomatch ((congrArg Obj.data (Option.some.inj (eb.symm.trans ea))).symm.trans q).symm.trans da
    · exact ⟨oa, es, n, sb.extBut a oa z ea, da⟩
  have keep : ∀ {a : Addr} {vs : Array Value} {n : Nat}, IsL h a vs n → IsL h1 a vs n := fun l => sb.extBut _ _ (not_l eb mb l) l
  have apart : ∀ {j : Nat} {ds es : List D}, sl = .own ds → j ≠ i → ρ j = some (.own es) → vl j ≠ v := fun {j ds es} e z hj => by
    subst e
    obtain ⟨_, _, _, _, _, _, _, ne⟩ := hs
    exact ne j es z hj
  refine ⟨⟨hns, S.lnew, fun x c e => ⟨(S.cells x c e).1, hc x c e⟩, S.apart, hv, fun j d hj => ?_, fun j ds hj => ?_, fun j k ds es hj hk2 hv2 => ?_, fun c q e => sb.extBut c q (fun z => by subst z; exact nomatch hb0.symm.trans e) (S.stays c q e), S.oc⟩, go, dk⟩
  · refine updK (P := fun j x => x = .fro d → Rp (Ow Oc (upd ρ i sl) (updV vl i v)) h1 (updV vl i v j) d) hj (fun e => ?_) (fun z hj _ => ?_) rfl
    · subst e; rw [updV_self]; exact Rp.go go1 hs
    · rw [updV_ne z]; exact (hS.fro j d hj).go go
  · refine updK (P := fun j x => x = .own ds → ∃ a vs n, updV vl i v j = .ref a ∧ IsL h1 a vs.toArray n ∧ RpAll (Ow Oc (upd ρ i sl) (updV vl i v)) h1 vs ds ∧ h₀.get? a = none) hj (fun e => ?_) (fun z hj _ => ?_) rfl
    · subst e
      obtain ⟨a, vs, n, e, l, r, q, _⟩ := hs
      exact ⟨a, vs, n, updV_self.trans e, keep l, r.go go1, q⟩
    · obtain ⟨a, vs, n, e, l, r, q⟩ := hS.own j ds hj
      exact ⟨a, vs, n, (updV_ne z).trans e, keep (hpk _ _ l), r.go go, q⟩
  · refine updK (P := fun j x => x = .own ds → updV vl i v j = updV vl i v k → j = k) hj (fun e1 hv2 => ?_) (fun z hj _ hv2 => ?_) rfl hv2
    · refine updK (P := fun k x => x = .own es → updV vl i v i = updV vl i v k → i = k) hk2 (fun _ _ => rfl) (fun z hk _ hv2 => (apart e1 z hk ?_).elim) rfl hv2
      exact ((updV_ne z).symm.trans hv2.symm).trans updV_self
    · refine updK (P := fun k x => x = .own es → updV vl i v j = updV vl i v k → j = k) hk2 (fun e2 hv2 => (apart e2 z hj ?_).elim) (fun z2 hk _ hv2 => ?_) rfl hv2
      · exact ((updV_ne z).symm.trans hv2).trans updV_self
      · exact hS.inj j k ds es hj hk (((updV_ne z).symm.trans hv2).trans (updV_ne z2))
theorem VarAt.upd {j : Nat} {m' : Str → Option Value} {h1 : Heap} (S : St nm env Oc h₀ h ρ vl m) (hj : (upd ρ i sl j).isSome) (k1 : VarAt env h1 m' (nm i) v) (k2 : j ≠ i → ∀ v, VarAt env h m (nm j) v → VarAt env h1 m' (nm j) v) : VarAt env h1 m' (nm j) (updV vl i v j) := by
  by_cases z : j = i
  · subst z; rw [updV_self]; exact k1
  · rw [updV_ne z]; exact k2 z _ (S.vars j (by rwa [upd_ne z] at hj))
theorem ns_cell {a c : Addr} {m : Str → Option Value} {v : Option Value} (n : h.Ns a m) (ic : h.IsCell c v) : a ≠ c := by
  obtain ⟨oL, es, ep, eL, dL, _⟩ := n
  obtain ⟨o, eo, d⟩ := ic
  exact ne_data eo eL fun z => nomatch (dL.symm.trans z).trans d
theorem St.put (ek : EnvOk kd env) (hn : NmInj nm) (S : St nm env Oc h₀ s.heap ρ vl m) (hk : kd (nm i) = some .local ∨ kd (nm i) = some .cell)
    {hp : Heap} (hpk : Kp hp s.heap) (hO : ∀ x, Ow Oc (upd ρ i sl) (updV vl i v) x → Ow Oc ρ vl x ∨ hp.get? x = none) (hS : St nm env Oc h₀ hp ρ vl m)
    (hs : SlotAt Oc h₀ s.heap ρ (upd ρ i sl) vl (updV vl i v) i v sl)
    (h : ∀ h' tk m', St nm env Oc h₀ h' (upd ρ i sl) (updV vl i v) m' → Go (Ow Oc ρ vl) hp (Ow Oc (upd ρ i sl) (updV vl i v)) h' → DK s.heap h' → (∀ a m, a ≠ env.locals → s.heap.Ns a m → h'.Ns a m) → Q () { s with heap := h', toks := tk }) :
    wpAny (model prog w) A (storeName env (nm i) v) Q E s := by
  have hinj : ∀ {j : Nat}, j ≠ i → nm j ≠ nm i := fun hj q => hj (hn.inj _ _ q)
  rw [← ek.kinds] at hk
  rcases hk with hl | hc
  · obtain ⟨oL, es, ep, eL, dL, rL⟩ := id S.ns
    refine wpAny_storeName_local hl S.ns (fun h' hn' sb => ?_) (by rw [ek.kind]; rfl)
    obtain ⟨oL', es', ep', eL', dL', _⟩ := id hn'
    have hcells : ∀ {c v}, s.heap.IsCell c v → h'.IsCell c v := fun ic => ic.sameBut sb (ns_cell S.ns ic).symm
    obtain ⟨S', G', K'⟩ := S.putFin hpk hO hS hs eL (fun _ => .inl ⟨es, ep, dL⟩) (.inl ⟨es', ep', dL'⟩) sb eL' S.lnew hn' (fun j hj => VarAt.upd S hj (.inl ⟨hl, if_pos rfl⟩) fun z v q => q.imp (fun q => ⟨q.1, (if_neg (hinj z)).trans q.2⟩) fun q => ⟨q.1, q.2.elim fun c q => ⟨c, q.1, hcells q.2⟩⟩)
      (fun x c e => (S.cells x c e).2.elim fun v' q => ⟨v', hcells q⟩)
    exact h h' _ _ S' G' K' fun a m ne n => n.extBut sb.extBut ne
  · have hkc : kd (nm i) = some .cell := by rw [← ek.kinds]; exact hc
    obtain ⟨c, hlk⟩ := Option.isSome_iff_exists.mp (ek.cells _ (.inl hkc))
    obtain ⟨hc0, v0, hcell⟩ := S.cells _ c hlk
    obtain ⟨oc, eoc, doc⟩ := id hcell
    refine wpAny_storeName_cell ek.kind hc hlk hcell fun h' hc' sb => ?_
    obtain ⟨oc', eoc', doc'⟩ := id hc'
    have hcells : ∀ {x c' v'}, x ≠ nm i → env.cells.lookup x = some c' → s.heap.IsCell c' v' → h'.IsCell c' v' := fun {x c' v'} hx e ic => ic.sameBut sb fun z => hx (name_of_addr S.apart (mem_of_lookup e) (z ▸ mem_of_lookup hlk))
    obtain ⟨S', G', K'⟩ := S.putFin hpk hO hS hs eoc (fun _ => .inr (.inl ⟨_, doc⟩)) (.inr ⟨_, doc⟩) sb eoc' hc0 (S.ns.extBut sb.extBut (ns_cell S.ns hcell)) (fun j hj => VarAt.upd S hj (.inr ⟨hc, c, hlk, hc'⟩) fun z v q => q.imp id fun q => ⟨q.1, q.2.elim fun c q => ⟨c, q.1, hcells (hinj z) q.1 q.2⟩⟩)
      (fun x c' e => by
        by_cases z : x = nm i
        · subst z; cases hlk.symm.trans e; exact ⟨_, hc'⟩
        · exact (S.cells x c' e).2.elim fun v' q => ⟨v', hcells z e q⟩)
    exact h h' _ _ S' G' K' fun a m ne n => n.extBut sb.extBut (ns_cell n hcell)
end
end Mine
-- B13
namespace Mine
open PySem PySem.W PyProof.Rows PySem.Calls
inductive Out where
  | next (ρ : Vars)
  | ret (d : D)
  | exc
mutual
inductive S where
  | set (i : Nat) (e : X)
  | own (i : Nat) (es : XS)
  | set2 (i j : Nat) (e : X)
  | app (i : Nat) (e : X)
  | last (i : Nat) (e : X)
  | inc (i : Nat) (e : X)
  | frz (i : Nat)
  | ret (e : X)
  | ite (c : B) (a b : SS)
  | for_ (tg : List Nat) (it : It) (b : SS)
  | while_ (c : B) (b : SS)
  | raise
  | run (f : Nat) (es : XS)
  | get (i f : Nat) (es : XS)
  | try_ (i k f : Nat) (es : XS)
inductive SS where
  | nil
  | cons (s : S) (r : SS)
end
noncomputable def forL (f : D → Vars → Option Out) : List D → Vars → Option Out
  | [], ρ => some (.next ρ)
  | d :: ds, ρ => match f d ρ with
    | some (.next ρ') => forL f ds ρ'
    | r => r
noncomputable def whileN (c : Vars → Option Bool) (f : Vars → Option Out) : Nat → Vars → Option Out
  | 0, _ => none
  | n + 1, ρ => (c ρ).bind fun t => if t then (match f ρ with
    | some (.next ρ') => whileN c f n ρ'
    | r => r) else some (.next ρ)
/-- what is looped over by a statement: no list of the frame's own -/
noncomputable def evItF (Φ : Nat → List D → Option (Except Unit D)) : It → Vars → Option (List D)
  | .seq a, ρ => ((eval Φ a ρ).bind seqOf).map (·.2)
  | .range a, ρ => ((eval Φ a ρ).bind intD).bind fun n => if -1000000 ≤ n ∧ n ≤ 1000000 then some (intsFrom 0 n.toNat) else none
mutual
noncomputable def exec (why : Str) (Φ : Nat → List D → Option (Except Unit D)) : S → Vars → Option Out
  | .set i e, ρ => (eval Φ e ρ).map fun d => .next (upd ρ i (.fro d))
  | .own i es, ρ => (evals Φ es ρ).bind fun ds => if ds.length ≤ 1000 then some (.next (upd ρ i (.own ds))) else none
  | .set2 i j e, ρ => (eval Φ e ρ).bind fun d => (bindT [i, j] d ρ).map .next
  | .app i e, ρ => match ρ i with
    | some (.own ds) => if ds.length ≤ 1000 then (eval Φ e ρ).map fun d => .next (upd ρ i (.own (ds ++ [d]))) else none
    | _ => none
  | .last i e, ρ => match ρ i with
    | some (.own ds) => if 0 < ds.length ∧ ds.length ≤ 1000 then (eval Φ e ρ).map fun d => .next (upd ρ i (.own (ds.set (ds.length - 1) d))) else none
    | _ => none
  | .inc i e, ρ => match ρ i with
    | some (.fro (.int a)) => ((eval Φ e ρ).bind intD).map fun b => .next (upd ρ i (.fro (.int (a + b))))
    | _ => none
  | .frz i, ρ => match ρ i with
    | some (.own ds) => some (.next (upd ρ i (.fro (.list ds))))
    | _ => none
  | .ret e, ρ => (eval Φ e ρ).map .ret
  | .ite c a b, ρ => (evB Φ c ρ).bind fun t => if t then execs why Φ a ρ else execs why Φ b ρ
  | .for_ tg it b, ρ => (evItF Φ it ρ).bind fun ds => forL (fun d ρ => (bindT tg d ρ).bind fun ρ' => execs why Φ b ρ') ds ρ
  | .while_ c b, ρ => whileN (fun ρ => evB Φ c ρ) (fun ρ => execs why Φ b ρ) 100 ρ
  | .raise, _ => some .exc
  | .run f es, ρ => (evals Φ es ρ).bind fun ds => match Φ f ds with
    | some (.ok _) => some (.next ρ)
    | some (.error _) => some .exc
    | none => none
  | .get i f es, ρ => (evals Φ es ρ).bind fun ds => match Φ f ds with
    | some (.ok d) => some (.next (upd ρ i (.fro d)))
    | some (.error _) => some .exc
    | none => none
  | .try_ i k f es, ρ => match ρ k with
    | none => (evals Φ es ρ).bind fun ds => match Φ f ds with
      | some (.ok d) => some (.next (upd ρ i (.fro d)))
      | some (.error _) => some (.next (upd ρ i (.fro (.str why))))
      | none => none
    | some _ => none
noncomputable def execs (why : Str) (Φ : Nat → List D → Option (Except Unit D)) : SS → Vars → Option Out
  | .nil, ρ => some (.next ρ)
  | .cons s r, ρ => match exec why Φ s ρ with
    | some (.next ρ') => execs why Φ r ρ'
    | o => o
end
noncomputable def stK (kd : Str → Option NameKind) (x : Str) : Prop := kd x = some .local ∨ kd x = some .cell
inductive TgS (kd : Str → Option NameKind) (nm : Nat → Str) : Expr → List Nat → Prop
  | one (i : Nat) {p : Pos} : stK kd (nm i) → TgS kd nm (.Name (nm i) p) [i]
  | two (i j : Nat) {k : Nat} {p q r : Pos} : stK kd (nm i) → stK kd (nm j) → i ≠ j → TgS kd nm (.Tuple [.Name (nm i) p, .Name (nm j) q] k r) [i, j]
/-- the comprehension's value goes to a local of the frame before its own names are let go -/
inductive Swap (kd : Str → Option NameKind) (x : Str) (p : Pos) (l : Nat) : Expr → Prop
  | mk {elt : Expr} {g : Comprehension} {scope : Scope} {q : Pos} : kd x = some .local → (p.line == q.line) = true → scope.names.any (fun (n, k) => n == x && (k == .local || k == .cell)) = false → Swap kd x p l (.ListComp elt [g] scope q)
noncomputable def NoSwap (kd : Str → Option NameKind) (x : Str) (e : Expr) : Prop :=
  (kd x = some .cell ∧ ∃ elt gs scope q, e = .ListComp elt gs scope q) ∨ ∀ p l env, swapsWith e (some (.Name x p)) l env = pure false
/-- a call of a def: the name, an argument and the rest -/
structure CallOk (nm fn : Nat → Str) (kd : Kd) (f : Nat) (a : Expr) (es : List Expr) (xs : XS) : Prop where
  g : kd (fn f) = some .globalImplicit
  cs : CXs nm fn kd (a :: es) xs
mutual
noncomputable def CS (T : Prop) (nm fn : Nat → Str) (kd : Kd) : Stmt → S → Prop
  | st, .set i x => ∀ P : Stmt → Prop, (∀ e p q, stK kd (nm i) → NoSwap kd (nm i) e → CX nm fn kd e x → P (.Assign [.Name (nm i) p] e q)) → (∀ e p q xx tg it c caps, Swap kd (nm i) p 0 e → x = .comp xx tg it c caps → CX nm fn kd e x → P (.Assign [.Name (nm i) p] e q)) → P st
  | st, .own i xs => ∀ P : Stmt → Prop, (∀ es p q r, stK kd (nm i) → CXs nm fn kd es xs → P (.Assign [.Name (nm i) p] (.List es r) q)) → P st
  | st, .set2 i j x => ∀ P : Stmt → Prop, (∀ a b k p q r z z', stK kd (nm i) → stK kd (nm j) → i ≠ j → CX nm fn kd (.Subscript a b z') x → P (.Assign [.Tuple [.Name (nm i) p, .Name (nm j) q] k r] (.Subscript a b z') z)) → P st
  | st, .app i x => ∀ P : Stmt → Prop, (∀ e p q r z, (q.endLine == r.line) = true → CX nm fn kd e x → P (.Expr (.Call (.Attribute (.Name (nm i) p) "append" q) [e] [] r) z)) → P st
  | st, .last i x => ∀ P : Stmt → Prop, (∀ es j k p q r y z z', CX nm fn kd (.Tuple es j y) x → P (.Assign [.Subscript (.Name (nm i) p) (.UnaryOp .USub (.Constant (.int 1) k q) r) z] (.Tuple es j y) z')) → P st
  | st, .inc i x => ∀ P : Stmt → Prop, (∀ e p q, kd (nm i) = some .local → CX nm fn kd e x → P (.AugAssign (.Name (nm i) p) .Add e q)) → P st
  | _, .frz _ => False
  | st, .ret x => ∀ P : Stmt → Prop, (∀ e p, CX nm fn kd e x → P (.Return (some e) p)) → P st
  | st, .ite t x y => ∀ P : Stmt → Prop, (∀ c a b p, CB nm fn kd c t → CSs T nm fn kd a x → CSs T nm fn kd b y → P (.If c a b p)) → P st
  | st, .for_ tg it x => ∀ P : Stmt → Prop, (∀ target iter b p, TgS kd nm target tg → CIt nm fn kd iter it → CSs T nm fn kd b x → P (.For target iter b [] p)) → P st
  | st, .while_ t x => ∀ P : Stmt → Prop, (∀ c b p, CB nm fn kd c t → CSs T nm fn kd b x → P (.While c b [] p)) → P st
  | st, .raise => ∀ P : Stmt → Prop, (∀ p q r, kd "conflict" = some .globalImplicit → P (.Raise (some (.Call (.Name "conflict" p) [] [] q)) none r)) → P st
  | st, .run f xs => ∀ P : Stmt → Prop, (∀ a es p q r, CallOk nm fn kd f a es xs → P (.Expr (.Call (.Name (fn f) q) (a :: es) [] p) r)) → P st
  | st, .get i f xs => ∀ P : Stmt → Prop, (∀ a es p q r z, stK kd (nm i) → CallOk nm fn kd f a es xs → P (.Assign [.Name (nm i) z] (.Call (.Name (fn f) q) (a :: es) [] p) r)) → P st
  | st, .try_ i k f xs => ∀ P : Stmt → Prop, (∀ a es p1 p2 p3 p4 p5 p6 p7 p8 p9 p10 p11, T → kd (nm i) = some .local → kd (nm k) = some .local → i ≠ k → kd "BadRule" = some .globalImplicit → CallOk nm fn kd f a es xs → P (.Try [.Assign [.Name (nm i) p1] (.Call (.Name (fn f) p2) (a :: es) [] p3) p4]
        [.ExceptHandler (some (.Name "BadRule" p5)) (some (nm k)) [.Assign [.Name (nm i) p6] (.Attribute (.Name (nm k) p7) "why" p8) p9] p10] [] [] p11)) → P st
noncomputable def CSs (T : Prop) (nm fn : Nat → Str) (kd : Kd) : List Stmt → SS → Prop
  | sts, .nil => ∀ P : List Stmt → Prop, P [] → P sts
  | sts, .cons x y => ∀ P : List Stmt → S → Prop, (∀ st r, CS T nm fn kd st x → CSs T nm fn kd r y → P (st :: r) x) → (∀ r i, CSs T nm fn kd r y → P r (.frz i)) → P sts x
end
section
variable {T : Prop} {nm fn : Nat → Str} {kd : Kd} {a b e : Expr} {es : List Expr} {x : X} {xs : XS} {t : B} {u v : SS} {k n : Nat} {p q r y z z' : Pos} {st : Stmt} {c d : List Stmt}
theorem CS.set (i : Nat) (h : stK kd (nm i)) (h1 : NoSwap kd (nm i) e) (h2 : CX nm fn kd e x) : CS T nm fn kd (.Assign [.Name (nm i) p] e q) (.set i x) := fun _ k _ => k e p q h h1 h2
theorem CS.setC (i : Nat) {tg : List Nat} {it : It} {caps : List Nat} (h : Swap kd (nm i) p 0 e) (h2 : CX nm fn kd e (.comp x tg it t caps)) : CS T nm fn kd (.Assign [.Name (nm i) p] e q) (.set i (.comp x tg it t caps)) := fun _ _ k => k e p q x tg it t caps h rfl h2
theorem CS.own (i : Nat) (h : stK kd (nm i)) (h1 : CXs nm fn kd es xs) : CS T nm fn kd (.Assign [.Name (nm i) p] (.List es r) q) (.own i xs) := fun _ k => k es p q r h h1
theorem CS.set2 (i j : Nat) (h : stK kd (nm i)) (h1 : stK kd (nm j)) (h2 : i ≠ j) (h3 : CX nm fn kd (.Subscript a b z') x) : CS T nm fn kd (.Assign [.Tuple [.Name (nm i) p, .Name (nm j) q] k r] (.Subscript a b z') z) (.set2 i j x) := fun _ g => g a b k p q r z z' h h1 h2 h3
theorem CS.app (i : Nat) (h : (q.endLine == r.line) = true) (h1 : CX nm fn kd e x) : CS T nm fn kd (.Expr (.Call (.Attribute (.Name (nm i) p) "append" q) [e] [] r) z) (.app i x) := fun _ k => k e p q r z h h1
theorem CS.last (i : Nat) (h : CX nm fn kd (.Tuple es n y) x) : CS T nm fn kd (.Assign [.Subscript (.Name (nm i) p) (.UnaryOp .USub (.Constant (.int 1) k q) r) z] (.Tuple es n y) z') (.last i x) := fun _ g => g es n k p q r y z z' h
theorem CS.inc (i : Nat) (h : kd (nm i) = some .local) (h1 : CX nm fn kd e x) : CS T nm fn kd (.AugAssign (.Name (nm i) p) .Add e q) (.inc i x) := fun _ k => k e p q h h1
theorem CS.ret (h : CX nm fn kd e x) : CS T nm fn kd (.Return (some e) p) (.ret x) := fun _ k => k e p h
theorem CS.ite (h : CB nm fn kd e t) (h1 : CSs T nm fn kd c u) (h2 : CSs T nm fn kd d v) : CS T nm fn kd (.If e c d p) (.ite t u v) := fun _ k => k e c d p h h1 h2
theorem CS.for_ {tg : List Nat} {it : It} (h : TgS kd nm a tg) (h1 : CIt nm fn kd b it) (h2 : CSs T nm fn kd c u) : CS T nm fn kd (.For a b c [] p) (.for_ tg it u) := fun _ k => k a b c p h h1 h2
theorem CS.while_ (h : CB nm fn kd e t) (h1 : CSs T nm fn kd c u) : CS T nm fn kd (.While e c [] p) (.while_ t u) := fun _ k => k e c p h h1
theorem CS.raise (h : kd "conflict" = some .globalImplicit) : CS T nm fn kd (.Raise (some (.Call (.Name "conflict" p) [] [] q)) none r) .raise := fun _ k => k p q r h
theorem CS.run (f : Nat) (h : kd (fn f) = some .globalImplicit) (h1 : CX nm fn kd a x) (h2 : CXs nm fn kd es xs) : CS T nm fn kd (.Expr (.Call (.Name (fn f) q) (a :: es) [] p) r) (.run f (.cons x xs)) := fun _ k => k a es p q r ⟨h, .cons h1 h2⟩
theorem CS.get (i f : Nat) (h0 : stK kd (nm i)) (h : kd (fn f) = some .globalImplicit) (h1 : CX nm fn kd a x) (h2 : CXs nm fn kd es xs) : CS T nm fn kd (.Assign [.Name (nm i) z] (.Call (.Name (fn f) q) (a :: es) [] p) r) (.get i f (.cons x xs)) := fun _ k => k a es p q r z h0 ⟨h, .cons h1 h2⟩
theorem CS.try_ (i k f : Nat) {p1 p2 p3 p4 p5 p6 p7 p8 p9 p10 p11 : Pos} (t : T) (h : kd (nm i) = some .local) (h1 : kd (nm k) = some .local) (h2 : i ≠ k) (h3 : kd (fn f) = some .globalImplicit) (h4 : kd "BadRule" = some .globalImplicit) (h5 : CX nm fn kd a x) (h6 : CXs nm fn kd es xs) :
    CS T nm fn kd (.Try [.Assign [.Name (nm i) p1] (.Call (.Name (fn f) p2) (a :: es) [] p3) p4]
        [.ExceptHandler (some (.Name "BadRule" p5)) (some (nm k)) [.Assign [.Name (nm i) p6] (.Attribute (.Name (nm k) p7) "why" p8) p9] p10] [] [] p11) (.try_ i k f (.cons x xs)) := fun _ g => g a es p1 p2 p3 p4 p5 p6 p7 p8 p9 p10 p11 t h h1 h2 h4 ⟨h3, .cons h5 h6⟩
theorem CSs.nil : CSs T nm fn kd [] .nil := fun _ k => k
theorem CSs.cons {s : S} (h : CS T nm fn kd st s) (h1 : CSs T nm fn kd c u) : CSs T nm fn kd (st :: c) (.cons s u) := fun _ k _ => k st c h h1
theorem CSs.frz (i : Nat) (h : CSs T nm fn kd c u) : CSs T nm fn kd c (.cons (.frz i) u) := fun _ _ k => k c i h
end
end Mine
-- B14
namespace Mine
open PySem PySem.W PyProof.Rows PySem.Calls
variable {nm fn : Nat → Str} {env : Env} {Oc : Addr → Prop} {h₀ h h' : Heap} {ρ : Vars} {vl : Nat → Value} {m : Str → Option Value}
theorem own_key {i : Nat} {ds es : List D} (hi : ρ i = some (.own ds)) {j : Nat} {fs : List D} (hj : upd ρ i (.own es) j = some (.own fs)) : ∃ gs, ρ j = some (.own gs) :=
  updK (P := fun j x => x = .own fs → ∃ gs, ρ j = some (.own gs)) hj (fun _ => ⟨ds, hi⟩) (fun _ hj e => ⟨fs, e ▸ hj⟩) rfl
theorem ow_same {i : Nat} {ds es : List D} (hi : ρ i = some (.own ds)) : Ow Oc (upd ρ i (.own es)) vl = Ow Oc ρ vl := by
  funext a
  refine propext ⟨fun q => q.imp id fun q => q.elim fun j q => q.elim fun fs q => (own_key hi q.1).elim fun gs e => ⟨j, gs, e, q.2⟩, fun q => q.imp id fun q => q.elim fun j q => q.elim fun fs q => ⟨j, ?_⟩⟩
  by_cases z : j = i
  · subst z; exact ⟨es, upd_self, q.2⟩
  · exact ⟨fs, (upd_ne z).trans q.1, q.2⟩
theorem upd_isSome {i j : Nat} {sl x : Slot} (hi : ρ i = some x) (hj : (upd ρ i sl j).isSome) : (ρ j).isSome := by
  by_cases z : j = i
  · subst z; rw [hi]; rfl
  · rwa [upd_ne z] at hj
/-- the parts of a state that stay when the heap turns at one address -/
theorem St.parts {C : Addr} {m' : Str → Option Value} {o : Obj} (S : St nm env Oc h₀ h ρ vl m) (e : h.get? C = some o) (d : ∀ v, o.data ≠ .cell v) (x : Heap.ExtBut C h h') (hm : ∀ i, (ρ i).isSome → m' (nm i) = m (nm i)) :
    (∀ y c, env.cells.lookup y = some c → h₀.get? c = none ∧ ∃ v, h'.IsCell c v) ∧ ∀ j, (ρ j).isSome → VarAt env h' m' (nm j) (vl j) := by
  have ic : ∀ {c v}, h.IsCell c v → h'.IsCell c v := fun q => q.elim fun oc q => ⟨oc, x _ oc (ne_data e q.1 fun z => d _ (z.symm.trans q.2)) q.1, q.2⟩
  exact ⟨fun y c e => (S.cells y c e).imp id fun q => q.elim fun v q => ⟨v, ic q⟩, fun j hj => (S.vars j hj).imp (fun q => ⟨q.1, (hm j hj).trans q.2⟩) fun q => ⟨q.1, q.2.elim fun c q => ⟨c, q.1, ic q.2⟩⟩⟩
/-- a list of the frame's own turns -/
theorem St.turn {i : Nat} {ds es : List D} {a : Addr} {vs ws : List Value} {n k : Nat} (S : St nm env Oc h₀ h ρ vl m) (hi : ρ i = some (.own ds)) (hv : vl i = .ref a) (hl : IsL h a vs.toArray n)
    (x : Heap.ExtBut a h h') (hl' : IsL h' a ws.toArray k) (r : RpAll (Ow Oc ρ vl) h ws es) :
    St nm env Oc h₀ h' (upd ρ i (.own es)) vl m ∧ Go (Ow Oc ρ vl) h (Ow Oc (upd ρ i (.own es)) vl) h' := by
  have hO : Ow Oc ρ vl a := .inr ⟨i, ds, hi, hv⟩
  have g : Go (Ow Oc ρ vl) h (Ow Oc ρ vl) h' := Go.store hl (.inr (.inr ⟨hO, rfl⟩)) x hl'
  have ha0 : h₀.get? a = none := by
    obtain ⟨b, _, _, e, _, _, q⟩ := S.own i ds hi
    exact (Value.ref.inj (hv.symm.trans e)) ▸ q
  obtain ⟨p1, p2⟩ := S.parts (m' := m) hl (fun _ z => nomatch z) x fun _ _ => rfl
  rw [ow_same hi]
  refine ⟨⟨S.ns.extBut x (ns_ne_LL S.ns hl).symm, S.lnew, p1, S.apart, fun j hj => p2 j (upd_isSome hi hj), fun j d hj => ?_, fun j fs hj => ?_, fun j j2 fs gs hj hk e => ?_, but_kp ha0 S.stays x, S.oc⟩, g⟩
  · rw [ow_same hi]
    exact updK (P := fun j x => x = .fro d → Rp (Ow Oc ρ vl) h' (vl j) d) hj (fun z => nomatch z) (fun _ hj e => (S.fro j d (e ▸ hj)).go g) rfl
  · rw [ow_same hi]
    refine updK (P := fun j x => x = .own fs → ∃ a vs n, vl j = .ref a ∧ IsL h' a vs.toArray n ∧ RpAll (Ow Oc ρ vl) h' vs fs ∧ h₀.get? a = none) hj (fun e => ?_) (fun z hj e => ?_) rfl
    · cases e; exact ⟨a, ws, k, hv, hl', r.go g, ha0⟩
    · obtain ⟨b, us, k2, e2, l, r2, q⟩ := S.own j fs (e ▸ hj)
      exact ⟨b, us, k2, e2, x _ _ (fun w => z (S.inj j i _ _ (e ▸ hj) hi (by rw [e2, hv, w]))) l, r2.go g, q⟩
  · exact (own_key hi hj).elim fun _ q1 => (own_key hi hk).elim fun _ q2 => S.inj j j2 _ _ q1 q2 e
/-- a list of the frame's own is a datum from here on -/
theorem St.freeze {i : Nat} {ds : List D} (S : St nm env Oc h₀ h ρ vl m) (hi : ρ i = some (.own ds)) :
    St nm env Oc h₀ h (upd ρ i (.fro (.list ds))) vl m ∧ Go (Ow Oc ρ vl) h (Ow Oc (upd ρ i (.fro (.list ds))) vl) h := by
  have key : ∀ {j : Nat} {fs : List D}, upd ρ i (.fro (.list ds)) j = some (.own fs) → j ≠ i ∧ ρ j = some (.own fs) := fun {j fs} hj =>
    updK (P := fun j x => x = .own fs → j ≠ i ∧ ρ j = some (.own fs)) hj (fun z => nomatch z) (fun z hj e => ⟨z, e ▸ hj⟩) rfl
  have sub : ∀ a, Ow Oc (upd ρ i (.fro (.list ds))) vl a → Ow Oc ρ vl a := fun a q => q.imp id fun q => q.elim fun j q => q.elim fun fs q => ⟨j, fs, (key q.1).2, q.2⟩
  refine ⟨⟨S.ns, S.lnew, S.cells, S.apart, fun j hj => S.vars j (upd_isSome hi hj), fun j d hj => ?_, fun j fs hj => ?_, fun j j2 fs gs hj hk e => S.inj j j2 _ _ (key hj).2 (key hk).2 e, S.stays, S.oc⟩, ⟨fun a o e _ => e, fun a o e => ⟨o, e⟩, fun a q => .inl (sub a q)⟩⟩
  · refine updK (P := fun j x => x = .fro d → Rp (Ow Oc (upd ρ i (.fro (.list ds))) vl) h (vl j) d) hj (fun e => ?_) (fun z hj e => (S.fro j d (e ▸ hj)).mono sub) rfl
    cases e
    obtain ⟨a, vs, n, e, l, r, q⟩ := S.own i ds hi
    rw [e]
    refine .lst l (fun q' => ?_) (r.mono sub)
    rcases q' with q' | ⟨j2, fs, e2, v2⟩
    · have := S.oc a q'; rw [q] at this; exact nomatch this
    · exact (key e2).1 (S.inj j2 i _ _ (key e2).2 hi (v2.trans e.symm))
  · obtain ⟨a, vs, n, e2, l, r, q⟩ := S.own j fs (key hj).2
    exact ⟨a, vs, n, e2, l, r.mono sub, q⟩
/-- what is let go at an address that is new -/
theorem St.letGo {C : Addr} {m' : Str → Option Value} (S : St nm env Oc h₀ h ρ vl m) (hn : h.Ns C m') (hC : C ≠ env.locals) (hC0 : h₀.get? C = none) (x : Heap.ExtBut C h h') : St nm env Oc h₀ h' ρ vl m := by
  obtain ⟨oC, es, ep, eC, dC, _⟩ := id hn
  obtain ⟨p1, p2⟩ := S.parts (m' := m) eC (fun _ z => nomatch dC.symm.trans z) x fun _ _ => rfl
  refine ⟨S.ns.extBut x (fun z => hC z.symm), S.lnew, p1, S.apart, p2, fun j d hj => (S.fro j d hj).ns hn x, fun j fs hj => ?_, S.inj, but_kp hC0 S.stays x, S.oc⟩
  obtain ⟨a, vs, n, e, l, r, q⟩ := S.own j fs hj
  exact ⟨a, vs, n, e, x _ _ (ns_ne_LL hn l) l, r.ns hn x, q⟩
theorem Go.butNew {O O' : Addr → Prop} {hp : Heap} {C : Addr} (g : Go O hp O' h) (hC : hp.get? C = Option.none) (x : Heap.ExtBut C h h') : Go O hp O' h' := by
  have ne : ∀ {a : Addr} {o : Obj}, hp.get? a = some o → a ≠ C := fun e z => by subst z; exact nomatch hC.symm.trans e
  exact ⟨fun a o e n => x a o (ne e) (g.sv a o e n), fun a o e => let ⟨o', e'⟩ := g.dom a o e; ⟨o', x a o' (ne e) e'⟩, g.own⟩
theorem St.ff {fs : List Env} {kd : Str → Option NameKind} (ek : EnvOk kd env) (loc : env.frame = some env.locals) (S : St nm env Oc h₀ h ρ vl m) (ff : FF fs h₀) : FF (env :: fs) h := by
  intro e he
  rcases List.mem_cons.mp he with rfl | he
  · obtain ⟨o, es, ep, eo, d, _⟩ := S.ns
    exact ⟨by rw [ek.kind]; decide, e.locals, o, es, ep, loc, eo, d⟩
  · exact (ff.dk (DK.kp S.stays)) e he
end Mine
-- B15
namespace Mine
open PySem PySem.W PyProof.Rows PySem.Calls
variable {nm fn : Nat → Str} {env : Env} {Oc : Addr → Prop} {h₀ h h' : Heap} {ρ : Vars} {vl : Nat → Value} {m : Str → Option Value}
/-- what a statement leaves -/
noncomputable def Post (nm : Nat → Str) (env : Env) (Oc : Addr → Prop) (h₀ : Heap) (fs : List Env) (Cb : Addr) (why : Str) (s : Shared) (ρ : Vars) (vl : Nat → Value) (Q : Flow → Shared → Prop) (E : Value → Shared → Prop) : Out → Prop
  | .next ρ' => ∀ h' tk vl' m', St nm env Oc h₀ h' ρ' vl' m' → Go (Ow Oc ρ vl) s.heap (Ow Oc ρ' vl') h' → Q .next { s with heap := h', toks := tk }
  | .ret d => ∀ v h' tk, Kp h₀ h' → Rp Oc h' v d → Q (.ret v) { s with heap := h', toks := tk }
  | .exc => ∀ e h' tk, FF fs h' → Exc Cb why (fsA fs) false h₀ h' e → Up (fsA fs) h₀ h' → E (.ref e) { s with heap := h', toks := tk }
section
variable {prog : Program} {w : World} {A : Around} {kd : Str → Option NameKind} {s : Shared} {E : Value → Shared → Prop} {i : Nat} {v : Value} {d : D}
theorem ow_fro (x : Addr) (q : Ow Oc (upd ρ i (.fro d)) (updV vl i v) x) : Ow Oc ρ vl x :=
  q.imp id fun q => q.elim fun j q => q.elim fun fs q => updK (P := fun j x' => x' = .own fs → updV vl i v j = .ref x → ∃ i ds, ρ i = some (.own ds) ∧ vl i = .ref x) q.1 (fun z => nomatch z) (fun z hj e u => ⟨j, fs, e ▸ hj, (updV_ne z).symm.trans u⟩) rfl q.2
theorem St.putFro {Q : Unit → Shared → Prop} (ek : EnvOk kd env) (hn : NmInj nm) (S : St nm env Oc h₀ s.heap ρ vl m) (hk : stK kd (nm i)) {s1 : Shared} (k1 : Ks s s1) (r : Rp (Ow Oc ρ vl) s1.heap v d)
    (h : ∀ h' tk m', St nm env Oc h₀ h' (upd ρ i (.fro d)) (updV vl i v) m' → Go (Ow Oc ρ vl) s.heap (Ow Oc (upd ρ i (.fro d)) (updV vl i v)) h' → (∀ a m, a ≠ env.locals → s1.heap.Ns a m → h'.Ns a m) → Q () { s with heap := h', toks := tk }) :
    wpAny (model prog w) A (storeName env (nm i) v) Q E s1 := by
  obtain ⟨h1, t1, rfl, k⟩ := k1
  exact St.put (s := { s with heap := h1, toks := t1 }) ek hn (S.keeps k) hk k (fun x q => .inl (ow_fro x q)) S (r.mono fun x q => ow_fro x q) fun h' tk m' S' G' _ N' => h h' tk m' S' G' N'
theorem assignS {target : Expr} {tg : List Nat} {ρ' : Vars} {Q : Unit → Shared → Prop} (hA : A.handled = none) (ek : EnvOk kd env) (hn : NmInj nm) (T : TgS kd nm target tg) (S : St nm env Oc h₀ s.heap ρ vl m)
    {s1 : Shared} (k1 : Ks s s1) (r : Rp (Ow Oc ρ vl) s1.heap v d) (hb : bindT tg d ρ = some ρ')
    (h : ∀ h' tk vl' m', St nm env Oc h₀ h' ρ' vl' m' → Go (Ow Oc ρ vl) s.heap (Ow Oc ρ' vl') h' → Q () { s with heap := h', toks := tk }) :
    wpAny (model prog w) A (assign target env v) Q E s1 := by
  induction T with
  | one i hi =>
    cases Option.some.inj hb
    exact wpAny_assign_Name (S.putFro ek hn hi k1 r fun h' tk m' S' G' _ => h h' tk _ m' S' G')
  | two i j hi hj hij =>
    obtain ⟨⟨d1, d2⟩, hp, rfl⟩ := map_some' hb
    have r : Rp (Ow Oc ρ vl) s1.heap v (.tuple [d1, d2]) := pairK (P := fun d => Rp (Ow Oc ρ vl) s1.heap v d → Rp (Ow Oc ρ vl) s1.heap v (.tuple [d1, d2])) hp id r
    refine r.tupE fun a vs n ht rs => ?_
    revert ht
    refine rs.consE fun v1 vs r1 rs => rs.consE fun v2 vs r2 rs => rs.nilE fun ht => ?_
    refine wpAny_assign_Tuple hA ⟨_, ht, rfl, _, rfl⟩ rfl rfl fun h1 x => ?_
    obtain ⟨hh, tt, rfl, kk⟩ := k1
    have kp : Kp hh h1 := fun b o e => x b o (Nat.ne_of_lt (Heap.lt_size e)) e
    have kk' : Kp s.heap h1 := fun b o e => kp b o (kk b o e)
    refine assignInOrder_cons (wpAny_assign_Name (St.putFro (s := { s with heap := h1, toks := tt }) ek hn (S.keeps kk') hi (Ks.refl _) (r1.keeps kp) fun h2 tk2 m2 S2 G2 _ => ?_))
    exact assignInOrder_cons (wpAny_assign_Name (St.putFro (s := { s with heap := h2, toks := tk2 }) ek hn S2 hj (Ks.refl _) ((r2.keeps kp).go G2) fun h3 tk3 m3 S3 G3 _ => assignInOrder_nil (h h3 tk3 _ m3 S3 ((Go.kp kk').trans (G2.trans G3)))))
end
end Mine
-- B16
namespace Mine
open PySem PySem.W PyProof.Rows PySem.Calls
section
variable {prog : Program} {w : World} {A : Around} {env : Env} {O : Addr → Prop} {s : Shared} {ds out : List D}
theorem comp_use {elt target iter : Expr} {ifs : List Expr} {scope : Scope} {cl : List (Str × Addr)} {pos p : Pos} {g : D → Option (Option D)} {u : Value → Sem Unit} {E Q : Value → Shared → Prop} (hA : A.handled = none) (hit : EvIt prog w A env iter (fun _ => True) O s ds) (hO : OIn O s.heap)
    (hs : ∀ x, foldedSetIterable iter env x = pure x) (hclos : closureFor scope env = pure cl) (hcell : ∀ y ∈ scope.names, y.2 ≠ .cell) (hkind : scope.kind = .function)
    (hnames : ∀ x ∈ scope.names, x.2 = .local → scope.names.lookup x.1 = some .local) (hg : compL g ds = some out) (hsz : ds.length ≤ 1000)
    (hbody : ∀ s₁, Ks s s₁ → ∀ D, s₁.heap.get? D = none → CompBody prog w A (fun C => compEnvC scope cl C env) target elt ifs (fun a => O a ∨ a = D) s₁.heap g)
    (h : ∀ D C h' tk m', Kp s.heap h' → s.heap.get? C = none → h'.Ns C m' → Rp O h' (.ref D) (.list out) →
      wpAny (model prog w) A (u (.ref D)) (fun _ s'' => ∃ m, s''.heap.Ns C m ∧ ∀ h'', Heap.SameBut C s''.heap h'' → Q .none { s'' with heap := h'' }) E { s with heap := h', toks := tk }) :
    wpAny (model prog w) A (comprehension (.ListComp elt [⟨target, iter, ifs, 0⟩] scope pos) scope env p (newList []) false (PySem.eval iter env) (some u)) Q E s := by
  refine wpAny_comprehension_free (use := some u) rfl hs hclos hkind hnames ?_
  show wpAny (model prog w) A (PySem.eval iter env) _ E s
  refine hit E _ fun v s₁ k₁ r₁ => iter_start r₁ fun I h₂ kp₂ hI it => ?_
  refine comp_block (RR := fun acc C => compPost (model prog w) A E (some u) Q acc C) (s₂ := { s₁ with heap := h₂ }) (hb := s₁.heap) hA it kp₂ hI (hO.keeps k₁.kp) hcell hkind hg hsz (hbody s₁ k₁) ?_
  intro D C h' tk m' ys n kb hC hD hn hl hr
  obtain ⟨hh, tt, rfl, kk⟩ := k₁
  refine h D C h' tk m' (fun b o e => kb b o (kk b o e)) (kp_none kk hC) hn (.lst (by rw [Array.toArray_toList]; exact hl) (fun q => ?_) (hr.mono fun a q => .inl q))
  have := (hO.keeps kk) D q
  rw [hD] at this; exact nomatch this
end
variable {nm fn : Nat → Str} {env : Env} {Oc : Addr → Prop} {h₀ h h' : Heap} {ρ : Vars} {vl : Nat → Value} {m : Str → Option Value}
section
variable {prog : Program} {w : World} {A : Around} {H : Heap} {gl : Str → Option Value} {Φ : Nat → List D → Option (Except Unit D)} {W : Heap → Prop} {kd : Str → Option NameKind} {s : Shared} {E : Value → Shared → Prop} {Q : Flow → Shared → Prop} {i : Nat} {v : Value} {d : D} {fs : List Env} {Cb : Addr} {why : Str}
theorem noSwap {e : Expr} {p : Pos} {l : Nat} (ek : EnvOk kd env) (h : NoSwap kd (nm i) e) : swapsWith e (some (.Name (nm i) p)) l env = pure false := by
  rcases h with ⟨h', _, _, _, _, rfl⟩ | h
  · unfold swapsWith
    have : (env.kindOf (nm i) == some .local) = false := by rw [ek.kinds, h']; rfl
    show (pure _ : Sem Bool) = pure false
    rw [this]
    simp
  · exact h p l env
theorem set_sound {e : Expr} {p q : Pos} {x : X} (C : Cx prog w A H gl fn Φ W) (hn : NmInj nm) (ek : EnvOk kd env) (hW : W s.heap) (S : St nm env Oc h₀ s.heap ρ vl m) (hk : stK kd (nm i)) (hs : NoSwap kd (nm i) e) (cx : CX nm fn kd e x)
    {o : Out} (ho : exec why Φ (.set i x) ρ = some o) (P : Post nm env Oc h₀ fs Cb why s ρ vl Q E o) : wpAny (model prog w) A (PySem.exec (.Assign [.Name (nm i) p] e q) env) Q E s := by
  revert P
  exact mapK ho fun d h1 P => wpAny_Assign_Name (CX.sound C hn.ok cx ek hW S.oin S.vw h1 E _ fun v s1 k1 r1 => S.putFro ek hn hk k1 r1 fun h' tk m' S' G' _ => P h' tk _ m' S' G') (noSwap ek hs)
theorem Swap.inv {x : Str} {p : Pos} {l : Nat} {elt : Expr} {g : Comprehension} {scope : Scope} {q : Pos} (h : Swap kd x p l (.ListComp elt [g] scope q)) :
    kd x = some .local ∧ (p.line == q.line) = true ∧ scope.names.any (fun (n, k) => n == x && (k == .local || k == .cell)) = false := by
  cases h with | mk a b c => exact ⟨a, b, c⟩
theorem swap_true {elt : Expr} {g : Comprehension} {scope : Scope} {pp p q : Pos} (ek : EnvOk kd env) (hs : Swap kd (nm i) p 0 (.ListComp elt [g] scope pp)) : swapsWith (.ListComp elt [g] scope pp) (some (.Name (nm i) p)) q.line env = pure true := by
  obtain ⟨s1, s2, s3⟩ := hs.inv
  unfold swapsWith
  have e1 : (env.kindOf (nm i) == some .local) = true := by rw [ek.kinds, s1]; rfl
  have e2 : (env.blockKind == .function) = true := by unfold Env.blockKind; rw [ek.kind]; rfl
  show (pure _ : Sem Bool) = pure true
  rw [e1, e2]
  have e3 : (p.line == (PySem.Expr.ListComp elt [g] scope pp).pos.line) = true := s2
  rw [e3, s3]; rfl
theorem compC_sound {elt target iter : Expr} {ifs : List Expr} {scope : Scope} {pp p q : Pos} {xx : X} {tg : List Nat} {it : It} {c : B} {caps : List Nat} (C : Cx prog w A H gl fn Φ W) (hn : NmInj nm) (ek : EnvOk kd env) (hW : W s.heap) (S : St nm env Oc h₀ s.heap ρ vl m) (hs : Swap kd (nm i) p 0 (.ListComp elt [⟨target, iter, ifs, 0⟩] scope pp))
    (ci : CIt nm fn kd iter it) (T : Tg (kdC kd scope) nm target tg) (hif : CIf nm fn (kdC kd scope) ifs c) (ce : CX nm fn (kdC kd scope) elt xx) (sc : ScopeOk kd scope) (hcaps : ∀ i ∈ caps, (nm i, NameKind.free) ∈ scope.names ∧ kdC kd scope (nm i) = some .cell ∧ i ∉ tg)
    {d : D} (h : eval Φ (.comp xx tg it c caps) ρ = some d) (P : Post nm env Oc h₀ fs Cb why s ρ vl Q E (.next (upd ρ i (.fro d)))) : wpAny (model prog w) A (PySem.exec (.Assign [.Name (nm i) p] (.ListComp elt [⟨target, iter, ifs, 0⟩] scope pp) q) env) Q E s := by
  revert P
  refine bindK h fun ds h1 h => bindK h fun out h2 h => smallK h fun hl P => closK ek sc fun cl hclos hcl => ?_
  rw [exec_Assign_Name_used _ _ _ _ (swap_true ek hs)]
  refine wpAny_bind (wpAny_standAt (wpAny_bind ?_))
  show wpAny _ A (do let _ ← comprehension (.ListComp elt [⟨target, iter, ifs, 0⟩] scope pp) scope env _ (newList []) false (PySem.eval iter env) (some (assign (.Name (nm i) p) env))) _ _ s
  have S0 : Sit nm kd W env (Ow Oc ρ vl) ρ vl s := ⟨ek, hW, S.oin, S.vw⟩
  refine wpAny_bind (wpAny_mono (comp_use (u := assign (.Name (nm i) p) env) (Q := fun _ s' => Q .next s') C.hA (CIt.sound C hn.ok ci ek hW S.oin S.vw h1) S.oin (CIt.foldS ci env) hclos sc.cell sc.kind sc.names h2 hl (fun s₁ k₁ Dn hD =>
    comp_body C (S0.keeps C k₁) hD T (hif.imp id fun z => z.elim fun e z => ⟨e, z.1, fun b {_ _ _ _ _} S' hb' => CB.sound C hn.ok z.2 S'.ek S'.hW S'.hO S'.V hb'⟩) (fun S' hd => CX.sound C hn.ok ce S'.ek S'.hW S'.hO S'.V hd) sc hcaps hcl) ?_) (fun _ s' hq => wpAny_pure (wpAny_pure hq)) fun _ _ e => e)
  intro Dn Ca h' tk m' kp hC hn' r
  refine wpAny_assign_Name (St.putFro (s := { s with heap := h', toks := tk }) ek hn (S.keeps kp) (.inl hs.inv.1) (Ks.refl _) r fun h2 tk2 m2 S2 G2 N2 => ?_)
  have hCL : Ca ≠ env.locals := fun z => by
    subst z
    obtain ⟨o, _, _, e, _⟩ := S.ns
    exact nomatch hC.symm.trans e
  exact ⟨m', N2 _ _ hCL hn', fun h3 sb => P h3 tk2 _ m2 (S2.letGo (N2 _ _ hCL hn') hCL (kp_none S.stays hC) sb.extBut) (((Go.kp kp).trans G2).butNew hC sb.extBut)⟩
theorem setC_sound {e : Expr} {p q : Pos} {xx : X} {tg : List Nat} {it : It} {c : B} {caps : List Nat} (C : Cx prog w A H gl fn Φ W) (hn : NmInj nm) (ek : EnvOk kd env) (hW : W s.heap) (S : St nm env Oc h₀ s.heap ρ vl m) (hs : Swap kd (nm i) p 0 e) (cx : CX nm fn kd e (.comp xx tg it c caps))
    {o : Out} (ho : exec why Φ (.set i (.comp xx tg it c caps)) ρ = some o) (P : Post nm env Oc h₀ fs Cb why s ρ vl Q E o) : wpAny (model prog w) A (PySem.exec (.Assign [.Name (nm i) p] e q) env) Q E s := by
  revert P
  exact mapK ho fun d h P => cx (fun e => Swap kd (nm i) p 0 e → wpAny (model prog w) A (PySem.exec (.Assign [.Name (nm i) p] e q) env) Q E s) (fun elt target iter ifs scope pp ci T hif ce sc hcaps hs => compC_sound C hn ek hW S hs ci T hif ce sc hcaps h P) hs
end
end Mine
-- B17
namespace Mine
open PySem PySem.W PyProof.Rows PySem.Calls
section
variable {prog : Program} {w : World} {A : Around} {E : Value → Shared → Prop} {s : Shared}
theorem setItem_neg {l : Addr} {items : Array Value} {k : Int} {t : Tok} {v : Value} {Q : Unit → Shared → Prop} (hl : s.heap.IsList l items)
    (h0 : k < 0) (h1 : -(items.size : Int) ≤ k) (hfit : -(2 ^ 63) ≤ k)
    (hQ : ∀ h', (∀ o, s.heap.get? l = some o → h' = s.heap.update l (Obj.mapSeq (·.setIfInBounds (k + items.size).toNat v))) → Q () { s with heap := h' }) :
    wpAny (model prog w) A (setItem (.ref l) (.int k t) v) Q E s := by
  obtain ⟨o, ho, hc, ne, hd⟩ := id hl
  unfold setItem
  try with_reducible refine wpAny_holding ?_
  first | refine wpAny_bind (wpAny_pure ?_) | skip
  refine wpAny_bind (wpAny_sequenceKey hl.typeIs (by decide) ?_)
  refine wpAny_bind (wpAny_callSpecial?_slot (name := Str.ofString "__setitem__") hl.typeIs slot_list_setitem
    (wpAny_call_entry slot_list_setitem hl.typeIs entry_list_setitem ?_ (args_list_setitem _ _ _)))
  show wpAny _ _ (Builtin.List.listSubscript? (.int k t) >>= _) _ _ s
  refine wpAny_bind (wpAny_listSubscript_int (fitsIndex_neg h0 hfit) ?_)
  clear hfit
  have hidx := seqIndex_neg h0 h1
  have hj : (k + items.size).toNat < items.size := by omega
  obtain ⟨j, rfl⟩ : ∃ j : Nat, k = Int.negSucc j := by
    cases k with
    | ofNat n => exact absurd h0 (Int.not_lt.mpr (Int.natCast_nonneg n))
    | negSucc n => exact ⟨n, rfl⟩
  have hx : items[(Int.negSucc j + items.size).toNat]? = some items[(Int.negSucc j + items.size).toNat] := Array.getElem?_eq_getElem hj
  show wpAny _ _ ((Builtin.List.listItems (.ref l) >>= fun xs => pure ((seqIndex? (Int.negSucc j) xs.size).bind fun i => xs[i]?.map (i, ·))) >>= _) _ _ s
  refine wpAny_bind (wpAny_bind ?_)
  show wpAny _ _ (seqItems? (.ref l) >>= _) _ _ s
  refine wpAny_bind (wpAny_seqItems ho hd (wpAny_pure (wpAny_pure ?_)))
  rw [hidx]
  simp only [Option.bind_some, hx, Option.map_some]
  show wpAny _ _ (setSeqItemAt l (Int.negSucc j + items.size).toNat v >>= _) _ _ s
  refine wpAny_bind (wpAny_setSeqItemAt ho hd ?_)
  have fin := hQ _ fun o' ho' => rfl
  first
    | exact wpAny_bind (wpAny_pure (wpAny_pure ⟨.none, rfl, wpAny_pure fin⟩))
    | exact wpAny_pure ⟨.none, rfl, wpAny_pure fin⟩
end
variable {nm fn : Nat → Str} {env : Env} {Oc : Addr → Prop} {h₀ h h' : Heap} {ρ : Vars} {vl : Nat → Value} {m : Str → Option Value}
section
variable {prog : Program} {w : World} {A : Around} {H : Heap} {gl : Str → Option Value} {Φ : Nat → List D → Option (Except Unit D)} {W : Heap → Prop} {kd : Str → Option NameKind} {s : Shared} {E : Value → Shared → Prop} {Q : Flow → Shared → Prop} {i : Nat} {v : Value} {d : D} {fs : List Env} {Cb : Addr} {why : Str}
theorem ownK {sl : Option Slot} {f : List D → Option Out} {o : Out} {P : Prop} (h : (match sl with | some (.own ds) => f ds | _ => none) = some o) (k : ∀ ds, sl = some (.own ds) → f ds = some o → P) : P := by
  cases sl with
  | none => exact nomatch h
  | some sl => cases sl with
    | fro d => exact nomatch h
    | own ds => exact k ds rfl h
theorem froIntK {sl : Option Slot} {f : Int → Option Out} {o : Out} {P : Prop} (h : (match sl with | some (.fro (.int a)) => f a | _ => none) = some o) (k : ∀ a, sl = some (.fro (.int a)) → f a = some o → P) : P := by
  cases sl with
  | none => exact nomatch h
  | some sl => cases sl with
    | own ds => exact nomatch h
    | fro d => cases d with
      | int a => exact k a rfl h
      | _ => exact nomatch h
theorem own_sound {es : List Expr} {p q r : Pos} {xs : XS} (C : Cx prog w A H gl fn Φ W) (hn : NmInj nm) (ek : EnvOk kd env) (hW : W s.heap) (S : St nm env Oc h₀ s.heap ρ vl m) (hk : stK kd (nm i)) (cs : CXs nm fn kd es xs)
    {o : Out} (ho : exec why Φ (.own i xs) ρ = some o) (P : Post nm env Oc h₀ fs Cb why s ρ vl Q E o) : wpAny (model prog w) A (PySem.exec (.Assign [.Name (nm i) p] (.List es r) q) env) Q E s := by
  revert P
  refine bindK ho fun ds h1 ho => ifK ho fun hsz P => ?_
  clear ho
  refine wpAny_Assign_Name (wpAny_List (CXs.sound C hn.ok cs ek hW S.oin S.vw h1 _ E _ fun vs s1 k1 r1 => ⟨by rw [r1.length, sizeLine_eq]; omega, ?_⟩)) rfl
  obtain ⟨hh, tt, rfl, kk⟩ := k1
  have kp : Kp s.heap (hh.push { cls := .type "list", data := .seq vs.toArray }) := fun b o e => Heap.get?_push_of_some _ (kk b o e)
  have new : hh.get? hh.objs.size = Option.none := Heap.get?_none_of_le (Nat.le_refl _)
  have newS : s.heap.get? hh.objs.size = Option.none := kp_none kk new
  have sub : ∀ x, Ow Oc (upd ρ i (.own ds)) (updV vl i (.ref hh.objs.size)) x → Ow Oc ρ vl x ∨ x = hh.objs.size := by
    rintro x (q | ⟨j, fs, e, u⟩)
    · exact .inl (.inl q)
    · exact updK (P := fun j x' => x' = .own fs → updV vl i (.ref hh.objs.size) j = .ref x → Ow Oc ρ vl x ∨ x = hh.objs.size) e (fun _ u => .inr (Value.ref.inj (updV_self.symm.trans u)).symm) (fun z hj e u => .inl (.inr ⟨j, fs, e ▸ hj, (updV_ne z).symm.trans u⟩)) rfl u
  refine St.put (s := { s with heap := hh.push { cls := .type "list", data := .seq vs.toArray }, toks := tt }) (sl := .own ds) ek hn (S.keeps kp) hk kp (fun x q => (sub x q).imp id fun z => by rw [z]; exact newS) S
    ⟨_, vs, _, rfl, IsL.new _ _, ?_, kp_none S.stays newS, fun j es' hj hes e => ?_⟩ fun h' tk m' S' G' _ _ => P h' tk _ m' S' G'
  · refine r1.go ⟨fun a o e _ => Heap.get?_push_of_some _ e, fun a o e => ⟨o, Heap.get?_push_of_some _ e⟩, fun a q => (sub a q).imp id fun z => by rw [z]; exact new⟩
  · obtain ⟨a, us, n, e', l, _⟩ := S.own j es' hes
    cases e.symm.trans e'
    exact nomatch newS.symm.trans l
theorem app_sound {e : Expr} {p q r z : Pos} {x : X} (C : Cx prog w A H gl fn Φ W) (hn : NmInj nm) (ek : EnvOk kd env) (hW : W s.heap) (S : St nm env Oc h₀ s.heap ρ vl m) (hl : (q.endLine == r.line) = true) (cx : CX nm fn kd e x)
    {o : Out} (ho : exec why Φ (.app i x) ρ = some o) (P : Post nm env Oc h₀ fs Cb why s ρ vl Q E o) : wpAny (model prog w) A (PySem.exec (.Expr (.Call (.Attribute (.Name (nm i) p) "append" q) [e] [] r) z) env) Q E s := by
  revert P
  refine ownK ho fun ds hi ho => ifOK ho fun hsz ho => mapK ho fun d h1 P => ?_
  clear ho
  obtain ⟨a, vs, n, ev, l, ra, _⟩ := S.own i ds hi
  refine wpAny_Expr_any (wpAny_Call_append rfl (by rw [cx.star]; rfl) hl (by rw [cx.star]; rfl) (load_var ek.kind (S.vw.vars i (by rw [hi]; rfl)) (hn.ok i).1 (hn.ok i).2 ⟨a, vs.toArray, ev, ⟨_, n, l, rfl, rfl, rfl⟩, ?_⟩)) (by unfold interactive; rw [ek.kind]; rfl) rfl
  refine CX.sound C hn.ok cx ek hW S.oin S.vw h1 E _ fun v s1 k1 r1 => ?_
  obtain ⟨hh, tt, rfl, kk⟩ := k1
  have hlen := ra.length
  refine append_at (s := { s with heap := hh, toks := tt }) (kk _ _ l) (by rw [List.size_toArray]; omega) fun h' n' hl' x => ?_
  rw [List.push_toArray] at hl'
  obtain ⟨S', G'⟩ := St.turn (S.keeps kk) hi ev (kk _ _ l) x hl' ((ra.keeps kk).append (.one r1))
  exact P h' tt vl m S' ((Go.kp kk).trans G')
theorem last_sound {es : List Expr} {j k : Nat} {p q r y z z' : Pos} {x : X} (C : Cx prog w A H gl fn Φ W) (hn : NmInj nm) (ek : EnvOk kd env) (hW : W s.heap) (S : St nm env Oc h₀ s.heap ρ vl m) (cx : CX nm fn kd (.Tuple es j y) x)
    {o : Out} (ho : exec why Φ (.last i x) ρ = some o) (P : Post nm env Oc h₀ fs Cb why s ρ vl Q E o) : wpAny (model prog w) A (PySem.exec (.Assign [.Subscript (.Name (nm i) p) (.UnaryOp .USub (.Constant (.int 1) k q) r) z] (.Tuple es j y) z') env) Q E s := by
  revert P
  refine ownK ho fun ds hi ho => ifOK ho fun hsz ho => mapK ho fun d h1 P => ?_
  obtain ⟨h0, hsz⟩ := hsz
  clear ho
  obtain ⟨a, vs, n, ev, l, ra, _⟩ := S.own i ds hi
  refine wpAny_Assign_Subscript (CX.sound C hn.ok cx ek hW S.oin S.vw h1 E _ fun v s1 k1 r1 => ?_) rfl
  obtain ⟨hh, tt, rfl, kk⟩ := k1
  have S1 := S.keeps kk
  have hlen := ra.length
  refine load_var (s := { s with heap := hh, toks := tt }) ek.kind (S1.vw.vars i (by rw [hi]; rfl)) (hn.ok i).1 (hn.ok i).2 ?_
  rw [ev]
  refine Ev.negI (Ev.cInt (O := fun _ => False) 1 k) E _ fun u s2 k2 r2 => ?_
  obtain ⟨t, rfl⟩ := r2.intE
  obtain ⟨h2, t2, rfl, kk2⟩ := k2
  have l2 : IsL h2 a vs.toArray n := kk2 _ _ (kk _ _ l)
  refine setItem_neg (s := { s with heap := h2, toks := t2 }) (IsL.isList l2) (by decide) (by simp only [List.size_toArray]; omega) (by decide) fun h' eh => ?_
  have eh' := eh _ l2
  subst eh'
  have hl' := IsL.update l2 (·.setIfInBounds ((-1 : Int) + (vs.toArray.size : Nat)).toNat v)
  have e1 : ((-1 : Int) + (vs.toArray.size : Nat)).toNat = ds.length - 1 := by simp only [List.size_toArray]; omega
  have e2 : vs.toArray.setIfInBounds (ds.length - 1) v = (vs.set (ds.length - 1) v).toArray := by simp
  rw [e1, e2] at hl'
  rw [e1]
  obtain ⟨S', G'⟩ := St.turn (S1.keeps kk2) hi ev l2 (Heap.SameBut.update ..).extBut hl' (((ra.keeps kk).keeps kk2).set (r1.keeps kk2) (ds.length - 1))
  exact P _ t2 vl m S' ((Go.kp fun b o e => kk2 b o (kk b o e)).trans G')
theorem inc_sound {e : Expr} {p q : Pos} {x : X} (C : Cx prog w A H gl fn Φ W) (hn : NmInj nm) (ek : EnvOk kd env) (hW : W s.heap) (S : St nm env Oc h₀ s.heap ρ vl m) (hk : kd (nm i) = some .local) (cx : CX nm fn kd e x)
    {o : Out} (ho : exec why Φ (.inc i x) ρ = some o) (P : Post nm env Oc h₀ fs Cb why s ρ vl Q E o) : wpAny (model prog w) A (PySem.exec (.AugAssign (.Name (nm i) p) .Add e q) env) Q E s := by
  revert P
  refine froIntK ho fun a hi ho => mapK ho fun b h1 P => bindK h1 fun d h1 h2 => ?_
  cases intD_some h2
  clear ho h2
  have hv := S.vars i (by rw [hi]; rfl)
  have hf := S.fro i _ hi
  obtain ⟨t, et⟩ := hf.intE
  refine hv.elim (fun q => ?_) (fun q => nomatch ((ek.kinds _).trans hk).symm.trans q.1)
  refine wpAny_AugAssign_Name (wpAny_loadName_local ek.kind q.1 S.ns q.2 (CX.sound C hn.ok cx ek hW S.oin S.vw h1 E _ fun v s1 k1 r1 => ?_))
  obtain ⟨u, rfl⟩ := r1.intE
  rw [et]
  refine iadd_int ?_
  exact S.putFro ek hn (.inl hk) (k1.trans (Ks.tok _ _)) (.int _ _) fun h' tk m' S' G' _ => P h' tk _ m' S' G'
theorem set2_sound {a b : Expr} {j k : Nat} {p q r z z' : Pos} {x : X} (C : Cx prog w A H gl fn Φ W) (hn : NmInj nm) (ek : EnvOk kd env) (hW : W s.heap) (S : St nm env Oc h₀ s.heap ρ vl m) (hi : stK kd (nm i)) (hj : stK kd (nm j)) (hij : i ≠ j) (cx : CX nm fn kd (.Subscript a b z') x)
    {o : Out} (ho : exec why Φ (.set2 i j x) ρ = some o) (P : Post nm env Oc h₀ fs Cb why s ρ vl Q E o) : wpAny (model prog w) A (PySem.exec (.Assign [.Tuple [.Name (nm i) p, .Name (nm j) q] k r] (.Subscript a b z') z) env) Q E s := by
  revert P
  refine bindK ho fun d h1 ho => mapK ho fun ρ' h2 P => Assign_Tuple (CX.sound C hn.ok cx ek hW S.oin S.vw h1 E _ fun v s1 k1 r1 => ?_) rfl rfl
  exact assignS C.hA ek hn (.two i j hi hj hij) S k1 r1 h2 fun h' tk vl' m' S' G' => P h' tk vl' m' S' G'
theorem ret_sound {e : Expr} {p : Pos} {x : X} (C : Cx prog w A H gl fn Φ W) (hn : NmInj nm) (ek : EnvOk kd env) (hW : W s.heap) (S : St nm env Oc h₀ s.heap ρ vl m) (cx : CX nm fn kd e x)
    {o : Out} (ho : exec why Φ (.ret x) ρ = some o) (P : Post nm env Oc h₀ fs Cb why s ρ vl Q E o) : wpAny (model prog w) A (PySem.exec (.Return (some e) p) env) Q E s := by
  revert P
  refine mapK ho fun d h1 P => wpAny_Return_some (CX.sound C hn.ok cx ek hW S.oin S.vw h1 E _ fun v s1 k1 r1 => ?_)
  obtain ⟨hh, tt, rfl, kk⟩ := k1
  exact P v hh tt (fun b o e => kk b o (S.stays b o e)) (r1.mono fun a q => .inl q)
end
end Mine
-- B18
namespace Mine
open PySem PySem.W PyProof.Rows PySem.Calls
/-- an exception, just made -/
noncomputable def NewE (Cb : Addr) (why : Str) (h0 h : Heap) (e : Addr) : Prop :=
  h0.get? e = none ∧ ∃ dx sl vs, h.get? e = some ⟨.ref Cb, some dx, .fields vs, sl⟩ ∧ h0.get? dx = none ∧ (∃ m t, h.Ns dx m ∧ m ("why" : Str) = some (.str why t)) ∧ vs[1]? = some .none
theorem NewE.exc {Cb : Addr} {why : Str} {h0 h : Heap} {e : Addr} {fs : List Env} (x : NewE Cb why h0 h e) (ff : FF fs h0) : Exc Cb why (fsA fs) false h0 h e := by
  obtain ⟨hn, dx, sl, vs, h1, h2, h3, h4⟩ := x
  exact .mk dx sl vs hn h1 h2 (fun q => (ff.mem q).elim fun o z => z.elim fun _ z => z.elim fun _ z => nomatch h2.symm.trans z.1) h3 (.no rfl h4)
structure Rx (prog : Program) (w : World) (A : Around) (H : Heap) (gl : Str → Option Value) (fn : Nat → Str) (Φ : Nat → List D → Option (Except Unit D)) (W : Heap → Prop) (Cb : Addr) (why : Str) (fs : List Env) : Prop where
  fr : A.frames = some fs
  raises : ∀ f ds, Φ f ds = some (.error ()) → ∃ q o fd, gl (fn f) = some (.ref q) ∧ H.get? q = some o ∧ o.data = .func fd ∧ (fn f == ("__debug__" : Str)) = false ∧
    ∀ O s vs, W s.heap → OIn O s.heap → RpAll O s.heap vs ds → FF fs s.heap → ∀ (E : Value → Shared → Prop) (Q : Value → Shared → Prop),
      (∀ e h' tk, FF fs h' → Exc Cb why (fsA fs) false s.heap h' e → Up (fsA fs) s.heap h' → E (.ref e) { s with heap := h', toks := tk }) → wpAny (model prog w) A (call (.ref q) vs) Q E s
  bad : gl "BadRule" = some (.ref Cb)
  mtch : ∀ (B : Around) (s : Shared) (e : Addr) (oe : Obj), W s.heap → s.heap.get? e = some oe → oe.cls = .ref Cb → ∀ (E : Value → Shared → Prop) (Q : Bool → Shared → Prop), Q true s → wpAny (model prog w) B (excMatches (.ref e) (.ref Cb)) Q E s
  attr : ∀ (B : Around) (s : Shared) (e dx : Addr) (vs : Array Value) (sl : Array (Option Value)) (m : Str → Option Value) (t : Tok), W s.heap → s.heap.get? e = some ⟨.ref Cb, some dx, .fields vs, sl⟩ → s.heap.Ns dx m → m ("why" : Str) = some (.str why t) →
    ∀ (E : Value → Shared → Prop) (Q : Value → Shared → Prop), (∀ tk, Q (.str why t) { s with toks := tk }) → wpAny (model prog w) B (getAttr (.ref e) "why" true) Q E s
  boom : ∀ (kd : Str → Option NameKind) (env : Env) (s : Shared) (p q r : Pos), EnvOk kd env → kd "conflict" = some .globalImplicit → W s.heap → ∀ (E : Value → Shared → Prop) (Q : Flow → Shared → Prop),
    (∀ e h' tk, Kp s.heap h' → NewE Cb why s.heap h' e → E (.ref e) { s with heap := h', toks := tk }) → wpAny (model prog w) A (PySem.exec (.Raise (some (.Call (.Name "conflict" p) [] [] q)) none r) env) Q E s
variable {nm fn : Nat → Str} {env : Env} {Oc : Addr → Prop} {h₀ h h' : Heap} {ρ : Vars} {vl : Nat → Value} {m : Str → Option Value}
/-- an iterator turns -/
theorem St.iter {I : Addr} {o : Obj} {ws : Array Value} (S : St nm env Oc h₀ h ρ vl m) (eI : h.get? I = some o) (dI : o.data = .fields ws) (hI : h₀.get? I = none) (x : Heap.ExtBut I h h') : St nm env Oc h₀ h' ρ vl m := by
  obtain ⟨p1, p2⟩ := S.parts (m' := m) eI (fun _ z => nomatch dI.symm.trans z) x fun _ _ => rfl
  refine ⟨S.ns.extBut x (fun z => ns_ne_fields S.ns eI dI z.symm), S.lnew, p1, S.apart, p2, fun j d hj => (S.fro j d hj).but eI dI x, fun j fs hj => ?_, S.inj, but_kp hI S.stays x, S.oc⟩
  obtain ⟨a, vs, n, e, l, r, q⟩ := S.own j fs hj
  exact ⟨a, vs, n, e, x _ _ (ne_fieldsL eI dI l) l, r.but eI dI x, q⟩
section
variable {prog : Program} {w : World} {A : Around} {H : Heap} {gl : Str → Option Value} {Φ : Nat → List D → Option (Except Unit D)} {W : Heap → Prop} {kd : Str → Option NameKind} {s : Shared} {E : Value → Shared → Prop} {Q : Flow → Shared → Prop} {i : Nat} {v : Value} {d : D} {fs : List Env} {Cb : Addr} {why : Str}
theorem raise_sound {p q r : Pos} (R : Rx prog w A H gl fn Φ W Cb why (env :: fs)) (ek : EnvOk kd env) (loc : env.frame = some env.locals) (ff : FF fs h₀) (hW : W s.heap) (S : St nm env Oc h₀ s.heap ρ vl m) (hk : kd "conflict" = some .globalImplicit)
    (P : Post nm env Oc h₀ (env :: fs) Cb why s ρ vl Q E .exc) : wpAny (model prog w) A (PySem.exec (.Raise (some (.Call (.Name "conflict" p) [] [] q)) none r) env) Q E s :=
  R.boom kd env s p q r ek hk hW E Q fun e h' tk k x => P e h' tk ((S.ff ek loc ff).dk (DK.kp k)) ((x.exc (S.ff ek loc ff)).older fun a => kp_none S.stays) (Up.kpL S.stays (Up.kp k))
/-- a call whose result, or whose raise, the statement takes -/
theorem call_any {a : Expr} {es : List Expr} {p q : Pos} {xs : XS} {f : Nat} {ds : List D} {r : Except Unit D} {QQ : Value → Shared → Prop} (C : Cx prog w A H gl fn Φ W) (R : Rx prog w A H gl fn Φ W Cb why (env :: fs)) (hn : NmInj nm) (ek : EnvOk kd env) (loc : env.frame = some env.locals) (ff : FF fs h₀) (hW : W s.heap) (S : St nm env Oc h₀ s.heap ρ vl m)
    (K : CallOk nm fn kd f a es xs) (h1 : evals Φ xs ρ = some ds) (h2 : Φ f ds = some r)
    (hok : ∀ d v s', r = .ok d → Ks s s' → Rp (Ow Oc ρ vl) s'.heap v d → QQ v s')
    (hex : r = .error () → ∀ e h' tk, FF (env :: fs) h' → Exc Cb why (fsA (env :: fs)) false s.heap h' e → Up (fsA (env :: fs)) s.heap h' → E (.ref e) { s with heap := h', toks := tk }) :
    wpAny (model prog w) A (PySem.eval (.Call (.Name (fn f) q) (a :: es) [] p) env) QQ E s := by
  have hs : Evs prog w A env (a :: es) (Ow Oc ρ vl) s ds := CXs.sound C hn.ok K.cs ek hW S.oin S.vw h1
  cases r with
  | ok d =>
    obtain ⟨qa, o, fd, g1, g2, g3, g4, g5⟩ := C.calls f _ d h2
    exact callD (EvG.of C.top (C.sub _ hW) ek K.g g1 g4) ⟨a, es, rfl, K.cs.first env⟩ rfl g3 (hs _ E _ fun vs s1 k1 r1 => ⟨k1.kp _ _ (C.sub _ hW _ _ g2), g5 _ s1 vs (C.mono _ _ hW k1.kp) (S.oin.keeps k1.kp) r1 E QQ fun v s2 k2 r2 => hok d v s2 rfl (k1.trans k2) r2⟩)
  | error u =>
    obtain ⟨qa, o, fd, g1, g2, g3, g4, g5⟩ := R.raises f _ h2
    refine callD (EvG.of C.top (C.sub _ hW) ek K.g g1 g4) ⟨a, es, rfl, K.cs.first env⟩ rfl g3 (hs _ E _ fun vs s1 k1 r1 => ⟨k1.kp _ _ (C.sub _ hW _ _ g2), ?_⟩)
    obtain ⟨hh, tt, rfl, kk⟩ := k1
    exact g5 _ { s with heap := hh, toks := tt } vs (C.mono _ _ hW kk) (S.oin.keeps kk) r1 ((S.ff ek loc ff).dk (DK.kp kk)) E QQ fun e h' tk y1 y2 y3 => hex rfl e h' tk y1 (y2.older fun a => kp_none kk) (Up.kpL kk y3)
theorem run_sound {a : Expr} {es : List Expr} {p q r : Pos} {xs : XS} {f : Nat} (C : Cx prog w A H gl fn Φ W) (R : Rx prog w A H gl fn Φ W Cb why (env :: fs)) (hn : NmInj nm) (ek : EnvOk kd env) (loc : env.frame = some env.locals) (ff : FF fs h₀) (hW : W s.heap) (S : St nm env Oc h₀ s.heap ρ vl m)
    (K : CallOk nm fn kd f a es xs) {o : Out} (ho : exec why Φ (.run f xs) ρ = some o) (P : Post nm env Oc h₀ (env :: fs) Cb why s ρ vl Q E o) :
    wpAny (model prog w) A (PySem.exec (.Expr (.Call (.Name (fn f) q) (a :: es) [] p) r) env) Q E s := by
  refine bindK ho fun ds h1 ho => ?_
  refine wpAny_Expr_any ?_ (by unfold interactive; rw [ek.kind]; rfl) rfl
  revert ho
  cases h2 : Φ f ds with
  | none => exact nofun
  | some rr => cases rr with
    | ok d =>
      intro ho
      cases (show some (Out.next ρ) = some o from ho)
      refine call_any C R hn ek loc ff hW S K h1 h2 (fun d v s' e k1 r1 => ?_) nofun
      obtain ⟨hh, tt, rfl, kk⟩ := k1
      exact P hh tt vl m (S.keeps kk) (Go.kp kk)
    | error u =>
      intro ho
      cases (show some Out.exc = some o from ho)
      exact call_any C R hn ek loc ff hW S K h1 h2 (fun _ _ _ z => nomatch z) fun _ ex h' tk y1 y2 y3 => P ex h' tk y1 (y2.older fun a => kp_none S.stays) (Up.kpL S.stays y3)
theorem get_sound {a : Expr} {es : List Expr} {p q r z : Pos} {xs : XS} {f : Nat} (C : Cx prog w A H gl fn Φ W) (R : Rx prog w A H gl fn Φ W Cb why (env :: fs)) (hn : NmInj nm) (ek : EnvOk kd env) (loc : env.frame = some env.locals) (ff : FF fs h₀) (hW : W s.heap) (S : St nm env Oc h₀ s.heap ρ vl m)
    (hi : stK kd (nm i)) (K : CallOk nm fn kd f a es xs) {o : Out} (ho : exec why Φ (.get i f xs) ρ = some o) (P : Post nm env Oc h₀ (env :: fs) Cb why s ρ vl Q E o) :
    wpAny (model prog w) A (PySem.exec (.Assign [.Name (nm i) z] (.Call (.Name (fn f) q) (a :: es) [] p) r) env) Q E s := by
  refine bindK ho fun ds h1 ho => ?_
  refine wpAny_Assign_Name ?_ rfl
  revert ho
  cases h2 : Φ f ds with
  | none => exact nofun
  | some rr => cases rr with
    | ok d =>
      intro ho
      cases (show some (Out.next (upd ρ i (.fro d))) = some o from ho)
      refine call_any C R hn ek loc ff hW S K h1 h2 (fun d v s' e k1 r1 => ?_) nofun
      cases e
      exact S.putFro ek hn hi k1 r1 fun h' tk m' S' G' _ => P h' tk _ m' S' G'
    | error u =>
      intro ho
      cases (show some Out.exc = some o from ho)
      exact call_any C R hn ek loc ff hW S K h1 h2 (fun _ _ _ z => nomatch z) fun _ ex h' tk y1 y2 y3 => P ex h' tk y1 (y2.older fun a => kp_none S.stays) (Up.kpL S.stays y3)
/-- the statements do what the plain function says -/
noncomputable def Snd (prog : Program) (w : World) (A : Around) (nm : Nat → Str) (env : Env) (Oc : Addr → Prop) (h₀ : Heap) (fs : List Env) (Cb : Addr) (why : Str) (stmts : List Stmt) (f : Vars → Option Out) : Prop :=
  ∀ (s : Shared) (ρ : Vars) (vl : Nat → Value) (m : Str → Option Value) (o : Out), St nm env Oc h₀ s.heap ρ vl m → f ρ = some o → ∀ (Q : Flow → Shared → Prop) (E : Value → Shared → Prop), Post nm env Oc h₀ fs Cb why s ρ vl Q E o → wpAny (model prog w) A (PySem.execs stmts env) Q E s
theorem itF_sound {iter : Expr} {it : It} {ds : List D} (C : Cx prog w A H gl fn Φ W) (hn : NmInj nm) (ek : EnvOk kd env) (hW : W s.heap) (S : St nm env Oc h₀ s.heap ρ vl m) (ci : CIt nm fn kd iter it) (h : evItF Φ it ρ = some ds) :
    EvIt prog w A env iter (fun a => ¬ Ow Oc ρ vl a) (Ow Oc ρ vl) s ds := by
  cases it with
  | seq x =>
    refine mapK h fun b h1 => bindK h1 fun d h2 h3 => ?_
    cases d with
    | list l => cases h3; exact (CX.sound C hn.ok ci ek hW S.oin S.vw h2).itL
    | tuple l => cases h3; exact (CX.sound C hn.ok ci ek hW S.oin S.vw h2).itT
    | _ => exact nomatch h3
  | range x => exact ci (fun e => EvIt prog w A env e (fun a => ¬ Ow Oc ρ vl a) (Ow Oc ρ vl) s ds) fun a p q hk cx => bindIK h fun n h1 h => ifK h fun hr => EvIt.range (EvG.of C.top (C.sub _ hW) ek hk C.rng (by decide)) (CX.sound C hn.ok cx ek hW S.oin S.vw h1) (cx.star [] env) rfl hr
/-- what a loop keeps -/
inductive FInv (nm : Nat → Str) (env : Env) (Oc : Addr → Prop) (h₀ : Heap) (s : Shared) (ρ : Vars) (vl : Nat → Value) (I : Addr) (f : D → Vars → Option Out) (o : Out) : Nat → Shared → Prop
  | mk (rest : List D) (h : Heap) (tk : Nat) (ρc : Vars) (vc : Nat → Value) (mc : Str → Option Value) : St nm env Oc h₀ h ρc vc mc → Go (Ow Oc ρ vl) s.heap (Ow Oc ρc vc) h → IterAt (fun a => ¬ Ow Oc ρc vc a) (Ow Oc ρc vc) h I rest → forL f rest ρc = some o → FInv nm env Oc h₀ s ρ vl I f o rest.length { s with heap := h, toks := tk }
inductive WInv (nm : Nat → Str) (env : Env) (Oc : Addr → Prop) (h₀ : Heap) (s : Shared) (ρ : Vars) (vl : Nat → Value) (c : Vars → Option Bool) (f : Vars → Option Out) (o : Out) : Nat → Shared → Prop
  | mk {n : Nat} (h : Heap) (tk : Nat) (ρc : Vars) (vc : Nat → Value) (mc : Str → Option Value) : St nm env Oc h₀ h ρc vc mc → Go (Ow Oc ρ vl) s.heap (Ow Oc ρc vc) h → whileN c f n ρc = some o → WInv nm env Oc h₀ s ρ vl c f o n { s with heap := h, toks := tk }
/-- a turn's outcome -/
theorem outK {x : Option Out} {g : Vars → Option Out} {o : Out} {P : Prop} (h : (match x with | some (.next ρ) => g ρ | r => r) = some o) (k1 : ∀ ρ, x = some (.next ρ) → g ρ = some o → P) (k2 : ∀ d, x = some (.ret d) → o = .ret d → P) (k3 : x = some .exc → o = .exc → P) : P := by
  cases x with
  | none => exact nomatch h
  | some r => cases r with
    | next ρ => exact k1 ρ rfl h
    | ret d => exact k2 d rfl (Option.some.inj h).symm
    | exc => exact k3 rfl (Option.some.inj h).symm
theorem for_sound {target iter : Expr} {b : List Stmt} {p : Pos} {tg : List Nat} {it : It} {g : Vars → Option Out} (C : Cx prog w A H gl fn Φ W) (R : Rx prog w A H gl fn Φ W Cb why (env :: fs)) (hn : NmInj nm) (ek : EnvOk kd env) (loc : env.frame = some env.locals) (hW : ∀ {h : Heap} {ρ : Vars} {vl : Nat → Value} {m : Str → Option Value}, St nm env Oc h₀ h ρ vl m → W h) (S : St nm env Oc h₀ s.heap ρ vl m)
    (T : TgS kd nm target tg) (ci : CIt nm fn kd iter it) (IH : Snd prog w A nm env Oc h₀ (env :: fs) Cb why b g) {o : Out} (ho : ((evItF Φ it ρ).bind fun ds => forL (fun d ρ => (bindT tg d ρ).bind g) ds ρ) = some o)
    (P : Post nm env Oc h₀ (env :: fs) Cb why s ρ vl Q E o) : wpAny (model prog w) A (PySem.exec (.For target iter b [] p) env) Q E s := by
  refine bindK ho fun ds h1 h2 => wpAny_For (itF_sound C hn ek (hW S) S ci h1 E _ fun v s1 k1 r1 => iter_start r1 fun I h3 k3 hI it3 => ?_) (CIt.foldS ci env)
  clear ho
  obtain ⟨hh, tt, rfl, kk⟩ := k1
  have k13 : Kp s.heap h3 := fun b o e => k3 b o (kk b o e)
  have hIs : s.heap.get? I = Option.none := kp_none kk hI
  have hI0 : h₀.get? I = Option.none := kp_none S.stays hIs
  refine codeAny_forLoop_any (FInv nm env Oc h₀ s ρ vl I (fun d ρ => (bindT tg d ρ).bind g) o) ?_ ds.length (.mk ds h3 tt ρ vl m (S.keeps k13) (Go.kp k13) it3 h2)
  clear r1 kk k3 hI it3 h2 k13 h1
  intro n s' hinv
  induction hinv with
  | mk rest hc tk ρc vc mc Sc Gc itc hf =>
  obtain ⟨oI, vI, eI, dI, cI⟩ := itc.there
  cases rest with
  | nil =>
    cases Option.some.inj hf
    exact iter_end C.hA itc fun h' x => wpAny_execs_nil (P h' tk vc mc (Sc.iter eI dI hI0 x) (Gc.butNew hIs x))
  | cons d rest =>
    refine iter_next itc fun v h' tk' x rv it' => letOwned it' ?_
    have S1 := Sc.iter eI dI hI0 x
    have G1 := Gc.butNew hIs x
    clear Sc Gc itc eI dI x
    have hf : (match (bindT tg d ρc).bind g with | some (.next ρ') => forL (fun d ρ => (bindT tg d ρ).bind g) rest ρ' | r => r) = some o := hf
    cases hb : bindT tg d ρc with
    | none => rw [hb] at hf; exact nomatch hf
    | some ρ1 =>
      rw [hb] at hf
      refine assignS (s := { s with heap := h', toks := tk' }) C.hA ek hn T S1 (Ks.refl _) rv hb fun h2 tk2 v2 m2 S2 G2 => ?_
      refine outK hf (fun ρ2 hg hf => ?_) (fun dr hg e => ?_) fun hg e => ?_
      · exact IH { s with heap := h2, toks := tk2 } ρ1 v2 m2 _ S2 hg _ _ fun h4 tk4 v4 m4 S4 G4 => ⟨rest.length, Nat.lt_succ_self _, .mk rest h4 tk4 ρ2 v4 m4 S4 ((G1.trans G2).trans G4) ((it'.go G2).go G4) hf⟩
      · exact IH { s with heap := h2, toks := tk2 } ρ1 v2 m2 _ S2 hg _ _ fun v4 h4 tk4 k4 r4 => (e ▸ P : Post nm env Oc h₀ (env :: fs) Cb why s ρ vl Q E (.ret dr)) v4 h4 tk4 k4 r4
      · exact IH { s with heap := h2, toks := tk2 } ρ1 v2 m2 _ S2 hg _ _ fun ex h4 tk4 y1 y2 y3 => pass_loop (s := { s with heap := h4, toks := tk4 }) R.fr loc y1 y2 y3 fun h5 z1 z2 z3 => (e ▸ P : Post nm env Oc h₀ (env :: fs) Cb why s ρ vl Q E .exc) ex h5 tk4 z1 z2.weak z3
theorem while_sound {c : Expr} {b : List Stmt} {p : Pos} {t : B} {g : Vars → Option Out} (C : Cx prog w A H gl fn Φ W) (R : Rx prog w A H gl fn Φ W Cb why (env :: fs)) (hn : NmInj nm) (ek : EnvOk kd env) (loc : env.frame = some env.locals) (hW : ∀ {h : Heap} {ρ : Vars} {vl : Nat → Value} {m : Str → Option Value}, St nm env Oc h₀ h ρ vl m → W h) (S : St nm env Oc h₀ s.heap ρ vl m)
    (cb : CB nm fn kd c t) (IH : Snd prog w A nm env Oc h₀ (env :: fs) Cb why b g) {o : Out} (ho : whileN (fun ρ => evB Φ t ρ) g 100 ρ = some o)
    (P : Post nm env Oc h₀ (env :: fs) Cb why s ρ vl Q E o) : wpAny (model prog w) A (PySem.exec (.While c b [] p) env) Q E s := by
  refine wpAny_While (codeAny_whileLoop (WInv nm env Oc h₀ s ρ vl (fun ρ => evB Φ t ρ) g o) ?_ 100 (.mk s.heap s.toks ρ vl m S (Go.refl _ _) ho))
  clear ho
  intro n s' hinv
  induction hinv with
  | mk hc tk ρc vc mc Sc Gc hf =>
  cases n with
  | zero => exact nomatch hf
  | succ n =>
    refine bindK (show (evB Φ t ρc).bind _ = some o from hf) fun tt h1 hf => CB.sound C hn.ok cb ek (hW Sc) Sc.oin Sc.vw h1 _ _ fun s1 k1 => ?_
    obtain ⟨h1', t1, rfl, kk⟩ := k1
    have S1 := Sc.keeps kk
    have G1 := Gc.trans (Go.kp kk)
    clear Sc Gc kk h1
    cases tt with
    | false =>
      cases Option.some.inj hf
      exact wpAny_execs_nil (P h1' t1 vc mc S1 G1)
    | true =>
      refine outK hf (fun ρ2 hg hf => ?_) (fun dr hg e => ?_) fun hg e => ?_
      · exact IH { s with heap := h1', toks := t1 } ρc vc mc _ S1 hg _ _ fun h4 tk4 v4 m4 S4 G4 => ⟨n, Nat.lt_succ_self n, .mk h4 tk4 ρ2 v4 m4 S4 (G1.trans G4) hf⟩
      · exact IH { s with heap := h1', toks := t1 } ρc vc mc _ S1 hg _ _ fun v4 h4 tk4 k4 r4 => (e ▸ P : Post nm env Oc h₀ (env :: fs) Cb why s ρ vl Q E (.ret dr)) v4 h4 tk4 k4 r4
      · exact IH { s with heap := h1', toks := t1 } ρc vc mc _ S1 hg _ _ fun ex h4 tk4 y1 y2 y3 => pass_loop (s := { s with heap := h4, toks := tk4 }) R.fr loc y1 y2 y3 fun h5 z1 z2 z3 => (e ▸ P : Post nm env Oc h₀ (env :: fs) Cb why s ρ vl Q E .exc) ex h5 tk4 z1 z2.weak z3
end
end Mine
-- B19
namespace Mine
open PySem PySem.W PyProof.Rows PySem.Calls
variable {nm fn : Nat → Str} {env : Env} {Oc : Addr → Prop} {h₀ h h' : Heap} {ρ : Vars} {vl : Nat → Value} {m m' : Str → Option Value}
theorem St.up (S : St nm env Oc h₀ h ρ vl m) (u : Up [env.locals] h h') : St nm env Oc h₀ h' ρ vl m ∧ Go (Ow Oc ρ vl) h (Ow Oc ρ vl) h' := by
  obtain ⟨oL, es, ep, eL, dL, rL⟩ := id S.ns
  have x : Heap.ExtBut env.locals h h' := fun b o n e => u.1 b o e fun z => n (List.mem_singleton.mp z)
  have g : Go (Ow Oc ρ vl) h (Ow Oc ρ vl) h' := ⟨fun a o e n => x a o (fun z => by subst z; cases eL.symm.trans e; exact n (.inl ⟨es, ep, dL⟩)) e, fun a o e => by
    by_cases z : a = env.locals
    · exact (u.2 a o e (List.mem_singleton.mpr z)).elim fun sl e' => ⟨_, e'⟩
    · exact ⟨o, x a o z e⟩, fun a q => .inl q⟩
  obtain ⟨p1, p2⟩ := S.parts (m' := m) eL (fun _ z => nomatch dL.symm.trans z) x fun _ _ => rfl
  refine ⟨⟨ns_slots S.ns fun o e => u.2 _ o e (List.mem_singleton.mpr rfl), S.lnew, p1, S.apart, p2, fun j d hj => (S.fro j d hj).go g, fun j fs hj => ?_, S.inj, but_kp S.lnew S.stays x, S.oc⟩, g⟩
  obtain ⟨a, vs, n, e, l, r, q⟩ := S.own j fs hj
  exact ⟨a, vs, n, e, x _ _ (ns_ne_LL S.ns l) l, r.go g, q⟩
theorem St.locals (S : St nm env Oc h₀ h ρ vl m) (hn : h'.Ns env.locals m') (x : Heap.ExtBut env.locals h h') (hm : ∀ i, (ρ i).isSome → m' (nm i) = m (nm i)) : St nm env Oc h₀ h' ρ vl m' ∧ Go (Ow Oc ρ vl) h (Ow Oc ρ vl) h' := by
  obtain ⟨oL, es, ep, eL, dL, rL⟩ := id S.ns
  have g : Go (Ow Oc ρ vl) h (Ow Oc ρ vl) h' := hn.elim fun _ hn => hn.elim fun _ hn => hn.elim fun _ hn => Go.store eL (.inl ⟨es, ep, dL⟩) x hn.1
  obtain ⟨p1, p2⟩ := S.parts (m' := m') eL (fun _ z => nomatch dL.symm.trans z) x hm
  refine ⟨⟨hn, S.lnew, p1, S.apart, p2, fun j d hj => (S.fro j d hj).go g, fun j fs hj => ?_, S.inj, but_kp S.lnew S.stays x, S.oc⟩, g⟩
  obtain ⟨a, vs, n, e, l, r, q⟩ := S.own j fs hj
  exact ⟨a, vs, n, e, x _ _ (ns_ne_LL S.ns l) l, r.go g, q⟩
section
variable {prog : Program} {w : World} {A : Around} {H : Heap} {gl : Str → Option Value} {Φ : Nat → List D → Option (Except Unit D)} {W : Heap → Prop} {kd : Str → Option NameKind} {s : Shared} {E : Value → Shared → Prop} {Q : Flow → Shared → Prop} {v : Value} {d : D} {Cb : Addr} {why : Str}
theorem kindF (ek : EnvOk kd env) : (env.scope.kind == .class || (env.scope.kind == .module && env.locals != env.globals)) = false := by rw [ek.kind]; rfl
/-- the handler's suite -/
theorem suite_sound {B : Around} {i k : Nat} {e : Addr} {b : Bool} {p6 p7 p8 p9 : Pos} {tk : Tok} {h4 : Heap} {RR : Flow → Shared → Prop} {E1 E2 : Value → Shared → Prop} (R : Rx prog w A H gl fn Φ W Cb why [env]) (hn : NmInj nm) (ek : EnvOk kd env) (hW : ∀ {h : Heap} {ρ : Vars} {vl : Nat → Value} {m : Str → Option Value}, St nm env Oc h₀ h ρ vl m → W h)
    (hi : kd (nm i) = some .local) (hk : kd (nm k) = some .local) (hρ : ∀ j, (ρ j).isSome → nm j ≠ nm k) (S4 : St nm env Oc h₀ h4 ρ vl m) {hx : Heap} (v2 : Exc Cb why [env.locals] b hx h4 e)
    (P : ∀ h' tk m', St nm env Oc h₀ h' (upd ρ i (.fro (.str why))) (updV vl i (.str why tk)) m' → Go (Ow Oc ρ vl) h4 (Ow Oc (upd ρ i (.fro (.str why))) (updV vl i (.str why tk))) h' → ∀ tk', RR .next { s with heap := h', toks := tk' }) :
    wpAny (model prog w) B (storeName env (nm k) (.ref e)) (fun _ s₁ => wpAny (model prog w) B (PySem.execs [.Assign [.Name (nm i) p6] (.Attribute (.Name (nm k) p7) "why" p8) p9] env) RR E2 s₁) E1 { s with heap := h4, toks := tk } := by
  induction v2 with
  | mk dx sl vs hen he hdx hdf hm htb =>
  obtain ⟨mm, t, hmm, hwhy⟩ := hm
  refine wpAny_storeName_local (s := { s with heap := h4, toks := tk }) ((ek.kinds _).trans hk) S4.ns (fun h5 n5 sb5 => ?_) (kindF ek)
  obtain ⟨S5, G5⟩ := S4.locals n5 sb5.extBut fun j hj => if_neg (hρ j hj)
  have he5 := sb5.extBut _ _ (ns_ne_fields S4.ns he rfl) he
  have hmm5 := hmm.extBut sb5.extBut fun z => hdf (List.mem_singleton.mpr z)
  refine wpAny_execs_cons (wpAny_Assign_Name (Attribute_name (wpAny_Name (wpAny_loadName_local (v := .ref e) ek.kind ((ek.kinds _).trans hk) n5 (if_pos rfl) ?_) (hn.ok k).1)) rfl)
  refine R.attr _ { s with heap := h5, toks := tk + 1 } e dx vs sl mm t (hW S5) he5 hmm5 hwhy _ _ fun tk6 => ?_
  exact St.putFro (s := { s with heap := h5, toks := tk6 }) (d := .str why) ek hn S5 (.inl hi) (Ks.refl _) (.str _ _) fun h7 tk7 m7 S7 G7 _ => wpAny_execs_nil (P h7 t m7 S7 (G5.trans G7) tk7)
/-- the handler's name goes -/
theorem goes_sound {k : Nat} {p : Pos} {QQ : Unit → Shared → Prop} {E1 : Value → Shared → Prop} (ek : EnvOk kd env) (hk : kd (nm k) = some .local) (hρ : ∀ j, (ρ j).isSome → nm j ≠ nm k) (S7 : St nm env Oc h₀ s.heap ρ vl m)
    (P : ∀ h' tk m', St nm env Oc h₀ h' ρ vl m' → Go (Ow Oc ρ vl) s.heap (Ow Oc ρ vl) h' → QQ () { s with heap := h', toks := tk }) :
    wpAny (model prog w) A (do bindName env (nm k) .none; unbindBehindTheSuite env (nm k) p) QQ E1 s :=
  wpAny_nameGoes_keeps ((ek.kinds _).trans hk) S7.ns (kindF ek) fun h8 v8 n8 sb8 => (S7.locals n8 sb8.extBut fun j hj => if_neg (hρ j hj)).elim fun S8 G8 => P h8 (s.toks + 1) _ S8 G8
theorem tryK {i k f : Nat} {xs : XS} {o : Out} {P : Prop} (ho : exec why Φ (.try_ i k f xs) ρ = some o) (kk : ρ k = none → ∀ ds, evals Φ xs ρ = some ds → ∀ r, Φ f ds = some r → o = (match r with | .ok d => .next (upd ρ i (.fro d)) | .error _ => .next (upd ρ i (.fro (.str why)))) → P) : P := by
  have ho : (match ρ k with
    | none => (evals Φ xs ρ).bind fun ds => match Φ f ds with
      | some (.ok d) => some (Out.next (upd ρ i (.fro d)))
      | some (.error _) => some (.next (upd ρ i (.fro (.str why))))
      | none => none
    | some _ => none) = some o := ho
  cases hρk : ρ k with
  | some sl => rw [hρk] at ho; exact nomatch ho
  | none =>
    rw [hρk] at ho
    refine bindK ho fun ds h1 ho => ?_
    cases h2 : Φ f ds with
    | none => rw [h2] at ho; exact nomatch ho
    | some r =>
      rw [h2] at ho
      refine kk hρk ds h1 r h2 ?_
      cases r with
      | ok d => exact (Option.some.inj ho).symm
      | error u => exact (Option.some.inj ho).symm
theorem try_sound {i k f : Nat} {a : Expr} {es : List Expr} {p1 p2 p3 p4 p5 p6 p7 p8 p9 p10 p11 : Pos} {xs : XS} (C : Cx prog w A H gl fn Φ W) (R : Rx prog w A H gl fn Φ W Cb why [env]) (hn : NmInj nm) (ek : EnvOk kd env) (loc : env.frame = some env.locals) (hW : ∀ {h : Heap} {ρ : Vars} {vl : Nat → Value} {m : Str → Option Value}, St nm env Oc h₀ h ρ vl m → W h) (S : St nm env Oc h₀ s.heap ρ vl m)
    (hi : kd (nm i) = some .local) (hk : kd (nm k) = some .local) (hik : i ≠ k) (hb : kd "BadRule" = some .globalImplicit) (K : CallOk nm fn kd f a es xs)
    {o : Out} (ho : exec why Φ (.try_ i k f xs) ρ = some o) (P : Post nm env Oc h₀ [env] Cb why s ρ vl Q E o) :
    wpAny (model prog w) A (PySem.exec (.Try [.Assign [.Name (nm i) p1] (.Call (.Name (fn f) p2) (a :: es) [] p3) p4]
        [.ExceptHandler (some (.Name "BadRule" p5)) (some (nm k)) [.Assign [.Name (nm i) p6] (.Attribute (.Name (nm k) p7) "why" p8) p9] p10] [] [] p11) env) Q E s := by
  refine tryK ho fun hρk ds h1 rr h2 hr => ?_
  clear ho
  have ne : ∀ j, (ρ j).isSome → nm j ≠ nm k := fun j hj q => by
    have := hn.inj _ _ q
    subst this; rw [hρk] at hj; exact nomatch hj
  refine wpAny_Try_except (wpAny_execs_cons (wpAny_Assign_Name ?_ rfl))
  have ff0 : FF [] h₀ := fun e he => nomatch he
  cases rr with
    | ok d =>
      cases hr
      refine call_any C R hn ek loc ff0 (hW S) S K h1 h2 (fun d v s' e k1 r1 => ?_) nofun
      cases e
      exact S.putFro ek hn (.inl hi) k1 r1 fun h' tk m' S' G' _ => wpAny_execs_nil (wpAny_execs_nil (P h' tk _ m' S' G'))
    | error u =>
      cases hr
      refine call_any C R hn ek loc ff0 (hW S) S K h1 h2 (fun _ _ _ z => nomatch z) fun _ e h' tk y1 y2 y3 => ?_
      have fsa : fsA [env] = [env.locals] := by simp only [fsA, loc, List.filterMap_cons, List.filterMap_nil]
      refine note (s := { s with heap := h', toks := tk }) R.fr loc y1 y2 y3 fun h2 z1 z2 z3 => flight (s := { s with heap := h2, toks := tk }) z1 z2 z3 fun h3 w1 w2 w3 => ?_
      rw [fsa] at w2 w3
      obtain ⟨S3, G3⟩ := S.up w3
      have hW3 := hW S3
      refine wpAny_handleBy_cons (codeAny_handlers_test (EvG.of (s := { s with heap := h3, toks := tk }) C.top (C.sub _ hW3) ek hb R.bad (by decide) _ _ ?_)) (fun q => nomatch q)
      obtain ⟨oe, eoe, ce⟩ : ∃ oe, h3.get? e = some oe ∧ oe.cls = .ref Cb := w2.casesOn fun dx sl vs _ he _ _ _ _ => ⟨_, he, rfl⟩
      refine R.mtch _ { s with heap := h3, toks := tk } e oe hW3 eoe ce _ _ (codeAny_handlers_suite_as (flight (s := { s with heap := h3, toks := tk }) w1 w2 w3 fun h4 v1 v2 v3 => ?_))
      obtain ⟨S4, G4⟩ := S.up v3
      refine suite_sound R hn ek hW hi hk ne S4 v2 fun h7 t7 m7 S7 G7 tk7 => ?_
      refine goes_sound (s := { s with heap := h7, toks := tk7 }) ek hk (fun j hj => ?_) S7 fun h8 tk8 m8 S8 G8 => P h8 tk8 _ m8 S8 ((G4.trans G7).trans G8)
      by_cases z : j = i
      · subst z; exact fun q => hik (hn.inj _ _ q)
      · exact ne j (by rwa [upd_ne z] at hj)
end
section
variable {prog : Program} {w : World} {A : Around} {H : Heap} {gl : Str → Option Value} {Φ : Nat → List D → Option (Except Unit D)} {W : Heap → Prop} {kd : Str → Option NameKind} {fs : List Env} {Cb : Addr} {why : Str} {T : Prop}
noncomputable def GS (prog : Program) (w : World) (A : Around) (nm fn : Nat → Str) (kd : Kd) (Φ : Nat → List D → Option (Except Unit D)) (env : Env) (Oc : Addr → Prop) (h₀ : Heap) (fs : List Env) (Cb : Addr) (why : Str) (T : Prop) (x : S) : Prop :=
  ∀ {st : Stmt}, CS T nm fn kd st x → ∀ {s : Shared} {ρ : Vars} {vl : Nat → Value} {m : Str → Option Value} {o : Out} {Q : Flow → Shared → Prop} {E : Value → Shared → Prop}, St nm env Oc h₀ s.heap ρ vl m → exec why Φ x ρ = some o → Post nm env Oc h₀ fs Cb why s ρ vl Q E o → wpAny (model prog w) A (PySem.exec st env) Q E s
noncomputable def GSs (prog : Program) (w : World) (A : Around) (nm fn : Nat → Str) (kd : Kd) (Φ : Nat → List D → Option (Except Unit D)) (env : Env) (Oc : Addr → Prop) (h₀ : Heap) (fs : List Env) (Cb : Addr) (why : Str) (T : Prop) (x : SS) : Prop :=
  ∀ {st : List Stmt}, CSs T nm fn kd st x → ∀ {s : Shared} {ρ : Vars} {vl : Nat → Value} {m : Str → Option Value} {o : Out} {Q : Flow → Shared → Prop} {E : Value → Shared → Prop}, St nm env Oc h₀ s.heap ρ vl m → execs why Φ x ρ = some o → Post nm env Oc h₀ fs Cb why s ρ vl Q E o → wpAny (model prog w) A (PySem.execs st env) Q E s
theorem Post.go {s : Shared} {Q : Flow → Shared → Prop} {E : Value → Shared → Prop} {o : Out} {ρ' : Vars} {vl' : Nat → Value} {h1 : Heap} {t1 : Tok} (G : Go (Ow Oc ρ vl) s.heap (Ow Oc ρ' vl') h1) (P : Post nm env Oc h₀ fs Cb why s ρ vl Q E o) : Post nm env Oc h₀ fs Cb why { s with heap := h1, toks := t1 } ρ' vl' Q E o := by
  cases o with
  | next ρ'' => exact fun h' tk vl'' m' S' G' => P h' tk vl'' m' S' (G.trans G')
  | ret d => exact P
  | exc => exact P
section
variable (C : Cx prog w A H gl fn Φ W) (R : Rx prog w A H gl fn Φ W Cb why (env :: fs)) (hn : NmInj nm) (ek : EnvOk kd env) (loc : env.frame = some env.locals) (ff : FF fs h₀) (hW : ∀ {h : Heap} {ρ : Vars} {vl : Nat → Value} {m : Str → Option Value}, St nm env Oc h₀ h ρ vl m → W h) (hT : T → fs = [])
include C hn ek hW in
theorem s_set (i : Nat) (x : X) : GS prog w A nm fn kd Φ env Oc h₀ (env :: fs) Cb why T (.set i x) := fun {st} c {s ρ vl m o Q E} S ho P =>
  c (fun st => wpAny (model prog w) A (PySem.exec st env) Q E s) (fun e p q hk hs cx => set_sound C hn ek (hW S) S hk hs cx ho P) fun e p q xx tg it t caps hs z cx => by subst z; exact setC_sound C hn ek (hW S) S hs cx ho P
include C hn ek hW in
theorem s_own (i : Nat) (x : XS) : GS prog w A nm fn kd Φ env Oc h₀ (env :: fs) Cb why T (.own i x) := fun {st} c {s ρ vl m o Q E} S ho P =>
  c (fun st => wpAny (model prog w) A (PySem.exec st env) Q E s) fun _ _ _ _ hk cs => own_sound C hn ek (hW S) S hk cs ho P
include C hn ek hW in
theorem s_set2 (i j : Nat) (x : X) : GS prog w A nm fn kd Φ env Oc h₀ (env :: fs) Cb why T (.set2 i j x) := fun {st} c {s ρ vl m o Q E} S ho P =>
  c (fun st => wpAny (model prog w) A (PySem.exec st env) Q E s) fun _ _ _ _ _ _ _ _ hi hj hij cx => set2_sound C hn ek (hW S) S hi hj hij cx ho P
include C hn ek hW in
theorem s_app (i : Nat) (x : X) : GS prog w A nm fn kd Φ env Oc h₀ (env :: fs) Cb why T (.app i x) := fun {st} c {s ρ vl m o Q E} S ho P =>
  c (fun st => wpAny (model prog w) A (PySem.exec st env) Q E s) fun _ _ _ _ _ hl cx => app_sound C hn ek (hW S) S hl cx ho P
include C hn ek hW in
theorem s_last (i : Nat) (x : X) : GS prog w A nm fn kd Φ env Oc h₀ (env :: fs) Cb why T (.last i x) := fun {st} c {s ρ vl m o Q E} S ho P =>
  c (fun st => wpAny (model prog w) A (PySem.exec st env) Q E s) fun _ _ _ _ _ _ _ _ _ cx => last_sound C hn ek (hW S) S cx ho P
include C hn ek hW in
theorem s_inc (i : Nat) (x : X) : GS prog w A nm fn kd Φ env Oc h₀ (env :: fs) Cb why T (.inc i x) := fun {st} c {s ρ vl m o Q E} S ho P =>
  c (fun st => wpAny (model prog w) A (PySem.exec st env) Q E s) fun _ _ _ hk cx => inc_sound C hn ek (hW S) S hk cx ho P
include C hn ek hW in
theorem s_ret (x : X) : GS prog w A nm fn kd Φ env Oc h₀ (env :: fs) Cb why T (.ret x) := fun {st} c {s ρ vl m o Q E} S ho P =>
  c (fun st => wpAny (model prog w) A (PySem.exec st env) Q E s) fun _ _ cx => ret_sound C hn ek (hW S) S cx ho P
include C R hn ek loc hW in
theorem s_for (tg : List Nat) (it : It) (u : SS) (i : GSs prog w A nm fn kd Φ env Oc h₀ (env :: fs) Cb why T u) : GS prog w A nm fn kd Φ env Oc h₀ (env :: fs) Cb why T (.for_ tg it u) := fun {st} c {s ρ vl m o Q E} S ho P =>
  c (fun st => wpAny (model prog w) A (PySem.exec st env) Q E s) fun _ _ _ _ tg ci cb => for_sound C R hn ek loc hW S tg ci (fun s ρ vl m o S ho Q E P => i cb S ho P) ho P
include C R hn ek loc hW in
theorem s_while (t : B) (u : SS) (i : GSs prog w A nm fn kd Φ env Oc h₀ (env :: fs) Cb why T u) : GS prog w A nm fn kd Φ env Oc h₀ (env :: fs) Cb why T (.while_ t u) := fun {st} c {s ρ vl m o Q E} S ho P =>
  c (fun st => wpAny (model prog w) A (PySem.exec st env) Q E s) fun _ _ _ cb c => while_sound C R hn ek loc hW S cb (fun s ρ vl m o S ho Q E P => i c S ho P) ho P
include R ek loc ff hW in
theorem s_raise  : GS prog w A nm fn kd Φ env Oc h₀ (env :: fs) Cb why T .raise := fun {st} c {s ρ vl m o Q E} S ho P =>
  c (fun st => wpAny (model prog w) A (PySem.exec st env) Q E s) fun _ _ _ hk => raise_sound R ek loc ff (hW S) S hk ((Option.some.inj ho).symm ▸ P : Post nm env Oc h₀ (env :: fs) Cb why s ρ vl Q E .exc)
include C R hn ek loc ff hW in
theorem s_run (f : Nat) (x : XS) : GS prog w A nm fn kd Φ env Oc h₀ (env :: fs) Cb why T (.run f x) := fun {st} c {s ρ vl m o Q E} S ho P =>
  c (fun st => wpAny (model prog w) A (PySem.exec st env) Q E s) fun _ _ _ _ _ K => run_sound C R hn ek loc ff (hW S) S K ho P
include C R hn ek loc ff hW in
theorem s_get (i f : Nat) (x : XS) : GS prog w A nm fn kd Φ env Oc h₀ (env :: fs) Cb why T (.get i f x) := fun {st} c {s ρ vl m o Q E} S ho P =>
  c (fun st => wpAny (model prog w) A (PySem.exec st env) Q E s) fun _ _ _ _ _ _ hi K => get_sound C R hn ek loc ff (hW S) S hi K ho P
include C R hn ek loc hW hT in
theorem s_try (i k f : Nat) (x : XS) : GS prog w A nm fn kd Φ env Oc h₀ (env :: fs) Cb why T (.try_ i k f x) := fun {st} c {s ρ vl m o Q E} S ho P =>
  c (fun st => wpAny (model prog w) A (PySem.exec st env) Q E s) fun _ _ _ _ _ _ _ _ _ _ _ _ _ t hi hk hik hb K => by cases hT t; exact try_sound C R hn ek loc hW S hi hk hik hb K ho P
include C hn ek hW in
theorem s_ite {t : B} {u v : SS} (i : GSs prog w A nm fn kd Φ env Oc h₀ (env :: fs) Cb why T u) (j : GSs prog w A nm fn kd Φ env Oc h₀ (env :: fs) Cb why T v) : GS prog w A nm fn kd Φ env Oc h₀ (env :: fs) Cb why T (.ite t u v) := fun {_} c {s ρ _ _ _ _ _} S ho P =>
  c (fun st => wpAny (model prog w) A (PySem.exec st env) _ _ s) fun e a b p cb c1 c2 => bindK ho fun t h1 ho => wpAny_If (CB.sound C hn.ok cb ek (hW S) S.oin S.vw h1 _ _ fun s1 k1 => by
    obtain ⟨hh, tt, rfl, kk⟩ := k1
    cases t with
    | true => exact i c1 (s := { s with heap := hh, toks := tt }) (S.keeps kk) ho (P.go (Go.kp kk))
    | false => exact j c2 (s := { s with heap := hh, toks := tt }) (S.keeps kk) ho (P.go (Go.kp kk)))
theorem ss_nil : GSs prog w A nm fn kd Φ env Oc h₀ (env :: fs) Cb why T .nil := fun {_} c {s _ vl m _ _ _} S ho P => by
  cases ho
  exact c (fun st => wpAny (model prog w) A (PySem.execs st env) _ _ s) (wpAny_execs_nil (P s.heap s.toks vl m S (Go.refl _ _)))
theorem frzK {ρ : Vars} {i : Nat} {y : SS} {o : Out} {P : Prop} (ho : execs why Φ (.cons (.frz i) y) ρ = some o) (k : ∀ ds, ρ i = some (.own ds) → execs why Φ y (upd ρ i (.fro (.list ds))) = some o → P) : P := by
  have ho : (match (match ρ i with | some (.own ds) => some (Out.next (upd ρ i (.fro (.list ds)))) | _ => none) with | some (.next ρ') => execs why Φ y ρ' | o => o) = some o := ho
  cases hi : ρ i with
  | none => rw [hi] at ho; exact nomatch ho
  | some sl =>
    rw [hi] at ho
    cases sl with
    | fro d => exact nomatch ho
    | own ds => exact k ds hi ho
theorem ss_cons {x : S} {y : SS} (i : GS prog w A nm fn kd Φ env Oc h₀ (env :: fs) Cb why T x) (j : GSs prog w A nm fn kd Φ env Oc h₀ (env :: fs) Cb why T y) : GSs prog w A nm fn kd Φ env Oc h₀ (env :: fs) Cb why T (.cons x y) := fun {st} c {s ρ vl m o Q E} S ho P => by
  refine c (fun st x => GS prog w A nm fn kd Φ env Oc h₀ (env :: fs) Cb why T x → execs why Φ (.cons x y) ρ = some o → wpAny (model prog w) A (PySem.execs st env) Q E s) (fun st r c cs i ho => ?_) (fun r k cs _ ho => ?_) i ho
  · have key : ∀ x, CS T nm fn kd st x → GS prog w A nm fn kd Φ env Oc h₀ (env :: fs) Cb why T x → execs why Φ (.cons x y) ρ = some o → wpAny (model prog w) A (PySem.execs (st :: r) env) Q E s := fun x c i ho =>
      outK (show (match exec why Φ x ρ with | some (.next ρ') => execs why Φ y ρ' | o => o) = some o from ho)
        (fun ρ1 h1 ho => wpAny_execs_cons (i c S h1 fun h' tk vl' m' S' G' => j cs (s := { s with heap := h', toks := tk }) S' ho (P.go G')))
        (fun d h1 e => wpAny_execs_cons (i c S h1 (e ▸ P : Post nm env Oc h₀ (env :: fs) Cb why s ρ vl Q E (.ret d)))) fun h1 e => wpAny_execs_cons (i c S h1 (e ▸ P : Post nm env Oc h₀ (env :: fs) Cb why s ρ vl Q E .exc))
    exact key _ c i ho
  · exact frzK ho fun ds hi ho => (S.freeze hi).elim fun S' G' => j cs S' ho (P.go (t1 := s.toks) G')
include C R hn ek loc ff hW hT in
theorem soundS : (∀ x, GS prog w A nm fn kd Φ env Oc h₀ (env :: fs) Cb why T x) ∧ ∀ x, GSs prog w A nm fn kd Φ env Oc h₀ (env :: fs) Cb why T x := by
  refine (fun m1 m2 => ⟨m1, m2⟩) (S.rec (motive_1 := GS prog w A nm fn kd Φ env Oc h₀ (env :: fs) Cb why T) (motive_2 := GSs prog w A nm fn kd Φ env Oc h₀ (env :: fs) Cb why T) (s_set C hn ek hW) (s_own C hn ek hW) (s_set2 C hn ek hW) (s_app C hn ek hW) (s_last C hn ek hW) (s_inc C hn ek hW) (fun _ {_} c => False.elim c) (s_ret C hn ek hW) (fun _ _ _ => s_ite C hn ek hW) (s_for C R hn ek loc hW) (s_while C R hn ek loc hW) (s_raise R ek loc ff hW) (s_run C R hn ek loc ff hW) (s_get C R hn ek loc ff hW) (s_try C R hn ek loc hW hT) ss_nil (fun _ _ => ss_cons))
    (SS.rec (motive_1 := GS prog w A nm fn kd Φ env Oc h₀ (env :: fs) Cb why T) (motive_2 := GSs prog w A nm fn kd Φ env Oc h₀ (env :: fs) Cb why T) (s_set C hn ek hW) (s_own C hn ek hW) (s_set2 C hn ek hW) (s_app C hn ek hW) (s_last C hn ek hW) (s_inc C hn ek hW) (fun _ {_} c => False.elim c) (s_ret C hn ek hW) (fun _ _ _ => s_ite C hn ek hW) (s_for C R hn ek loc hW) (s_while C R hn ek loc hW) (s_raise R ek loc ff hW) (s_run C R hn ek loc ff hW) (s_get C R hn ek loc ff hW) (s_try C R hn ek loc hW hT) ss_nil (fun _ _ => ss_cons))
end
theorem CSs.sound (C : Cx prog w A H gl fn Φ W) (R : Rx prog w A H gl fn Φ W Cb why (env :: fs)) (hn : NmInj nm) (ek : EnvOk kd env) (loc : env.frame = some env.locals) (ff : FF fs h₀) (hW : ∀ {h : Heap} {ρ : Vars} {vl : Nat → Value} {m : Str → Option Value}, St nm env Oc h₀ h ρ vl m → W h) (hT : T → fs = []) {st : List Stmt} {x : SS} (c : CSs T nm fn kd st x) {s : Shared} {ρ : Vars} {vl : Nat → Value} {m : Str → Option Value} {o : Out} {Q : Flow → Shared → Prop} {E : Value → Shared → Prop} : St nm env Oc h₀ s.heap ρ vl m → execs why Φ x ρ = some o → Post nm env Oc h₀ (env :: fs) Cb why s ρ vl Q E o → wpAny (model prog w) A (PySem.execs st env) Q E s := fun S ho P => (soundS C R hn ek loc ff hW hT).2 _ c S ho P
end
end Mine
-- B20
namespace Mine
open PySem PySem.W PyProof.Rows PySem.Calls
noncomputable def WF (H : Heap) (fs : List Env) (h : Heap) : Prop := Kp H h ∧ FF fs h
/-- what is known of the top, whatever the frames -/
structure Gx (prog : Program) (w : World) (H : Heap) (gl : Str → Option Value) (Cb : Addr) (why : Str) : Prop where
  top : GlobOk H gl
  len : gl "len" = some (.builtin "len")
  max : gl "max" = some (.builtin "max")
  str : gl "str" = some (.type "str")
  tup : gl "tuple" = some (.type "tuple")
  lst : gl "list" = some (.type "list")
  srt : gl "sorted" = some (.builtin "sorted")
  rng : gl "range" = some (.type "range")
  lim : H.NoLimit
  bad : gl "BadRule" = some (.ref Cb)
  mtch : ∀ (B : Around) (s : Shared) (e : Addr) (oe : Obj), Kp H s.heap → s.heap.get? e = some oe → oe.cls = .ref Cb → ∀ (E : Value → Shared → Prop) (Q : Bool → Shared → Prop), Q true s → wpAny (model prog w) B (excMatches (.ref e) (.ref Cb)) Q E s
  attr : ∀ (B : Around) (s : Shared) (e dx : Addr) (vs : Array Value) (sl : Array (Option Value)) (m : Str → Option Value) (t : Tok), Kp H s.heap → s.heap.get? e = some ⟨.ref Cb, some dx, .fields vs, sl⟩ → s.heap.Ns dx m → m ("why" : Str) = some (.str why t) →
    ∀ (E : Value → Shared → Prop) (Q : Value → Shared → Prop), (∀ tk, Q (.str why t) { s with toks := tk }) → wpAny (model prog w) B (getAttr (.ref e) "why" true) Q E s
  boom : ∀ (A : Around) (kd : Str → Option NameKind) (env : Env) (s : Shared) (p q r : Pos), A.handled = none → A.units ≤ 9000 → A.depth < 990 → EnvOk kd env → kd "conflict" = some .globalImplicit → Kp H s.heap → ∀ (E : Value → Shared → Prop) (Q : Flow → Shared → Prop),
    (∀ e h' tk, Kp s.heap h' → NewE Cb why s.heap h' e → E (.ref e) { s with heap := h', toks := tk }) → wpAny (model prog w) A (PySem.exec (.Raise (some (.Call (.Name "conflict" p) [] [] q)) none r) env) Q E s
/-- a def of the text keeps its promise -/
noncomputable def FnOk (prog : Program) (w : World) (H : Heap) (gl : Str → Option Value) (fn : Nat → Str) (Cb : Addr) (why : Str) (lev f : Nat) (φ : List D → Option (Except Unit D)) : Prop :=
  ∃ q o fd, gl (fn f) = some (.ref q) ∧ H.get? q = some o ∧ o.data = .func fd ∧ (fn f == ("__debug__" : Str)) = false ∧
    ∀ (A : Around) (fs : List Env), A.frames = some fs → A.handled = none → A.units + 3 * lev ≤ 9000 → A.depth + lev < 990 → ∀ (O : Addr → Prop) (s : Shared) (vs : List Value) (ds : List D) (r : Except Unit D), φ ds = some r → Kp H s.heap → FF fs s.heap → OIn O s.heap → RpAll O s.heap vs ds →
      ∀ (E Q : Value → Shared → Prop), (∀ d v s', r = .ok d → Ks s s' → Rp O s'.heap v d → Q v s') → (r = .error () → ∀ e h' tk, FF fs h' → Exc Cb why (fsA fs) false s.heap h' e → Up (fsA fs) s.heap h' → E (.ref e) { s with heap := h', toks := tk }) →
        wpAny (model prog w) A (call (.ref q) vs) Q E s
noncomputable def rs (Φ : Nat → List D → Option (Except Unit D)) (n : Nat) : Nat → List D → Option (Except Unit D) := fun f ds => if f < n then Φ f ds else none
section
variable {prog : Program} {w : World} {H : Heap} {gl : Str → Option Value} {fn : Nat → Str} {Cb : Addr} {why : Str} {Φ : Nat → List D → Option (Except Unit D)} {A : Around} {fs : List Env} {n : Nat}
theorem mkCx (G : Gx prog w H gl Cb why) (all : ∀ f, f < n → FnOk prog w H gl fn Cb why (f + 1) f (Φ f)) (fr : A.frames = some fs) (hA : A.handled = none) (hu : A.units + 3 * n ≤ 9000) (hd : A.depth + n < 990) : Cx prog w A H gl fn (rs Φ n) (WF H fs) where
  hA := hA
  hu := by omega
  top := G.top
  len := G.len
  max := G.max
  str := G.str
  tup := G.tup
  lst := G.lst
  srt := G.srt
  rng := G.rng
  mono := fun h h' W k => ⟨fun b o e => k b o (W.1 b o e), W.2.dk (DK.kp k)⟩
  sub := fun h W => W.1
  calls := fun f ds d hf => by
    unfold rs at hf
    split at hf
    case isFalse => cases hf
    case isTrue hlt =>
    obtain ⟨q, o, fd, g1, g2, g3, g4, g5⟩ := all f hlt
    refine ⟨q, o, fd, g1, g2, g3, g4, fun O s vs W hO r E Q hQ => ?_⟩
    exact g5 A fs fr hA (by omega) (by omega) O s vs ds _ hf W.1 W.2 hO r E Q (fun d' v s' e k r => by cases e; exact hQ v s' k r) (fun e => by cases e)
theorem mkRx (G : Gx prog w H gl Cb why) (all : ∀ f, f < n → FnOk prog w H gl fn Cb why (f + 1) f (Φ f)) (fr : A.frames = some fs) (hA : A.handled = none) (hu : A.units + 3 * n ≤ 9000) (hd : A.depth + n < 990) : Rx prog w A H gl fn (rs Φ n) (WF H fs) Cb why fs where
  fr := fr
  raises := fun f ds hf => by
    unfold rs at hf
    split at hf
    case isFalse => cases hf
    case isTrue hlt =>
    obtain ⟨q, o, fd, g1, g2, g3, g4, g5⟩ := all f hlt
    refine ⟨q, o, fd, g1, g2, g3, g4, fun O s vs W hO r hff E Q hQ => ?_⟩
    exact g5 A fs fr hA (by omega) (by omega) O s vs ds _ hf W.1 W.2 hO r E Q (fun d' v s' e k r => by cases e) (fun _ => hQ)
  bad := G.bad
  mtch := fun B s e oe W => G.mtch B s e oe W.1
  attr := fun B s e dx vs sl m t W => G.attr B s e dx vs sl m t W.1
  boom := fun kd env s p q r ek hk W => G.boom A kd env s p q r hA (by omega) (by omega) ek hk W.1
end
noncomputable def binds (nm : Nat → Str) : Nat → List Value → List (Str × Value)
  | _, [] => []
  | i, v :: vs => (nm i, v) :: binds nm (i + 1) vs
theorem binds_mem {nm : Nat → Str} {i : Nat} {vs : List Value} {x : Str × Value} (h : x ∈ binds nm i vs) : ∃ j, i ≤ j ∧ j < i + vs.length ∧ x.1 = nm j := by
  induction vs generalizing i with
  | nil => cases h
  | cons v vs ih =>
    rcases List.mem_cons.mp h with rfl | h
    · exact ⟨i, Nat.le_refl _, by simp, rfl⟩
    · obtain ⟨j, h1, h2, h3⟩ := ih h
      exact ⟨j, by omega, by simp; omega, h3⟩
theorem bindL_other {k : Str → Option NameKind} {l : List (Str × Value)} {m : Str → Option Value} {x : Str} (h : ∀ y ∈ l, y.1 ≠ x) : bindL k l m x = m x := by
  induction l generalizing m with
  | nil => rfl
  | cons p l ih =>
    obtain ⟨n, v⟩ := p
    unfold bindL
    rw [ih fun y hy => h y (.tail _ hy)]
    split
    · have : x ≠ n := fun e => h (n, v) (.head _) e.symm
      simp [this]
    · rfl
theorem bindL_get {nm : Nat → Str} (inj : ∀ i j, nm i = nm j → i = j) {k : Str → Option NameKind} {vs : List Value} {i : Nat} {m : Str → Option Value} (hk : ∀ j, i ≤ j → j < i + vs.length → k (nm j) = some .local) {j : Nat} {v : Value} (hv : vs[j]? = some v) : bindL k (binds nm i vs) m (nm (i + j)) = some v := by
  induction vs generalizing i m j with
  | nil => simp at hv
  | cons u vs ih =>
    unfold binds bindL
    rw [if_pos (hk i (Nat.le_refl _) (by simp))]
    cases j with
    | zero =>
      simp at hv
      subst hv
      rw [bindL_other]
      · simp
      · intro y hy
        obtain ⟨j, h1, h2, h3⟩ := binds_mem hy
        rw [h3]
        exact fun e => by have := inj _ _ e; omega
    | succ j =>
      have := ih (i := i + 1) (m := fun y => if y = nm i then some u else m y) (fun j h1 h2 => hk j (by omega) (by simp; omega)) (j := j) (by simpa using hv)
      rw [show i + (j + 1) = i + 1 + j by omega]
      exact this
theorem cellsFrom_some {x : Str} : ∀ (names : List (Str × NameKind)) (n : Nat) (acc : List (Str × Addr)), (acc.lookup x).isSome ∨ (x, NameKind.cell) ∈ names → ((cellsFrom n names acc).lookup x).isSome
  | [], n, acc, h => h.elim id fun q => nomatch q
  | (y, k) :: r, n, acc, h => by
    unfold cellsFrom
    split
    · rename_i hk
      refine cellsFrom_some r _ _ ?_
      rcases h with h | h
      · left; rw [List.lookup_cons]; split <;> first | rfl | exact h
      · rcases List.mem_cons.mp h with h | h
        · left; cases h; simp
        · exact .inr h
    · rename_i hk
      refine cellsFrom_some r _ _ ?_
      rcases h with h | h
      · exact .inl h
      · rcases List.mem_cons.mp h with h | h
        · cases h; exact absurd rfl hk
        · exact .inr h
theorem lenS {α : Type} {P : List α → Prop} {n : Nat} (k : ∀ a l, l.length = n → P (a :: l)) (vs : List α) (h : vs.length = n + 1) : P vs := by
  cases vs with
  | nil => exact nomatch h
  | cons a l => exact k a l (Nat.succ.inj h)
theorem len1 {α : Type} {P : List α → Prop} (k : ∀ a, P [a]) : ∀ vs, vs.length = 1 → P vs := lenS fun a l h => List.eq_nil_of_length_eq_zero h ▸ k a
theorem len2 {α : Type} {P : List α → Prop} (k : ∀ a b, P [a, b]) : ∀ vs, vs.length = 2 → P vs := lenS fun a => len1 (P := fun l => P (a :: l)) (k a)
theorem len3 {α : Type} {P : List α → Prop} (k : ∀ a b c, P [a, b, c]) : ∀ vs, vs.length = 3 → P vs := lenS fun a => len2 (P := fun l => P (a :: l)) (k a)
theorem len4 {α : Type} {P : List α → Prop} (k : ∀ a b c d, P [a, b, c, d]) : ∀ vs, vs.length = 4 → P vs := lenS fun a => len3 (P := fun l => P (a :: l)) (k a)
/-- how a body ends, and what the call gives -/
noncomputable def Res : Out → Except Unit D → Prop
  | .next _, r => r = .ok .none
  | .ret d, r => r = .ok d
  | .exc, r => r = .error ()
noncomputable def args0 (ds : List D) : Vars := fun i => (ds[i]?).map .fro
section
variable {prog : Program} {w : World} {H : Heap} {gl : Str → Option Value} {fn nm : Nat → Str} {Cb : Addr} {why : Str} {Φ : Nat → List D → Option (Except Unit D)} {n : Nat}
theorem fn_step {name : Str} {params : Arguments} {body : List Stmt} {scope : Scope} {pm doc : Value} {c' q : Addr} {o : Obj} {k : Nat} {ss : SS} (G : Gx prog w H gl Cb why) (all : ∀ f, f < n → FnOk prog w H gl fn Cb why (f + 1) f (Φ f))
    (hg : gl (fn n) = some (.ref q)) (ho : H.get? q = some o) (hd : o.data = .func (docDef name params body scope pm (.ref c') doc)) (hdb : (fn n == ("__debug__" : Str)) = false) (hcd : H.CodeRec (.ref c') name)
    (hn : NmInj nm) (hk : scope.kind = .function) (hco : scope.isCoroutine = false) (hgen : scope.isGenerator = false) (hfree : ∀ y ∈ scope.names, y.2 ≠ .free) (hloc : ∀ i, i < k → scope.names.lookup (nm i) = some .local)
    (hb : ∀ vs : List Value, vs.length = k → bindArgs (docDef name params body scope pm (.ref c') doc) ⟨vs, []⟩ = pure (binds nm 0 vs))
    (cs : CSs False nm fn (fun x => scope.names.lookup x) body ss)
    (run : ∀ ds r, Φ n ds = some r → ds.length = k ∧ ∃ o, execs why (rs Φ n) ss (args0 ds) = some o ∧ Res o r) : FnOk prog w H gl fn Cb why (n + 1) n (Φ n) := by
  refine ⟨q, o, _, hg, ho, hd, hdb, fun A fs fr hA hu hdep O s vs ds r hr kH ff hO rr E Q hok hex => ?_⟩
  obtain ⟨hlen, out, h1, h2⟩ := run ds r hr
  have hvl : vs.length = k := rr.length.trans hlen
  have hl0 : ∀ x ∈ binds nm 0 vs, scope.names.lookup x.1 = some .local := fun x hx => by
    obtain ⟨j, _, h3, h4⟩ := binds_mem hx
    rw [h4]; exact hloc j (by omega)
  refine wpAny_call (codeAny_call_cells (fd := docDef name params body scope pm (.ref c') doc) (body := body) (by show A.depth < 1000; omega) (kH _ _ ho) hd (G.lim.keeps kH) (hcd.keeps kH) rfl (hb vs hvl) rfl (fun x hx => .inl (hl0 x hx)) (fun s₁ IC => ?_) hco hgen hk)
  generalize henv : callEnvC (docDef name params body scope pm (.ref c') doc) s.heap.objs.size q = env at IC ⊢
  have eL : env.locals = s.heap.objs.size := by rw [← henv]; rfl
  have eF : env.frame = some env.locals := by rw [← henv]; rfl
  have eC : env.cells = cellsFrom (s.heap.objs.size + 1) scope.names [] := by rw [← henv]; rfl
  have eS : env.scope = scope := by rw [← henv]; rfl
  have eK : ∀ x, env.kindOf x = scope.names.lookup x := fun x => by rw [← henv]; rfl
  have eG : env.globals = mainGlobals := by rw [← henv]; rfl
  have eB : env.builtins = builtinsNs := by rw [← henv]; rfl
  have ek : EnvOk (fun x => scope.names.lookup x) env := by
    refine ⟨by rw [eS]; exact hk, eG, eB, eK, fun x hx => ?_⟩
    rw [eC]
    refine cellsFrom_some _ _ _ (.inr ?_)
    rcases hx with hx | hx
    · exact mem_of_lookup hx
    · exact absurd rfl (hfree _ (mem_of_lookup hx))
  obtain ⟨h1', tk1, rfl⟩ := IC.toInCall.same
  have keep : Kp s.heap h1' := IC.toInCall.keep
  have ow0 : ∀ x, Ow O (args0 ds) (fun i => vs.getD i .none) x → O x := by
    rintro x (q | ⟨j, es, e, _⟩)
    · exact q
    · unfold args0 at e
      cases hj : ds[j]? <;> rw [hj] at e <;> cases e
  have S : St nm env O s.heap h1' (args0 ds) (fun i => vs.getD i .none) (bindL env.kindOf (binds nm 0 vs) fun _ => none) := by
    refine ⟨IC.toInCall.ns, by rw [eL]; exact Heap.get?_none_of_le (Nat.le_refl _), fun x c hc => ⟨?_, _, IC.cell x c hc⟩, IC.apart, fun i hi => ?_, fun i d hi => ?_, fun i es hi => ?_, fun i j es es' hi => ?_, keep, hO⟩
    · have := IC.above x c (mem_of_lookup hc)
      rw [eL] at this
      exact Heap.get?_none_of_le (Nat.le_of_lt this)
    · unfold args0 at hi
      have hlt : i < ds.length := by
        rcases Nat.lt_or_ge i ds.length with q | q
        · exact q
        · rw [List.getElem?_eq_none q] at hi; cases hi
      have hlt' : i < vs.length := by rw [rr.length]; exact hlt
      left
      refine ⟨(eK _).trans (hloc i (by omega)), ?_⟩
      have := bindL_get hn.inj (k := env.kindOf) (vs := vs) (i := 0) (m := fun _ => none) (fun j _ h3 => (eK _).trans (hloc j (by omega))) (j := i) (v := vs[i]) (List.getElem?_eq_getElem hlt')
      rw [Nat.zero_add] at this
      rw [this]
      simp [hlt']
    · unfold args0 at hi
      cases hj : ds[i]? with
      | none => rw [hj] at hi; cases hi
      | some d' =>
        rw [hj] at hi
        cases hi
        obtain ⟨v, hv, r1⟩ := rr.get hj
        have : vs.getD i .none = v := by simp [List.getD, hv]
        show Rp _ _ (vs.getD i .none) _
        rw [this]
        exact (r1.keeps keep).mono ow0
    · unfold args0 at hi
      cases hj : ds[i]? <;> rw [hj] at hi <;> cases hi
    · unfold args0 at hi
      cases hj : ds[i]? <;> rw [hj] at hi <;> cases hi
  have fr' : (A.deeper env).frames = some (env :: fs) := by show A.frames.map _ = _; rw [fr]; rfl
  have C := mkCx (A := A.deeper env) (fs := env :: fs) (n := n) G all fr' hA (by show A.units + 3 + 3 * n ≤ 9000; omega) (by show A.depth + 1 + n < 990; omega)
  have R := mkRx (A := A.deeper env) (fs := env :: fs) (n := n) G all fr' hA (by show A.units + 3 + 3 * n ≤ 9000; omega) (by show A.depth + 1 + n < 990; omega)
  refine CSs.sound C R hn ek eF ff (fun S => ⟨fun b o e => S.stays b o (kH b o e), S.ff ek eF ff⟩) (fun f => f.elim) cs S h1 ?_
  cases out with
  | next ρ' => exact fun h' tk vl' m' S' G' => hok .none .none _ h2 (Ks.heap s h' tk S'.stays) .none
  | ret d => exact fun v h' tk k' r' => hok d v _ h2 (Ks.heap s h' tk k') r'
  | exc =>
    intro e h' tk y1 y2 y3
    refine leaves (s := { s with heap := h', toks := tk }) fr' eF y1 y2 y3 fun h2' z1 z2 z3 => ?_
    have sub : ∀ b ∈ fsA fs, b ∈ fsA (env :: fs) := fun b hb => by
      obtain ⟨e', he', hf⟩ := List.mem_filterMap.mp hb
      exact List.mem_filterMap.mpr ⟨e', .tail _ he', hf⟩
    refine hex h2 e h2' tk (fun e' he' => z1 e' (.tail _ he')) ((z2.less sub).weak) (z3.less (fun b hb nb => ?_) sub)
    obtain ⟨e', he', hf⟩ := List.mem_filterMap.mp hb
    rcases List.mem_cons.mp he' with rfl | he'
    · rw [eF] at hf
      cases hf
      rw [eL]
      exact Heap.get?_none_of_le (Nat.le_refl _)
    · exact absurd (List.mem_filterMap.mpr ⟨e', he', hf⟩) nb
end
end Mine
-- E1
namespace Mine
open PySem PySem.W PyProof.Rows PySem.Calls
open Builtin Builtin.ObjectAttr
section
variable {prog : Program} {w : World} {A : Around} {E : Value → Shared → Prop} {h : Heap} {g : Array GenState} {d : Drawn} {t : Nat} {os : OsState}
variable {nm q : Str} {C N x : Addr} {bs bm : List Value} {sn : List Str} {sub : List Value} {ab : Bool} {col : Option Bool} {dd : Option Addr} {k0 k1 k2 k3 k5 : Option Value} {newId : String}
  {mA : Str → Option Value} {name : Str} {v : Value}
/-- a store into an object's own dict, whatever its classes -/
theorem e_entry {tk : Tok} {Q : Fin → Shared → Prop} {ns : List Str} (hpass : ∀ self, refuseLoop self "__setattr__" (.ref C :: bm) = pure ())
    (hC : h.get? C = some (excClassObj nm q C N bs bm true sn sub ab col dd k0 k1 k2 k3 k5 newId)) (hL : Looks (model prog w) h (typeLookup (.ref C) name) none) (hxC : x ≠ C) (I : h.InstFk x C mA)
    (hq : ∀ h' tk', h'.InstFk x C (fun y => if y = name then some v else mA y) →
      (∀ b o, b ≠ x → (∀ o₀ dx, h.get? x = some o₀ → o₀.dict = some dx → b ≠ dx) → h.get? b = some o → h'.get? b = some o) →
      (∀ o₀, h.get? x = some o₀ → ∃ o₁, h'.get? x = some o₁ ∧ o₁.cls = o₀.cls ∧ o₁.data = o₀.data ∧ o₁.slots = o₀.slots ∧ (∀ dx, o₀.dict = some dx → o₁.dict = some dx) ∧ (o₀.dict = none → ∃ dx, o₁.dict = some dx ∧ h.get? dx = none)) → Q (.done (.ret .none)) ⟨h', g, d, tk', os⟩)
    (hw : Within mA ns) (hsz : ns.length ≤ 1000) :
    wpAny (model prog w) A (Builtin.«object.__setattr__» ⟨[.ref x, .str name tk, v], []⟩) Q E ⟨h, g, d, t, os⟩ := by
  obtain ⟨o, hx, hc, hnc, hd⟩ := I
  have hp := hpass (.ref x)
  unfold Builtin.«object.__setattr__»
  repeat (first | rw [refuse_eq] | rw [hp] | (with_reducible refine wpAny_loadPart_at hx ?_; rw [hc]) | with_reducible refine wpAny_mroOf_exc hC ?_ | with_reducible refine Looks.at hL ?_ | wp_step)
  rcases hd with ⟨hdn, hmA⟩ | ⟨dx, hdx, hne, hns, hed⟩
  · rw [hdn, if_neg (by simp [typeHasDict])]
    split
    · rename_i hcd
      cases hcd
    split
    · rename_i c hcd
      exact absurd hcd (hnc c)
    · have hx₁ : (h.push { cls := .type "dict", data := .dict #[] }).get? x = some o := Heap.get?_push_of_some _ hx
      have hxs : x ≠ h.objs.size := Nat.ne_of_lt (Heap.lt_size hx)
      refine wpAny_bind (wpAny_alloc' ?_)
      refine wpAny_bind (wpAny_update' hx₁ ?_)
      refine wpAny_pure ?_
      have hgd : ((h.push { cls := .type "dict", data := .dict #[] }).update x fun o => { cls := o.cls, dict := some h.objs.size, data := o.data, slots := o.slots }).get? h.objs.size
          = some { cls := .type "dict", data := .dict #[] } :=
        (Heap.get?_update_ne _ _ _ _ hxs.symm).trans (Heap.get?_push_at rfl rfl)
      have hnd : ((h.push { cls := .type "dict", data := .dict #[] }).update x fun o => { cls := o.cls, dict := some h.objs.size, data := o.data, slots := o.slots }).Ns h.objs.size (fun _ => none) :=
        ⟨_, #[], _, hgd, rfl, fun e he => absurd he (by simp), fun _ => rfl⟩
      show wpAny _ _ (storeInDict h.objs.size (.str name tk) name v) _ _ _
      unfold storeInDict newKeyGuard
      refine wpAny_bind (wpAny_pure (wpAny_bind (wpAny_nsSet1EFk (Heap.Ns1.of_empty hnd) fun h' hn' hs hkeepD => ?_)))
      obtain ⟨oD, esD, epD, hoD, hdD, hcD⟩ := hn'.count (Within.cons name v Within.nil)
      refine wpAny_bind (wpAny_lookBehind hoD (by rw [hdD]; exact pastItsLine_dict (Nat.le_trans hcD (by rw [List.length_cons, List.length_nil, sizeLine_eq]; omega))) ?_)
      refine wpAny_pure (a := Fin.done (.ret .none)) ?_
      have hx' : h'.get? x = some { cls := o.cls, dict := some h.objs.size, data := o.data, slots := o.slots } := ?_
      refine hq h' _ ⟨{ cls := o.cls, dict := some h.objs.size, data := o.data, slots := o.slots }, hx', hc, hnc, .inr ⟨h.objs.size, rfl, hxs.symm, ?_, (let ⟨od', e', c', d'⟩ := hkeepD _ hgd; ⟨od', e', c', d'⟩)⟩⟩ (fun b ob hbx _ hb => ?_)
        (fun o₀ h₀ => by obtain rfl : o = o₀ := Option.some.inj (hx.symm.trans h₀); exact ⟨_, hx', rfl, rfl, rfl, fun dx e => (by rw [hdn] at e; cases e), fun _ => ⟨_, rfl, Heap.get?_none_of_le (Nat.le_refl _)⟩⟩)
      · obtain ⟨o', es, ep, e1, e2, e3, eu, e4⟩ := hn'
        exact ⟨o', es, ep, e1, e2, e3, eu, fun y => by rw [e4 y]; by_cases hy : y = name <;> simp [hy, hmA]⟩
      · exact (hs.2 b (Nat.ne_of_lt (Heap.lt_size hb))).trans ((Heap.get?_update_ne _ _ _ _ hbx).trans (Heap.get?_push_of_some _ hb))
      · refine (hs.2 x hxs).trans (Heap.get?_update_self _ hx₁ ?_)
        have hfr := (Heap.get?_some_iff.mp hx).2
        obtain ⟨oc, od, odt, osl⟩ := o
        cases odt <;> first | rfl | exact hfr
  · rw [hdx]
    refine wpAny_pure ?_
    show wpAny _ _ (storeInDict dx (.str name tk) name v) _ _ _
    unfold storeInDict newKeyGuard
    refine wpAny_bind (wpAny_pure (wpAny_bind (wpAny_nsSet1EFk hns fun h' hn' hs hkeepD => ?_)))
    obtain ⟨oD, esD, epD, hoD, hdD, hcD⟩ := hn'.count (Within.cons name v hw)
    refine wpAny_bind (wpAny_lookBehind hoD (by rw [hdD]; exact pastItsLine_dict (Nat.le_trans hcD (by rw [List.length_cons, sizeLine_eq]; omega))) ?_)
    refine wpAny_pure (a := Fin.done (.ret .none)) ?_
    refine hq h' _ ⟨o, (hs.2 x hne.symm).trans hx, hc, hnc, .inr ⟨dx, hdx, hne, hn', (let ⟨od, e, c, dd⟩ := hed; let ⟨od', e', c', d'⟩ := hkeepD od e; ⟨od', e', c'.trans c, d'.trans dd⟩)⟩⟩ (fun b ob _ hbd hb => ?_)
      (fun o₀ h₀ => ⟨o₀, (hs.2 x hne.symm).trans h₀, rfl, rfl, rfl, fun _ e => e, fun e => by obtain rfl : o = o₀ := Option.some.inj (hx.symm.trans h₀); rw [hdx] at e; cases e⟩)
    exact (hs.2 b (hbd o dx hx hdx)).trans hb
theorem e_set {Q : Unit → Shared → Prop} {ns : List Str} (hpass : ∀ self, refuseLoop self "__setattr__" (.ref C :: bm) = pure ()) (hown : (Value.ref C :: bm).contains (.type "object") = true)
    (hC : h.get? C = some (excClassObj nm q C N bs bm true sn sub ab col dd k0 k1 k2 k3 k5 newId)) (hS : Looks (model prog w) h (typeLookup (.ref C) "__setattr__") (some (.builtin "object.__setattr__"))) (hL : Looks (model prog w) h (typeLookup (.ref C) name) none) (hxC : x ≠ C) (I : h.InstFk x C mA)
    (hq : ∀ h' tk', h'.InstFk x C (fun y => if y = name then some v else mA y) →
      (∀ b o, b ≠ x → (∀ o₀ dx, h.get? x = some o₀ → o₀.dict = some dx → b ≠ dx) → h.get? b = some o → h'.get? b = some o) →
      (∀ o₀, h.get? x = some o₀ → ∃ o₁, h'.get? x = some o₁ ∧ o₁.cls = o₀.cls ∧ o₁.data = o₀.data ∧ o₁.slots = o₀.slots ∧ (∀ dx, o₀.dict = some dx → o₁.dict = some dx) ∧ (o₀.dict = none → ∃ dx, o₁.dict = some dx ∧ h.get? dx = none)) → Q () ⟨h', g, d, tk', os⟩)
    (hw : Within mA ns) (hsz : ns.length ≤ 1000) :
    wpAny (model prog w) A (setAttr (.ref x) name v) Q E ⟨h, g, d, t, os⟩ := by
  obtain ⟨o, hx, hc, _⟩ := id I
  have SF := PySem.F.store_Exception
  have ha := fun tk : Tok => SF.args (.ref x) (.str name tk) v
  have sub : Looks (model prog w) h (isSubtype (.ref C) (.type "object")) true := fun A Q E s k q => by
    obtain ⟨h', g', d', t', os'⟩ := s
    exact wpAny_isSubtype_exc (k _ _ hC) (by rw [hown]; exact q)
  have typ : Looks (model prog w) h (typeOf (.ref x)) (.ref C) := hc ▸ (Looks.ld hx).andThen .now
  have body : codeAny (model prog w) A (.call (.builtin "object.__setattr__") ⟨[.ref x, .str name t, v], []⟩) (fun r s' => match r with | .ok (.ret _) => Q () s' | .ok _ => False | .error e => E e s') ⟨h, g, d, t + 1, os⟩ := by
    refine codeAny_call_builtin SF.slot.plain SF.entry (@check_slot (model prog w) _ _ ⟨h, g, d, t + 1, os⟩ "object.__setattr__" "object" "__setattr__" (.ref x) [.str name t, v] [] _ SF.kind SF.split (typ.andThen sub) (ha t) ?_)
    exact e_entry hpass hC hL hxC I (fun h' tk' I' hk hsame => hq h' tk' I' hk hsame) hw hsz
  refine wpAny_bind (wpAny_mkText (wpAny_bind (wpAny_bind (wpAny_bind (typ _ _ _ _ (fun _ _ e => e) (hS _ _ _ _ (fun _ _ e => e) (wpAny_holding ?_)))))))
  rw [SF.slot.bind]
  refine wpAny_bind (wpAny_pure (wpAny_bind (wpAny_call (codeAny_mono body fun r s' z => ?_))))
  rcases r with e | (v | _ | _ | _) <;> first | exact z | exact wpAny_pure (wpAny_pure z)
end
end Mine
-- K0
namespace Mine
open PySem PySem.W PyProof.Rows
/-- the parts of a def -/
noncomputable def defParts : Stmt → Str × Arguments × List Stmt × Scope
  | .FunctionDef n a b _ _ _ sc _ _ _ => (n, a, b, sc)
  | _ => default
noncomputable def clsBody : Stmt → List Stmt
  | .ClassDef _ _ _ b _ _ _ _ _ _ _ => b
  | _ => []
noncomputable def stmtAt (l : List Stmt) (i : Nat) : Stmt := l.getD i (.Return none ⟨0, 0, 0, 0⟩)
noncomputable def topAt (i : Nat) : Stmt := stmtAt PySem.Challenge.pw_pf0326_01.main.body i
noncomputable def fO (d : Str × Arguments × List Stmt × Scope) (q : Str) (pm : Value) (c : Addr) : Obj :=
  { cls := .type "function", data := .func { name := d.1, qualname := q, params := d.2.1, body := .stmts d.2.2.1, scope := d.2.2.2, globals := 3, closure := [], defaults := .none, kwdefaults := .none, pyModule := pm, code := .ref c } }
noncomputable def cO (n q : Str) (t : Nat) (line args : Int) (a b : Addr) (x y : Value) (z : Addr) (u : Int) (t2 : Nat) : Obj :=
  { cls := .type "code", data := .fields #[.str n t, .str q (t + 1), .str (Str.ofString "/claim/cut.py") (t + 2), .int line 0, .int args 0, .int 0 0, .int 0 0, .int 3 0, .ref a, .bool true, .int 181 0, .ref b, .none, x, y, .ref z, .int u 0, .int line 0, .str (Str.ofString "/claim/cut.py") t2] }
noncomputable def dE (P : Params) (x : Str) (t : Nat) (v : Value) : DictEntry := ⟨PyData.keyHash P x, .str x t, v⟩
noncomputable def k3a (P : Params) : List DictEntry := [dE P (Str.ofString "__name__") 165 (Value.str (Str.ofString "law_pf0326_01") 303), dE P (Str.ofString "__doc__") 166 (Value.none), dE P (Str.ofString "__package__") 167 (Value.none), dE P (Str.ofString "__loader__") 168 (Value.builtin "__main__.__loader__#opaque"), dE P (Str.ofString "__spec__") 169 (Value.none), dE P (Str.ofString "__annotations__") 170 (Value.ref 6), dE P (Str.ofString "__builtins__") 171 (Value.ref 4), dE P (Str.ofString "__file__") 173 (Value.str (Str.ofString "/claim/cut.py") 172), dE P (Str.ofString "__cached__") 174 (Value.none)]
noncomputable def k3b (P : Params) : List DictEntry := [dE P (Str.ofString "WallFault") 218 (Value.ref 31), dE P (Str.ofString "BadRule") 234 (Value.ref 44), dE P (Str.ofString "boxes_meet") 245 (Value.ref 53), dE P (Str.ofString "conflict") 251 (Value.ref 60), dE P (Str.ofString "without_repeats") 262 (Value.ref 67), dE P (Str.ofString "is_for_joining") 271 (Value.ref 74), dE P (Str.ofString "joined") 284 (Value.ref 81), dE P (Str.ofString "check_apart") 294 (Value.ref 88), dE P (Str.ofString "tidy_set") 302 (Value.ref 95)]
noncomputable def k3c (P : Params) : List DictEntry := [dE P (Str.ofString "_law_digit") 312 (Value.ref 102), dE P (Str.ofString "_law_data") 320 (Value.ref 109), dE P (Str.ofString "_law_told") 326 (Value.ref 114), dE P (Str.ofString "_law_line") 332 (Value.ref 119), dE P (Str.ofString "_law_plane") 338 (Value.ref 124), dE P (Str.ofString "_law_has") 347 (Value.ref 131), dE P (Str.ofString "_law_runs") 353 (Value.ref 136), dE P (Str.ofString "_law_due") 359 (Value.ref 141), dE P (Str.ofString "law") 371 (Value.ref 148)]
noncomputable def k3 (P : Params) : Obj := { cls := .type "dict", data := .dict (k3a P ++ (k3b P ++ k3c P)).toArray 27 }
noncomputable def k27 (P : Params) : Obj := cO (Str.ofString "__init__") (Str.ofString "WallFault.__init__") 201 4 2 22 23 (.ref 24) (.ref 25) 26 206 207
noncomputable def k28 (P : Params) : Obj := fO (defParts (stmtAt (clsBody (topAt 1)) 0)) (Str.ofString "WallFault.__init__") (Value.str (Str.ofString "siftwall.faults") 187) 27
noncomputable def k30 (P : Params) : Obj := { cls := Value.type "dict", data := Data.dict #[dE P (Str.ofString "__module__") 196 (Value.str (Str.ofString "siftwall.faults") 187), dE P (Str.ofString "__firstlineno__") 200 (Value.int 2 199), dE P (Str.ofString "__init__") 208 (Value.ref 28), dE P (Str.ofString "__static_attributes__") 211 (Value.ref 29), dE P (Str.ofString "__weakref__") 213 (Value.ref 32), dE P (Str.ofString "__doc__") 214 (Value.none)] 3 }
noncomputable def k31 (P : Params) : Obj := { cls := Value.type "type", data := Data.cls { name := Str.ofString "WallFault", bases := [Value.type "Exception"], mro := [Value.ref 31, Value.type "Exception", Value.type "BaseException", Value.type "object"], ns := 30, qualname := Str.ofString "WallFault", subclasses := [Value.ref 44] }, slots := #[some (Value.ref 15), none, some (Value.str (Str.ofString "WallFault") 189), some (Value.str (Str.ofString "WallFault") 197), some (Value.builtin "Exception.__new__"), some (Value.bool true)] }
noncomputable def k43 (P : Params) : Obj := { cls := Value.type "dict", data := Data.dict #[dE P (Str.ofString "__module__") 226 (Value.str (Str.ofString "siftwall.faults") 187), dE P (Str.ofString "__firstlineno__") 230 (Value.int 8 229), dE P (Str.ofString "__static_attributes__") 231 (Value.ref 42), dE P (Str.ofString "__doc__") 232 (Value.none)] 2 }
noncomputable def k44 (P : Params) : Obj := { cls := Value.type "type", data := Data.cls { name := Str.ofString "BadRule", bases := [Value.ref 31], mro := [Value.ref 44, Value.ref 31, Value.type "Exception", Value.type "BaseException", Value.type "object"], ns := 43, qualname := Str.ofString "BadRule" }, slots := #[some (Value.ref 35), none, some (Value.str (Str.ofString "BadRule") 219), some (Value.str (Str.ofString "BadRule") 227), some (Value.builtin "Exception.__new__"), some (Value.bool true)] }
noncomputable def k52 (P : Params) : Obj := cO (Str.ofString "boxes_meet") (Str.ofString "boxes_meet") 237 11 2 47 48 (.ref 49) (.ref 50) 51 243 244
noncomputable def k53 (P : Params) : Obj := fO (defParts (topAt 4)) (Str.ofString "boxes_meet") (Value.str (Str.ofString "siftwall.stores") 235) 52
noncomputable def k59 (P : Params) : Obj := cO (Str.ofString "conflict") (Str.ofString "conflict") 246 16 0 54 55 (.ref 56) (.ref 57) 58 249 250
noncomputable def k60 (P : Params) : Obj := fO (defParts (topAt 5)) (Str.ofString "conflict") (Value.str (Str.ofString "siftwall.stores") 235) 59
noncomputable def k66 (P : Params) : Obj := cO (Str.ofString "without_repeats") (Str.ofString "without_repeats") 252 18 1 61 62 (.ref 63) (.ref 64) 65 260 261
noncomputable def k67 (P : Params) : Obj := fO (defParts (topAt 6)) (Str.ofString "without_repeats") (Value.str (Str.ofString "siftwall.stores") 235) 66
noncomputable def k73 (P : Params) : Obj := cO (Str.ofString "is_for_joining") (Str.ofString "is_for_joining") 263 29 1 68 69 (.ref 70) (.ref 71) 72 269 270
noncomputable def k74 (P : Params) : Obj := fO (defParts (topAt 7)) (Str.ofString "is_for_joining") (Value.str (Str.ofString "siftwall.stores") 235) 73
noncomputable def k80 (P : Params) : Obj := cO (Str.ofString "joined") (Str.ofString "joined") 272 37 1 75 76 (.ref 77) (.ref 78) 79 282 283
noncomputable def k81 (P : Params) : Obj := fO (defParts (topAt 8)) (Str.ofString "joined") (Value.str (Str.ofString "siftwall.stores") 235) 80
noncomputable def k87 (P : Params) : Obj := cO (Str.ofString "check_apart") (Str.ofString "check_apart") 285 47 1 82 83 (.ref 84) (.ref 85) 86 292 293
noncomputable def k88 (P : Params) : Obj := fO (defParts (topAt 9)) (Str.ofString "check_apart") (Value.str (Str.ofString "siftwall.stores") 235) 87
noncomputable def k94 (P : Params) : Obj := cO (Str.ofString "tidy_set") (Str.ofString "tidy_set") 295 55 1 89 90 (.ref 91) (.ref 92) 93 300 301
noncomputable def k95 (P : Params) : Obj := fO (defParts (topAt 10)) (Str.ofString "tidy_set") (Value.str (Str.ofString "siftwall.stores") 235) 94
noncomputable def k101 (P : Params) : Obj := cO (Str.ofString "_law_digit") (Str.ofString "_law_digit") 305 62 2 96 97 (.ref 98) (.ref 99) 100 310 311
noncomputable def k102 (P : Params) : Obj := fO (defParts (topAt 12)) (Str.ofString "_law_digit") (Value.str (Str.ofString "law_pf0326_01") 303) 101
noncomputable def k108 (P : Params) : Obj := cO (Str.ofString "_law_data") (Str.ofString "_law_data") 313 64 2 103 104 (.ref 105) (.ref 106) 107 318 319
noncomputable def k109 (P : Params) : Obj := fO (defParts (topAt 13)) (Str.ofString "_law_data") (Value.str (Str.ofString "law_pf0326_01") 303) 108
noncomputable def k113 (P : Params) : Obj := cO (Str.ofString "_law_told") (Str.ofString "_law_told") 321 70 3 110 111 (.none) (.none) 112 324 325
noncomputable def k114 (P : Params) : Obj := fO (defParts (topAt 14)) (Str.ofString "_law_told") (Value.str (Str.ofString "law_pf0326_01") 303) 113
noncomputable def k118 (P : Params) : Obj := cO (Str.ofString "_law_line") (Str.ofString "_law_line") 327 80 4 115 116 (.none) (.none) 117 330 331
noncomputable def k119 (P : Params) : Obj := fO (defParts (topAt 15)) (Str.ofString "_law_line") (Value.str (Str.ofString "law_pf0326_01") 303) 118
noncomputable def k123 (P : Params) : Obj := cO (Str.ofString "_law_plane") (Str.ofString "_law_plane") 333 99 2 120 121 (.none) (.none) 122 336 337
noncomputable def k124 (P : Params) : Obj := fO (defParts (topAt 16)) (Str.ofString "_law_plane") (Value.str (Str.ofString "law_pf0326_01") 303) 123
noncomputable def k130 (P : Params) : Obj := cO (Str.ofString "_law_has") (Str.ofString "_law_has") 339 115 2 125 126 (.ref 127) (.ref 128) 129 345 346
noncomputable def k131 (P : Params) : Obj := fO (defParts (topAt 17)) (Str.ofString "_law_has") (Value.str (Str.ofString "law_pf0326_01") 303) 130
noncomputable def k135 (P : Params) : Obj := cO (Str.ofString "_law_runs") (Str.ofString "_law_runs") 348 120 2 132 133 (.none) (.none) 134 351 352
noncomputable def k136 (P : Params) : Obj := fO (defParts (topAt 18)) (Str.ofString "_law_runs") (Value.str (Str.ofString "law_pf0326_01") 303) 135
noncomputable def k140 (P : Params) : Obj := cO (Str.ofString "_law_due") (Str.ofString "_law_due") 354 135 2 137 138 (.none) (.none) 139 357 358
noncomputable def k141 (P : Params) : Obj := fO (defParts (topAt 19)) (Str.ofString "_law_due") (Value.str (Str.ofString "law_pf0326_01") 303) 140
noncomputable def K0 (P : Params) : Frag := [(3, k3 P), (27, k27 P), (28, k28 P), (30, k30 P), (31, k31 P), (43, k43 P), (44, k44 P), (52, k52 P), (53, k53 P), (59, k59 P), (60, k60 P), (66, k66 P), (67, k67 P), (73, k73 P), (74, k74 P), (80, k80 P), (81, k81 P), (87, k87 P), (88, k88 P), (94, k94 P), (95, k95 P), (101, k101 P), (102, k102 P), (108, k108 P), (109, k109 P), (113, k113 P), (114, k114 P), (118, k118 P), (119, k119 P), (123, k123 P), (124, k124 P), (130, k130 P), (131, k131 P), (135, k135 P), (136, k136 P), (140, k140 P), (141, k141 P)]
noncomputable def K0as : List Addr := [3, 27, 28, 30, 31, 43, 44, 52, 53, 59, 60, 66, 67, 73, 74, 80, 81, 87, 88, 94, 95, 101, 102, 108, 109, 113, 114, 118, 119, 123, 124, 130, 131, 135, 136, 140, 141]
end Mine
-- E2
namespace Mine
open PySem PySem.W PyProof.Rows PySem.Calls
open Builtin Builtin.ObjectAttr
noncomputable abbrev KH (w : World) : Frag := K0 w.params
noncomputable abbrev bmC : List Value := [.ref 31, .type "Exception", .type "BaseException", .type "object"]
noncomputable abbrev objC : Obj := excClassObj "BadRule" "BadRule" 44 43 [.ref 31] bmC true [] [] false none none (some (Value.ref 35)) none (some (Value.str (Str.ofString "BadRule") 219)) (some (Value.str (Str.ofString "BadRule") 227)) (some (Value.bool true)) "Exception.__new__"
section
variable {prog : Program} {w : World} {h : Heap}
theorem atC (X : (KH w).In h) : h.get? 44 = some objC := X 44 _ rfl
theorem lk_init (X : (KH w).In h) : Looks (model prog w) h (typeLookup (.ref 44) "__init__") (some (.ref 28)) := looks_findIn X (by rfl)
theorem lk_why (X : (KH w).In h) : Looks (model prog w) h (typeLookup (.ref 44) "why") none := looks_findIn X (by rfl)
theorem lk_at (X : (KH w).In h) : Looks (model prog w) h (typeLookup (.ref 44) "at") none := looks_findIn X (by rfl)
theorem lk_set (X : (KH w).In h) : Looks (model prog w) h (typeLookup (.ref 44) "__setattr__") (some (.builtin "object.__setattr__")) := looks_findIn X (by rfl)
theorem lk_ga (X : (KH w).In h) : Looks (model prog w) h (typeLookup (.ref 44) "__getattribute__") (some (.builtin "BaseException.__getattribute__")) := looks_findIn X (by rfl)
theorem lk_gah (X : (KH w).In h) : Looks (model prog w) h (typeLookup (.ref 44) "__getattr__") none := looks_findIn X (by rfl)
theorem passC (self : Value) : refuseLoop self "__setattr__" (.ref 44 :: bmC) = pure () := by
  rw [refuseLoop_ref, refuseLoop_ref]; exact PySem.F.store_Exception.passes self
theorem fI (X : (KH w).In h) : ∃ fd, h.get? 28 = some ⟨.type "function", none, .func fd, #[]⟩ := ⟨_, X 28 _ rfl⟩
theorem fn_init (X : (KH w).In h) (self : Value) : Looks (model prog w) h (bindSpecial (.ref 28) self) (.ref 28, [self]) := bind_fn X self (by rfl)
theorem fc : findCls (KH w) (.type "Exception") (.type "type") "__init__" = some (.val (.builtin "Exception.__init__")) := by rfl
theorem subC {base : Value} (X : (KH w).In h) (hb : (Value.ref 44 :: bmC).contains base = true) : Looks (model prog w) h (isSubtype (.ref 44) base) true := fun A Q E s k q => by
  obtain ⟨h', g', d', t', os'⟩ := s
  exact wpAny_isSubtype_exc (k _ _ (atC X)) (by rw [hb]; exact q)
variable {A : Around} {E : Value → Shared → Prop} {g : Array GenState} {d : Drawn} {t : Nat} {os : OsState} {e dx : Addr} {vs : Array Value} {sl : Array (Option Value)} {m : Str → Option Value} {why : Str} {tk : Tok}
theorem get_entry {tk' : Tok} {Q : Fin → Shared → Prop} (X : (KH w).In h) (he : h.get? e = some ⟨.ref 44, some dx, .fields vs, sl⟩) (hn : h.Ns dx m) (hm : m ("why" : Str) = some (.str why tk)) (hq : Q (.done (.ret (.str why tk))) ⟨h, g, d, t, os⟩) :
    wpAny (model prog w) A (Builtin.«object.__getattribute__» ⟨[.ref e, .str "why" tk'], []⟩) Q E ⟨h, g, d, t, os⟩ := by
  have L := lk_why (prog := prog) X
  have hC := atC X
  unfold Builtin.«object.__getattribute__»
  repeat (first | with_reducible refine wpAny_loadPart_at he ?_ | with_reducible refine Looks.at L ?_ | (with_reducible refine wpAny_nsGet hn ?_; rw [hm]) | wp_step)
  exact hq
theorem get_C {expr : Bool} {Q : Value → Shared → Prop} (X : (KH w).In h) (he : h.get? e = some ⟨.ref 44, some dx, .fields vs, sl⟩) (hn : h.Ns dx m) (hm : m ("why" : Str) = some (.str why tk)) (hq : ∀ t', Q (.str why tk) ⟨h, g, d, t', os⟩) :
    wpAny (model prog w) A (getAttr (.ref e) "why" expr) Q E ⟨h, g, d, t, os⟩ := by
  have L1 := lk_ga (prog := prog) X
  have L2 := lk_gah (prog := prog) X
  have f3 := PySem.F.excAttr_ValueError.ga.bind (.ref e)
  have typ : Looks (model prog w) h (typeOf (.ref e)) (.ref 44) := (Looks.ld he).andThen .now
  have hx2 : (Value.builtin "BaseException.__getattribute__" == Value.builtin "object.__getattribute__") = false := by decide +kernel
  have chk : ∀ (Q' E' : Value → Shared → Prop) (t' : Nat), Q' (.str why tk) ⟨h, g, d, t' + 1, os⟩ → wpAny (model prog w) A (call (.builtin "BaseException.__getattribute__") [.ref e, .str "why" t']) Q' E' ⟨h, g, d, t' + 1, os⟩ := fun Q' E' t' hq' => by
    refine wpAny_call (codeAny_call_builtin PySem.F.excAttr_ValueError.ga.plain PySem.F.entry_bexc_ga (@check_slot (model prog w) _ _ ⟨h, g, d, t' + 1, os⟩ "BaseException.__getattribute__" "BaseException" "__getattribute__" (.ref e) [.str "why" t'] [] _ (by decide +kernel) (by decide +kernel) (typ.andThen (subC X (by decide))) (PySem.F.args_bexc_ga _ _) ?_))
    exact get_entry X he hn hm hq'
  unfold getAttr getAttrBy
  refine wpAny_bind (wpAny_mkText (wpAny_holding (wpAny_bind (typ.at (wpAny_bind (L1.at ?_))))))
  show wpAny _ _ (if (onTheHeap (Value.ref 44) && Value.builtin "BaseException.__getattribute__" == Value.builtin "object.__getattribute__") = true then _ else _) _ _ _
  rw [hx2, Bool.and_false, if_neg (by decide)]
  unfold getAttrByItsOwn hookBefore callGetattribute boundAndCalled
  refine wpAny_bind ?_
  show wpAny _ _ (typeLookup (.ref 44) "__getattr__") _ _ _
  refine L2.at (wpAny_bind (wpAny_attempt (wpAny_holding ?_)))
  have hx0 : (expr && onTheHeap (Value.builtin "BaseException.__getattribute__")) = false := by cases expr <;> rfl
  rw [hx0, if_neg (by decide), f3]
  refine wpAny_bind (wpAny_pure (chk _ _ _ ?_))
  exact wpAny_pure (hq _)
end
end Mine
-- E3
namespace Mine
open PySem PySem.W PyProof.Rows PySem.Calls
open Builtin Builtin.ObjectAttr
section
variable {prog : Program} {w : World} {A : Around} {H : Heap} {gl : Str → Option Value} {s : Shared} {e t0 : Addr} {why : Str} {tw : Tok} {R : Result → Shared → Prop}
theorem codeI (X : (KH w).In H) : H.CodeRec (.ref 27) (Str.ofString "WallFault.__init__") := ⟨27, _, _, _, rfl, X 27 _ rfl, rfl, rfl⟩
theorem check_init {M : Model} {h : Heap} {g : Array GenState} {d : Drawn} {t : Nat} {os : OsState} {E : Value → Shared → Prop} {oe : Obj} {rest : List Value} {Q : Unit → Shared → Prop} (X : (KH w).In h)
    (he : h.get? e = some oe) (hcls : oe.cls = .ref 44) (hq : Q () ⟨h, g, d, t, os⟩) : wpAny M A (checkBuiltinCall "Exception.__init__" ⟨.ref e :: rest, []⟩) Q E ⟨h, g, d, t, os⟩ := by
  have F := PySem.F.excBase_Exception
  have hC := atC X
  have hcB : (Value.ref 44 :: bmC).contains (.type "Exception") = true := by decide
  have hshort := F.noStar
  simp only [checkBuiltinCall, F.initKind, F.initSplit, F.initRow]
  repeat (first | (with_reducible refine wpAny_loadPart_at he ?_; rw [hcls]) | with_reducible refine wpAny_loadPart_at hC ?_ | (with_reducible refine wpAny_isSubtype_exc hC ?_; rw [hcB]) | wp_step)
  refine wpAny_onRaise ?_
  rw [show ∀ (a b : String) (n : Nat), Bind.check ⟨.positional, "*", "Exception", .self, [⟨"args", .varPos, false⟩]⟩ a b n (List.map (fun x => x.fst) ({ pos := Value.ref e :: rest } : Args).kw) = pure () from
    fun a b n => check_star_args _ _ _ _ _ _]
  exact wpAny_pure hq
theorem base_init {h : Heap} {g : Array GenState} {d : Drawn} {t : Nat} {os : OsState} {E : Value → Shared → Prop} {Q : Value → Shared → Prop} {v : Value} (X : (KH w).In h)
    (he : h.get? e = some ⟨.ref 44, none, .fields #[.ref t0, .none, .none, .none, .bool false, .none], #[]⟩)
    (hq : ∀ h' t1, h'.get? e = some ⟨.ref 44, none, .fields #[.ref t1, .none, .none, .none, .bool false, .none], #[]⟩ → (∀ b o, b ≠ e → h.get? b = some o → h'.get? b = some o) → Q .none ⟨h', g, d, t, os⟩) :
    wpAny (model prog w) A (call (.builtin "Exception.__init__") [.ref e, v]) Q E ⟨h, g, d, t, os⟩ := by
  have F := PySem.F.excBase_Exception
  refine wpAny_call (codeAny_call_builtin F.init.plain F.initEntry (check_init X he rfl ?_))
  unfold Builtin.«BaseException.__init__»
  have he' := Heap.get?_push_of_some { cls := .type "tuple", data := .seq [v].toArray } he
  wp_walk
  refine hq _ h.objs.size ?_ fun b o hb q => ?_
  · rw [Heap.get?_update_self _ he' rfl]
    rfl
  · rw [Heap.get?_update_other _ _ (Ne.symm hb)]
    exact Heap.get?_push_of_some _ q
theorem find_C {h : Heap} {g : Array GenState} {d : Drawn} {t : Nat} {os : OsState} {E : Value → Shared → Prop} {Q : Unit → Shared → Prop} {name : Str} {v : Value} {mA : Str → Option Value} {ns : List Str} (X : (KH w).In h)
    (hL : Looks (model prog w) h (typeLookup (.ref 44) name) none) (hx : e ≠ 44) (I : h.InstFk e 44 mA) (hw : Within mA ns) (hsz : ns.length ≤ 1000)
    (hq : ∀ h' tk', h'.InstFk e 44 (fun y => if y = name then some v else mA y) →
      (∀ b o, b ≠ e → (∀ o₀ dx, h.get? e = some o₀ → o₀.dict = some dx → b ≠ dx) → h.get? b = some o → h'.get? b = some o) →
      (∀ o₀, h.get? e = some o₀ → ∃ o₁, h'.get? e = some o₁ ∧ o₁.cls = o₀.cls ∧ o₁.data = o₀.data ∧ o₁.slots = o₀.slots ∧ (∀ dx, o₀.dict = some dx → o₁.dict = some dx) ∧ (o₀.dict = none → ∃ dx, o₁.dict = some dx ∧ h.get? dx = none)) → Q () ⟨h', g, d, tk', os⟩) :
    wpAny (model prog w) A (setAttr (.ref e) name v) Q E ⟨h, g, d, t, os⟩ :=
  e_set passC (by decide) (atC X) (lk_set X) hL hx I hq hw hsz
/-- the body of the one method of the text's first class -/
noncomputable def initB : List Stmt := (defParts (stmtAt (clsBody (topAt 1)) 0)).2.2.1
theorem init_body {env : Env} {E : Value → Shared → Prop} {Q : Flow → Shared → Prop} {h h0 : Heap} {g : Array GenState} {d : Drawn} {t : Nat} {os : OsState} {m : Str → Option Value} (hk : env.scope.kind = .function) (k1 : env.kindOf "self" = some .local) (k2 : env.kindOf "why" = some .local) (k3 : env.kindOf "Exception" = some .globalImplicit)
    (eg : env.globals = mainGlobals) (eb : env.builtins = builtinsNs) (G : GlobOk H gl) (hE : gl "Exception" = some (.type "Exception")) (X : (KH w).In H) (kH : Kp H h0) (F : Fr h0 env.locals h m) (m1 : m "self" = some (.ref e)) (m2 : m "why" = some (.str why tw))
    (he : h0.get? e = some ⟨.ref 44, none, .fields #[.ref t0, .none, .none, .none, .bool false, .none], #[]⟩) (heH : H.get? e = none)
    (hQ : ∀ h' tk, (∀ b o, b ≠ e → h0.get? b = some o → h'.get? b = some o) → (∃ dx sl vs m t, h'.get? e = some ⟨.ref 44, some dx, .fields vs, sl⟩ ∧ h0.get? dx = none ∧ h'.Ns dx m ∧ m ("why" : Str) = some (.str why t) ∧ vs[1]? = some .none) → Q .next ⟨h', g, d, tk, os⟩) :
    wpAny (model prog w) A (PySem.execs initB env) Q E ⟨h, g, d, t, os⟩ := by
  have e44 : e ≠ 44 := fun z => by subst z; rw [X 44 _ rfl] at heH; cases heH
  have fC : findCls (KH w) (.type "Exception") (.type "type") "__init__" = some (.val (.builtin "Exception.__init__")) := fc
  have XH : (KH w).In h0 := X.keeps kH
  have kh : Kp H h := fun b o q => F.keep b o (kH b o q)
  have heL : e ≠ env.locals := fun z => by subst z; exact absurd (Nat.lt_of_lt_of_le (Heap.lt_size he) F.above) (Nat.lt_irrefl _)
  have name : ∀ {x : Str} {p : Pos} {v : Value} {h1 : Heap} {t1 : Nat} {mm : Str → Option Value} {Q : Value → Shared → Prop} {E : Value → Shared → Prop}, h1.Ns env.locals mm → env.kindOf x = some .local → mm x = some v → (x == ("__debug__" : Str)) = false → Q v ⟨h1, g, d, t1, os⟩ → wpAny (model prog w) A (PySem.eval (.Name x p) env) Q E ⟨h1, g, d, t1, os⟩ := fun n kx mx dx q =>
    wpAny_Name (wpAny_loadName_local (s := ⟨_, g, d, _, os⟩) hk kx n mx q) dx
  obtain ⟨mg, mb, hg, hb, hr⟩ := G
  refine wpAny_execs_cons (wpAny_Expr_any (methodCall_KW (Name_function_global hk k3 ?_ (by decide))) (by unfold interactive; rw [hk]; rfl) rfl)
  have nameE : ∀ {Q : Value → Shared → Prop}, Q (.type "Exception") ⟨h, g, d, t, os⟩ → wpAny (model prog w) A (loadGlobal env "Exception") Q E ⟨h, g, d, t, os⟩ := fun q => by
    rcases hr _ _ hE with z | ⟨z, z'⟩
    · exact loadGlobal_global (s := ⟨h, g, d, t, os⟩) (by rw [eg]; exact hg.keeps kh) z q
    · exact loadGlobal_builtin (s := ⟨h, g, d, t, os⟩) (by rw [eg]; exact hg.keeps kh) z (by rw [eb]; exact hb.keeps kh) z' q
  refine nameE (method_type (s := ⟨h, g, d, t, os⟩) F XH (by kernel_rfl) (by decide +kernel) fC rfl ?_)
  dsimp only
  refine Calls.callWith_builtin rfl (Calls.evalArgs_plain (Calls.spliced_cons (name F.ns k1 m1 (by decide) (Calls.spliced_cons (name F.ns k2 m2 (by decide) (Calls.spliced_nil ?_))))))
  refine base_init (XH.keeps F.keep) (F.keep _ _ he) fun h1 t1 he1 kp1 => ?_
  have n1 : h1.Ns env.locals m := F.ns.at' fun o q => kp1 _ _ (fun z => heL z.symm) q
  have X1 : (KH w).In h1 := fun b o q => kp1 b o (fun z => by subst z; rw [X _ _ q] at heH; cases heH) (F.keep _ _ (kH _ _ (X _ _ q)))
  refine wpAny_execs_cons (plainObj_wpAny_Assign_Attribute (name n1 k2 m2 (by decide) (name n1 k1 m1 (by decide) ?_)))
  refine find_C (ns := []) X1 (lk_why X1) e44 ⟨_, he1, rfl, fun c q => (by cases q), .inl ⟨rfl, fun _ => rfl⟩⟩ (mA := fun _ => none) (fun y q => absurd rfl q) (by simp) fun h2 tk2 I2 kp2 same2 => ?_
  obtain ⟨o2, he2, c2, d2, s2, _, dn2⟩ := same2 _ he1
  obtain ⟨dx, hdx, hdx1⟩ := dn2 rfl
  have kp2' : ∀ b o, b ≠ e → h1.get? b = some o → h2.get? b = some o := fun b o hb q => kp2 b o hb (fun o₀ dx' e0 e1 => by rw [he1] at e0; cases e0; cases e1) q
  have n2 : h2.Ns env.locals m := n1.at' fun o q => kp2' _ _ (fun z => heL z.symm) q
  have X2 : (KH w).In h2 := fun b o q => kp2' b o (fun z => by subst z; rw [X _ _ q] at heH; cases heH) (X1 _ _ q)
  refine wpAny_execs_cons (plainObj_wpAny_Assign_Attribute (Ev.negI (Ev.cInt (O := fun _ => False) 1 0) E _ fun u s3 k3' r3 => ?_))
  obtain ⟨t3, rfl⟩ := r3.intE
  obtain ⟨h3, tk3, rfl, kp3⟩ := k3'
  dsimp only at kp3 ⊢
  have n3 : h3.Ns env.locals m := n2.keeps kp3
  refine name n3 k1 m1 (by decide) ?_
  have X3 := X2.keeps kp3
  have he3 := kp3 _ _ he2
  have I3 : h3.InstFk e 44 (fun y => if y = ("why" : Str) then some (.str why tw) else none) := by
    obtain ⟨o, q1, q2, q3, q4⟩ := I2
    refine ⟨o, kp3 _ _ q1, q2, q3, q4.imp id fun ⟨dd, r1, r2, r3, r4⟩ => ⟨dd, r1, r2, r3.at fun o q => kp3 _ _ q, r4.keeps kp3⟩⟩
  refine find_C (ns := ["why"]) X3 (lk_at X3) e44 I3 (fun y q => ?_) (by simp) fun h4 tk4 I4 kp4 same4 => wpAny_execs_nil ?_
  · by_cases z : y = ("why" : Str)
    · subst z; exact .head _
    · exact absurd (by simp [z]) q
  obtain ⟨o4, he4, c4, d4, s4, dn4, _⟩ := same4 _ he3
  have od4 := dn4 dx hdx
  have dxe : dx ≠ e := fun z => by subst z; rw [he1] at hdx1; cases hdx1
  refine hQ h4 tk4 (fun b o hb q => ?_) ?_
  · have q1 := kp1 b o hb (F.keep b o q)
    refine kp4 b o hb (fun o₀ dx' e0 e1 z => ?_) (kp3 _ _ (kp2' b o hb q1))
    rw [he3] at e0; cases e0
    rw [hdx] at e1; cases e1
    subst z
    rw [hdx1] at q1; cases q1
  · obtain ⟨oc, od, odt, osl⟩ := o4
    dsimp only at c4 d4 od4
    subst od4
    rw [c2] at c4
    rw [d2] at d4
    subst c4; subst d4
    obtain ⟨o5, q1, q2, q3, q4⟩ := I4
    rw [he4] at q1
    cases q1
    rcases q4 with ⟨q4, _⟩ | ⟨dd, r1, r2, r3, r4⟩
    · cases q4
    · cases r1
      refine ⟨dx, osl, _, _, tw, he4, ?_, r3.ns, ?_, rfl⟩
      · cases q : h0.get? dx with
        | none => rfl
        | some o => have := kp1 dx o dxe (F.keep _ _ q); rw [hdx1] at this; cases this
      · have : ("why" : Str) ≠ ("at" : Str) := by decide
        simp [this]
theorem init_call {gl : Str → Option Value} (G : GlobOk H gl) (hE : gl "Exception" = some (.type "Exception")) (lim : H.NoLimit) (X : (KH w).In H) (kH : Kp H s.heap)
    (he : s.heap.get? e = some ⟨.ref 44, none, .fields #[.ref t0, .none, .none, .none, .bool false, .none], #[]⟩) (heH : H.get? e = none) (hroom : A.depth < 999)
    (hR : ∀ h' tk, (∀ b o, b ≠ e → s.heap.get? b = some o → h'.get? b = some o) → (∃ dx sl vs m t, h'.get? e = some ⟨.ref 44, some dx, .fields vs, sl⟩ ∧ s.heap.get? dx = none ∧ h'.Ns dx m ∧ m ("why" : Str) = some (.str why t) ∧ vs[1]? = some .none) →
      R (.ok (.ret .none)) { s with heap := h', toks := tk }) :
    codeAny (model prog w) A (.call (.ref 28) ⟨[.ref e, .str why tw], []⟩) R s := by
  refine codeAny_call_def (binds := [("self", .ref e), ("why", .str why tw)]) (by show A.depth < 1000; omega) (kH _ _ (X 28 _ rfl)) rfl (lim.keeps kH) ((codeI X).keeps kH) rfl (BindsTo.of_eq rfl) (by decide) (fun x hx => ?_) (fun h₁ hns hk₁ => ?_) rfl rfl rfl
  · rcases List.mem_cons.mp hx with rfl | hx
    · rfl
    · rcases List.mem_cons.mp hx with rfl | hx
      · rfl
      · cases hx
  · refine init_body (t0 := t0) rfl rfl rfl rfl rfl rfl G hE X kH ⟨hns, hk₁, Nat.le_refl _⟩ rfl rfl he heH fun h' tk k1 k2 => hR h' tk k1 k2
end
end Mine
-- E4
namespace Mine
open PySem PySem.W PyProof.Rows PySem.Calls
open Builtin Builtin.ObjectAttr
section
variable {prog : Program} {w : World} {A : Around} {H h : Heap} {gl : Str → Option Value} {why : Str} {tw : Tok} {R : Result → Shared → Prop} {g : Array GenState} {d : Drawn} {t : Nat} {os : OsState} {E : Value → Shared → Prop}
theorem check_new {M : Model} {rest : List Value} {Q : Unit → Shared → Prop} (X : (KH w).In h) (hq : Q () ⟨h, g, d, t, os⟩) : wpAny M A (checkBuiltinCall "Exception.__new__" ⟨.ref 44 :: rest, []⟩) Q E ⟨h, g, d, t, os⟩ := by
  have Fn := PySem.F.excBase_Exception
  have hC := atC X
  have hcont : (Value.ref 44 :: bmC).contains (.type "Exception") = true := by decide
  have hstar := Fn.noStar
  simp only [checkBuiltinCall, Fn.newKind, Fn.newSplit, Fn.newRow]
  repeat (first | refine wpAny_loadPart_at hC ?_ | (refine wpAny_isSubtype_exc hC ?_; rw [hcont]) | refine wpAny_staticBase_exc hC ?_ | refine wpAny_madeBy_exc hC ?_ | simp only [bne_self_eq_false, Bool.false_eq_true, if_false] | wp_step)
  exact hq
theorem new_C {rest : List Value} (X : (KH w).In h)
    (hq : R (.ok (.ret (.ref (h.objs.size + 1)))) ⟨(h.push { cls := .type "tuple", data := .seq rest.toArray }).push
      { cls := .ref 44, data := .fields #[.ref h.objs.size, .none, .none, .none, .bool false, .none] }, g, d, t, os⟩) (hrest : rest.length ≤ sizeLine) :
    codeAny (model prog w) A (.builtin "Exception.__new__" ⟨.ref 44 :: rest, []⟩) R ⟨h, g, d, t, os⟩ := by
  have Fn := PySem.F.excBase_Exception
  have hends := Fn.ends
  have hC := atC X
  have hcB : (Value.ref 44 :: bmC).contains (.type "Exception") = true := by decide
  have hcA : (Value.ref 44 :: bmC).contains (.type "AttributeError") = false := by decide
  have hcN : (Value.ref 44 :: bmC).contains (.type "NameError") = false := by decide
  refine codeAny_builtinAt Fn.entry ?_
  unfold Builtin.«BaseException.__new__»
  refine PySem.wpAt_bind ?_
  show PySem.wpAt _ _ _ (stack >>= _) _ _ _
  refine PySem.wpAt_bind (PySem.wpAt_stack fun p below => PySem.wpAt_of_wpAny ?_)
  wp_walk
  refine PySem.wpAt_of_wpAny ?_
  rw [Fn.owner]
  repeat (first | with_reducible refine wpAny_madeHere_exc Fn.canon hC ?_ | with_reducible refine wpAny_loadPart_at hC ?_ | (with_reducible refine wpAny_isSubtype_exc hC ?_; first | rw [hcB] | rw [hcA] | rw [hcN]) | wp_step)
  show R _ _
  rw [Heap.size_push]
  exact hq
theorem call_C (G : GlobOk H gl) (hE : gl "Exception" = some (.type "Exception")) (lim : H.NoLimit) (X : (KH w).In H) (kH : Kp H h) (hroom : A.depth < 998)
    (hR : ∀ e h' tk, Kp h h' → NewE 44 why h h' e → R (.ok (.ret (.ref e))) ⟨h', g, d, tk, os⟩) :
    codeAny (model prog w) A (.call (.ref 44) ⟨[.str why tw], []⟩) R ⟨h, g, d, t, os⟩ := by
  have Xh := X.keeps kH
  have hC := atC Xh
  have call : Looks (model prog w) h (specialOf (.ref 44) "__call__") (some (.builtin "type.__call__")) := looks_specialIn Xh (by rfl)
  have typ : Looks (model prog w) h (isInstance (.ref 44) (.type "type")) true := looks_instIn Xh (by rfl)
  refine codeAny_of_tree ?_
  show wpAny _ _ (callAny (.ref 44) _) _ _ _
  refine nd_load hC ?_
  show wpAny _ _ (callAny.viaDunder (.ref 44) _) _ _ _
  unfold callAny.viaDunder
  refine wpAny_bind (call.at ?_)
  dsimp only
  rw [PySem.tc_bind]
  refine wpAny_bind (wpAny_pure (wpAny_bind (wpAny_pure ?_)))
  refine wpAny_pure (a := Fin.again (.call (.builtin "type.__call__") ⟨[.ref 44, .str why tw], []⟩)) (And.intro rfl ?_)
  refine codeAny_call_builtin_at (Code.quiet_builtin _ (by decide +kernel)) entry_typeCall (check_slot tc_kind tc_split typ (tc_args _ _ _) ?_)
  unfold Builtin.«type.__call__»
  repeat (first | with_reducible refine wpAny_loadPart_at hC ?_ | with_reducible refine wpAny_madeBy_exc hC ?_ | wp_step)
  refine codeAny_call_builtin_code (Code.quiet_builtin _ PySem.F.excBase_Exception.quiet) (check_new Xh ?_)
  refine new_C Xh ?_ (by rw [sizeLine_eq]; simp)
  show wpAny _ _ _ _ _ _
  generalize hH1 : ((h.push { cls := .type "tuple", data := .seq [Value.str why tw].toArray }).push { cls := .ref 44, data := .fields #[.ref h.objs.size, .none, .none, .none, .bool false, .none] }) = h1
  have k1 : Kp h h1 := fun b o q => by rw [← hH1]; exact Heap.get?_push_of_some _ (Heap.get?_push_of_some _ q)
  have he : h1.get? (h.objs.size + 1) = some ⟨.ref 44, none, .fields #[.ref h.objs.size, .none, .none, .none, .bool false, .none], #[]⟩ := by rw [← hH1]; heap_get
  have hen : h.get? (h.objs.size + 1) = none := Heap.get?_none_of_le (Nat.le_succ _)
  generalize h.objs.size + 1 = e at he hen ⊢
  have X1 := Xh.keeps k1
  have ty : Looks (model prog w) h1 (typeOf (.ref e)) (.ref 44) := (Looks.ld he).andThen .now
  have s1 := subC (prog := prog) (base := .ref 44) X1 (by decide)
  have i1 := lk_init (prog := prog) X1
  have b1 := fn_init (prog := prog) X1 (.ref e)
  unfold isInstance callSpecial? specialOf
  repeat (first | with_reducible refine wpAny_call ?_ | lk)
  refine codeAny_mono (init_call (A := A.under (.builtin "type.__call__" ⟨[.ref 44, .str why tw], []⟩)) (s := ⟨h1, g, d, t, os⟩) G hE lim X (fun b o q => k1 b o (kH b o q)) he (kp_none kH hen) (by rw [depth_under_make]; omega) (R := fun r s' => r = .ok (.ret .none) ∧ R (.ok (.ret (.ref e))) s') fun h' tk kp qq => ⟨rfl, ?_⟩) fun r s' z => ?_
  · obtain ⟨dx, sl, vs, m, t', q1, q2, q3, q4, q5⟩ := qq
    refine hR e h' tk (fun b o q => kp b o (fun z => by subst z; exact nomatch hen.symm.trans q) (k1 b o q)) ⟨hen, dx, sl, vs, q1, kp_none k1 q2, ⟨m, t', q3, q4⟩, q5⟩
  · obtain ⟨rfl, z⟩ := z
    exact wpAny_pure (wpAny_pure z)
end
end Mine
-- E5
namespace Mine
open PySem PySem.W PyProof.Rows PySem.Calls
open Builtin Builtin.ObjectAttr
noncomputable abbrev whyC : Str := Str.ofString "conflicting intervals specified"
section
variable {prog : Program} {w : World} {A : Around} {H h : Heap} {gl : Str → Option Value} {s : Shared} {E : Value → Shared → Prop} {env : Env}
theorem glob {x : Str} {v : Value} {p : Pos} {Q : Value → Shared → Prop} (G : GlobOk H gl) (kH : Kp H s.heap) (hk : env.scope.kind = .function) (kx : env.kindOf x = some .globalImplicit) (eg : env.globals = mainGlobals) (eb : env.builtins = builtinsNs) (hv : gl x = some v) (hx : (x == ("__debug__" : Str)) = false)
    (hQ : Q v s) : wpAny (model prog w) A (PySem.eval (.Name x p) env) Q E s := by
  obtain ⟨mg, mb, hg, hb, hr⟩ := G
  refine Name_function_global hk kx ?_ hx
  rcases hr _ _ hv with z | ⟨z, z'⟩
  · exact loadGlobal_global (by rw [eg]; exact hg.keeps kH) z hQ
  · exact loadGlobal_builtin (by rw [eg]; exact hg.keeps kH) z (by rw [eb]; exact hb.keeps kH) z' hQ
theorem conflict_body {Q : Flow → Shared → Prop} {p1 p2 p3 p4 : Pos} {k : Nat} (G : GlobOk H gl) (hE : gl "Exception" = some (.type "Exception")) (hB : gl "BadRule" = some (.ref 44)) (lim : H.NoLimit) (X : (KH w).In H) (kH : Kp H s.heap) (hroom : A.depth < 998)
    (hk : env.scope.kind = .function) (kx : env.kindOf "BadRule" = some .globalImplicit) (eg : env.globals = mainGlobals) (eb : env.builtins = builtinsNs)
    (hQ : ∀ e h' tk, Kp s.heap h' → NewE 44 whyC s.heap h' e → Q (.ret (.ref e)) { s with heap := h', toks := tk }) :
    wpAny (model prog w) A (PySem.execs [.Return (some (.Call (.Name "BadRule" p1) [.Constant (.str whyC) k p2] [] p3)) p4] env) Q E s := by
  refine wpAny_execs_cons (wpAny_Return_some ?_)
  refine Call_ (he := rfl) (glob G kH hk kx eg eb hB (by decide) ?_)
  refine callWith_of (P := fun h => (KH w).In h) rfl (keeps_K (by rfl)) (Calls.evalArgs_plain (Calls.spliced_cons (wpAny_Constant_str (k := k) (pos := p2) (Calls.spliced_nil ⟨X.keeps kH, ?_⟩))))
  refine wpAny_call (call_C (h := s.heap) (t := s.toks + 1) G hE lim X kH hroom fun e h' tk k x => ?_)
  exact hQ e h' tk k x
theorem codeF (X : (KH w).In H) : H.CodeRec (.ref 59) (Str.ofString "conflict") := ⟨59, _, _, _, rfl, X 59 _ rfl, rfl, rfl⟩
theorem conflict_call {R : Result → Shared → Prop} (G : GlobOk H gl) (hE : gl "Exception" = some (.type "Exception")) (hB : gl "BadRule" = some (.ref 44)) (lim : H.NoLimit) (X : (KH w).In H) (kH : Kp H s.heap) (hroom : A.depth < 997)
    (hR : ∀ e h' tk, Kp s.heap h' → NewE 44 whyC s.heap h' e → R (.ok (.ret (.ref e))) { s with heap := h', toks := tk }) :
    codeAny (model prog w) A (.call (.ref 60) ⟨[], []⟩) R s := by
  refine codeAny_call_def (binds := []) (by show A.depth < 1000; omega) (kH _ _ (X 60 _ rfl)) rfl (lim.keeps kH) ((codeF X).keeps kH) rfl (BindsTo.of_eq rfl) (by decide) (fun x hx => nomatch hx) (fun h₁ hns hk₁ => ?_) rfl rfl rfl
  refine conflict_body (s := { s with heap := h₁, toks := _ }) G hE hB lim X (fun b o q => hk₁ b o (kH b o q)) (by show A.depth + 1 < 998; omega) rfl rfl rfl rfl fun e h' tk k x => ?_
  obtain ⟨x1, dx, sl, vs, x2, x3, x4⟩ := x
  exact hR e h' tk (fun b o q => k b o (hk₁ b o q)) ⟨kp_none hk₁ x1, dx, sl, vs, x2, kp_none hk₁ x3, x4⟩
theorem raise_stmt {x : Sem Value} {Q : Flow → Shared → Prop} (hh : A.handled = none)
    (h : wpAny (model prog w) A x (fun v s₁ => ∃ e dx vs sl, v = .ref e ∧ (KH w).In s₁.heap ∧ s₁.heap.get? e = some ⟨.ref 44, some dx, .fields vs, sl⟩ ∧ vs[1]? = some .none ∧ E (.ref e) s₁) E s) :
    wpAny (model prog w) A (raiseStmt env (some x) none) Q E s := by
  have hcB : (Value.ref 44 :: bmC).contains (.type "BaseException") = true := by decide
  unfold raiseStmt
  refine wpAny_bind (wpAny_mono h (fun v s₁ h₁ => ?_) fun _ _ x => x)
  obtain ⟨e, dx, vs, sl, rfl, X, he, h1, hE⟩ := h₁
  obtain ⟨hp, g, d, tk, os⟩ := s₁
  have hC := atC X
  have fld : ∀ {Q' : Value → Shared → Prop} {E' : Value → Shared → Prop}, Q' .none ⟨hp, g, d, tk, os⟩ → wpAny (model prog w) A (field (.ref e) 1) Q' E' ⟨hp, g, d, tk, os⟩ := fun q => wpAny_field (s := ⟨hp, g, d, tk, os⟩) he rfl h1 q
  repeat (first | with_reducible refine fld ?_ | with_reducible refine wpAny_loadPart_at he ?_ | with_reducible refine wpAny_loadPart_at hC ?_ | (with_reducible refine wpAny_isSubtype_exc hC ?_; rw [hcB]) | wp_step)
  exact wpAny_raiseNew_none hh hE
theorem boom {p q r : Pos} {Q : Flow → Shared → Prop} (hh : A.handled = none) (G : GlobOk H gl) (hE : gl "Exception" = some (.type "Exception")) (hB : gl "BadRule" = some (.ref 44)) (hF : gl "conflict" = some (.ref 60)) (lim : H.NoLimit) (X : (KH w).In H) (kH : Kp H s.heap) (hroom : A.depth < 997)
    (hk : env.scope.kind = .function) (kx : env.kindOf "conflict" = some .globalImplicit) (eg : env.globals = mainGlobals) (eb : env.builtins = builtinsNs)
    (hQ : ∀ e h' tk, Kp s.heap h' → NewE 44 whyC s.heap h' e → E (.ref e) { s with heap := h', toks := tk }) :
    wpAny (model prog w) A (PySem.exec (.Raise (some (.Call (.Name "conflict" p) [] [] q)) none r) env) Q E s := by
  rw [arm_exec_Raise]
  have inner : wpAny (model prog w) A (PySem.eval (.Call (.Name "conflict" p) [] [] q) env) (fun v s₁ => ∃ e dx vs sl, v = .ref e ∧ (KH w).In s₁.heap ∧ s₁.heap.get? e = some ⟨.ref 44, some dx, .fields vs, sl⟩ ∧ vs[1]? = some .none ∧ E (.ref e) s₁) E s := by
    refine Call_ (he := rfl) (glob G kH hk kx eg eb hF (by decide) ?_)
    refine callWith_of (P := fun h => (KH w).In h) rfl (keeps_K (by rfl)) (evalArgs_kw_nil rfl (wpAny_evalAll_nil ⟨X.keeps kH, ?_⟩))
    refine wpAny_call (conflict_call G hE hB lim X kH hroom fun e h' tk k x => ?_)
    obtain ⟨x1, dx, sl, vs, x2, x3, x4, x5⟩ := id x
    exact ⟨e, dx, vs, sl, rfl, X.keeps fun b o z => k b o (kH b o z), x2, x5, hQ e h' tk k x⟩
  first
    | exact wpAny_bind (wpAny_standAt (raise_stmt hh (wpAny_bind (wpAny_mono inner (fun v s₁ h₁ => wpAny_bind (wpAny_standAt (wpAny_pure h₁))) fun _ _ x => x))))
    | (simp only [evalOpt, Option.map]; exact wpAny_bind (wpAny_standAt (raise_stmt hh (wpAny_bind (wpAny_mono inner (fun v s₁ h₁ => wpAny_bind (wpAny_standAt (wpAny_pure h₁))) fun _ _ x => x)))))
    | (show wpAny _ A (do standAt r; raiseStmt env (some (do let v ← PySem.eval (.Call (.Name "conflict" p) [] [] q) env; standAt r; pure v)) none) Q E s; exact wpAny_bind (wpAny_standAt (raise_stmt hh (wpAny_bind (wpAny_mono inner (fun v s₁ h₁ => wpAny_bind (wpAny_standAt (wpAny_pure h₁))) fun _ _ x => x)))))
end
end Mine
-- C1
namespace Mine
open PySem PySem.W PyProof.Rows PySem.Calls
noncomputable def nmL (L : List Str) (i : Nat) : Str := match L[i]? with
  | some x => x
  | none => ⟨#[0, i]⟩
theorem nmL_ok (L : List Str) (h1 : L.Nodup) (h2 : ∀ x ∈ L, x.cps[0]? ≠ some 0 ∧ (x == ("__debug__" : Str)) = false ∧ (x == ("__classdict__" : Str)) = false) : NmInj (nmL L) := by
  have out : ∀ i, (∃ x, L[i]? = some x ∧ nmL L i = x ∧ x ∈ L) ∨ (L[i]? = none ∧ nmL L i = ⟨#[0, i]⟩) := fun i => by
    unfold nmL
    cases h : L[i]? with
    | some x => exact .inl ⟨x, rfl, rfl, List.mem_of_getElem? h⟩
    | none => exact .inr ⟨rfl, rfl⟩
  refine ⟨fun i => ?_, fun i j e => ?_⟩
  · rcases out i with ⟨x, _, e, m⟩ | ⟨_, e⟩
    · rw [e]; exact (h2 x m).2
    · rw [e]
      constructor
      · rw [beq_eq_false_iff_ne]; intro q
        have := congrArg (fun s : Str => s.cps[0]?) q
        revert this; simp only; intro this
        have h0 : (("__debug__" : Str)).cps[0]? = some 95 := by decide
        rw [h0] at this; simp at this
      · rw [beq_eq_false_iff_ne]; intro q
        have := congrArg (fun s : Str => s.cps[0]?) q
        revert this; simp only; intro this
        have h0 : (("__classdict__" : Str)).cps[0]? = some 95 := by decide
        rw [h0] at this; simp at this
  · rcases out i with ⟨x, hi, e1, m1⟩ | ⟨hi, e1⟩ <;> rcases out j with ⟨y, hj, e2, m2⟩ | ⟨hj, e2⟩
    · rw [e1, e2] at e
      subst e
      have li : i < L.length := by
        rcases Nat.lt_or_ge i L.length with q | q
        · exact q
        · rw [List.getElem?_eq_none q] at hi; cases hi
      exact (List.getElem?_inj li h1).mp (hi.trans hj.symm)
    · rw [e1, e2] at e
      subst e
      exact absurd (by simp) (h2 _ m1).1
    · rw [e1, e2] at e
      subst e
      exact absurd (by simp) (h2 _ m2).1
    · rw [e1, e2] at e
      simpa using e
noncomputable def fnN : Nat → Str := nmL [Str.ofString "boxes_meet", Str.ofString "without_repeats", Str.ofString "is_for_joining", Str.ofString "joined", Str.ofString "check_apart", Str.ofString "tidy_set", Str.ofString "_law_digit", Str.ofString "_law_data", Str.ofString "_law_told", Str.ofString "_law_line", Str.ofString "_law_plane", Str.ofString "_law_has", Str.ofString "_law_runs", Str.ofString "_law_due", Str.ofString "law"]
noncomputable def nm_boxes_meet : Nat → Str := nmL [Str.ofString "a", Str.ofString "b", Str.ofString "place"]
noncomputable def ss_boxes_meet : SS := (.cons (.for_ [2] (.range (.len (.var 0))) (.cons (.ite (.or (.cmp .Gt (.idx (.idx (.var 0) (.var 2)) (.lit (.int 0))) (.idx (.idx (.var 1) (.var 2)) (.lit (.int 1)))) (.cmp .Gt (.idx (.idx (.var 1) (.var 2)) (.lit (.int 0))) (.idx (.idx (.var 0) (.var 2)) (.lit (.int 1))))) (.cons (.ret (.lit (.bool false))) .nil) .nil) .nil)) (.cons (.ret (.lit (.bool true))) .nil))
noncomputable def nm_without_repeats : Nat → Str := nmL [Str.ofString "elements", Str.ofString "pairs", Str.ofString "number", Str.ofString "found", Str.ofString "box"]
noncomputable def ss_without_repeats : SS := (.cons (.own 1 .nil) (.cons (.for_ [2] (.range (.len (.var 0))) (.cons (.app 1 (.tup (.cons (.idx (.idx (.var 0) (.var 2)) (.lit (.int 0))) (.cons (.var 2) .nil)))) .nil)) (.cons (.own 3 .nil) (.cons (.for_ [4, 2] (.seq (.sorted (.var 1))) (.cons (.ite (.or (.not (.val (.var 3))) (.ne (.idx (.idx (.var 3) (.neg (.lit (.int 1)))) (.lit (.int 0))) (.var 4))) (.cons (.app 3 (.idx (.var 0) (.var 2))) .nil) (.cons (.ite (.ne (.idx (.idx (.var 3) (.neg (.lit (.int 1)))) (.lit (.int 1))) (.idx (.idx (.var 0) (.var 2)) (.lit (.int 1)))) (.cons .raise .nil) .nil) .nil)) .nil)) (.cons (.frz 3) (.cons (.ret (.var 3)) .nil))))))
noncomputable def nm_is_for_joining : Nat → Str := nmL [Str.ofString "literals", Str.ofString "is_ranged", Str.ofString "literal"]
noncomputable def ss_is_for_joining : SS := (.cons (.set 1 (.lit (.bool false))) (.cons (.for_ [2] (.seq (.var 0)) (.cons (.ite (.or (.cmp .NotEq (.len (.idx (.var 2) (.lit (.int 0)))) (.lit (.int 1))) (.notN (.idx (.var 2) (.lit (.int 1))))) (.cons (.ret (.lit (.bool false))) .nil) .nil) (.cons (.ite (.cmp .NotEq (.idx (.idx (.idx (.var 2) (.lit (.int 0))) (.lit (.int 0))) (.lit (.int 0))) (.idx (.idx (.idx (.var 2) (.lit (.int 0))) (.lit (.int 0))) (.lit (.int 1)))) (.cons (.set 1 (.lit (.bool true))) .nil) .nil) .nil))) (.cons (.ret (.var 1)) .nil)))
noncomputable def nm_joined : Nat → Str := nmL [Str.ofString "literals", Str.ofString "found", Str.ofString "literal", Str.ofString "low", Str.ofString "high", Str.ofString "first", Str.ofString "last"]
noncomputable def ss_joined : SS := (.cons (.own 1 .nil) (.cons (.for_ [2] (.seq (.var 0)) (.cons (.set2 3 4 (.idx (.idx (.var 2) (.lit (.int 0))) (.lit (.int 0)))) (.cons (.ite (.and (.val (.var 1)) (.cmp .LtE (.var 3) (.bin .Add (.idx (.idx (.idx (.idx (.var 1) (.neg (.lit (.int 1)))) (.lit (.int 0))) (.lit (.int 0))) (.lit (.int 1))) (.lit (.int 1))))) (.cons (.set2 5 6 (.idx (.idx (.idx (.var 1) (.neg (.lit (.int 1)))) (.lit (.int 0))) (.lit (.int 0)))) (.cons (.last 1 (.tup (.cons (.tup (.cons (.tup (.cons (.var 5) (.cons (.max2 (.var 6) (.var 4)) .nil))) .nil)) (.cons (.lit .none) (.cons (.lit (.int 0)) (.cons (.lit (.str (Str.ofString ""))) .nil)))))) .nil)) (.cons (.app 1 (.var 2)) .nil)) .nil))) (.cons (.ret (.tupOf (.var 1))) .nil)))
noncomputable def nm_check_apart : Nat → Str := nmL [Str.ofString "literals", Str.ofString "first", Str.ofString "box", Str.ofString "other"]
noncomputable def ss_check_apart : SS := (.cons (.for_ [1] (.range (.len (.var 0))) (.cons (.set 2 (.idx (.idx (.var 0) (.var 1)) (.lit (.int 0)))) (.cons (.set 3 (.bin .Add (.var 1) (.lit (.int 1)))) (.cons (.while_ (.and (.cmp .Lt (.var 3) (.len (.var 0))) (.cmp .LtE (.idx (.idx (.idx (.idx (.var 0) (.var 3)) (.lit (.int 0))) (.lit (.int 0))) (.lit (.int 0))) (.idx (.idx (.var 2) (.lit (.int 0))) (.lit (.int 1))))) (.cons (.ite (.val (.call 0 (.cons (.var 2) (.cons (.idx (.idx (.var 0) (.var 3)) (.lit (.int 0))) .nil)))) (.cons .raise .nil) .nil) (.cons (.inc 3 (.lit (.int 1))) .nil))) .nil)))) .nil)
noncomputable def nm_tidy_set : Nat → Str := nmL [Str.ofString "elements", Str.ofString "literals"]
noncomputable def ss_tidy_set : SS := (.cons (.get 1 1 (.cons (.var 0) .nil)) (.cons (.ite (.val (.call 2 (.cons (.var 1) .nil))) (.cons (.ret (.call 3 (.cons (.var 1) .nil))) .nil) .nil) (.cons (.run 4 (.cons (.var 1) .nil)) (.cons (.ret (.tupOf (.var 1))) .nil))))
noncomputable def nm_law_digit : Nat → Str := nmL [Str.ofString "script", Str.ofString "place"]
noncomputable def ss_law_digit : SS := (.cons (.ret (.ife (.cmp .Lt (.var 1) (.len (.var 0))) (.idx (.var 0) (.var 1)) (.lit (.int 0)))) .nil)
noncomputable def nm_law_data : Nat → Str := nmL [Str.ofString "kind", Str.ofString "which"]
noncomputable def ss_law_data : SS := (.cons (.ite (.cmp .Eq (.var 0) (.lit (.int 0))) (.cons (.ret (.lit .none)) .nil) .nil) (.cons (.ite (.cmp .Eq (.var 0) (.lit (.int 1))) (.cons (.ret (.idx (.lst (.cons (.tup (.cons (.lit (.str (Str.ofString "accept"))) (.cons (.lit (.str (Str.ofString ""))) .nil))) (.cons (.tup (.cons (.lit (.str (Str.ofString "drop"))) (.cons (.lit (.str (Str.ofString ""))) .nil))) (.cons (.tup (.cons (.lit (.str (Str.ofString "jump"))) (.cons (.lit (.str (Str.ofString "a"))) .nil))) .nil)))) (.bin .Mod (.var 1) (.lit (.int 3))))) .nil) .nil) (.cons (.ret (.idx (.lst (.cons (.tup (.cons (.lit (.int 7)) .nil)) (.cons (.tup (.cons (.lit (.int 7)) (.cons (.lit (.int 80)) .nil))) (.cons (.tup (.cons (.lit (.int 8)) .nil)) .nil)))) (.bin .Mod (.var 1) (.lit (.int 3))))) .nil)))
noncomputable def nm_law_told : Nat → Str := nmL [Str.ofString "boxes", Str.ofString "kind", Str.ofString "head", Str.ofString "literals", Str.ofString "number", Str.ofString "box", Str.ofString "which", Str.ofString "by"]
noncomputable def ss_law_told : SS := (.cons (.own 3 .nil) (.cons (.for_ [4] (.range (.len (.var 0))) (.cons (.set2 5 6 (.idx (.var 0) (.var 4))) (.cons (.app 3 (.tup (.cons (.var 5) (.cons (.call 7 (.cons (.var 1) (.cons (.var 6) .nil))) (.cons (.bin .Mult (.lit (.int 1000)) (.var 4)) (.cons (.bin .Add (.lit (.str (Str.ofString "c"))) (.str (.var 4))) .nil)))))) .nil))) (.cons (.set 7 (.bin .Mod (.var 2) (.bin .Add (.len (.var 3)) (.lit (.int 1))))) (.cons (.set 3 (.bin .Add (.from_ (.var 3) (.var 7)) (.upto (.var 3) (.var 7)))) (.cons (.ite (.cmp .Eq (.bin .Mod (.bin .FloorDiv (.var 2) (.lit (.int 7))) (.lit (.int 2))) (.lit (.int 1))) (.cons (.set 3 (.comp (.idx (.var 3) (.bin .Sub (.bin .Sub (.len (.var 3)) (.lit (.int 1))) (.var 4))) [4] (.range (.len (.var 3))) .tt [3])) .nil) .nil) (.cons (.ret (.var 3)) .nil))))))
noncomputable def nm_law_line : Nat → Str := nmL [Str.ofString "script", Str.ofString "first", Str.ofString "kind", Str.ofString "salts", Str.ofString "head", Str.ofString "base", Str.ofString "many", Str.ofString "is_single", Str.ofString "gaps", Str.ofString "boxes", Str.ofString "at", Str.ofString "k", Str.ofString "n", Str.ofString "box", Str.ofString "which", Str.ofString "low", Str.ofString "high", Str.ofString "key"]
noncomputable def ss_law_line : SS := (.cons (.set 4 (.call 6 (.cons (.var 0) (.cons (.var 1) .nil)))) (.cons (.set 5 (.bin .Mod (.bin .FloorDiv (.var 4) (.lit (.int 294))) (.bin .Pow (.lit (.int 2)) (.lit (.int 32))))) (.cons (.set 6 (.bin .Mod (.bin .Add (.bin .FloorDiv (.var 4) (.lit (.int 14))) (.lit (.int 6))) (.lit (.int 7)))) (.cons (.set 7 (.cmp .Eq (.bin .Mod (.bin .FloorDiv (.var 4) (.lit (.int 98))) (.lit (.int 3))) (.lit (.int 2)))) (.cons (.set 8 (.lst (.cons (.lit (.int 1)) (.cons (.lit (.int 0)) (.cons (.lit (.int 2)) (.cons (.lit (.int 0)) (.cons (.lit (.int 1)) (.cons (.lit (.int 0)) (.cons (.lit (.int 3)) (.cons (.lit (.int 0)) (.cons (.lit (.int 1)) (.cons (.neg (.lit (.int 1))) (.cons (.lit (.int 2)) (.cons (.lit (.int 0)) (.cons (.neg (.lit (.int 2))) (.cons (.lit (.int 1)) (.cons (.lit (.int 0)) (.cons (.neg (.lit (.int 3))) .nil)))))))))))))))))) (.cons (.own 9 .nil) (.cons (.set 10 (.lit (.int 4))) (.cons (.for_ [11] (.range (.var 6)) (.cons (.set 12 (.bin .Add (.call 6 (.cons (.var 0) (.cons (.bin .Add (.bin .Add (.var 1) (.lit (.int 1))) (.var 11)) .nil))) (.idx (.var 3) (.var 11)))) (.cons (.ite (.and (.cmp .Eq (.bin .Mod (.bin .FloorDiv (.var 12) (.lit (.int 48))) (.lit (.int 4))) (.lit (.int 3))) (.val (.var 9))) (.cons (.set2 13 14 (.idx (.var 9) (.bin .Mod (.bin .FloorDiv (.var 12) (.lit (.int 4))) (.len (.var 9))))) (.cons (.app 9 (.tup (.cons (.var 13) (.cons (.bin .Add (.var 14) (.ife (.cmp .Eq (.bin .Mod (.bin .FloorDiv (.var 12) (.lit (.int 192))) (.lit (.int 4))) (.lit (.int 3))) (.lit (.int 1)) (.lit (.int 0)))) .nil)))) .nil)) (.cons (.set 15 (.bin .Add (.var 10) (.idx (.var 8) (.bin .Mod (.var 12) (.lit (.int 16)))))) (.cons (.set 16 (.ife (.val (.var 7)) (.var 15) (.bin .Add (.var 15) (.bin .Mod (.bin .FloorDiv (.var 12) (.lit (.int 16))) (.lit (.int 3)))))) (.cons (.set 10 (.max2 (.var 10) (.bin .Add (.var 16) (.lit (.int 1))))) (.cons (.app 9 (.tup (.cons (.tup (.cons (.tup (.cons (.bin .Add (.var 5) (.var 15)) (.cons (.bin .Add (.var 5) (.var 16)) .nil))) .nil)) (.cons (.bin .Mod (.bin .FloorDiv (.var 12) (.lit (.int 192))) (.lit (.int 3))) .nil)))) .nil))))) .nil))) (.cons (.frz 9) (.cons (.ret (.tup (.cons (.call 8 (.cons (.var 9) (.cons (.var 2) (.cons (.var 4) .nil)))) (.cons (.comp (.tup (.cons (.bin .Add (.var 5) (.var 17)) .nil)) [17] (.range (.bin .Add (.var 10) (.lit (.int 1)))) .tt [5]) .nil)))) .nil))))))))))
noncomputable def nm_law_plane : Nat → Str := nmL [Str.ofString "script", Str.ofString "first", Str.ofString "head", Str.ofString "kind", Str.ofString "many", Str.ofString "boxes", Str.ofString "k", Str.ofString "n", Str.ofString "box", Str.ofString "which", Str.ofString "x", Str.ofString "y", Str.ofString "key"]
noncomputable def ss_law_plane : SS := (.cons (.set 2 (.call 6 (.cons (.var 0) (.cons (.var 1) .nil)))) (.cons (.set 3 (.bin .Mod (.bin .FloorDiv (.var 2) (.lit (.int 70))) (.lit (.int 3)))) (.cons (.set 4 (.bin .Mod (.bin .Add (.bin .FloorDiv (.var 2) (.lit (.int 14))) (.lit (.int 4))) (.lit (.int 5)))) (.cons (.own 5 .nil) (.cons (.for_ [6] (.range (.var 4)) (.cons (.set 7 (.bin .Add (.call 6 (.cons (.var 0) (.cons (.bin .Add (.bin .Add (.var 1) (.lit (.int 1))) (.var 6)) .nil))) (.idx (.lst (.cons (.lit (.int 0)) (.cons (.lit (.int 10)) (.cons (.lit (.int 33)) (.cons (.lit (.int 192)) .nil))))) (.var 6)))) (.cons (.ite (.and (.cmp .Eq (.bin .Mod (.bin .FloorDiv (.var 7) (.lit (.int 64))) (.lit (.int 4))) (.lit (.int 3))) (.val (.var 5))) (.cons (.set2 8 9 (.idx (.var 5) (.bin .Mod (.var 7) (.len (.var 5))))) (.cons (.app 5 (.tup (.cons (.var 8) (.cons (.bin .Add (.var 9) (.ife (.cmp .Eq (.bin .Mod (.bin .FloorDiv (.var 7) (.lit (.int 256))) (.lit (.int 4))) (.lit (.int 3))) (.lit (.int 1)) (.lit (.int 0)))) .nil)))) .nil)) (.cons (.set 10 (.bin .Mod (.var 7) (.lit (.int 4)))) (.cons (.set 11 (.bin .Mod (.bin .FloorDiv (.var 7) (.lit (.int 8))) (.lit (.int 4)))) (.cons (.set 8 (.tup (.cons (.tup (.cons (.var 10) (.cons (.bin .Add (.var 10) (.bin .Mod (.bin .FloorDiv (.var 7) (.lit (.int 4))) (.lit (.int 2)))) .nil))) (.cons (.tup (.cons (.var 11) (.cons (.bin .Add (.var 11) (.bin .Mult (.bin .Mod (.bin .FloorDiv (.var 7) (.lit (.int 32))) (.lit (.int 2))) (.lit (.int 2)))) .nil))) .nil)))) (.cons (.app 5 (.tup (.cons (.var 8) (.cons (.bin .Mod (.bin .FloorDiv (.var 7) (.lit (.int 256))) (.lit (.int 3))) .nil)))) .nil))))) .nil))) (.cons (.frz 5) (.cons (.ret (.tup (.cons (.call 8 (.cons (.var 5) (.cons (.var 3) (.cons (.var 2) .nil)))) (.cons (.comp (.tup (.cons (.bin .FloorDiv (.var 12) (.lit (.int 6))) (.cons (.bin .Mod (.var 12) (.lit (.int 6))) .nil))) [12] (.range (.lit (.int 36))) .tt []) .nil)))) .nil)))))))
noncomputable def nm_law_has : Nat → Str := nmL [Str.ofString "box", Str.ofString "key", Str.ofString "place"]
noncomputable def ss_law_has : SS := (.cons (.for_ [2] (.range (.len (.var 0))) (.cons (.ite (.not (.chain .LtE .LtE (.idx (.idx (.var 0) (.var 2)) (.lit (.int 0))) (.idx (.var 1) (.var 2)) (.idx (.idx (.var 0) (.var 2)) (.lit (.int 1))))) (.cons (.ret (.lit (.bool false))) .nil) .nil) .nil)) (.cons (.ret (.lit (.bool true))) .nil))
noncomputable def nm_law_runs : Nat → Str := nmL [Str.ofString "firsts", Str.ofString "keys", Str.ofString "runs", Str.ofString "begin", Str.ofString "key", Str.ofString "one", Str.ofString "is_in", Str.ofString "within"]
noncomputable def ss_law_runs : SS := (.cons (.own 2 .nil) (.cons (.set 3 (.lit .none)) (.cons (.for_ [4] (.seq (.bin .Add (.var 1) (.lst (.cons (.tup (.cons (.bin .Add (.idx (.idx (.var 1) (.bin .Sub (.len (.var 1)) (.lit (.int 1)))) (.lit (.int 0))) (.lit (.int 1))) .nil)) .nil)))) (.cons (.set 6 (.cmp .Lt (.lit (.int 0)) (.len (.comp (.var 5) [5] (.seq (.var 0)) (.val (.call 11 (.cons (.idx (.var 5) (.lit (.int 0))) (.cons (.var 4) .nil)))) [4])))) (.cons (.ite (.and (.val (.var 6)) (.isN (.var 3))) (.cons (.set 3 (.idx (.var 4) (.lit (.int 0)))) .nil) .nil) (.cons (.ite (.and (.not (.val (.var 6))) (.notN (.var 3))) (.cons (.set 7 (.comp (.var 5) [5] (.seq (.var 0)) (.chain .LtE .Lt (.var 3) (.idx (.idx (.idx (.var 5) (.lit (.int 0))) (.lit (.int 0))) (.lit (.int 0))) (.idx (.var 4) (.lit (.int 0)))) [3, 4])) (.cons (.ite (.cmp .Eq (.len (.var 7)) (.lit (.int 1))) (.cons (.app 2 (.idx (.var 7) (.lit (.int 0)))) .nil) (.cons (.app 2 (.tup (.cons (.tup (.cons (.tup (.cons (.var 3) (.cons (.bin .Sub (.idx (.var 4) (.lit (.int 0))) (.lit (.int 1))) .nil))) .nil)) (.cons (.lit .none) (.cons (.lit (.int 0)) (.cons (.lit (.str (Str.ofString ""))) .nil)))))) .nil)) (.cons (.set 3 (.lit .none)) .nil))) .nil) .nil)))) (.cons (.ret (.tupOf (.var 2))) .nil))))
noncomputable def nm_law_due : Nat → Str := nmL [Str.ofString "literals", Str.ofString "keys", Str.ofString "firsts", Str.ofString "literal", Str.ofString "one", Str.ofString "same", Str.ofString "wide", Str.ofString "key", Str.ofString "flat", Str.ofString "number", Str.ofString "numbers"]
noncomputable def ss_law_due : SS := (.cons (.own 2 .nil) (.cons (.for_ [3] (.seq (.var 0)) (.cons (.set 5 (.comp (.var 4) [4] (.seq (.var 2)) (.eq (.idx (.var 4) (.lit (.int 0))) (.idx (.var 3) (.lit (.int 0)))) [3])) (.cons (.ite (.not (.val (.var 5))) (.cons (.app 2 (.var 3)) .nil) (.cons (.ite (.ne (.idx (.idx (.var 5) (.lit (.int 0))) (.lit (.int 1))) (.idx (.var 3) (.lit (.int 1)))) (.cons (.ret (.lit (.str (Str.ofString "conflicting intervals specified")))) .nil) .nil) .nil)) .nil))) (.cons (.set 6 (.comp (.var 4) [4] (.seq (.var 2)) (.cmp .Lt (.idx (.idx (.idx (.var 4) (.lit (.int 0))) (.lit (.int 0))) (.lit (.int 0))) (.idx (.idx (.idx (.var 4) (.lit (.int 0))) (.lit (.int 0))) (.lit (.int 1)))) [])) (.cons (.ite (.and (.val (.var 6)) (.and (.cmp .Eq (.len (.idx (.idx (.var 6) (.lit (.int 0))) (.lit (.int 0)))) (.lit (.int 1))) (.isN (.idx (.idx (.var 6) (.lit (.int 0))) (.lit (.int 1)))))) (.cons (.frz 2) (.cons (.ret (.call 12 (.cons (.var 2) (.cons (.var 1) .nil)))) .nil)) .nil) (.cons (.for_ [7] (.seq (.var 1)) (.cons (.ite (.cmp .Gt (.len (.comp (.var 4) [4] (.seq (.var 2)) (.val (.call 11 (.cons (.idx (.var 4) (.lit (.int 0))) (.cons (.var 7) .nil)))) [7])) (.lit (.int 1))) (.cons (.ret (.lit (.str (Str.ofString "conflicting intervals specified")))) .nil) .nil) .nil)) (.cons (.own 8 .nil) (.cons (.for_ [9] (.range (.len (.var 2))) (.cons (.app 8 (.tup (.cons (.flat (.seq (.idx (.idx (.var 2) (.var 9)) (.lit (.int 0))))) (.cons (.var 9) .nil)))) .nil)) (.cons (.ret (.tupOf (.comp (.idx (.var 2) (.var 9)) [10, 9] (.seq (.sorted (.var 8))) .tt [2]))) .nil))))))))
noncomputable def nm_law : Nat → Str := nmL [Str.ofString "script", Str.ofString "cases", Str.ofString "literals", Str.ofString "keys", Str.ofString "told", Str.ofString "fault"]
noncomputable def ss_law : SS := (.cons (.own 1 (.cons (.call 9 (.cons (.var 0) (.cons (.lit (.int 0)) (.cons (.lit (.int 0)) (.cons (.lst (.cons (.lit (.int 16)) (.cons (.lit (.int 1)) (.cons (.lit (.int 32)) (.cons (.lit (.int 12)) (.cons (.lit (.int 144)) (.cons (.lit (.int 6)) .nil))))))) .nil))))) .nil)) (.cons (.app 1 (.call 9 (.cons (.var 0) (.cons (.lit (.int 7)) (.cons (.bin .Add (.lit (.int 1)) (.bin .Mod (.call 6 (.cons (.var 0) (.cons (.lit (.int 19)) .nil))) (.lit (.int 2)))) (.cons (.lst (.cons (.lit (.int 16)) (.cons (.lit (.int 1)) (.cons (.lit (.int 32)) (.cons (.lit (.int 0)) (.cons (.lit (.int 144)) (.cons (.lit (.int 6)) .nil))))))) .nil)))))) (.cons (.app 1 (.call 10 (.cons (.var 0) (.cons (.lit (.int 14)) .nil)))) (.cons (.frz 1) (.cons (.for_ [2, 3] (.seq (.var 1)) (.cons (.try_ 4 5 5 (.cons (.lstOf (.var 2)) .nil)) (.cons (.ite (.ne (.var 4) (.call 13 (.cons (.var 2) (.cons (.var 3) .nil)))) (.cons (.ret (.lit (.bool false))) .nil) .nil) .nil))) (.cons (.ret (.lit (.bool true))) .nil))))))
end Mine
-- C2
namespace Mine
open PySem PySem.W PyProof.Rows PySem.Calls
noncomputable def glN (w : World) (x : Str) : Option Value := match nsIn (KH w) mainGlobals x with
  | some (some v) => some v
  | some none => if x = "__name__" then none else bootBuiltins x
  | none => none
section
variable {prog : Program} {w : World} {H : Heap} {Φ : Nat → List D → Option (Except Unit D)}
theorem fn_boxes_meet (G : Gx prog w H (glN w) 44 whyC) (X : (KH w).In H) (all : ∀ f, f < 0 → FnOk prog w H (glN w) fnN 44 whyC (f + 1) f (Φ f))
    (run : ∀ ds r, Φ 0 ds = some r → ds.length = 2 ∧ ∃ o, execs whyC (rs Φ 0) ss_boxes_meet (args0 ds) = some o ∧ Res o r) : FnOk prog w H (glN w) fnN 44 whyC (0 + 1) 0 (Φ 0) := by
  refine fn_step (nm := nm_boxes_meet) (k := 2) (ss := ss_boxes_meet) G all (by rfl) (X 53 _ rfl) rfl (by decide) ⟨52, _, _, _, rfl, X 52 _ rfl, rfl, rfl⟩ (nmL_ok _ (by decide) (by decide)) rfl rfl rfl (by decide) (by decide) (len2 fun _ _ => rfl) (.cons (.for_ (.one 2 (.inl (by rfl))) (.range (by rfl) (.len (by rfl) (.var 0))) (.cons (.ite (.or (.cmp (.idx (.idx (.var 0) (.var 2)) .int) (.idx (.idx (.var 1) (.var 2)) .int)) (.cmp (.idx (.idx (.var 1) (.var 2)) .int) (.idx (.idx (.var 0) (.var 2)) .int))) (.cons (.ret .boolC) .nil) .nil) .nil)) (.cons (.ret .boolC) .nil)) run
theorem fn_without_repeats (G : Gx prog w H (glN w) 44 whyC) (X : (KH w).In H) (all : ∀ f, f < 1 → FnOk prog w H (glN w) fnN 44 whyC (f + 1) f (Φ f))
    (run : ∀ ds r, Φ 1 ds = some r → ds.length = 1 ∧ ∃ o, execs whyC (rs Φ 1) ss_without_repeats (args0 ds) = some o ∧ Res o r) : FnOk prog w H (glN w) fnN 44 whyC (1 + 1) 1 (Φ 1) := by
  refine fn_step (nm := nm_without_repeats) (k := 1) (ss := ss_without_repeats) G all (by rfl) (X 67 _ rfl) rfl (by decide) ⟨66, _, _, _, rfl, X 66 _ rfl, rfl, rfl⟩ (nmL_ok _ (by decide) (by decide)) rfl rfl rfl (by decide) (by decide) (len1 fun _ => rfl) (.cons (.own 1 (.inl (by rfl)) .nil) (.cons (.for_ (.one 2 (.inl (by rfl))) (.range (by rfl) (.len (by rfl) (.var 0))) (.cons (.app 1 (by rfl) (.tup (.cons (.idx (.idx (.var 0) (.var 2)) .int) (.cons (.var 2) .nil)))) .nil)) (.cons (.own 3 (.inl (by rfl)) .nil) (.cons (.for_ (.two 4 2 (.inl (by rfl)) (.inl (by rfl)) (by decide)) (.seq (.sorted (by rfl) (.var 1))) (.cons (.ite (.or (.not (.name 3)) (.ne (.idx (.idx (.var 3) (.neg .int)) .int) (.var 4))) (.cons (.app 3 (by rfl) (.idx (.var 0) (.var 2))) .nil) (.cons (.ite (.ne (.idx (.idx (.var 3) (.neg .int)) .int) (.idx (.idx (.var 0) (.var 2)) .int)) (.cons (.raise (by rfl)) .nil) .nil) .nil)) .nil)) (.frz 3 (.cons (.ret (.var 3)) .nil)))))) run
theorem fn_is_for_joining (G : Gx prog w H (glN w) 44 whyC) (X : (KH w).In H) (all : ∀ f, f < 2 → FnOk prog w H (glN w) fnN 44 whyC (f + 1) f (Φ f))
    (run : ∀ ds r, Φ 2 ds = some r → ds.length = 1 ∧ ∃ o, execs whyC (rs Φ 2) ss_is_for_joining (args0 ds) = some o ∧ Res o r) : FnOk prog w H (glN w) fnN 44 whyC (2 + 1) 2 (Φ 2) := by
  refine fn_step (nm := nm_is_for_joining) (k := 1) (ss := ss_is_for_joining) G all (by rfl) (X 74 _ rfl) rfl (by decide) ⟨73, _, _, _, rfl, X 73 _ rfl, rfl, rfl⟩ (nmL_ok _ (by decide) (by decide)) rfl rfl rfl (by decide) (by decide) (len1 fun _ => rfl) (.cons (.set 1 (.inl (by rfl)) (.inr fun _ _ _ => rfl) .boolC) (.cons (.for_ (.one 2 (.inl (by rfl))) (.seq (.var 0)) (.cons (.ite (.or (.cmp (.len (by rfl) (.idx (.var 2) .int)) .int) (.notN (.idx (.var 2) .int))) (.cons (.ret .boolC) .nil) .nil) (.cons (.ite (.cmp (.idx (.idx (.idx (.var 2) .int) .int) .int) (.idx (.idx (.idx (.var 2) .int) .int) .int)) (.cons (.set 1 (.inl (by rfl)) (.inr fun _ _ _ => rfl) .boolC) .nil) .nil) .nil))) (.cons (.ret (.var 1)) .nil))) run
theorem fn_joined (G : Gx prog w H (glN w) 44 whyC) (X : (KH w).In H) (all : ∀ f, f < 3 → FnOk prog w H (glN w) fnN 44 whyC (f + 1) f (Φ f))
    (run : ∀ ds r, Φ 3 ds = some r → ds.length = 1 ∧ ∃ o, execs whyC (rs Φ 3) ss_joined (args0 ds) = some o ∧ Res o r) : FnOk prog w H (glN w) fnN 44 whyC (3 + 1) 3 (Φ 3) := by
  refine fn_step (nm := nm_joined) (k := 1) (ss := ss_joined) G all (by rfl) (X 81 _ rfl) rfl (by decide) ⟨80, _, _, _, rfl, X 80 _ rfl, rfl, rfl⟩ (nmL_ok _ (by decide) (by decide)) rfl rfl rfl (by decide) (by decide) (len1 fun _ => rfl) (.cons (.own 1 (.inl (by rfl)) .nil) (.cons (.for_ (.one 2 (.inl (by rfl))) (.seq (.var 0)) (.cons (.set2 3 4 (.inl (by rfl)) (.inl (by rfl)) (by decide) (.idx (.idx (.var 2) .int) .int)) (.cons (.ite (.and (.name 1) (.cmp (.var 3) (.bin (.idx (.idx (.idx (.idx (.var 1) (.neg .int)) .int) .int) .int) .int))) (.cons (.set2 5 6 (.inl (by rfl)) (.inl (by rfl)) (by decide) (.idx (.idx (.idx (.var 1) (.neg .int)) .int) .int)) (.cons (.last 1 (.tup (.cons (.tup (.cons (.tup (.cons (.var 5) (.cons (.max2 (by rfl) (.var 6) (.var 4)) .nil))) .nil)) (.cons .noneC (.cons .int (.cons .strC .nil)))))) .nil)) (.cons (.app 1 (by rfl) (.var 2)) .nil)) .nil))) (.cons (.ret (.tupOf (by rfl) (.var 1))) .nil))) run
theorem fn_check_apart (G : Gx prog w H (glN w) 44 whyC) (X : (KH w).In H) (all : ∀ f, f < 4 → FnOk prog w H (glN w) fnN 44 whyC (f + 1) f (Φ f))
    (run : ∀ ds r, Φ 4 ds = some r → ds.length = 1 ∧ ∃ o, execs whyC (rs Φ 4) ss_check_apart (args0 ds) = some o ∧ Res o r) : FnOk prog w H (glN w) fnN 44 whyC (4 + 1) 4 (Φ 4) := by
  refine fn_step (nm := nm_check_apart) (k := 1) (ss := ss_check_apart) G all (by rfl) (X 88 _ rfl) rfl (by decide) ⟨87, _, _, _, rfl, X 87 _ rfl, rfl, rfl⟩ (nmL_ok _ (by decide) (by decide)) rfl rfl rfl (by decide) (by decide) (len1 fun _ => rfl) (.cons (.for_ (.one 1 (.inl (by rfl))) (.range (by rfl) (.len (by rfl) (.var 0))) (.cons (.set 2 (.inl (by rfl)) (.inr fun _ _ _ => rfl) (.idx (.idx (.var 0) (.var 1)) .int)) (.cons (.set 3 (.inl (by rfl)) (.inr fun _ _ _ => rfl) (.bin (.var 1) .int)) (.cons (.while_ (.and (.cmp (.var 3) (.len (by rfl) (.var 0))) (.cmp (.idx (.idx (.idx (.idx (.var 0) (.var 3)) .int) .int) .int) (.idx (.idx (.var 2) .int) .int))) (.cons (.ite (.callV (.call 0 (by rfl) (.var 2) (.cons (.idx (.idx (.var 0) (.var 3)) .int) .nil))) (.cons (.raise (by rfl)) .nil) .nil) (.cons (.inc 3 (by rfl) .int) .nil))) .nil)))) .nil) run
theorem fn_tidy_set (G : Gx prog w H (glN w) 44 whyC) (X : (KH w).In H) (all : ∀ f, f < 5 → FnOk prog w H (glN w) fnN 44 whyC (f + 1) f (Φ f))
    (run : ∀ ds r, Φ 5 ds = some r → ds.length = 1 ∧ ∃ o, execs whyC (rs Φ 5) ss_tidy_set (args0 ds) = some o ∧ Res o r) : FnOk prog w H (glN w) fnN 44 whyC (5 + 1) 5 (Φ 5) := by
  refine fn_step (nm := nm_tidy_set) (k := 1) (ss := ss_tidy_set) G all (by rfl) (X 95 _ rfl) rfl (by decide) ⟨94, _, _, _, rfl, X 94 _ rfl, rfl, rfl⟩ (nmL_ok _ (by decide) (by decide)) rfl rfl rfl (by decide) (by decide) (len1 fun _ => rfl) (.cons (.get 1 1 (.inl (by rfl)) (by rfl) (.var 0) .nil) (.cons (.ite (.callV (.call 2 (by rfl) (.var 1) .nil)) (.cons (.ret (.call 3 (by rfl) (.var 1) .nil)) .nil) .nil) (.cons (.run 4 (by rfl) (.var 1) .nil) (.cons (.ret (.tupOf (by rfl) (.var 1))) .nil)))) run
theorem fn_law_digit (G : Gx prog w H (glN w) 44 whyC) (X : (KH w).In H) (all : ∀ f, f < 6 → FnOk prog w H (glN w) fnN 44 whyC (f + 1) f (Φ f))
    (run : ∀ ds r, Φ 6 ds = some r → ds.length = 2 ∧ ∃ o, execs whyC (rs Φ 6) ss_law_digit (args0 ds) = some o ∧ Res o r) : FnOk prog w H (glN w) fnN 44 whyC (6 + 1) 6 (Φ 6) := by
  refine fn_step (nm := nm_law_digit) (k := 2) (ss := ss_law_digit) G all (by rfl) (X 102 _ rfl) rfl (by decide) ⟨101, _, _, _, rfl, X 101 _ rfl, rfl, rfl⟩ (nmL_ok _ (by decide) (by decide)) rfl rfl rfl (by decide) (by decide) (len2 fun _ _ => rfl) (.cons (.ret (.ife (.cmp (.var 1) (.len (by rfl) (.var 0))) (.idx (.var 0) (.var 1)) .int)) .nil) run
theorem fn_law_data (G : Gx prog w H (glN w) 44 whyC) (X : (KH w).In H) (all : ∀ f, f < 7 → FnOk prog w H (glN w) fnN 44 whyC (f + 1) f (Φ f))
    (run : ∀ ds r, Φ 7 ds = some r → ds.length = 2 ∧ ∃ o, execs whyC (rs Φ 7) ss_law_data (args0 ds) = some o ∧ Res o r) : FnOk prog w H (glN w) fnN 44 whyC (7 + 1) 7 (Φ 7) := by
  refine fn_step (nm := nm_law_data) (k := 2) (ss := ss_law_data) G all (by rfl) (X 109 _ rfl) rfl (by decide) ⟨108, _, _, _, rfl, X 108 _ rfl, rfl, rfl⟩ (nmL_ok _ (by decide) (by decide)) rfl rfl rfl (by decide) (by decide) (len2 fun _ _ => rfl) (.cons (.ite (.cmp (.var 0) .int) (.cons (.ret .noneC) .nil) .nil) (.cons (.ite (.cmp (.var 0) .int) (.cons (.ret (.idx (.lst (.cons (.tup (.cons .strC (.cons .strC .nil))) (.cons (.tup (.cons .strC (.cons .strC .nil))) (.cons (.tup (.cons .strC (.cons .strC .nil))) .nil)))) (.bin (.var 1) .int))) .nil) .nil) (.cons (.ret (.idx (.lst (.cons (.tup (.cons .int .nil)) (.cons (.tup (.cons .int (.cons .int .nil))) (.cons (.tup (.cons .int .nil)) .nil)))) (.bin (.var 1) .int))) .nil))) run
theorem fn_law_told (G : Gx prog w H (glN w) 44 whyC) (X : (KH w).In H) (all : ∀ f, f < 8 → FnOk prog w H (glN w) fnN 44 whyC (f + 1) f (Φ f))
    (run : ∀ ds r, Φ 8 ds = some r → ds.length = 3 ∧ ∃ o, execs whyC (rs Φ 8) ss_law_told (args0 ds) = some o ∧ Res o r) : FnOk prog w H (glN w) fnN 44 whyC (8 + 1) 8 (Φ 8) := by
  refine fn_step (nm := nm_law_told) (k := 3) (ss := ss_law_told) G all (by rfl) (X 114 _ rfl) rfl (by decide) ⟨113, _, _, _, rfl, X 113 _ rfl, rfl, rfl⟩ (nmL_ok _ (by decide) (by decide)) rfl rfl rfl (by decide) (by decide) (len3 fun _ _ _ => rfl) (.cons (.own 3 (.inr (by rfl)) .nil) (.cons (.for_ (.one 4 (.inl (by rfl))) (.range (by rfl) (.len (by rfl) (.var 0))) (.cons (.set2 5 6 (.inl (by rfl)) (.inl (by rfl)) (by decide) (.idx (.var 0) (.var 4))) (.cons (.app 3 (by rfl) (.tup (.cons (.var 5) (.cons (.call 7 (by rfl) (.var 1) (.cons (.var 6) .nil)) (.cons (.bin .int (.var 4)) (.cons (.bin .strC (.str (by rfl) (.var 4))) .nil)))))) .nil))) (.cons (.set 7 (.inl (by rfl)) (.inr fun _ _ _ => rfl) (.bin (.var 2) (.bin (.len (by rfl) (.var 3)) .int))) (.cons (.set 3 (.inr (by rfl)) (.inr fun _ _ _ => rfl) (.bin (.from_ (.var 3) (.var 7)) (.upto (.var 3) (.var 7)))) (.cons (.ite (.cmp (.bin (.bin (.var 2) .int) .int) .int) (.cons (.set 3 (.inr (by rfl)) (.inl ⟨by rfl, _, _, _, _, rfl⟩) (.comp [3] (.range (by rfl) (.len (by rfl) (.var 3))) (.one (i := 4) (by rfl)) .none (.idx (.var 3) (.bin (.bin (.len (by rfl) (.var 3)) .int) (.var 4))) (by decide) rfl (by decide) (by decide) (by decide))) .nil) .nil) (.cons (.ret (.var 3)) .nil)))))) run
theorem fn_law_line (G : Gx prog w H (glN w) 44 whyC) (X : (KH w).In H) (all : ∀ f, f < 9 → FnOk prog w H (glN w) fnN 44 whyC (f + 1) f (Φ f))
    (run : ∀ ds r, Φ 9 ds = some r → ds.length = 4 ∧ ∃ o, execs whyC (rs Φ 9) ss_law_line (args0 ds) = some o ∧ Res o r) : FnOk prog w H (glN w) fnN 44 whyC (9 + 1) 9 (Φ 9) := by
  refine fn_step (nm := nm_law_line) (k := 4) (ss := ss_law_line) G all (by rfl) (X 119 _ rfl) rfl (by decide) ⟨118, _, _, _, rfl, X 118 _ rfl, rfl, rfl⟩ (nmL_ok _ (by decide) (by decide)) rfl rfl rfl (by decide) (by decide) (len4 fun _ _ _ _ => rfl) (.cons (.set 4 (.inl (by rfl)) (.inr fun _ _ _ => rfl) (.call 6 (by rfl) (.var 0) (.cons (.var 1) .nil))) (.cons (.set 5 (.inr (by rfl)) (.inr fun _ _ _ => rfl) (.bin (.bin (.var 4) .int) (.bin .int .int))) (.cons (.set 6 (.inl (by rfl)) (.inr fun _ _ _ => rfl) (.bin (.bin (.bin (.var 4) .int) .int) .int)) (.cons (.set 7 (.inl (by rfl)) (.inr fun _ _ _ => rfl) (.cmp (.bin (.bin (.var 4) .int) .int) .int)) (.cons (.set 8 (.inl (by rfl)) (.inr fun _ _ _ => rfl) (.lst (.cons .int (.cons .int (.cons .int (.cons .int (.cons .int (.cons .int (.cons .int (.cons .int (.cons .int (.cons (.neg .int) (.cons .int (.cons .int (.cons (.neg .int) (.cons .int (.cons .int (.cons (.neg .int) .nil)))))))))))))))))) (.cons (.own 9 (.inl (by rfl)) .nil) (.cons (.set 10 (.inl (by rfl)) (.inr fun _ _ _ => rfl) .int) (.cons (.for_ (.one 11 (.inl (by rfl))) (.range (by rfl) (.var 6)) (.cons (.set 12 (.inl (by rfl)) (.inr fun _ _ _ => rfl) (.bin (.call 6 (by rfl) (.var 0) (.cons (.bin (.bin (.var 1) .int) (.var 11)) .nil)) (.idx (.var 3) (.var 11)))) (.cons (.ite (.and (.cmp (.bin (.bin (.var 12) .int) .int) .int) (.name 9)) (.cons (.set2 13 14 (.inl (by rfl)) (.inl (by rfl)) (by decide) (.idx (.var 9) (.bin (.bin (.var 12) .int) (.len (by rfl) (.var 9))))) (.cons (.app 9 (by rfl) (.tup (.cons (.var 13) (.cons (.bin (.var 14) (.ife (.cmp (.bin (.bin (.var 12) .int) .int) .int) .int .int)) .nil)))) .nil)) (.cons (.set 15 (.inl (by rfl)) (.inr fun _ _ _ => rfl) (.bin (.var 10) (.idx (.var 8) (.bin (.var 12) .int)))) (.cons (.set 16 (.inl (by rfl)) (.inr fun _ _ _ => rfl) (.ife (.name 7) (.var 15) (.bin (.var 15) (.bin (.bin (.var 12) .int) .int)))) (.cons (.set 10 (.inl (by rfl)) (.inr fun _ _ _ => rfl) (.max2 (by rfl) (.var 10) (.bin (.var 16) .int))) (.cons (.app 9 (by rfl) (.tup (.cons (.tup (.cons (.tup (.cons (.bin (.var 5) (.var 15)) (.cons (.bin (.var 5) (.var 16)) .nil))) .nil)) (.cons (.bin (.bin (.var 12) .int) .int) .nil)))) .nil))))) .nil))) (.frz 9 (.cons (.ret (.tup (.cons (.call 8 (by rfl) (.var 9) (.cons (.var 2) (.cons (.var 4) .nil))) (.cons (.comp [5] (.range (by rfl) (.bin (.var 10) .int)) (.one (i := 17) (by rfl)) .none (.tup (.cons (.bin (.var 5) (.var 17)) .nil)) (by decide) rfl (by decide) (by decide) (by decide)) .nil)))) .nil)))))))))) run
theorem fn_law_plane (G : Gx prog w H (glN w) 44 whyC) (X : (KH w).In H) (all : ∀ f, f < 10 → FnOk prog w H (glN w) fnN 44 whyC (f + 1) f (Φ f))
    (run : ∀ ds r, Φ 10 ds = some r → ds.length = 2 ∧ ∃ o, execs whyC (rs Φ 10) ss_law_plane (args0 ds) = some o ∧ Res o r) : FnOk prog w H (glN w) fnN 44 whyC (10 + 1) 10 (Φ 10) := by
  refine fn_step (nm := nm_law_plane) (k := 2) (ss := ss_law_plane) G all (by rfl) (X 124 _ rfl) rfl (by decide) ⟨123, _, _, _, rfl, X 123 _ rfl, rfl, rfl⟩ (nmL_ok _ (by decide) (by decide)) rfl rfl rfl (by decide) (by decide) (len2 fun _ _ => rfl) (.cons (.set 2 (.inl (by rfl)) (.inr fun _ _ _ => rfl) (.call 6 (by rfl) (.var 0) (.cons (.var 1) .nil))) (.cons (.set 3 (.inl (by rfl)) (.inr fun _ _ _ => rfl) (.bin (.bin (.var 2) .int) .int)) (.cons (.set 4 (.inl (by rfl)) (.inr fun _ _ _ => rfl) (.bin (.bin (.bin (.var 2) .int) .int) .int)) (.cons (.own 5 (.inl (by rfl)) .nil) (.cons (.for_ (.one 6 (.inl (by rfl))) (.range (by rfl) (.var 4)) (.cons (.set 7 (.inl (by rfl)) (.inr fun _ _ _ => rfl) (.bin (.call 6 (by rfl) (.var 0) (.cons (.bin (.bin (.var 1) .int) (.var 6)) .nil)) (.idx (.lst (.cons .int (.cons .int (.cons .int (.cons .int .nil))))) (.var 6)))) (.cons (.ite (.and (.cmp (.bin (.bin (.var 7) .int) .int) .int) (.name 5)) (.cons (.set2 8 9 (.inl (by rfl)) (.inl (by rfl)) (by decide) (.idx (.var 5) (.bin (.var 7) (.len (by rfl) (.var 5))))) (.cons (.app 5 (by rfl) (.tup (.cons (.var 8) (.cons (.bin (.var 9) (.ife (.cmp (.bin (.bin (.var 7) .int) .int) .int) .int .int)) .nil)))) .nil)) (.cons (.set 10 (.inl (by rfl)) (.inr fun _ _ _ => rfl) (.bin (.var 7) .int)) (.cons (.set 11 (.inl (by rfl)) (.inr fun _ _ _ => rfl) (.bin (.bin (.var 7) .int) .int)) (.cons (.set 8 (.inl (by rfl)) (.inr fun _ _ _ => rfl) (.tup (.cons (.tup (.cons (.var 10) (.cons (.bin (.var 10) (.bin (.bin (.var 7) .int) .int)) .nil))) (.cons (.tup (.cons (.var 11) (.cons (.bin (.var 11) (.bin (.bin (.bin (.var 7) .int) .int) .int)) .nil))) .nil)))) (.cons (.app 5 (by rfl) (.tup (.cons (.var 8) (.cons (.bin (.bin (.var 7) .int) .int) .nil)))) .nil))))) .nil))) (.frz 5 (.cons (.ret (.tup (.cons (.call 8 (by rfl) (.var 5) (.cons (.var 3) (.cons (.var 2) .nil))) (.cons (.comp [] (.range (by rfl) .int) (.one (i := 12) (by rfl)) .none (.tup (.cons (.bin (.var 12) .int) (.cons (.bin (.var 12) .int) .nil))) (by decide) rfl (by decide) (by decide) (by decide)) .nil)))) .nil))))))) run
theorem fn_law_has (G : Gx prog w H (glN w) 44 whyC) (X : (KH w).In H) (all : ∀ f, f < 11 → FnOk prog w H (glN w) fnN 44 whyC (f + 1) f (Φ f))
    (run : ∀ ds r, Φ 11 ds = some r → ds.length = 2 ∧ ∃ o, execs whyC (rs Φ 11) ss_law_has (args0 ds) = some o ∧ Res o r) : FnOk prog w H (glN w) fnN 44 whyC (11 + 1) 11 (Φ 11) := by
  refine fn_step (nm := nm_law_has) (k := 2) (ss := ss_law_has) G all (by rfl) (X 131 _ rfl) rfl (by decide) ⟨130, _, _, _, rfl, X 130 _ rfl, rfl, rfl⟩ (nmL_ok _ (by decide) (by decide)) rfl rfl rfl (by decide) (by decide) (len2 fun _ _ => rfl) (.cons (.for_ (.one 2 (.inl (by rfl))) (.range (by rfl) (.len (by rfl) (.var 0))) (.cons (.ite (.not (.chain (.idx (.idx (.var 0) (.var 2)) .int) (.idx (.var 1) (.var 2)) (.idx (.idx (.var 0) (.var 2)) .int))) (.cons (.ret .boolC) .nil) .nil) .nil)) (.cons (.ret .boolC) .nil)) run
theorem fn_law_runs (G : Gx prog w H (glN w) 44 whyC) (X : (KH w).In H) (all : ∀ f, f < 12 → FnOk prog w H (glN w) fnN 44 whyC (f + 1) f (Φ f))
    (run : ∀ ds r, Φ 12 ds = some r → ds.length = 2 ∧ ∃ o, execs whyC (rs Φ 12) ss_law_runs (args0 ds) = some o ∧ Res o r) : FnOk prog w H (glN w) fnN 44 whyC (12 + 1) 12 (Φ 12) := by
  refine fn_step (nm := nm_law_runs) (k := 2) (ss := ss_law_runs) G all (by rfl) (X 136 _ rfl) rfl (by decide) ⟨135, _, _, _, rfl, X 135 _ rfl, rfl, rfl⟩ (nmL_ok _ (by decide) (by decide)) rfl rfl rfl (by decide) (by decide) (len2 fun _ _ => rfl) (.cons (.own 2 (.inl (by rfl)) .nil) (.cons (.set 3 (.inr (by rfl)) (.inr fun _ _ _ => rfl) .noneC) (.cons (.for_ (.one 4 (.inr (by rfl))) (.seq (.bin (.var 1) (.lst (.cons (.tup (.cons (.bin (.idx (.idx (.var 1) (.bin (.len (by rfl) (.var 1)) .int)) .int) .int) .nil)) .nil)))) (.cons (.set 6 (.inl (by rfl)) (.inr fun _ _ _ => rfl) (.cmp .int (.len (by rfl) (.comp [4] (.seq (.var 0)) (.one (i := 5) (by rfl)) (.one (.callV (.call 11 (by rfl) (.idx (.var 5) .int) (.cons (.var 4) .nil)))) (.var 5) (by decide) rfl (by decide) (by decide) (by decide))))) (.cons (.ite (.and (.name 6) (.isN (.var 3))) (.cons (.set 3 (.inr (by rfl)) (.inr fun _ _ _ => rfl) (.idx (.var 4) .int)) .nil) .nil) (.cons (.ite (.and (.not (.name 6)) (.notN (.var 3))) (.cons (.setC 7 ⟨by rfl, by rfl, by rfl⟩ (.comp [3, 4] (.seq (.var 0)) (.one (i := 5) (by rfl)) (.one (.chain (.var 3) (.idx (.idx (.idx (.var 5) .int) .int) .int) (.idx (.var 4) .int))) (.var 5) (by decide) rfl (by decide) (by decide) (by decide))) (.cons (.ite (.cmp (.len (by rfl) (.var 7)) .int) (.cons (.app 2 (by rfl) (.idx (.var 7) .int)) .nil) (.cons (.app 2 (by rfl) (.tup (.cons (.tup (.cons (.tup (.cons (.var 3) (.cons (.bin (.idx (.var 4) .int) .int) .nil))) .nil)) (.cons .noneC (.cons .int (.cons .strC .nil)))))) .nil)) (.cons (.set 3 (.inr (by rfl)) (.inr fun _ _ _ => rfl) .noneC) .nil))) .nil) .nil)))) (.cons (.ret (.tupOf (by rfl) (.var 2))) .nil)))) run
theorem fn_law_due (G : Gx prog w H (glN w) 44 whyC) (X : (KH w).In H) (all : ∀ f, f < 13 → FnOk prog w H (glN w) fnN 44 whyC (f + 1) f (Φ f))
    (run : ∀ ds r, Φ 13 ds = some r → ds.length = 2 ∧ ∃ o, execs whyC (rs Φ 13) ss_law_due (args0 ds) = some o ∧ Res o r) : FnOk prog w H (glN w) fnN 44 whyC (13 + 1) 13 (Φ 13) := by
  refine fn_step (nm := nm_law_due) (k := 2) (ss := ss_law_due) G all (by rfl) (X 141 _ rfl) rfl (by decide) ⟨140, _, _, _, rfl, X 140 _ rfl, rfl, rfl⟩ (nmL_ok _ (by decide) (by decide)) rfl rfl rfl (by decide) (by decide) (len2 fun _ _ => rfl) (.cons (.own 2 (.inr (by rfl)) .nil) (.cons (.for_ (.one 3 (.inr (by rfl))) (.seq (.var 0)) (.cons (.setC 5 ⟨by rfl, by rfl, by rfl⟩ (.comp [3] (.seq (.var 2)) (.one (i := 4) (by rfl)) (.one (.eq (.idx (.var 4) .int) (.idx (.var 3) .int))) (.var 4) (by decide) rfl (by decide) (by decide) (by decide))) (.cons (.ite (.not (.name 5)) (.cons (.app 2 (by rfl) (.var 3)) .nil) (.cons (.ite (.ne (.idx (.idx (.var 5) .int) .int) (.idx (.var 3) .int)) (.cons (.ret .strC) .nil) .nil) .nil)) .nil))) (.cons (.setC 6 ⟨by rfl, by rfl, by rfl⟩ (.comp [] (.seq (.var 2)) (.one (i := 4) (by rfl)) (.one (.cmp (.idx (.idx (.idx (.var 4) .int) .int) .int) (.idx (.idx (.idx (.var 4) .int) .int) .int))) (.var 4) (by decide) rfl (by decide) (by decide) (by decide))) (.cons (.ite (.and3 (.name 6) (.cmp (.len (by rfl) (.idx (.idx (.var 6) .int) .int)) .int) (.isN (.idx (.idx (.var 6) .int) .int))) (.frz 2 (.cons (.ret (.call 12 (by rfl) (.var 2) (.cons (.var 1) .nil))) .nil)) .nil) (.cons (.for_ (.one 7 (.inr (by rfl))) (.seq (.var 1)) (.cons (.ite (.cmp (.len (by rfl) (.comp [7] (.seq (.var 2)) (.one (i := 4) (by rfl)) (.one (.callV (.call 11 (by rfl) (.idx (.var 4) .int) (.cons (.var 7) .nil)))) (.var 4) (by decide) rfl (by decide) (by decide) (by decide))) .int) (.cons (.ret .strC) .nil) .nil) .nil)) (.cons (.own 8 (.inl (by rfl)) .nil) (.cons (.for_ (.one 9 (.inl (by rfl))) (.range (by rfl) (.len (by rfl) (.var 2))) (.cons (.app 8 (by rfl) (.tup (.cons (.flat (.seq (.idx (.idx (.var 2) (.var 9)) .int)) (by rfl) (by rfl) (by decide) (by decide) (by decide) rfl (by decide) (by decide)) (.cons (.var 9) .nil)))) .nil)) (.cons (.ret (.tupOf (by rfl) (.comp [2] (.seq (.sorted (by rfl) (.var 8))) (.two (i := 10) (j := 9) (by rfl) (by rfl) (by decide) (by decide)) .none (.idx (.var 2) (.var 9)) (by decide) rfl (by decide) (by decide) (by decide)))) .nil)))))))) run
end
end Mine
-- P0
namespace Mine
open PySem PySem.W PyProof.Rows PySem.Calls
noncomputable def bodyOf : Nat → Nat × SS
  | 0 => (2, ss_boxes_meet)
  | 1 => (1, ss_without_repeats)
  | 2 => (1, ss_is_for_joining)
  | 3 => (1, ss_joined)
  | 4 => (1, ss_check_apart)
  | 5 => (1, ss_tidy_set)
  | 6 => (2, ss_law_digit)
  | 7 => (2, ss_law_data)
  | 8 => (3, ss_law_told)
  | 9 => (4, ss_law_line)
  | 10 => (2, ss_law_plane)
  | 11 => (2, ss_law_has)
  | 12 => (2, ss_law_runs)
  | 13 => (2, ss_law_due)
  | _ => (0, .nil)
noncomputable def resO : Option Out → Option (Except Unit D)
  | some (.next _) => some (.ok .none)
  | some (.ret d) => some (.ok d)
  | some .exc => some (.error ())
  | none => none
/-- what the first n defs give -/
noncomputable def PhiN : Nat → Nat → List D → Option (Except Unit D)
  | 0 => fun _ _ => none
  | n + 1 => fun f ds => if f < n then PhiN n f ds else if f = n then (if ds.length = (bodyOf n).1 then resO (execs whyC (PhiN n) (bodyOf n).2 (args0 ds)) else none) else none
noncomputable def Phi (f : Nat) : List D → Option (Except Unit D) := PhiN (f + 1) f
theorem PhiN_lt {f : Nat} : ∀ {n : Nat}, f < n → PhiN n f = Phi f
  | n + 1, h => by
    rcases Nat.lt_or_ge f n with q | q
    · have := PhiN_lt q
      rw [← this]
      funext ds
      show (if f < n then PhiN n f ds else _) = _
      rw [if_pos q]
    · have : f = n := by omega
      subst this
      rfl
theorem PhiN_ge {f : Nat} : ∀ {n : Nat}, n ≤ f → PhiN n f = fun _ => none
  | 0, _ => rfl
  | n + 1, h => by
    funext ds
    show (if f < n then PhiN n f ds else if f = n then _ else none) = none
    rw [if_neg (by omega), if_neg (by omega)]
theorem rs_Phi (n : Nat) : rs Phi n = PhiN n := by
  funext f ds
  unfold rs
  split
  · rename_i h; rw [PhiN_lt h]
  · rename_i h; rw [PhiN_ge (by omega)]
theorem Phi_def (n : Nat) (ds : List D) : Phi n ds = if ds.length = (bodyOf n).1 then resO (execs whyC (rs Phi n) (bodyOf n).2 (args0 ds)) else none := by
  rw [rs_Phi]
  show (if n < n then _ else if n = n then _ else none) = _
  rw [if_neg (by omega), if_pos rfl]
theorem Phi_run (n : Nat) (ds : List D) (r : Except Unit D) (h : Phi n ds = some r) : ds.length = (bodyOf n).1 ∧ ∃ o, execs whyC (rs Phi n) (bodyOf n).2 (args0 ds) = some o ∧ Res o r := by
  rw [Phi_def] at h
  split at h
  · rename_i e
    refine ⟨e, ?_⟩
    cases ho : execs whyC (rs Phi n) (bodyOf n).2 (args0 ds) with
    | none => rw [ho] at h; cases h
    | some o =>
      rw [ho] at h
      refine ⟨o, rfl, ?_⟩
      cases o <;> simp only [resO, Option.some.injEq] at h <;> exact h.symm
  · cases h
end Mine
-- EV
namespace Mine
open PySem PySem.W PyProof.Rows PySem.Calls
section
variable (Φ : Nat → List D → Option (Except Unit D)) (ρ : Vars) (why : Str)
theorem qe_var (i : Nat) : eval Φ (.var i) ρ = ((match ρ i with | some (.fro d) => some d | _ => none)) := rfl
theorem qe_lit (d : D) : eval Φ (.lit d) ρ = (some d) := rfl
theorem qe_tup (es : XS) : eval Φ (.tup es) ρ = ((evals Φ es ρ).bind fun ds => small ds.length (.tuple ds)) := rfl
theorem qe_lst (es : XS) : eval Φ (.lst es) ρ = ((evals Φ es ρ).bind fun ds => small ds.length (.list ds)) := rfl
theorem qe_bin (o : Operator) (a b : X) : eval Φ (.bin o a b) ρ = ((eval Φ a ρ).bind fun x => (eval Φ b ρ).bind fun y => binD o x y) := rfl
theorem qe_neg (a : X) : eval Φ (.neg a) ρ = (((eval Φ a ρ).bind intD).bind fun i => some (.int (-i))) := rfl
theorem qe_cmp (o : CmpOp) (a b : X) : eval Φ (.cmp o a b) ρ = ((eval Φ a ρ).bind fun x => (eval Φ b ρ).bind fun y => (cmpD o x y).map .bool) := rfl
theorem qe_ife (c : B) (a b : X) : eval Φ (.ife c a b) ρ = ((evB Φ c ρ).bind fun t => if t then eval Φ a ρ else eval Φ b ρ) := rfl
theorem qe_idx (a i : X) : eval Φ (.idx a i) ρ = ((seqV a ρ (eval Φ a ρ)).bind fun ds => ((eval Φ i ρ).bind intD).bind fun k => idxD ds.2 k) := rfl
theorem qe_from (a i : X) : eval Φ (.from_ a i) ρ = ((seqV a ρ (eval Φ a ρ)).bind fun ds => ((eval Φ i ρ).bind intD).bind fun k => if ds.1 = true ∧ 0 ≤ k ∧ ds.2.length ≤ 1000 then some (.list (ds.2.drop k.toNat)) else none) := rfl
theorem qe_upto (a i : X) : eval Φ (.upto a i) ρ = ((seqV a ρ (eval Φ a ρ)).bind fun ds => ((eval Φ i ρ).bind intD).bind fun k => if ds.1 = true ∧ 0 ≤ k ∧ ds.2.length ≤ 1000 then some (.list (ds.2.take k.toNat)) else none) := rfl
theorem qe_len (a : X) : eval Φ (.len a) ρ = ((seqV a ρ (eval Φ a ρ)).bind fun ds => if ds.2.length ≤ 100000 then some (.int ds.2.length) else none) := rfl
theorem qe_max2 (a b : X) : eval Φ (.max2 a b) ρ = (((eval Φ a ρ).bind intD).bind fun i => ((eval Φ b ρ).bind intD).bind fun j => some (.int (if j > i then j else i))) := rfl
theorem qe_str (a : X) : eval Φ (.str a) ρ = (((eval Φ a ρ).bind intD).bind fun i => if i.natAbs < 1000000 then some (.str (Str.ofString (toString i))) else none) := rfl
theorem qe_tupOf (a : X) : eval Φ (.tupOf a) ρ = ((seqV a ρ (eval Φ a ρ)).bind fun ds => if ds.1 = true then small ds.2.length (.tuple ds.2) else none) := rfl
theorem qe_lstOf (a : X) : eval Φ (.lstOf a) ρ = ((seqV a ρ (eval Φ a ρ)).bind fun ds => if ds.1 = true then small ds.2.length (.list ds.2) else none) := rfl
theorem qe_sorted (a : X) : eval Φ (.sorted a) ρ = ((seqV a ρ (eval Φ a ρ)).bind fun ds => if ds.1 = true then sortX ds.2 else none) := rfl
theorem qe_call (f : Nat) (es : XS) : eval Φ (.call f es) ρ = ((evals Φ es ρ).bind fun ds => (match Φ f ds with | some (.ok d) => some d | _ => none)) := rfl
theorem qe_comp (elt : X) (tg : List Nat) (it : It) (c : B) (caps : List Nat) : eval Φ (.comp elt tg it c caps) ρ = ((evIt Φ it ρ).bind fun ds => (compL (fun d => (bindT tg d (lim caps ρ)).bind fun ρ' => (evB Φ c ρ').bind fun t => if t then (eval Φ elt ρ').map some else some none) ds).bind fun out => small ds.length (.list out)) := rfl
theorem qe_flat (it : It) : eval Φ (.flat it) ρ = ((evIt Φ it ρ).bind fun ds => (flatL ds).bind fun out => small out.length (.list out)) := rfl
theorem qs_nil  : evals Φ (.nil) ρ = (some []) := rfl
theorem qs_cons (a : X) (r : XS) : evals Φ (.cons a r) ρ = ((eval Φ a ρ).bind fun d => (evals Φ r ρ).map fun ds => d :: ds) := rfl
theorem qb_tt  : evB Φ (.tt) ρ = (some true) := rfl
theorem qb_cmp (o : CmpOp) (a b : X) : evB Φ (.cmp o a b) ρ = ((eval Φ a ρ).bind fun x => (eval Φ b ρ).bind fun y => cmpD o x y) := rfl
theorem qb_eq (a b : X) : evB Φ (.eq a b) ρ = ((eval Φ a ρ).bind fun x => (eval Φ b ρ).bind fun y => if layOk x = true ∧ layOk y = true then some (PyData.eqv x y) else none) := rfl
theorem qb_ne (a b : X) : evB Φ (.ne a b) ρ = ((eval Φ a ρ).bind fun x => (eval Φ b ρ).bind fun y => if layOk x = true ∧ layOk y = true then some (!PyData.eqv x y) else none) := rfl
theorem qb_isN (a : X) : evB Φ (.isN a) ρ = ((eval Φ a ρ).map isNoneD) := rfl
theorem qb_notN (a : X) : evB Φ (.notN a) ρ = ((eval Φ a ρ).map fun d => !isNoneD d) := rfl
theorem qb_chain (o o' : CmpOp) (a b c : X) : evB Φ (.chain o o' a b c) ρ = (((eval Φ a ρ).bind intD).bind fun x => ((eval Φ b ρ).bind intD).bind fun y => ((eval Φ c ρ).bind intD).bind fun z => (cmpI o).bind fun f => (cmpI o').map fun g => f x y && g y z) := rfl
theorem qb_and (a b : B) : evB Φ (.and a b) ρ = ((evB Φ a ρ).bind fun t => if t then evB Φ b ρ else some false) := rfl
theorem qb_or (a b : B) : evB Φ (.or a b) ρ = ((evB Φ a ρ).bind fun t => if t then some true else evB Φ b ρ) := rfl
theorem qb_not (a : B) : evB Φ (.not a) ρ = ((evB Φ a ρ).map fun t => !t) := rfl
theorem qb_valO (i : Nat) : evB Φ (.val (.var i)) ρ = (match ρ i with | some (.own ds) => if ds.length ≤ 100000 then some (!ds.isEmpty) else none | _ => (eval Φ (.var i) ρ).bind truthD) := rfl
theorem qb_valC (f : Nat) (es : XS) : evB Φ (.val (.call f es)) ρ = (eval Φ (.call f es) ρ).bind truthD := rfl
theorem qi_seq (a : X) : evIt Φ (.seq a) ρ = ((seqV a ρ (eval Φ a ρ)).map (·.2)) := rfl
theorem qi_range (a : X) : evIt Φ (.range a) ρ = (((eval Φ a ρ).bind intD).bind fun n => if -1000000 ≤ n ∧ n ≤ 1000000 then some (intsFrom 0 n.toNat) else none) := rfl
theorem qx_set (i : Nat) (e : X) : exec why Φ (.set i e) ρ = ((eval Φ e ρ).map fun d => .next (upd ρ i (.fro d))) := rfl
theorem qx_own (i : Nat) (es : XS) : exec why Φ (.own i es) ρ = ((evals Φ es ρ).bind fun ds => if ds.length ≤ 1000 then some (.next (upd ρ i (.own ds))) else none) := rfl
theorem qx_set2 (i j : Nat) (e : X) : exec why Φ (.set2 i j e) ρ = ((eval Φ e ρ).bind fun d => (bindT [i, j] d ρ).map .next) := rfl
theorem qx_app (i : Nat) (e : X) : exec why Φ (.app i e) ρ = (match ρ i with
    | some (.own ds) => if ds.length ≤ 1000 then (eval Φ e ρ).map fun d => .next (upd ρ i (.own (ds ++ [d]))) else none
    | _ => none) := rfl
theorem qx_last (i : Nat) (e : X) : exec why Φ (.last i e) ρ = (match ρ i with
    | some (.own ds) => if 0 < ds.length ∧ ds.length ≤ 1000 then (eval Φ e ρ).map fun d => .next (upd ρ i (.own (ds.set (ds.length - 1) d))) else none
    | _ => none) := rfl
theorem qx_inc (i : Nat) (e : X) : exec why Φ (.inc i e) ρ = (match ρ i with
    | some (.fro (.int a)) => ((eval Φ e ρ).bind intD).map fun b => .next (upd ρ i (.fro (.int (a + b))))
    | _ => none) := rfl
theorem qx_frz (i : Nat) : exec why Φ (.frz i) ρ = (match ρ i with
    | some (.own ds) => some (.next (upd ρ i (.fro (.list ds))))
    | _ => none) := rfl
theorem qx_ret (e : X) : exec why Φ (.ret e) ρ = ((eval Φ e ρ).map .ret) := rfl
theorem qx_ite (c : B) (a b : SS) : exec why Φ (.ite c a b) ρ = ((evB Φ c ρ).bind fun t => if t then execs why Φ a ρ else execs why Φ b ρ) := rfl
theorem qx_for (tg : List Nat) (it : It) (b : SS) : exec why Φ (.for_ tg it b) ρ = ((evItF Φ it ρ).bind fun ds => forL (fun d ρ => (bindT tg d ρ).bind fun ρ' => execs why Φ b ρ') ds ρ) := rfl
theorem qx_while (c : B) (b : SS) : exec why Φ (.while_ c b) ρ = (whileN (fun ρ => evB Φ c ρ) (fun ρ => execs why Φ b ρ) 100 ρ) := rfl
theorem qx_raise  : exec why Φ (.raise) ρ = (some .exc) := rfl
theorem qx_run (f : Nat) (es : XS) : exec why Φ (.run f es) ρ = ((evals Φ es ρ).bind fun ds => match Φ f ds with
    | some (.ok _) => some (.next ρ)
    | some (.error _) => some .exc
    | none => none) := rfl
theorem qx_get (i f : Nat) (es : XS) : exec why Φ (.get i f es) ρ = ((evals Φ es ρ).bind fun ds => match Φ f ds with
    | some (.ok d) => some (.next (upd ρ i (.fro d)))
    | some (.error _) => some .exc
    | none => none) := rfl
theorem qx_try (i k f : Nat) (es : XS) : exec why Φ (.try_ i k f es) ρ = (match ρ k with
    | none => (evals Φ es ρ).bind fun ds => match Φ f ds with
      | some (.ok d) => some (.next (upd ρ i (.fro d)))
      | some (.error _) => some (.next (upd ρ i (.fro (.str why))))
      | none => none
    | some _ => none) := rfl
theorem qz_nil  : execs why Φ (.nil) ρ = (some (.next ρ)) := rfl
theorem qz_cons (s : S) (r : SS) : execs why Φ (.cons s r) ρ = (match exec why Φ s ρ with
    | some (.next ρ') => execs why Φ r ρ'
    | o => o) := rfl
theorem qf_seq (a : X) : evItF Φ (.seq a) ρ = (((eval Φ a ρ).bind seqOf).map (·.2)) := rfl
theorem qf_range (a : X) : evItF Φ (.range a) ρ = (((eval Φ a ρ).bind intD).bind fun n => if -1000000 ≤ n ∧ n ≤ 1000000 then some (intsFrom 0 n.toNat) else none) := rfl
theorem qv_intD (i : Int) : intD (.int i) = some i := rfl
theorem qv_strD (x : Str) : strD (.str x) = some x := rfl
theorem qv_lstD (l : List D) : lstD (.list l) = some l := rfl
theorem qv_int2 (a b : Int) (f : Int → Int → Option D) : int2 (.int a) (.int b) f = f a b := rfl
theorem qv_addI (a b : Int) : binD .Add (.int a) (.int b) = some (.int (a + b)) := rfl
theorem qv_addS (a b : Str) : binD .Add (.str a) (.str b) = (if a.length + b.length ≤ 1000 then some (.str (a ++ b)) else none) := rfl
theorem qv_addL (a b : List D) : binD .Add (.list a) (.list b) = (if a.length + b.length ≤ 1000 then some (.list (a ++ b)) else none) := rfl
theorem qv_sub (a b : Int) : binD .Sub (.int a) (.int b) = some (.int (a - b)) := rfl
theorem qv_mul (a b : Int) : binD .Mult (.int a) (.int b) = (if -(2 ^ 64) < b ∧ b < 2 ^ 64 then some (.int (a * b)) else none) := rfl
theorem qv_div (a b : Int) : binD .FloorDiv (.int a) (.int b) = (if b ≠ 0 ∧ b.natAbs < 2 ^ 40 then some (.int (a.fdiv b)) else none) := rfl
theorem qv_mod (a b : Int) : binD .Mod (.int a) (.int b) = (if b ≠ 0 then some (.int (a.fmod b)) else none) := rfl
theorem qv_pow (a b : Int) : binD .Pow (.int a) (.int b) = (if 0 ≤ b ∧ b ≤ 1000 ∧ a.natAbs < 2 ^ 64 then some (.int (a ^ b.toNat)) else none) := rfl
theorem qv_cmpD (o : CmpOp) (a b : Int) : cmpD o (.int a) (.int b) = (cmpI o).map fun f => f a b := rfl
theorem qv_lt : cmpI .Lt = some fun a b => decide (a < b) := rfl
theorem qv_le : cmpI .LtE = some fun a b => decide (a ≤ b) := rfl
theorem qv_gt : cmpI .Gt = some fun a b => decide (b < a) := rfl
theorem qv_eq : cmpI .Eq = some fun a b => a == b := rfl
theorem qv_ne : cmpI .NotEq = some fun a b => a != b := rfl
theorem qv_bind1 (i : Nat) (d : D) : bindT [i] d ρ = some (upd ρ i (.fro d)) := rfl
theorem qv_bind2 (i j : Nat) (a b : D) : bindT [i, j] (.tuple [a, b]) ρ = some (upd (upd ρ i (.fro a)) j (.fro b)) := rfl
theorem qv_seqL (ds : List D) : seqOf (.list ds) = some (true, ds) := rfl
theorem qv_seqT (ds : List D) : seqOf (.tuple ds) = some (false, ds) := rfl
theorem qv_tB (b : Bool) : truthD (.bool b) = some b := rfl
theorem qv_tL (ds : List D) : truthD (.list ds) = (if ds.length ≤ 100000 then some (!ds.isEmpty) else none) := rfl
theorem qv_tN : truthD .none = some false := rfl
theorem qv_nN : isNoneD .none = true := rfl
theorem qv_nT (ds : List D) : isNoneD (.tuple ds) = false := rfl
theorem qv_nI (i : Int) : isNoneD (.int i) = false := rfl
theorem qv_items (ds : List D) : itemsD (.tuple ds) = some ds := rfl
theorem qv_vVar (i : Nat) (r : Option D) : seqV (.var i) ρ r = (match ρ i with | some (.own ds) => some (true, ds) | _ => r.bind seqOf) := rfl
theorem qv_vLit (d : D) (r : Option D) : seqV (.lit d) ρ r = r.bind seqOf := rfl
theorem qv_vTup (es : XS) (r : Option D) : seqV (.tup es) ρ r = r.bind seqOf := rfl
theorem qv_vLst (es : XS) (r : Option D) : seqV (.lst es) ρ r = r.bind seqOf := rfl
theorem qv_vBin (o : Operator) (a b : X) (r : Option D) : seqV (.bin o a b) ρ r = r.bind seqOf := rfl
theorem qv_vNeg (a : X) (r : Option D) : seqV (.neg a) ρ r = r.bind seqOf := rfl
theorem qv_vIdx (a i : X) (r : Option D) : seqV (.idx a i) ρ r = r.bind seqOf := rfl
theorem qv_vFrom (a i : X) (r : Option D) : seqV (.from_ a i) ρ r = r.bind seqOf := rfl
theorem qv_vUpto (a i : X) (r : Option D) : seqV (.upto a i) ρ r = r.bind seqOf := rfl
theorem qv_vSorted (a : X) (r : Option D) : seqV (.sorted a) ρ r = r.bind seqOf := rfl
theorem qv_vCall (f : Nat) (es : XS) (r : Option D) : seqV (.call f es) ρ r = r.bind seqOf := rfl
theorem qv_vComp (elt : X) (tg : List Nat) (it : It) (c : B) (caps : List Nat) (r : Option D) : seqV (.comp elt tg it c caps) ρ r = r.bind seqOf := rfl
theorem qv_vFlat (it : It) (r : Option D) : seqV (.flat it) ρ r = r.bind seqOf := rfl
end
end Mine
-- P1
namespace Mine
open PySem PySem.W PyProof.Rows PySem.Calls
noncomputable def W (o : Option Out) (N : Vars → Prop) (R : D → Prop) (Z : Prop) : Prop := match o with
  | some (.next ρ) => N ρ
  | some (.ret d) => R d
  | some .exc => Z
  | none => False
section
variable {why : Str} {Φ : Nat → List D → Option (Except Unit D)} {N M : Vars → Prop} {R R' : D → Prop} {Z Z' : Prop} {ρ : Vars}
theorem W.mono {o : Option Out} (h : W o N R Z) (h1 : ∀ ρ, N ρ → M ρ) (h2 : ∀ d, R d → R' d) (h3 : Z → Z') : W o M R' Z' := by
  rcases o with _ | (ρ | d | _)
  · exact h
  · exact h1 _ h
  · exact h2 _ h
  · exact h3 h
theorem W.cons {s : S} {r : SS} (h : W (exec why Φ s ρ) (fun ρ' => W (execs why Φ r ρ') N R Z) R Z) : W (execs why Φ (.cons s r) ρ) N R Z := by
  simp only [qz_nil, qz_cons]
  rcases h1 : exec why Φ s ρ with _ | (ρ' | d | _) <;> rw [h1] at h <;> exact h
theorem W.nil (h : N ρ) : W (execs why Φ .nil ρ) N R Z := h
theorem W.set {i : Nat} {e : X} {d : D} (h : eval Φ e ρ = some d) (hN : N (upd ρ i (.fro d))) : W (exec why Φ (.set i e) ρ) N R Z := by
  simp only [qx_set, qx_own, qx_set2, qx_app, qx_last, qx_inc, qx_frz, qx_ret, qx_ite, qx_for, qx_while, qx_raise, qx_run, qx_get, qx_try, h, Option.map_some]; exact hN
theorem W.own {i : Nat} {es : XS} {ds : List D} (h : evals Φ es ρ = some ds) (hl : ds.length ≤ 1000) (hN : N (upd ρ i (.own ds))) : W (exec why Φ (.own i es) ρ) N R Z := by
  simp only [qx_set, qx_own, qx_set2, qx_app, qx_last, qx_inc, qx_frz, qx_ret, qx_ite, qx_for, qx_while, qx_raise, qx_run, qx_get, qx_try, h, Option.bind_some, if_pos hl]; exact hN
theorem W.set2 {i j : Nat} {e : X} {a b : D} (h : eval Φ e ρ = some (.tuple [a, b])) (hN : N (upd (upd ρ i (.fro a)) j (.fro b))) : W (exec why Φ (.set2 i j e) ρ) N R Z := by
  simp only [qx_set, qx_own, qx_set2, qx_app, qx_last, qx_inc, qx_frz, qx_ret, qx_ite, qx_for, qx_while, qx_raise, qx_run, qx_get, qx_try, h, Option.bind_some, qv_bind2, Option.map_some]; exact hN
theorem W.app {i : Nat} {e : X} {d : D} {ds : List D} (hi : ρ i = some (.own ds)) (hl : ds.length ≤ 1000) (h : eval Φ e ρ = some d) (hN : N (upd ρ i (.own (ds ++ [d])))) : W (exec why Φ (.app i e) ρ) N R Z := by
  simp only [qx_set, qx_own, qx_set2, qx_app, qx_last, qx_inc, qx_frz, qx_ret, qx_ite, qx_for, qx_while, qx_raise, qx_run, qx_get, qx_try, hi, h, Option.map_some, if_pos hl]; exact hN
theorem W.last {i : Nat} {e : X} {d x : D} {ds : List D} (hi : ρ i = some (.own (ds ++ [x]))) (hl : ds.length < 1000) (h : eval Φ e ρ = some d) (hN : N (upd ρ i (.own (ds ++ [d])))) : W (exec why Φ (.last i e) ρ) N R Z := by
  simp only [qx_set, qx_own, qx_set2, qx_app, qx_last, qx_inc, qx_frz, qx_ret, qx_ite, qx_for, qx_while, qx_raise, qx_run, qx_get, qx_try, hi, h, Option.map_some]
  rw [if_pos (by simp; omega)]
  have : (ds ++ [x]).set ((ds ++ [x]).length - 1) d = ds ++ [d] := by simp
  rw [this]; exact hN
theorem W.inc {i : Nat} {e : X} {a b : Int} (hi : ρ i = some (.fro (.int a))) (h : eval Φ e ρ = some (.int b)) (hN : N (upd ρ i (.fro (.int (a + b))))) : W (exec why Φ (.inc i e) ρ) N R Z := by
  simp only [qx_set, qx_own, qx_set2, qx_app, qx_last, qx_inc, qx_frz, qx_ret, qx_ite, qx_for, qx_while, qx_raise, qx_run, qx_get, qx_try, hi, h, qv_intD, Option.bind_some, Option.map_some]; exact hN
theorem W.frz {i : Nat} {ds : List D} (hi : ρ i = some (.own ds)) (hN : N (upd ρ i (.fro (.list ds)))) : W (exec why Φ (.frz i) ρ) N R Z := by
  simp only [qx_set, qx_own, qx_set2, qx_app, qx_last, qx_inc, qx_frz, qx_ret, qx_ite, qx_for, qx_while, qx_raise, qx_run, qx_get, qx_try, hi]; exact hN
theorem W.ret {e : X} {d : D} (h : eval Φ e ρ = some d) (hR : R d) : W (exec why Φ (.ret e) ρ) N R Z := by
  simp only [qx_set, qx_own, qx_set2, qx_app, qx_last, qx_inc, qx_frz, qx_ret, qx_ite, qx_for, qx_while, qx_raise, qx_run, qx_get, qx_try, h, Option.map_some]; exact hR
theorem W.ite {c : B} {a b : SS} {t : Bool} (h : evB Φ c ρ = some t) (h1 : t = true → W (execs why Φ a ρ) N R Z) (h2 : t = false → W (execs why Φ b ρ) N R Z) : W (exec why Φ (.ite c a b) ρ) N R Z := by
  simp only [qx_set, qx_own, qx_set2, qx_app, qx_last, qx_inc, qx_frz, qx_ret, qx_ite, qx_for, qx_while, qx_raise, qx_run, qx_get, qx_try, h, Option.bind_some]
  cases t
  · exact h2 rfl
  · exact h1 rfl
theorem W.raise (h : Z) : W (exec why Φ .raise ρ) N R Z := by
  simp only [qx_set, qx_own, qx_set2, qx_app, qx_last, qx_inc, qx_frz, qx_ret, qx_ite, qx_for, qx_while, qx_raise, qx_run, qx_get, qx_try]; exact h
theorem W.seq {f : D → Vars → Option Out} {α : Type} {enc : α → D} {xs : List α} (I : List α → Vars → Prop) (h0 : I [] ρ)
    (step : ∀ done x rest ρ, xs = done ++ x :: rest → I done ρ → W (f (enc x) ρ) (fun ρ' => I (done ++ [x]) ρ') R Z) (hN : ∀ ρ, I xs ρ → N ρ) : W (forL f (xs.map enc) ρ) N R Z := by
  suffices ∀ (rest done : List α) (ρ : Vars), xs = done ++ rest → I done ρ → W (forL f (rest.map enc) ρ) N R Z from this xs [] ρ rfl h0
  intro rest
  induction rest with
  | nil =>
    intro done ρ e i
    simp only [List.map_nil, forL]
    rw [List.append_nil] at e
    exact hN ρ (e ▸ i)
  | cons x rest ih =>
    intro done ρ e i
    simp only [List.map_cons, forL]
    have s := step done x rest ρ e i
    rcases h : f (enc x) ρ with _ | (ρ' | d | _) <;> rw [h] at s
    · exact s
    · exact ih (done ++ [x]) ρ' (by rw [e]; simp) s
    · exact s
    · exact s
theorem intsFrom_eq : ∀ (n : Nat) (a : Int), intsFrom a n = (List.range n).map fun k : Nat => (.int (a + (k : Int)) : D)
  | 0, a => rfl
  | n + 1, a => by
    rw [List.range_succ_eq_map, intsFrom, intsFrom_eq n (a + 1)]
    simp only [List.map_cons, List.map_map, Int.natCast_zero, Int.add_zero]
    congr 1
    refine List.map_congr_left fun k _ => ?_
    simp only [Function.comp]
    congr 1
    omega
theorem W.range {f : D → Vars → Option Out} {n : Nat} (I : Nat → Vars → Prop) (h0 : I 0 ρ)
    (step : ∀ k ρ, k < n → I k ρ → W (f (.int (k : Int)) ρ) (fun ρ' => I (k + 1) ρ') R Z) (hN : ∀ ρ, I n ρ → N ρ) : W (forL f (intsFrom 0 n) ρ) N R Z := by
  rw [intsFrom_eq]
  refine W.seq (fun done ρ => I done.length ρ) h0 (fun done x rest ρ e i => ?_) (fun ρ i => hN ρ (by simpa using i))
  have hx : x = done.length ∧ done.length < n := by
    have h1 : (List.range n)[done.length]? = some x := by rw [e]; simp
    rw [List.getElem?_eq_some_iff] at h1
    obtain ⟨h2, h3⟩ := h1
    simp at h2 h3
    exact ⟨h3.symm, h2⟩
  obtain ⟨rfl, hl⟩ := hx
  rw [List.length_append]
  simpa using step _ ρ hl i
end
end Mine
-- P2
namespace Mine
open PySem PySem.W PyProof.Rows PySem.Calls
theorem Phi_W {f : Nat} {ds : List D} {P : D → Prop} {Z : Prop} (hl : ds.length = (bodyOf f).1) (h : W (execs whyC (rs Phi f) (bodyOf f).2 (args0 ds)) (fun _ => P .none) P Z) :
    (∃ d, Phi f ds = some (.ok d) ∧ P d) ∨ (Phi f ds = some (.error ()) ∧ Z) := by
  rw [Phi_def, if_pos hl]
  rcases h1 : execs whyC (rs Phi f) (bodyOf f).2 (args0 ds) with _ | (ρ | d | _) <;> rw [h1] at h
  · exact h.elim
  · exact .inl ⟨_, rfl, h⟩
  · exact .inl ⟨_, rfl, h⟩
  · exact .inr ⟨rfl, h⟩
theorem Phi_ok {f : Nat} {ds : List D} {P : D → Prop} (hl : ds.length = (bodyOf f).1) (h : W (execs whyC (rs Phi f) (bodyOf f).2 (args0 ds)) (fun _ => P .none) P False) : ∃ d, Phi f ds = some (.ok d) ∧ P d := by
  rcases Phi_W hl h with h | ⟨_, h⟩
  · exact h
  · exact h.elim
theorem rs_lt {n f : Nat} (h : f < n) (ds : List D) : rs Phi n f ds = Phi f ds := by unfold rs; rw [if_pos h]
structure Lit where
  box : List (Int × Int)
  data : D
  num : Int
  name : Str
noncomputable def spanD (p : Int × Int) : D := .tuple [.int p.1, .int p.2]
noncomputable def boxD (b : List (Int × Int)) : D := .tuple (b.map spanD)
noncomputable def litD (l : Lit) : D := .tuple [boxD l.box, l.data, .int l.num, .str l.name]
noncomputable def keyD (k : List Int) : D := .tuple (k.map .int)
noncomputable def dataA : List D := [.none, .tuple [.str (Str.ofString "accept"), .str (Str.ofString "")], .tuple [.str (Str.ofString "drop"), .str (Str.ofString "")], .tuple [.str (Str.ofString "jump"), .str (Str.ofString "a")], .tuple [.int 7], .tuple [.int 7, .int 80], .tuple [.int 8]]
theorem dataA_lay : ∀ d ∈ dataA, layOk d = true ∧ d.canLay0 = true ∧ d.depth ≤ 1 := by decide +kernel
theorem dataA_eqv : ∀ d ∈ dataA, ∀ e ∈ dataA, PyData.eqv d e = true → d = e := by
  intro d hd e he h
  simp only [dataA, List.mem_cons, List.not_mem_nil, or_false] at hd he
  rcases hd with rfl | rfl | rfl | rfl | rfl | rfl | rfl <;> rcases he with rfl | rfl | rfl | rfl | rfl | rfl | rfl <;> first | rfl | (exfalso; revert h; decide +kernel)
theorem none_mem : (PyData.none : D) ∈ dataA := by simp [dataA]
mutual
theorem eqv_refl : ∀ d : D, d.canLay0 = true → PyData.eqv d d = true
  | .none, _ => rfl
  | .bool b, _ => by simp [PyData.eqv]
  | .int b, _ => by simp [PyData.eqv]
  | .str b, _ => by simp [PyData.eqv]
  | .list xs, h => by simp only [PyData.eqv]; exact eqvs_refl xs (by simpa [PyData.canLay0] using h)
  | .tuple xs, h => by simp only [PyData.eqv]; exact eqvs_refl xs (by simpa [PyData.canLay0] using h)
  | .dict _, h => by simp [PyData.canLay0] at h
theorem eqvs_refl : ∀ d : List D, PyData.canLayAll0 d = true → PyData.eqvAll d d = true
  | [], _ => rfl
  | x :: xs, h => by
    simp only [PyData.canLayAll0, Bool.and_eq_true] at h
    simp only [PyData.eqvAll, Bool.and_eq_true]
    exact ⟨eqv_refl x h.1, eqvs_refl xs h.2⟩
end
theorem dataA_eqv_iff {d e : D} (hd : d ∈ dataA) (he : e ∈ dataA) : PyData.eqv d e = true ↔ d = e :=
  ⟨dataA_eqv d hd e he, fun h => by subst h; exact eqv_refl d (dataA_lay d hd).2.1⟩
theorem canLays {α : Type} (f : α → D) : ∀ l : List α, (∀ x ∈ l, (f x).canLay0 = true) → PyData.canLayAll0 (l.map f) = true
  | [], _ => rfl
  | x :: xs, h => by
    simp only [List.map_cons, PyData.canLayAll0, Bool.and_eq_true]
    exact ⟨h x (.head _), canLays f xs fun y m => h y (.tail _ m)⟩
theorem depths {α : Type} (f : α → D) (n : Nat) : ∀ l : List α, (∀ x ∈ l, (f x).depth ≤ n) → PyData.depthAll (l.map f) ≤ n
  | [], _ => Nat.zero_le _
  | x :: xs, h => by
    simp only [List.map_cons, PyData.depthAll]
    have := h x (.head _)
    have := depths f n xs fun y m => h y (.tail _ m)
    omega
theorem span_lay (p : Int × Int) : (spanD p).canLay0 = true ∧ (spanD p).depth ≤ 1 := by simp [spanD, PyData.canLay0, PyData.canLayAll0, PyData.depth, PyData.depthAll]
theorem box_lay (b : List (Int × Int)) : (boxD b).canLay0 = true ∧ (boxD b).depth ≤ 2 := by
  unfold boxD
  simp only [PyData.canLay0, PyData.depth]
  refine ⟨canLays _ _ fun p _ => (span_lay p).1, ?_⟩
  have := depths spanD 1 b fun p _ => (span_lay p).2
  omega
theorem box_layOk (b : List (Int × Int)) : layOk (boxD b) = true := by
  have := box_lay b
  simp only [layOk, Bool.and_eq_true, decide_eq_true_eq]
  exact ⟨this.1, by omega⟩
theorem lit_lay {l : Lit} (h1 : l.data ∈ dataA) (h2 : (PyData.str l.name).canLay0 = true) : (litD l).canLay0 = true ∧ (litD l).depth ≤ 3 := by
  have h3 := dataA_lay _ h1
  have h4 := box_lay l.box
  simp only [PyData.canLay0] at h2
  simp only [litD, PyData.canLay0, PyData.canLayAll0, PyData.depth, PyData.depthAll, h2, h3.2.1, h4.1, Bool.and_self, true_and]
  omega
theorem span_eqv (p q : Int × Int) : PyData.eqv (spanD p) (spanD q) = decide (p = q) := by
  obtain ⟨a, b⟩ := p
  obtain ⟨c, d⟩ := q
  simp only [spanD, PyData.eqv, PyData.eqvAll, Bool.and_true, Prod.mk.injEq, Bool.decide_and]
  rfl
theorem box_eqv (a b : List (Int × Int)) : PyData.eqv (boxD a) (boxD b) = decide (a = b) := by
  unfold boxD
  simp only [PyData.eqv]
  induction a generalizing b with
  | nil => cases b <;> simp [PyData.eqvAll]
  | cons x a ih =>
    cases b with
    | nil => simp [PyData.eqvAll]
    | cons y b =>
      simp only [List.map_cons, PyData.eqvAll, ih, span_eqv, List.cons.injEq, Bool.decide_and]
/-- a box of one span or of two -/
noncomputable def Dim (b : List (Int × Int)) (m : Nat) : Prop := b.length = m ∧ (m = 1 ∨ m = 2) ∧ ∀ p ∈ b, p.1 ≤ p.2
theorem Dim.elim {b : List (Int × Int)} {m : Nat} (h : Dim b m) : (m = 1 ∧ ∃ l u, b = [(l, u)] ∧ l ≤ u) ∨ (m = 2 ∧ ∃ l u l' u', b = [(l, u), (l', u')] ∧ l ≤ u ∧ l' ≤ u') := by
  obtain ⟨h1, h2 | h2, h3⟩ := h
  · rw [h2] at h1
    exact len1 (P := fun b => (∀ p ∈ b, p.1 ≤ p.2) → (m = 1 ∧ ∃ l u, b = [(l, u)] ∧ l ≤ u) ∨ (m = 2 ∧ ∃ l u l' u', b = [(l, u), (l', u')] ∧ l ≤ u ∧ l' ≤ u')) (fun p h3 => .inl ⟨h2, p.1, p.2, rfl, h3 _ (.head _)⟩) b h1 h3
  · rw [h2] at h1
    exact len2 (P := fun b => (∀ p ∈ b, p.1 ≤ p.2) → (m = 1 ∧ ∃ l u, b = [(l, u)] ∧ l ≤ u) ∨ (m = 2 ∧ ∃ l u l' u', b = [(l, u), (l', u')] ∧ l ≤ u ∧ l' ≤ u')) (fun p q h3 => .inr ⟨h2, p.1, p.2, q.1, q.2, rfl, h3 _ (.head _), h3 _ (.tail _ (.head _))⟩) b h1 h3
noncomputable def meets : List (Int × Int) → List (Int × Int) → Bool
  | p :: a, q :: b => !(decide (q.2 < p.1) || decide (p.2 < q.1)) && meets a b
  | _, _ => true
noncomputable def hasK : List (Int × Int) → List Int → Bool
  | p :: a, k :: b => (decide (p.1 ≤ k) && decide (k ≤ p.2)) && hasK a b
  | _, _ => true
end Mine
-- ES
namespace Mine
open PySem PySem.W PyProof.Rows PySem.Calls
theorem idxD_map {α : Type} {enc : α → D} {xs : List α} {x : α} {i : Int} (h0 : 0 ≤ i) (hx : xs[i.toNat]? = some x) (hl : xs.length ≤ 100000) : idxD (xs.map enc) i = some (enc x) := by
  unfold idxD
  rw [if_pos (by simpa using hl), if_pos h0]
  simp [hx]
theorem ev_bin (Φ : Nat → List D → Option (Except Unit D)) (o : Operator) (a b : X) (ρ : Vars) (x y : D) (h1 : eval Φ a ρ = some x) (h2 : eval Φ b ρ = some y) : eval Φ (.bin o a b) ρ = binD o x y := by rw [qe_bin, h1, h2]; rfl
theorem ev_lit (Φ : Nat → List D → Option (Except Unit D)) (d : D) (ρ : Vars) : eval Φ (.lit d) ρ = some d := by rw [qe_lit]
theorem ev_var (Φ : Nat → List D → Option (Except Unit D)) (i : Nat) (d : D) (ρ : Vars) (h : ρ i = some (.fro d)) : eval Φ (.var i) ρ = some d := by rw [qe_var, h]
theorem binD_mod {a b : Int} (h : b ≠ 0) : binD .Mod (.int a) (.int b) = some (.int (a.fmod b)) := if_pos h
section
variable {Φ : Nat → List D → Option (Except Unit D)} {ρ : Vars} {a b i : X} {d x y : D} {ds : List D} {t : Bool}
theorem seqV_eval (h : eval Φ a ρ = some d) : seqV a ρ (eval Φ a ρ) = seqOf d := by
  rw [h]
  cases a <;> try rfl
  rename_i i
  simp only [qe_var, qe_lit, qe_tup, qe_lst, qe_bin, qe_neg, qe_cmp, qe_ife, qe_idx, qe_from, qe_upto, qe_len, qe_max2, qe_str, qe_tupOf, qe_lstOf, qe_sorted, qe_call, qe_comp, qe_flat] at h
  simp only [qv_vVar]
  rcases h2 : ρ i with _ | (e | e) <;> rw [h2] at h <;> first | rfl | (cases h)
theorem ev_idx {k : Int} (h : eval Φ a ρ = some d) (hd : seqOf d = some (t, ds)) (hi : eval Φ i ρ = some (.int k)) (hx : idxD ds k = some x) : eval Φ (.idx a i) ρ = some x := by
  rw [qe_idx, seqV_eval h, hd, Option.bind_some, hi, Option.bind_some, qv_intD, Option.bind_some, hx]
theorem ev_idxO {j : Nat} {k : Int} (h : ρ j = some (.own ds)) (hi : eval Φ i ρ = some (.int k)) (hx : idxD ds k = some x) : eval Φ (.idx (.var j) i) ρ = some x := by
  have : seqV (.var j) ρ (eval Φ (.var j) ρ) = some (true, ds) := by simp only [qv_vVar, h]
  rw [qe_idx, this, Option.bind_some, hi, Option.bind_some, qv_intD, Option.bind_some, hx]
theorem ev_neg1 : eval Φ (.neg (.lit (.int 1))) ρ = some (.int (-1)) := by simp [qe_var, qe_lit, qe_tup, qe_lst, qe_bin, qe_neg, qe_cmp, qe_ife, qe_idx, qe_from, qe_upto, qe_len, qe_max2, qe_str, qe_tupOf, qe_lstOf, qe_sorted, qe_call, qe_comp, qe_flat, qv_intD]
theorem ev_len (h : eval Φ a ρ = some d) (hd : seqOf d = some (t, ds)) (hl : ds.length ≤ 1000) : eval Φ (.len a) ρ = some (.int ds.length) := by
  rw [qe_len, seqV_eval h, hd, Option.bind_some, if_pos (by show ds.length ≤ 100000; omega)]
theorem ev_lenO {j : Nat} (h : ρ j = some (.own ds)) (hl : ds.length ≤ 1000) : eval Φ (.len (.var j)) ρ = some (.int ds.length) := by
  have : seqV (.var j) ρ (eval Φ (.var j) ρ) = some (true, ds) := by simp only [qv_vVar, h]
  rw [qe_len, this, Option.bind_some, if_pos (by show ds.length ≤ 100000; omega)]
theorem ev_box {l : Lit} (h : eval Φ a ρ = some (litD l)) : eval Φ (.idx a (.lit (.int 0))) ρ = some (boxD l.box) := ev_idx h rfl (ev_lit _ _ _) rfl
theorem ev_data {l : Lit} (h : eval Φ a ρ = some (litD l)) : eval Φ (.idx a (.lit (.int 1))) ρ = some l.data := ev_idx h rfl (ev_lit _ _ _) rfl
theorem ev_sp0 {l u : Int} (h : eval Φ a ρ = some (spanD (l, u))) : eval Φ (.idx a (.lit (.int 0))) ρ = some (.int l) := ev_idx h rfl (ev_lit _ _ _) rfl
theorem ev_sp1 {l u : Int} (h : eval Φ a ρ = some (spanD (l, u))) : eval Φ (.idx a (.lit (.int 1))) ρ = some (.int u) := ev_idx h rfl (ev_lit _ _ _) rfl
theorem ev_span {s : Int × Int} {r : List (Int × Int)} (h : eval Φ a ρ = some (boxD (s :: r))) (hr : r.length ≤ 10) : eval Φ (.idx a (.lit (.int 0))) ρ = some (spanD s) := by
  refine ev_idx h rfl (ev_lit _ _ _) ?_
  unfold idxD
  rw [if_pos (by simp; omega), if_pos (by omega)]
  rfl
theorem ev_tup {es : XS} (h : evals Φ es ρ = some ds) (hl : ds.length ≤ 1000) : eval Φ (.tup es) ρ = some (.tuple ds) := by rw [qe_tup, h, Option.bind_some, small, if_pos hl]
theorem evs_cons {es : XS} (h : eval Φ a ρ = some x) (hs : evals Φ es ρ = some ds) : evals Φ (.cons a es) ρ = some (x :: ds) := by rw [qs_cons, h, Option.bind_some, hs, Option.map_some]
theorem evs_nil : evals Φ .nil ρ = some [] := by rw [qs_nil]
theorem ev_call {f n : Nat} {es : XS} (h : evals (rs Phi n) es ρ = some ds) (hf : f < n) (hp : Phi f ds = some (.ok d)) : eval (rs Phi n) (.call f es) ρ = some d := by
  rw [qe_call, h, Option.bind_some, rs_lt hf, hp]
theorem evb_ne (h1 : eval Φ a ρ = some x) (h2 : eval Φ b ρ = some y) (l1 : layOk x = true) (l2 : layOk y = true) : evB Φ (.ne a b) ρ = some (!PyData.eqv x y) := by
  rw [qb_ne, h1, Option.bind_some, h2, Option.bind_some, if_pos ⟨l1, l2⟩]
theorem evb_eq (h1 : eval Φ a ρ = some x) (h2 : eval Φ b ρ = some y) (l1 : layOk x = true) (l2 : layOk y = true) : evB Φ (.eq a b) ρ = some (PyData.eqv x y) := by
  rw [qb_eq, h1, Option.bind_some, h2, Option.bind_some, if_pos ⟨l1, l2⟩]
theorem evb_own {j : Nat} (h : ρ j = some (.own ds)) (hl : ds.length ≤ 1000) : evB Φ (.val (.var j)) ρ = some (!ds.isEmpty) := by
  rw [qb_valO]
  simp only [h]
  rw [if_pos (by show ds.length ≤ 100000; omega)]
theorem evb_call {f : Nat} {es : XS} {t : Bool} (h : eval Φ (.call f es) ρ = some (.bool t)) : evB Φ (.val (.call f es)) ρ  = some t := by
  rw [qb_valC, h]; rfl
theorem evb_fro {j : Nat} {b : Bool} (h : ρ j = some (.fro (.bool b))) : evB Φ (.val (.var j)) ρ = some b := by
  rw [qb_valO]
  simp only [h, qe_var, qe_lit, qe_tup, qe_lst, qe_bin, qe_neg, qe_cmp, qe_ife, qe_idx, qe_from, qe_upto, qe_len, qe_max2, qe_str, qe_tupOf, qe_lstOf, qe_sorted, qe_call, qe_comp, qe_flat]
  rfl
theorem evb_froL {j : Nat} (h : ρ j = some (.fro (.list ds))) (hl : ds.length ≤ 1000) : evB Φ (.val (.var j)) ρ = some (!ds.isEmpty) := by
  rw [qb_valO]
  simp only [h, qe_var, qe_lit, qe_tup, qe_lst, qe_bin, qe_neg, qe_cmp, qe_ife, qe_idx, qe_from, qe_upto, qe_len, qe_max2, qe_str, qe_tupOf, qe_lstOf, qe_sorted, qe_call, qe_comp, qe_flat, Option.bind_some, qv_tB, qv_tL, qv_tN]
  rw [if_pos (by show ds.length ≤ 100000; omega)]
theorem evb_not {c : B} (h : evB Φ c ρ = some t) : evB Φ (.not c) ρ = some (!t) := by rw [qb_not, h, Option.map_some]
theorem evb_or {c c' : B} {u : Bool} (h : evB Φ c ρ = some t) (h' : t = false → evB Φ c' ρ = some u) : evB Φ (.or c c') ρ = some (t || (if t = false then u else false)) := by
  rw [qb_or, h, Option.bind_some]
  cases t
  · simp [h' rfl]
  · simp
theorem evb_and {c c' : B} {u : Bool} (h : evB Φ c ρ = some t) (h' : t = true → evB Φ c' ρ = some u) : evB Φ (.and c c') ρ = some (t && u) := by
  rw [qb_and, h, Option.bind_some]
  cases t
  · simp
  · simp [h' rfl]
theorem evb_cmp {o : CmpOp} {u v : Int} {f : Int → Int → Bool} (h1 : eval Φ a ρ = some (.int u)) (h2 : eval Φ b ρ = some (.int v)) (hf : cmpI o = some f) : evB Φ (.cmp o a b) ρ = some (f u v) := by
  show ((eval Φ a ρ).bind fun x => (eval Φ b ρ).bind fun y => cmpD o x y) = _
  rw [h1, h2]
  show (cmpI o).map (fun f => f u v) = _
  rw [hf]; rfl
theorem ev_cmp {o : CmpOp} {u v : Int} {f : Int → Int → Bool} (h1 : eval Φ a ρ = some (.int u)) (h2 : eval Φ b ρ = some (.int v)) (hf : cmpI o = some f) : eval Φ (.cmp o a b) ρ = some (.bool (f u v)) := by
  show ((eval Φ a ρ).bind fun x => (eval Φ b ρ).bind fun y => (cmpD o x y).map PyData.bool) = _
  rw [h1, h2]
  show ((cmpI o).map fun f => f u v).map PyData.bool = _
  rw [hf]; rfl
end
end Mine
-- P3
namespace Mine
open PySem PySem.W PyProof.Rows PySem.Calls
theorem idxD_last {α : Type} {enc : α → D} {xs : List α} {x : α} (hx : xs.getLast? = some x) (hl : xs.length ≤ 100000) : idxD (xs.map enc) (-1) = some (enc x) := by
  unfold idxD
  have hn : xs ≠ [] := by rintro rfl; cases hx
  have hp : 0 < xs.length := List.length_pos_iff.mpr hn
  rw [if_pos (by simpa using hl), if_neg (by omega), if_pos (by simp; omega)]
  have : ((-1 : Int) + ((xs.map enc).length : Nat)).toNat = xs.length - 1 := by simp; omega
  rw [this, List.getElem?_map, ← List.getLast?_eq_getElem?, hx]
  rfl
theorem compL_map {α : Type} {enc h : α → D} {g : D → Option (Option D)} {p : α → Bool} : ∀ (xs : List α), (∀ x ∈ xs, g (enc x) = some (if p x then some (h x) else none)) → compL g (xs.map enc) = some ((xs.filter p).map h)
  | [], _ => rfl
  | x :: xs, hg => by
    have ih := compL_map xs fun y m => hg y (.tail _ m)
    simp only [List.map_cons, compL, hg x (.head _), ih, Option.map_some, List.filter_cons]
    cases p x <;> rfl
theorem fmod3 (w : Int) : w.fmod 3 = 0 ∨ w.fmod 3 = 1 ∨ w.fmod 3 = 2 := by
  have h1 := Int.fmod_nonneg_of_pos w (show (0 : Int) < 3 by decide)
  have h2 := Int.fmod_lt_of_pos w (show (0 : Int) < 3 by decide)
  omega
noncomputable def dig (s : List Int) (p : Nat) : Int := s.getD p 0
theorem law_digit_spec {s : List Int} {p : Int} (hs : s.length ≤ 63) (hp : 0 ≤ p) : Phi 6 [.list (s.map .int), .int p] = some (.ok (.int (dig s p.toNat))) := by
  rw [Phi_def, if_pos (by rfl)]
  show resO (execs whyC (rs Phi 6) ss_law_digit _) = _
  by_cases h : p < s.length
  · have hx : s[p.toNat]? = some s[p.toNat] := List.getElem?_eq_getElem (by omega)
    have := idxD_map (enc := PyData.int) hp hx (by omega)
    have e : dig s p.toNat = s[p.toNat] := by unfold dig; rw [List.getD_eq_getElem?_getD, hx]; rfl
    have hl : s.length ≤ 100000 := by omega
    simp [ss_law_digit, args0, resO, qz_nil, qz_cons, qx_set, qx_own, qx_set2, qx_app, qx_last, qx_inc, qx_frz, qx_ret, qx_ite, qx_for, qx_while, qx_raise, qx_run, qx_get, qx_try, qe_var, qe_lit, qe_tup, qe_lst, qe_bin, qe_neg, qe_cmp, qe_ife, qe_idx, qe_from, qe_upto, qe_len, qe_max2, qe_str, qe_tupOf, qe_lstOf, qe_sorted, qe_call, qe_comp, qe_flat, qs_nil, qs_cons, qb_tt, qb_cmp, qb_eq, qb_ne, qb_isN, qb_notN, qb_chain, qb_and, qb_or, qb_not, qb_valO, qb_valC, qi_seq, qi_range, qf_seq, qf_range, qv_intD, qv_strD, qv_lstD, qv_int2, qv_addI, qv_addS, qv_addL, qv_sub, qv_mul, qv_div, qv_mod, qv_pow, qv_cmpD, qv_lt, qv_le, qv_gt, qv_eq, qv_ne, qv_bind1, qv_bind2, qv_seqL, qv_seqT, qv_tB, qv_tL, qv_tN, qv_nN, qv_nT, qv_nI, qv_items, qv_vVar, qv_vLit, qv_vTup, qv_vLst, qv_vBin, qv_vNeg, qv_vIdx, qv_vFrom, qv_vUpto, qv_vSorted, qv_vCall, qv_vComp, qv_vFlat, upd, small, lim, Option.bind_some, Option.map_some, Option.bind_none, Option.map_none, h, this, e, hl]
  · have e : dig s p.toNat = 0 := by unfold dig; rw [List.getD_eq_getElem?_getD, List.getElem?_eq_none (by omega)]; rfl
    have hl : s.length ≤ 100000 := by omega
    simp [ss_law_digit, args0, resO, qz_nil, qz_cons, qx_set, qx_own, qx_set2, qx_app, qx_last, qx_inc, qx_frz, qx_ret, qx_ite, qx_for, qx_while, qx_raise, qx_run, qx_get, qx_try, qe_var, qe_lit, qe_tup, qe_lst, qe_bin, qe_neg, qe_cmp, qe_ife, qe_idx, qe_from, qe_upto, qe_len, qe_max2, qe_str, qe_tupOf, qe_lstOf, qe_sorted, qe_call, qe_comp, qe_flat, qs_nil, qs_cons, qb_tt, qb_cmp, qb_eq, qb_ne, qb_isN, qb_notN, qb_chain, qb_and, qb_or, qb_not, qb_valO, qb_valC, qi_seq, qi_range, qf_seq, qf_range, qv_intD, qv_strD, qv_lstD, qv_int2, qv_addI, qv_addS, qv_addL, qv_sub, qv_mul, qv_div, qv_mod, qv_pow, qv_cmpD, qv_lt, qv_le, qv_gt, qv_eq, qv_ne, qv_bind1, qv_bind2, qv_seqL, qv_seqT, qv_tB, qv_tL, qv_tN, qv_nN, qv_nT, qv_nI, qv_items, qv_vVar, qv_vLit, qv_vTup, qv_vLst, qv_vBin, qv_vNeg, qv_vIdx, qv_vFrom, qv_vUpto, qv_vSorted, qv_vCall, qv_vComp, qv_vFlat, upd, small, lim, Option.bind_some, Option.map_some, Option.bind_none, Option.map_none, h, e, hl]
theorem data_ok {kind w : Int} {d : D} (h : W (execs whyC (rs Phi 7) ss_law_data (args0 [.int kind, .int w])) (fun _ => PyData.none = d) (fun d' => d' = d) False) : Phi 7 [.int kind, .int w] = some (.ok d) := by
  obtain ⟨d', q, rfl⟩ := Phi_ok (f := 7) (P := fun d' => d' = d) rfl h
  exact q
theorem pick3 {Φ : Nat → List D → Option (Except Unit D)} {ρ : Vars} {xs : X} {l : List D} {w : Int} {x : D} (hl : eval Φ xs ρ = some (.list l)) (h1 : ρ 1 = some (.fro (.int w))) (hx : idxD l (w.fmod 3) = some x) : eval Φ (.idx xs (.bin .Mod (.var 1) (.lit (.int 3)))) ρ = some x :=
  ev_idx hl rfl ((ev_bin _ _ _ _ _ _ _ (ev_var _ _ _ _ h1) (ev_lit _ _ _)).trans (binD_mod (by decide))) hx
theorem data_mem {d : D} {i : Nat} (h : dataA[i]? = some d) : d ∈ dataA := List.mem_of_getElem? h
theorem law_data_spec (kind w : Int) : ∃ d, Phi 7 [.int kind, .int w] = some (.ok d) ∧ d ∈ dataA ∧ (kind = 0 → d = .none) ∧ (kind ≠ 0 → d ≠ .none) := by
  by_cases h0 : kind = 0
  · subst h0
    exact ⟨.none, data_ok (W.cons (W.ite (evb_cmp (ev_var _ 0 _ _ rfl) (ev_lit _ _ _) rfl) (fun _ => W.cons (W.ret (ev_lit _ _ _) rfl)) fun e => nomatch e)), none_mem, fun _ => rfl, fun h => absurd rfl h⟩
  · have e0 : ∀ {P : Prop}, (kind == 0) = true → P := fun e => absurd (beq_iff_eq.mp e) h0
    have fin : ∀ {d : D} {i : Nat}, Phi 7 [.int kind, .int w] = some (.ok d) → dataA[i]? = some d → d ≠ .none → ∃ d, Phi 7 [.int kind, .int w] = some (.ok d) ∧ d ∈ dataA ∧ (kind = 0 → d = .none) ∧ (kind ≠ 0 → d ≠ .none) := fun h m n => ⟨_, h, data_mem m, fun e => absurd e h0, fun _ => n⟩
    by_cases h1 : kind = 1
    · have step : ∀ x, idxD [dataA[1], dataA[2], dataA[3]] (w.fmod 3) = some x → Phi 7 [.int kind, .int w] = some (.ok x) := fun x hx =>
        data_ok (W.cons (W.ite (evb_cmp (ev_var _ 0 _ _ rfl) (ev_lit _ _ _) rfl) e0 fun _ => W.nil (W.cons (W.ite (evb_cmp (ev_var _ 0 _ _ rfl) (ev_lit _ _ _) rfl) (fun _ => W.cons (W.ret (pick3 (l := [dataA[1], dataA[2], dataA[3]]) rfl rfl hx) rfl)) fun e => absurd (beq_iff_eq.mpr h1) (by rw [e]; decide)))))
      rcases fmod3 w with hw | hw | hw
      · exact fin (step _ (by rw [hw]; rfl)) (i := 1) rfl nofun
      · exact fin (step _ (by rw [hw]; rfl)) (i := 2) rfl nofun
      · exact fin (step _ (by rw [hw]; rfl)) (i := 3) rfl nofun
    · have step : ∀ x, idxD [dataA[4], dataA[5], dataA[6]] (w.fmod 3) = some x → Phi 7 [.int kind, .int w] = some (.ok x) := fun x hx =>
        data_ok (W.cons (W.ite (evb_cmp (ev_var _ 0 _ _ rfl) (ev_lit _ _ _) rfl) e0 fun _ => W.nil (W.cons (W.ite (evb_cmp (ev_var _ 0 _ _ rfl) (ev_lit _ _ _) rfl) (fun e => absurd (beq_iff_eq.mp e) h1) fun _ => W.nil (W.cons (W.ret (pick3 (l := [dataA[4], dataA[5], dataA[6]]) rfl rfl hx) rfl))))))
      rcases fmod3 w with hw | hw | hw
      · exact fin (step _ (by rw [hw]; rfl)) (i := 4) rfl nofun
      · exact fin (step _ (by rw [hw]; rfl)) (i := 5) rfl nofun
      · exact fin (step _ (by rw [hw]; rfl)) (i := 6) rfl nofun
noncomputable def bwD (p : List (Int × Int) × Int) : D := .tuple [boxD p.1, .int p.2]
noncomputable def nameOf (k : Nat) : Str := Str.ofString "c" ++ Str.ofString (toString (k : Int))
structure Told (bs : List (List (Int × Int) × Int)) (kind : Int) (l : Lit) : Prop where
  box : ∃ w, (l.box, w) ∈ bs
  data : l.data ∈ dataA
  z : kind = 0 → l.data = .none
  nz : kind ≠ 0 → l.data ≠ .none
  name : (PyData.str l.name).canLay0 = true
theorem name_ok : ∀ k < 6, (PyData.str (nameOf k)).canLay0 = true ∧ (Str.ofString "c").length + (Str.ofString (toString (k : Int))).length ≤ 1000 := by decide +kernel
theorem binD_mult {a b : Int} (h : -(2 ^ 64) < b ∧ b < 2 ^ 64) : binD .Mult (.int a) (.int b) = some (.int (a * b)) := if_pos h
theorem told_lit {k : Nat} {kind w : Int} {d : D} {b : List (Int × Int)} {ρ : Vars} (hk6 : (k : Int).natAbs < 1000000) (hkk : -(2 ^ 64) < (k : Int) ∧ (k : Int) < 2 ^ 64) (hn : (Str.ofString "c").length + (Str.ofString (toString (k : Int))).length ≤ 1000) (hd : Phi 7 [.int kind, .int w] = some (.ok d))
    (h1 : ρ 1 = some (.fro (.int kind))) (h4 : ρ 4 = some (.fro (.int (k : Int)))) (h5 : ρ 5 = some (.fro (boxD b))) (h6 : ρ 6 = some (.fro (.int w))) :
    eval (rs Phi 8) (.tup (.cons (.var 5) (.cons (.call 7 (.cons (.var 1) (.cons (.var 6) .nil))) (.cons (.bin .Mult (.lit (.int 1000)) (.var 4)) (.cons (.bin .Add (.lit (.str (Str.ofString "c"))) (.str (.var 4))) .nil))))) ρ = some (litD ⟨b, d, 1000 * k, nameOf k⟩) := by
  have e4 : eval (rs Phi 8) (.bin .Mult (.lit (.int 1000)) (.var 4)) ρ = some (.int (1000 * k)) := (ev_bin _ _ _ _ _ _ _ (ev_lit _ _ _) (ev_var _ _ _ _ h4)).trans (binD_mult hkk)
  have e5 : eval (rs Phi 8) (.bin .Add (.lit (.str (Str.ofString "c"))) (.str (.var 4))) ρ = some (.str (nameOf k)) := by
    simp only [qe_var, qe_lit, qe_tup, qe_lst, qe_bin, qe_neg, qe_cmp, qe_ife, qe_idx, qe_from, qe_upto, qe_len, qe_max2, qe_str, qe_tupOf, qe_lstOf, qe_sorted, qe_call, qe_comp, qe_flat, h4, Option.bind_some, qv_intD, if_pos hk6, qv_addS, if_pos hn, nameOf]
  have e6 : eval (rs Phi 8) (.call 7 (.cons (.var 1) (.cons (.var 6) .nil))) ρ = some d := by
    simp only [qe_var, qe_lit, qe_tup, qe_lst, qe_bin, qe_neg, qe_cmp, qe_ife, qe_idx, qe_from, qe_upto, qe_len, qe_max2, qe_str, qe_tupOf, qe_lstOf, qe_sorted, qe_call, qe_comp, qe_flat, qs_nil, qs_cons, h1, h6, Option.bind_some, Option.map_some, rs_lt (show 7 < 8 by decide), hd]
  have e7 : eval (rs Phi 8) (.var 5) ρ = some (boxD b) := by simp only [qe_var, qe_lit, qe_tup, qe_lst, qe_bin, qe_neg, qe_cmp, qe_ife, qe_idx, qe_from, qe_upto, qe_len, qe_max2, qe_str, qe_tupOf, qe_lstOf, qe_sorted, qe_call, qe_comp, qe_flat, h5]
  rw [qe_tup, qs_cons, qs_cons, qs_cons, qs_cons, qs_nil, e4, e5, e6, e7]
  rfl
theorem law_told_spec {bs : List (List (Int × Int) × Int)} {kind head : Int} (hb : bs.length ≤ 6) : ∃ L : List Lit, Phi 8 [.list (bs.map bwD), .int kind, .int head] = some (.ok (.list (L.map litD))) ∧ L.length = bs.length ∧ ∀ l ∈ L, Told bs kind l := by
  suffices h : ∃ d, Phi 8 [.list (bs.map bwD), .int kind, .int head] = some (.ok d) ∧ ∃ L : List Lit, d = .list (L.map litD) ∧ L.length = bs.length ∧ ∀ l ∈ L, Told bs kind l by
    obtain ⟨_, h, L, rfl, h2⟩ := h
    exact ⟨L, h, h2⟩
  refine Phi_ok (by rfl) ?_
  show W (execs whyC (rs Phi 8) ss_law_told _) _ _ _
  refine W.cons (W.own (ds := []) (by simp [qs_nil, qs_cons]) (by simp) ?_)
  refine W.cons ?_
  have hit : evItF (rs Phi 8) (.range (.len (.var 0))) (upd (args0 [.list (bs.map bwD), .int kind, .int head]) 3 (.own [])) = some (intsFrom 0 bs.length) := by
    have : bs.length ≤ 100000 := by omega
    have h1 : (-1000000 : Int) ≤ bs.length ∧ (bs.length : Int) ≤ 1000000 := by omega
    simp [qz_nil, qz_cons, qx_set, qx_own, qx_set2, qx_app, qx_last, qx_inc, qx_frz, qx_ret, qx_ite, qx_for, qx_while, qx_raise, qx_run, qx_get, qx_try, qe_var, qe_lit, qe_tup, qe_lst, qe_bin, qe_neg, qe_cmp, qe_ife, qe_idx, qe_from, qe_upto, qe_len, qe_max2, qe_str, qe_tupOf, qe_lstOf, qe_sorted, qe_call, qe_comp, qe_flat, qs_nil, qs_cons, qb_tt, qb_cmp, qb_eq, qb_ne, qb_isN, qb_notN, qb_chain, qb_and, qb_or, qb_not, qb_valO, qb_valC, qi_seq, qi_range, qf_seq, qf_range, qv_intD, qv_strD, qv_lstD, qv_int2, qv_addI, qv_addS, qv_addL, qv_sub, qv_mul, qv_div, qv_mod, qv_pow, qv_cmpD, qv_lt, qv_le, qv_gt, qv_eq, qv_ne, qv_bind1, qv_bind2, qv_seqL, qv_seqT, qv_tB, qv_tL, qv_tN, qv_nN, qv_nT, qv_nI, qv_items, qv_vVar, qv_vLit, qv_vTup, qv_vLst, qv_vBin, qv_vNeg, qv_vIdx, qv_vFrom, qv_vUpto, qv_vSorted, qv_vCall, qv_vComp, qv_vFlat, upd, small, lim, Option.bind_some, Option.map_some, Option.bind_none, Option.map_none, args0, this, h1]
  simp only [qx_set, qx_own, qx_set2, qx_app, qx_last, qx_inc, qx_frz, qx_ret, qx_ite, qx_for, qx_while, qx_raise, qx_run, qx_get, qx_try, hit, Option.bind_some]
  refine W.range (fun k ρ => ρ 0 = some (.fro (.list (bs.map bwD))) ∧ ρ 1 = some (.fro (.int kind)) ∧ ρ 2 = some (.fro (.int head)) ∧ ∃ L : List Lit, ρ 3 = some (.own (L.map litD)) ∧ L.length = k ∧ ∀ l ∈ L, Told bs kind l) ⟨by simp [args0, upd], by simp [args0, upd], by simp [args0, upd], [], by simp [upd], rfl, by simp⟩ ?_ ?_
  · rintro k ρ hk ⟨h0, h1, h2, L, h3, hL, hT⟩
    simp only [qv_bind1, qv_bind2, Option.bind_some]
    have hx : bs[k]? = some bs[k] := List.getElem?_eq_getElem hk
    generalize bs[k] = x at hx
    obtain ⟨b, w⟩ := x
    have hi := idxD_map (enc := bwD) (i := (k : Int)) (xs := bs) (x := (b, w)) (by omega) (by simpa using hx) (by omega)
    refine W.cons (W.set2 (a := boxD b) (b := .int w) (by simp [qz_nil, qz_cons, qx_set, qx_own, qx_set2, qx_app, qx_last, qx_inc, qx_frz, qx_ret, qx_ite, qx_for, qx_while, qx_raise, qx_run, qx_get, qx_try, qe_var, qe_lit, qe_tup, qe_lst, qe_bin, qe_neg, qe_cmp, qe_ife, qe_idx, qe_from, qe_upto, qe_len, qe_max2, qe_str, qe_tupOf, qe_lstOf, qe_sorted, qe_call, qe_comp, qe_flat, qs_nil, qs_cons, qb_tt, qb_cmp, qb_eq, qb_ne, qb_isN, qb_notN, qb_chain, qb_and, qb_or, qb_not, qb_valO, qb_valC, qi_seq, qi_range, qf_seq, qf_range, qv_intD, qv_strD, qv_lstD, qv_int2, qv_addI, qv_addS, qv_addL, qv_sub, qv_mul, qv_div, qv_mod, qv_pow, qv_cmpD, qv_lt, qv_le, qv_gt, qv_eq, qv_ne, qv_bind1, qv_bind2, qv_seqL, qv_seqT, qv_tB, qv_tL, qv_tN, qv_nN, qv_nT, qv_nI, qv_items, qv_vVar, qv_vLit, qv_vTup, qv_vLst, qv_vBin, qv_vNeg, qv_vIdx, qv_vFrom, qv_vUpto, qv_vSorted, qv_vCall, qv_vComp, qv_vFlat, upd, small, lim, Option.bind_some, Option.map_some, Option.bind_none, Option.map_none, h0, hi]; rfl) ?_)
    obtain ⟨d, hd, hd1, hd2, hd3⟩ := law_data_spec kind w
    have hn := name_ok k (by omega)
    have hk6 : (k : Int).natAbs < 1000000 := by omega
    have hkk : -(2 ^ 64) < (k : Int) ∧ (k : Int) < 2 ^ 64 := by omega
    refine W.cons (W.app (ds := L.map litD) (d := litD ⟨b, d, 1000 * k, nameOf k⟩) (by simp [upd, h3]) (by simp; omega) ?_ (W.nil ?_))
    · exact told_lit hk6 hkk hn.2 hd (by simp [upd, h1]) (by simp [upd]) (by simp [upd]) (by simp [upd])
    · refine ⟨by simp [upd, h0], by simp [upd, h1], by simp [upd, h2], L ++ [⟨b, d, 1000 * k, nameOf k⟩], by simp [upd], by simp [hL], fun l hl => ?_⟩
      rcases List.mem_append.mp hl with hl | hl
      · exact hT l hl
      · rw [List.mem_singleton] at hl
        subst hl
        exact ⟨⟨w, List.mem_of_getElem? hx⟩, hd1, hd2, hd3, hn.1⟩
  · rintro ρ ⟨h0, h1, h2, L, h3, hL, hT⟩
    have hl : L.length ≤ 100000 := by omega
    have hne : (L.length : Int) + 1 ≠ 0 := by omega
    refine W.cons (W.set (d := .int (head.fmod (L.length + 1))) (by simp [qz_nil, qz_cons, qx_set, qx_own, qx_set2, qx_app, qx_last, qx_inc, qx_frz, qx_ret, qx_ite, qx_for, qx_while, qx_raise, qx_run, qx_get, qx_try, qe_var, qe_lit, qe_tup, qe_lst, qe_bin, qe_neg, qe_cmp, qe_ife, qe_idx, qe_from, qe_upto, qe_len, qe_max2, qe_str, qe_tupOf, qe_lstOf, qe_sorted, qe_call, qe_comp, qe_flat, qs_nil, qs_cons, qb_tt, qb_cmp, qb_eq, qb_ne, qb_isN, qb_notN, qb_chain, qb_and, qb_or, qb_not, qb_valO, qb_valC, qi_seq, qi_range, qf_seq, qf_range, qv_intD, qv_strD, qv_lstD, qv_int2, qv_addI, qv_addS, qv_addL, qv_sub, qv_mul, qv_div, qv_mod, qv_pow, qv_cmpD, qv_lt, qv_le, qv_gt, qv_eq, qv_ne, qv_bind1, qv_bind2, qv_seqL, qv_seqT, qv_tB, qv_tL, qv_tN, qv_nN, qv_nT, qv_nI, qv_items, qv_vVar, qv_vLit, qv_vTup, qv_vLst, qv_vBin, qv_vNeg, qv_vIdx, qv_vFrom, qv_vUpto, qv_vSorted, qv_vCall, qv_vComp, qv_vFlat, upd, small, lim, Option.bind_some, Option.map_some, Option.bind_none, Option.map_none, h2, h3, hl, hne]) ?_)
    have hf0 := Int.fmod_nonneg_of_pos head (show (0 : Int) < L.length + 1 by omega)
    have hf1 := Int.fmod_lt_of_pos head (show (0 : Int) < L.length + 1 by omega)
    generalize head.fmod (L.length + 1) = by_ at hf0 hf1
    have hl2 : L.length ≤ 1000 := by omega
    have hl3 : (L.length - by_.toNat) + min by_.toNat L.length ≤ 1000 := by omega
    refine W.cons (W.set (d := .list ((L.drop by_.toNat ++ L.take by_.toNat).map litD)) (by simp [qz_nil, qz_cons, qx_set, qx_own, qx_set2, qx_app, qx_last, qx_inc, qx_frz, qx_ret, qx_ite, qx_for, qx_while, qx_raise, qx_run, qx_get, qx_try, qe_var, qe_lit, qe_tup, qe_lst, qe_bin, qe_neg, qe_cmp, qe_ife, qe_idx, qe_from, qe_upto, qe_len, qe_max2, qe_str, qe_tupOf, qe_lstOf, qe_sorted, qe_call, qe_comp, qe_flat, qs_nil, qs_cons, qb_tt, qb_cmp, qb_eq, qb_ne, qb_isN, qb_notN, qb_chain, qb_and, qb_or, qb_not, qb_valO, qb_valC, qi_seq, qi_range, qf_seq, qf_range, qv_intD, qv_strD, qv_lstD, qv_int2, qv_addI, qv_addS, qv_addL, qv_sub, qv_mul, qv_div, qv_mod, qv_pow, qv_cmpD, qv_lt, qv_le, qv_gt, qv_eq, qv_ne, qv_bind1, qv_bind2, qv_seqL, qv_seqT, qv_tB, qv_tL, qv_tN, qv_nN, qv_nT, qv_nI, qv_items, qv_vVar, qv_vLit, qv_vTup, qv_vLst, qv_vBin, qv_vNeg, qv_vIdx, qv_vFrom, qv_vUpto, qv_vSorted, qv_vCall, qv_vComp, qv_vFlat, upd, small, lim, Option.bind_some, Option.map_some, Option.bind_none, Option.map_none, h3, hf0, hl2, hl3, List.map_drop, List.map_take]) ?_)
    have hL' : (L.drop by_.toNat ++ L.take by_.toNat).length = bs.length := by simp; omega
    have hT' : ∀ l ∈ L.drop by_.toNat ++ L.take by_.toNat, Told bs kind l := fun l m => by
      rcases List.mem_append.mp m with m | m
      · exact hT l (List.mem_of_mem_drop m)
      · exact hT l (List.mem_of_mem_take m)
    generalize L.drop by_.toNat ++ L.take by_.toNat = L' at hL' hT'
    have hl4 : L'.length ≤ 100000 := by omega
    refine W.cons (W.ite (t := (head.fdiv 7).fmod 2 == 1) (by simp [qz_nil, qz_cons, qx_set, qx_own, qx_set2, qx_app, qx_last, qx_inc, qx_frz, qx_ret, qx_ite, qx_for, qx_while, qx_raise, qx_run, qx_get, qx_try, qe_var, qe_lit, qe_tup, qe_lst, qe_bin, qe_neg, qe_cmp, qe_ife, qe_idx, qe_from, qe_upto, qe_len, qe_max2, qe_str, qe_tupOf, qe_lstOf, qe_sorted, qe_call, qe_comp, qe_flat, qs_nil, qs_cons, qb_tt, qb_cmp, qb_eq, qb_ne, qb_isN, qb_notN, qb_chain, qb_and, qb_or, qb_not, qb_valO, qb_valC, qi_seq, qi_range, qf_seq, qf_range, qv_intD, qv_strD, qv_lstD, qv_int2, qv_addI, qv_addS, qv_addL, qv_sub, qv_mul, qv_div, qv_mod, qv_pow, qv_cmpD, qv_lt, qv_le, qv_gt, qv_eq, qv_ne, qv_bind1, qv_bind2, qv_seqL, qv_seqT, qv_tB, qv_tL, qv_tN, qv_nN, qv_nT, qv_nI, qv_items, qv_vVar, qv_vLit, qv_vTup, qv_vLst, qv_vBin, qv_vNeg, qv_vIdx, qv_vFrom, qv_vUpto, qv_vSorted, qv_vCall, qv_vComp, qv_vFlat, upd, small, lim, Option.bind_some, Option.map_some, Option.bind_none, Option.map_none, h2]) (fun _ => ?_) (fun _ => ?_))
    · have hc : eval (rs Phi 8) (.comp (.idx (.var 3) (.bin .Sub (.bin .Sub (.len (.var 3)) (.lit (.int 1))) (.var 4))) [4] (.range (.len (.var 3))) .tt [3]) (upd (upd ρ 7 (.fro (.int by_))) 3 (.fro (.list (L'.map litD)))) = some (.list (((List.range L'.length).map fun k => L'.getD (L'.length - 1 - k) ⟨[], .none, 0, ""⟩).map litD)) := by
        have h1 : (-1000000 : Int) ≤ L'.length ∧ (L'.length : Int) ≤ 1000000 := by omega
        have hit : evIt (rs Phi 8) (.range (.len (.var 3))) (upd (upd ρ 7 (.fro (.int by_))) 3 (.fro (.list (L'.map litD)))) = some (intsFrom 0 L'.length) := by
          simp [qz_nil, qz_cons, qx_set, qx_own, qx_set2, qx_app, qx_last, qx_inc, qx_frz, qx_ret, qx_ite, qx_for, qx_while, qx_raise, qx_run, qx_get, qx_try, qe_var, qe_lit, qe_tup, qe_lst, qe_bin, qe_neg, qe_cmp, qe_ife, qe_idx, qe_from, qe_upto, qe_len, qe_max2, qe_str, qe_tupOf, qe_lstOf, qe_sorted, qe_call, qe_comp, qe_flat, qs_nil, qs_cons, qb_tt, qb_cmp, qb_eq, qb_ne, qb_isN, qb_notN, qb_chain, qb_and, qb_or, qb_not, qb_valO, qb_valC, qi_seq, qi_range, qf_seq, qf_range, qv_intD, qv_strD, qv_lstD, qv_int2, qv_addI, qv_addS, qv_addL, qv_sub, qv_mul, qv_div, qv_mod, qv_pow, qv_cmpD, qv_lt, qv_le, qv_gt, qv_eq, qv_ne, qv_bind1, qv_bind2, qv_seqL, qv_seqT, qv_tB, qv_tL, qv_tN, qv_nN, qv_nT, qv_nI, qv_items, qv_vVar, qv_vLit, qv_vTup, qv_vLst, qv_vBin, qv_vNeg, qv_vIdx, qv_vFrom, qv_vUpto, qv_vSorted, qv_vCall, qv_vComp, qv_vFlat, upd, small, lim, Option.bind_some, Option.map_some, Option.bind_none, Option.map_none, hl4, h1]
        rw [qe_comp, hit, Option.bind_some, intsFrom_eq, compL_map (p := fun _ => true) (h := fun k => litD (L'.getD (L'.length - 1 - k) ⟨[], .none, 0, ""⟩))]
        · have h2 : L'.length ≤ 1000 := by omega
          rw [List.filter_eq_self.mpr (fun _ _ => rfl)]
          simp only [Option.bind_some, small, List.length_map, List.length_range, if_pos h2, List.map_map]
          rfl
        · intro k hk
          have hk := List.mem_range.mp hk
          have e : L'[((L'.length : Int) - 1 - k).toNat]? = some (L'.getD (L'.length - 1 - k) ⟨[], .none, 0, ""⟩) := by
            have : ((L'.length : Int) - 1 - k).toNat = L'.length - 1 - k := by omega
            rw [this, List.getD_eq_getElem?_getD, List.getElem?_eq_getElem (by omega)]
            rfl
          have hi := idxD_map (enc := litD) (xs := L') (i := (L'.length : Int) - 1 - k) (by omega) e hl4
          simp [qz_nil, qz_cons, qx_set, qx_own, qx_set2, qx_app, qx_last, qx_inc, qx_frz, qx_ret, qx_ite, qx_for, qx_while, qx_raise, qx_run, qx_get, qx_try, qe_var, qe_lit, qe_tup, qe_lst, qe_bin, qe_neg, qe_cmp, qe_ife, qe_idx, qe_from, qe_upto, qe_len, qe_max2, qe_str, qe_tupOf, qe_lstOf, qe_sorted, qe_call, qe_comp, qe_flat, qs_nil, qs_cons, qb_tt, qb_cmp, qb_eq, qb_ne, qb_isN, qb_notN, qb_chain, qb_and, qb_or, qb_not, qb_valO, qb_valC, qi_seq, qi_range, qf_seq, qf_range, qv_intD, qv_strD, qv_lstD, qv_int2, qv_addI, qv_addS, qv_addL, qv_sub, qv_mul, qv_div, qv_mod, qv_pow, qv_cmpD, qv_lt, qv_le, qv_gt, qv_eq, qv_ne, qv_bind1, qv_bind2, qv_seqL, qv_seqT, qv_tB, qv_tL, qv_tN, qv_nN, qv_nT, qv_nI, qv_items, qv_vVar, qv_vLit, qv_vTup, qv_vLst, qv_vBin, qv_vNeg, qv_vIdx, qv_vFrom, qv_vUpto, qv_vSorted, qv_vCall, qv_vComp, qv_vFlat, upd, small, lim, Option.bind_some, Option.map_some, Option.bind_none, Option.map_none, hl4, hi]
      refine W.cons (W.set hc (W.nil ?_))
      refine W.cons (W.ret (d := .list (((List.range L'.length).map fun k => L'.getD (L'.length - 1 - k) ⟨[], .none, 0, ""⟩).map litD)) (by simp only [qe_var, qe_lit, qe_tup, qe_lst, qe_bin, qe_neg, qe_cmp, qe_ife, qe_idx, qe_from, qe_upto, qe_len, qe_max2, qe_str, qe_tupOf, qe_lstOf, qe_sorted, qe_call, qe_comp, qe_flat, upd, if_true]) ⟨_, rfl, by simp [hL'], fun l hl => ?_⟩)
      obtain ⟨k, hk, rfl⟩ := List.mem_map.mp hl
      have hk := List.mem_range.mp hk
      rw [List.getD_eq_getElem?_getD, List.getElem?_eq_getElem (by omega)]
      exact hT' _ (List.getElem_mem _)
    · exact W.nil (W.cons (W.ret (d := .list (L'.map litD)) (by simp only [qe_var, qe_lit, qe_tup, qe_lst, qe_bin, qe_neg, qe_cmp, qe_ife, qe_idx, qe_from, qe_upto, qe_len, qe_max2, qe_str, qe_tupOf, qe_lstOf, qe_sorted, qe_call, qe_comp, qe_flat, upd, if_true]) ⟨_, rfl, hL', hT'⟩))
end Mine
-- P4
namespace Mine
open PySem PySem.W PyProof.Rows PySem.Calls
noncomputable def gapsI : List Int := [1, 0, 2, 0, 1, 0, 3, 0, 1, -1, 2, 0, -2, 1, 0, -3]
theorem gaps_ok : ∀ g ∈ gapsI, -3 ≤ g ∧ g ≤ 3 := by decide
theorem binD_pow {a b : Int} (h : 0 ≤ b ∧ b ≤ 1000 ∧ a.natAbs < 2 ^ 64) : binD .Pow (.int a) (.int b) = some (.int (a ^ b.toNat)) := if_pos h
theorem pow232 : ∃ v : Int, binD .Pow (.int 2) (.int 32) = some (.int v) ∧ v ≠ 0 := by
  refine ⟨_, binD_pow ⟨by omega, by omega, by decide⟩, ?_⟩
  have : (0 : Int) < 2 ^ (32 : Int).toNat := Int.pow_pos (by decide)
  omega
theorem fmodB {a b : Int} (h : 0 < b) : 0 ≤ a.fmod b ∧ a.fmod b < b := ⟨Int.fmod_nonneg_of_pos a h, Int.fmod_lt_of_pos a h⟩
noncomputable def LineBox (base at_ : Int) (b : List (Int × Int)) : Prop := ∃ lo hi, b = [(base + lo, base + hi)] ∧ 1 ≤ lo ∧ lo ≤ hi ∧ hi < at_
noncomputable def PlaneBox (b : List (Int × Int)) : Prop := ∃ x u y v, b = [(x, u), (y, v)] ∧ 0 ≤ x ∧ x ≤ u ∧ u < 6 ∧ 0 ≤ y ∧ y ≤ v ∧ v < 6
structure LI (s salts : List Int) (p kind head base : Int) (single : Bool) (k : Nat) (ρ : Vars) : Prop where
  h0 : ρ 0 = some (.fro (.list (s.map .int)))
  h1 : ρ 1 = some (.fro (.int p))
  h2 : ρ 2 = some (.fro (.int kind))
  h3 : ρ 3 = some (.fro (.list (salts.map .int)))
  h4 : ρ 4 = some (.fro (.int head))
  h5 : ρ 5 = some (.fro (.int base))
  h7 : ρ 7 = some (.fro (.bool single))
  h8 : ρ 8 = some (.fro (.list (gapsI.map .int)))
  bx : ∃ (bs : List (List (Int × Int) × Int)) (at_ : Int), ρ 9 = some (.own (bs.map bwD)) ∧ bs.length = k ∧ (∀ x ∈ bs, LineBox base at_ x.1) ∧ ρ 10 = some (.fro (.int at_)) ∧ 4 ≤ at_ ∧ at_ ≤ 4 + 6 * k
theorem law_line_step {s salts : List Int} {p kind head base : Int} {single : Bool} {k : Nat} {ρ : Vars} {R : D → Prop} {Z : Prop} (hs : s.length ≤ 63) (hp : 0 ≤ p) (hsl : salts.length = 6) (hk : k < 6) (I : LI s salts p kind head base single k ρ) :
    W (execs whyC (rs Phi 9) (.cons (.set 12 (.bin .Add (.call 6 (.cons (.var 0) (.cons (.bin .Add (.bin .Add (.var 1) (.lit (.int 1))) (.var 11)) .nil))) (.idx (.var 3) (.var 11)))) (.cons (.ite (.and (.cmp .Eq (.bin .Mod (.bin .FloorDiv (.var 12) (.lit (.int 48))) (.lit (.int 4))) (.lit (.int 3))) (.val (.var 9))) (.cons (.set2 13 14 (.idx (.var 9) (.bin .Mod (.bin .FloorDiv (.var 12) (.lit (.int 4))) (.len (.var 9))))) (.cons (.app 9 (.tup (.cons (.var 13) (.cons (.bin .Add (.var 14) (.ife (.cmp .Eq (.bin .Mod (.bin .FloorDiv (.var 12) (.lit (.int 192))) (.lit (.int 4))) (.lit (.int 3))) (.lit (.int 1)) (.lit (.int 0)))) .nil)))) .nil)) (.cons (.set 15 (.bin .Add (.var 10) (.idx (.var 8) (.bin .Mod (.var 12) (.lit (.int 16)))))) (.cons (.set 16 (.ife (.val (.var 7)) (.var 15) (.bin .Add (.var 15) (.bin .Mod (.bin .FloorDiv (.var 12) (.lit (.int 16))) (.lit (.int 3)))))) (.cons (.set 10 (.max2 (.var 10) (.bin .Add (.var 16) (.lit (.int 1))))) (.cons (.app 9 (.tup (.cons (.tup (.cons (.tup (.cons (.bin .Add (.var 5) (.var 15)) (.cons (.bin .Add (.var 5) (.var 16)) .nil))) .nil)) (.cons (.bin .Mod (.bin .FloorDiv (.var 12) (.lit (.int 192))) (.lit (.int 3))) .nil)))) .nil))))) .nil)) (upd ρ 11 (.fro (.int (k : Int))))) (fun ρ' => LI s salts p kind head base single (k + 1) ρ') R Z := by
  obtain ⟨h0, h1, h2, h3, h4, h5, h7, h8, bs, at_, h9, hb, hB, h10, ha1, ha2⟩ := I
  have hd := law_digit_spec (s := s) (p := p + 1 + k) hs (by omega)
  have hi := idxD_map (enc := PyData.int) (xs := salts) (i := (k : Int)) (x := salts[k]'(by omega)) (by omega) (by simp) (by omega)
  have hl : bs.length ≤ 100000 := by omega
  refine W.cons (W.set (d := .int (dig s (p + 1 + k).toNat + salts[k]'(by omega))) (by simp [qz_nil, qz_cons, qx_set, qx_own, qx_set2, qx_app, qx_last, qx_inc, qx_frz, qx_ret, qx_ite, qx_for, qx_while, qx_raise, qx_run, qx_get, qx_try, qe_var, qe_lit, qe_tup, qe_lst, qe_bin, qe_neg, qe_cmp, qe_ife, qe_idx, qe_from, qe_upto, qe_len, qe_max2, qe_str, qe_tupOf, qe_lstOf, qe_sorted, qe_call, qe_comp, qe_flat, qs_nil, qs_cons, qb_tt, qb_cmp, qb_eq, qb_ne, qb_isN, qb_notN, qb_chain, qb_and, qb_or, qb_not, qb_valO, qb_valC, qi_seq, qi_range, qf_seq, qf_range, qv_intD, qv_strD, qv_lstD, qv_int2, qv_addI, qv_addS, qv_addL, qv_sub, qv_mul, qv_div, qv_mod, qv_pow, qv_cmpD, qv_lt, qv_le, qv_gt, qv_eq, qv_ne, qv_bind1, qv_bind2, qv_seqL, qv_seqT, qv_tB, qv_tL, qv_tN, qv_nN, qv_nT, qv_nI, qv_items, qv_vVar, qv_vLit, qv_vTup, qv_vLst, qv_vBin, qv_vNeg, qv_vIdx, qv_vFrom, qv_vUpto, qv_vSorted, qv_vCall, qv_vComp, qv_vFlat, upd, small, lim, Option.bind_some, Option.map_some, Option.bind_none, Option.map_none, h0, h1, h3, rs, hd, hi]) ?_)
  generalize dig s (p + 1 + k).toNat + salts[k]'(by omega) = n
  refine W.cons (W.ite (t := ((n.fdiv 48).fmod 4 == 3) && !(bs.map bwD).isEmpty) ?_ (fun ht => ?_) (fun _ => ?_))
  · by_cases q : (n.fdiv 48).fmod 4 = 3 <;> simp [qz_nil, qz_cons, qx_set, qx_own, qx_set2, qx_app, qx_last, qx_inc, qx_frz, qx_ret, qx_ite, qx_for, qx_while, qx_raise, qx_run, qx_get, qx_try, qe_var, qe_lit, qe_tup, qe_lst, qe_bin, qe_neg, qe_cmp, qe_ife, qe_idx, qe_from, qe_upto, qe_len, qe_max2, qe_str, qe_tupOf, qe_lstOf, qe_sorted, qe_call, qe_comp, qe_flat, qs_nil, qs_cons, qb_tt, qb_cmp, qb_eq, qb_ne, qb_isN, qb_notN, qb_chain, qb_and, qb_or, qb_not, qb_valO, qb_valC, qi_seq, qi_range, qf_seq, qf_range, qv_intD, qv_strD, qv_lstD, qv_int2, qv_addI, qv_addS, qv_addL, qv_sub, qv_mul, qv_div, qv_mod, qv_pow, qv_cmpD, qv_lt, qv_le, qv_gt, qv_eq, qv_ne, qv_bind1, qv_bind2, qv_seqL, qv_seqT, qv_tB, qv_tL, qv_tN, qv_nN, qv_nT, qv_nI, qv_items, qv_vVar, qv_vLit, qv_vTup, qv_vLst, qv_vBin, qv_vNeg, qv_vIdx, qv_vFrom, qv_vUpto, qv_vSorted, qv_vCall, qv_vComp, qv_vFlat, upd, small, lim, Option.bind_some, Option.map_some, Option.bind_none, Option.map_none, h9, hl, q]
  · have hpos : 0 < bs.length := by
      rcases bs with _ | ⟨x, bs⟩
      · simp at ht
      · simp
    have hm := fmodB (a := n.fdiv 4) (b := (bs.length : Int)) (by omega)
    have hx : bs[((n.fdiv 4).fmod bs.length).toNat]? = some (bs[((n.fdiv 4).fmod bs.length).toNat]'(by omega)) := List.getElem?_eq_getElem _
    generalize bs[((n.fdiv 4).fmod bs.length).toNat]'(by omega) = x at hx
    obtain ⟨b, w⟩ := x
    have hi2 := idxD_map (enc := bwD) hm.1 hx hl
    have hne : (bs.length : Int) ≠ 0 := by omega
    have hne' : bs ≠ [] := by rintro rfl; simp at hpos
    refine W.cons (W.set2 (a := boxD b) (b := .int w) (by simp [qz_nil, qz_cons, qx_set, qx_own, qx_set2, qx_app, qx_last, qx_inc, qx_frz, qx_ret, qx_ite, qx_for, qx_while, qx_raise, qx_run, qx_get, qx_try, qe_var, qe_lit, qe_tup, qe_lst, qe_bin, qe_neg, qe_cmp, qe_ife, qe_idx, qe_from, qe_upto, qe_len, qe_max2, qe_str, qe_tupOf, qe_lstOf, qe_sorted, qe_call, qe_comp, qe_flat, qs_nil, qs_cons, qb_tt, qb_cmp, qb_eq, qb_ne, qb_isN, qb_notN, qb_chain, qb_and, qb_or, qb_not, qb_valO, qb_valC, qi_seq, qi_range, qf_seq, qf_range, qv_intD, qv_strD, qv_lstD, qv_int2, qv_addI, qv_addS, qv_addL, qv_sub, qv_mul, qv_div, qv_mod, qv_pow, qv_cmpD, qv_lt, qv_le, qv_gt, qv_eq, qv_ne, qv_bind1, qv_bind2, qv_seqL, qv_seqT, qv_tB, qv_tL, qv_tN, qv_nN, qv_nT, qv_nI, qv_items, qv_vVar, qv_vLit, qv_vTup, qv_vLst, qv_vBin, qv_vNeg, qv_vIdx, qv_vFrom, qv_vUpto, qv_vSorted, qv_vCall, qv_vComp, qv_vFlat, upd, small, lim, Option.bind_some, Option.map_some, Option.bind_none, Option.map_none, h9, hl, hne', hi2]; rfl) ?_)
    obtain ⟨w', hw⟩ : ∃ w', eval (rs Phi 9) (.tup (.cons (.var 13) (.cons (.bin .Add (.var 14) (.ife (.cmp .Eq (.bin .Mod (.bin .FloorDiv (.var 12) (.lit (.int 192))) (.lit (.int 4))) (.lit (.int 3))) (.lit (.int 1)) (.lit (.int 0)))) .nil))) (upd (upd (upd (upd ρ 11 (.fro (.int (k : Int)))) 12 (.fro (.int n))) 13 (.fro (boxD b))) 14 (.fro (.int w))) = some (bwD (b, w')) := by
      by_cases q : (n.fdiv 192).fmod 4 = 3
      · exact ⟨w + 1, by simp [qz_nil, qz_cons, qx_set, qx_own, qx_set2, qx_app, qx_last, qx_inc, qx_frz, qx_ret, qx_ite, qx_for, qx_while, qx_raise, qx_run, qx_get, qx_try, qe_var, qe_lit, qe_tup, qe_lst, qe_bin, qe_neg, qe_cmp, qe_ife, qe_idx, qe_from, qe_upto, qe_len, qe_max2, qe_str, qe_tupOf, qe_lstOf, qe_sorted, qe_call, qe_comp, qe_flat, qs_nil, qs_cons, qb_tt, qb_cmp, qb_eq, qb_ne, qb_isN, qb_notN, qb_chain, qb_and, qb_or, qb_not, qb_valO, qb_valC, qi_seq, qi_range, qf_seq, qf_range, qv_intD, qv_strD, qv_lstD, qv_int2, qv_addI, qv_addS, qv_addL, qv_sub, qv_mul, qv_div, qv_mod, qv_pow, qv_cmpD, qv_lt, qv_le, qv_gt, qv_eq, qv_ne, qv_bind1, qv_bind2, qv_seqL, qv_seqT, qv_tB, qv_tL, qv_tN, qv_nN, qv_nT, qv_nI, qv_items, qv_vVar, qv_vLit, qv_vTup, qv_vLst, qv_vBin, qv_vNeg, qv_vIdx, qv_vFrom, qv_vUpto, qv_vSorted, qv_vCall, qv_vComp, qv_vFlat, upd, small, lim, Option.bind_some, Option.map_some, Option.bind_none, Option.map_none, q, bwD]⟩
      · exact ⟨w, by simp [qz_nil, qz_cons, qx_set, qx_own, qx_set2, qx_app, qx_last, qx_inc, qx_frz, qx_ret, qx_ite, qx_for, qx_while, qx_raise, qx_run, qx_get, qx_try, qe_var, qe_lit, qe_tup, qe_lst, qe_bin, qe_neg, qe_cmp, qe_ife, qe_idx, qe_from, qe_upto, qe_len, qe_max2, qe_str, qe_tupOf, qe_lstOf, qe_sorted, qe_call, qe_comp, qe_flat, qs_nil, qs_cons, qb_tt, qb_cmp, qb_eq, qb_ne, qb_isN, qb_notN, qb_chain, qb_and, qb_or, qb_not, qb_valO, qb_valC, qi_seq, qi_range, qf_seq, qf_range, qv_intD, qv_strD, qv_lstD, qv_int2, qv_addI, qv_addS, qv_addL, qv_sub, qv_mul, qv_div, qv_mod, qv_pow, qv_cmpD, qv_lt, qv_le, qv_gt, qv_eq, qv_ne, qv_bind1, qv_bind2, qv_seqL, qv_seqT, qv_tB, qv_tL, qv_tN, qv_nN, qv_nT, qv_nI, qv_items, qv_vVar, qv_vLit, qv_vTup, qv_vLst, qv_vBin, qv_vNeg, qv_vIdx, qv_vFrom, qv_vUpto, qv_vSorted, qv_vCall, qv_vComp, qv_vFlat, upd, small, lim, Option.bind_some, Option.map_some, Option.bind_none, Option.map_none, q, bwD]⟩
    refine W.cons (W.app (ds := bs.map bwD) (d := bwD (b, w')) (by simp [upd, h9]) (by simp; omega) hw (W.nil (W.nil ?_)))
    refine ⟨by simp [upd, h0], by simp [upd, h1], by simp [upd, h2], by simp [upd, h3], by simp [upd, h4], by simp [upd, h5], by simp [upd, h7], by simp [upd, h8], bs ++ [(b, w')], at_, by simp [upd], by simp [hb], fun x m => ?_, by simp [upd, h10], ha1, by omega⟩
    rcases List.mem_append.mp m with m | m
    · exact hB x m
    · rw [List.mem_singleton] at m
      subst m
      exact hB (b, w) (List.mem_of_getElem? hx)
  · have hm := fmodB (a := n) (b := 16) (by decide)
    have hx : gapsI[(n.fmod 16).toNat]? = some (gapsI[(n.fmod 16).toNat]'(by simp [gapsI]; omega)) := List.getElem?_eq_getElem _
    have hg := gaps_ok _ (List.mem_of_getElem? hx)
    generalize gapsI[(n.fmod 16).toNat]'(by simp [gapsI]; omega) = g at hx hg
    have hi2 := idxD_map (enc := PyData.int) hm.1 hx (by simp [gapsI])
    refine W.cons (W.set (d := .int (at_ + g)) (by simp [qz_nil, qz_cons, qx_set, qx_own, qx_set2, qx_app, qx_last, qx_inc, qx_frz, qx_ret, qx_ite, qx_for, qx_while, qx_raise, qx_run, qx_get, qx_try, qe_var, qe_lit, qe_tup, qe_lst, qe_bin, qe_neg, qe_cmp, qe_ife, qe_idx, qe_from, qe_upto, qe_len, qe_max2, qe_str, qe_tupOf, qe_lstOf, qe_sorted, qe_call, qe_comp, qe_flat, qs_nil, qs_cons, qb_tt, qb_cmp, qb_eq, qb_ne, qb_isN, qb_notN, qb_chain, qb_and, qb_or, qb_not, qb_valO, qb_valC, qi_seq, qi_range, qf_seq, qf_range, qv_intD, qv_strD, qv_lstD, qv_int2, qv_addI, qv_addS, qv_addL, qv_sub, qv_mul, qv_div, qv_mod, qv_pow, qv_cmpD, qv_lt, qv_le, qv_gt, qv_eq, qv_ne, qv_bind1, qv_bind2, qv_seqL, qv_seqT, qv_tB, qv_tL, qv_tN, qv_nN, qv_nT, qv_nI, qv_items, qv_vVar, qv_vLit, qv_vTup, qv_vLst, qv_vBin, qv_vNeg, qv_vIdx, qv_vFrom, qv_vUpto, qv_vSorted, qv_vCall, qv_vComp, qv_vFlat, upd, small, lim, Option.bind_some, Option.map_some, Option.bind_none, Option.map_none, h10, h8, hi2]) ?_)
    have hm3 := fmodB (a := n.fdiv 16) (b := 3) (by decide)
    obtain ⟨hi, hh, q1, q2⟩ : ∃ hi, eval (rs Phi 9) (.ife (.val (.var 7)) (.var 15) (.bin .Add (.var 15) (.bin .Mod (.bin .FloorDiv (.var 12) (.lit (.int 16))) (.lit (.int 3))))) (upd (upd (upd ρ 11 (.fro (.int (k : Int)))) 12 (.fro (.int n))) 15 (.fro (.int (at_ + g)))) = some (.int hi) ∧ at_ + g ≤ hi ∧ hi ≤ at_ + g + 2 := by
      cases single
      · exact ⟨at_ + g + (n.fdiv 16).fmod 3, by simp [qz_nil, qz_cons, qx_set, qx_own, qx_set2, qx_app, qx_last, qx_inc, qx_frz, qx_ret, qx_ite, qx_for, qx_while, qx_raise, qx_run, qx_get, qx_try, qe_var, qe_lit, qe_tup, qe_lst, qe_bin, qe_neg, qe_cmp, qe_ife, qe_idx, qe_from, qe_upto, qe_len, qe_max2, qe_str, qe_tupOf, qe_lstOf, qe_sorted, qe_call, qe_comp, qe_flat, qs_nil, qs_cons, qb_tt, qb_cmp, qb_eq, qb_ne, qb_isN, qb_notN, qb_chain, qb_and, qb_or, qb_not, qb_valO, qb_valC, qi_seq, qi_range, qf_seq, qf_range, qv_intD, qv_strD, qv_lstD, qv_int2, qv_addI, qv_addS, qv_addL, qv_sub, qv_mul, qv_div, qv_mod, qv_pow, qv_cmpD, qv_lt, qv_le, qv_gt, qv_eq, qv_ne, qv_bind1, qv_bind2, qv_seqL, qv_seqT, qv_tB, qv_tL, qv_tN, qv_nN, qv_nT, qv_nI, qv_items, qv_vVar, qv_vLit, qv_vTup, qv_vLst, qv_vBin, qv_vNeg, qv_vIdx, qv_vFrom, qv_vUpto, qv_vSorted, qv_vCall, qv_vComp, qv_vFlat, upd, small, lim, Option.bind_some, Option.map_some, Option.bind_none, Option.map_none, h7], by omega, by omega⟩
      · exact ⟨at_ + g, by simp [qz_nil, qz_cons, qx_set, qx_own, qx_set2, qx_app, qx_last, qx_inc, qx_frz, qx_ret, qx_ite, qx_for, qx_while, qx_raise, qx_run, qx_get, qx_try, qe_var, qe_lit, qe_tup, qe_lst, qe_bin, qe_neg, qe_cmp, qe_ife, qe_idx, qe_from, qe_upto, qe_len, qe_max2, qe_str, qe_tupOf, qe_lstOf, qe_sorted, qe_call, qe_comp, qe_flat, qs_nil, qs_cons, qb_tt, qb_cmp, qb_eq, qb_ne, qb_isN, qb_notN, qb_chain, qb_and, qb_or, qb_not, qb_valO, qb_valC, qi_seq, qi_range, qf_seq, qf_range, qv_intD, qv_strD, qv_lstD, qv_int2, qv_addI, qv_addS, qv_addL, qv_sub, qv_mul, qv_div, qv_mod, qv_pow, qv_cmpD, qv_lt, qv_le, qv_gt, qv_eq, qv_ne, qv_bind1, qv_bind2, qv_seqL, qv_seqT, qv_tB, qv_tL, qv_tN, qv_nN, qv_nT, qv_nI, qv_items, qv_vVar, qv_vLit, qv_vTup, qv_vLst, qv_vBin, qv_vNeg, qv_vIdx, qv_vFrom, qv_vUpto, qv_vSorted, qv_vCall, qv_vComp, qv_vFlat, upd, small, lim, Option.bind_some, Option.map_some, Option.bind_none, Option.map_none, h7], by omega, by omega⟩
    refine W.cons (W.set hh ?_)
    refine W.cons (W.set (d := .int (if hi + 1 > at_ then hi + 1 else at_)) (by simp [qz_nil, qz_cons, qx_set, qx_own, qx_set2, qx_app, qx_last, qx_inc, qx_frz, qx_ret, qx_ite, qx_for, qx_while, qx_raise, qx_run, qx_get, qx_try, qe_var, qe_lit, qe_tup, qe_lst, qe_bin, qe_neg, qe_cmp, qe_ife, qe_idx, qe_from, qe_upto, qe_len, qe_max2, qe_str, qe_tupOf, qe_lstOf, qe_sorted, qe_call, qe_comp, qe_flat, qs_nil, qs_cons, qb_tt, qb_cmp, qb_eq, qb_ne, qb_isN, qb_notN, qb_chain, qb_and, qb_or, qb_not, qb_valO, qb_valC, qi_seq, qi_range, qf_seq, qf_range, qv_intD, qv_strD, qv_lstD, qv_int2, qv_addI, qv_addS, qv_addL, qv_sub, qv_mul, qv_div, qv_mod, qv_pow, qv_cmpD, qv_lt, qv_le, qv_gt, qv_eq, qv_ne, qv_bind1, qv_bind2, qv_seqL, qv_seqT, qv_tB, qv_tL, qv_tN, qv_nN, qv_nT, qv_nI, qv_items, qv_vVar, qv_vLit, qv_vTup, qv_vLst, qv_vBin, qv_vNeg, qv_vIdx, qv_vFrom, qv_vUpto, qv_vSorted, qv_vCall, qv_vComp, qv_vFlat, upd, small, lim, Option.bind_some, Option.map_some, Option.bind_none, Option.map_none, h10]) ?_)
    refine W.cons (W.app (ds := bs.map bwD) (d := bwD ([(base + (at_ + g), base + hi)], (n.fdiv 192).fmod 3)) (by simp [upd, h9]) (by simp; omega) (by simp [qz_nil, qz_cons, qx_set, qx_own, qx_set2, qx_app, qx_last, qx_inc, qx_frz, qx_ret, qx_ite, qx_for, qx_while, qx_raise, qx_run, qx_get, qx_try, qe_var, qe_lit, qe_tup, qe_lst, qe_bin, qe_neg, qe_cmp, qe_ife, qe_idx, qe_from, qe_upto, qe_len, qe_max2, qe_str, qe_tupOf, qe_lstOf, qe_sorted, qe_call, qe_comp, qe_flat, qs_nil, qs_cons, qb_tt, qb_cmp, qb_eq, qb_ne, qb_isN, qb_notN, qb_chain, qb_and, qb_or, qb_not, qb_valO, qb_valC, qi_seq, qi_range, qf_seq, qf_range, qv_intD, qv_strD, qv_lstD, qv_int2, qv_addI, qv_addS, qv_addL, qv_sub, qv_mul, qv_div, qv_mod, qv_pow, qv_cmpD, qv_lt, qv_le, qv_gt, qv_eq, qv_ne, qv_bind1, qv_bind2, qv_seqL, qv_seqT, qv_tB, qv_tL, qv_tN, qv_nN, qv_nT, qv_nI, qv_items, qv_vVar, qv_vLit, qv_vTup, qv_vLst, qv_vBin, qv_vNeg, qv_vIdx, qv_vFrom, qv_vUpto, qv_vSorted, qv_vCall, qv_vComp, qv_vFlat, upd, small, lim, Option.bind_some, Option.map_some, Option.bind_none, Option.map_none, h5, bwD, boxD, spanD]) (W.nil (W.nil ?_)))
    refine ⟨by simp [upd, h0], by simp [upd, h1], by simp [upd, h2], by simp [upd, h3], by simp [upd, h4], by simp [upd, h5], by simp [upd, h7], by simp [upd, h8], bs ++ [([(base + (at_ + g), base + hi)], (n.fdiv 192).fmod 3)], if hi + 1 > at_ then hi + 1 else at_, by simp [upd], by simp [hb], fun x m => ?_, by simp [upd], by split <;> omega, by split <;> omega⟩
    rcases List.mem_append.mp m with m | m
    · obtain ⟨lo, hi', e, z1, z2, z3⟩ := hB x m
      exact ⟨lo, hi', e, z1, z2, by split <;> omega⟩
    · rw [List.mem_singleton] at m
      subst m
      exact ⟨at_ + g, hi, rfl, by omega, by omega, by split <;> omega⟩
/-- what the law's cases hold -/
structure Kase (kind : Int) (L : List Lit) (keys : List (List Int)) : Prop where
  len : L.length ≤ 6
  data : ∀ l ∈ L, l.data ∈ dataA ∧ (PyData.str l.name).canLay0 = true
  hom : (∀ l ∈ L, l.data = .none) ∨ (∀ l ∈ L, l.data ≠ .none)
  shape : (∃ (base : Int) (at_ : Nat), at_ ≤ 40 ∧ keys = (List.range (at_ + 1)).map (fun k : Nat => [base + (k : Int)]) ∧ ∀ l ∈ L, LineBox base at_ l.box) ∨
    (keys = (List.range 36).map (fun k : Nat => [(k : Int).fdiv 6, (k : Int).fmod 6]) ∧ ∀ l ∈ L, PlaneBox l.box)
theorem line_base {head v : Int} {ρ : Vars} (hv : binD .Pow (.int 2) (.int 32) = some (.int v)) (hv0 : v ≠ 0) (h4 : ρ 4 = some (.fro (.int head))) : eval (rs Phi 9) (.bin .Mod (.bin .FloorDiv (.var 4) (.lit (.int 294))) (.bin .Pow (.lit (.int 2)) (.lit (.int 32)))) ρ = some (.int ((head.fdiv 294).fmod v)) :=
  (ev_bin _ _ _ _ _ (.int (head.fdiv 294)) (.int v) (by simp [qz_nil, qz_cons, qx_set, qx_own, qx_set2, qx_app, qx_last, qx_inc, qx_frz, qx_ret, qx_ite, qx_for, qx_while, qx_raise, qx_run, qx_get, qx_try, qe_var, qe_lit, qe_tup, qe_lst, qe_bin, qe_neg, qe_cmp, qe_ife, qe_idx, qe_from, qe_upto, qe_len, qe_max2, qe_str, qe_tupOf, qe_lstOf, qe_sorted, qe_call, qe_comp, qe_flat, qs_nil, qs_cons, qb_tt, qb_cmp, qb_eq, qb_ne, qb_isN, qb_notN, qb_chain, qb_and, qb_or, qb_not, qb_valO, qb_valC, qi_seq, qi_range, qf_seq, qf_range, qv_intD, qv_strD, qv_lstD, qv_int2, qv_addI, qv_addS, qv_addL, qv_sub, qv_mul, qv_div, qv_mod, qv_pow, qv_cmpD, qv_lt, qv_le, qv_gt, qv_eq, qv_ne, qv_bind1, qv_bind2, qv_seqL, qv_seqT, qv_tB, qv_tL, qv_tN, qv_nN, qv_nT, qv_nI, qv_items, qv_vVar, qv_vLit, qv_vTup, qv_vLst, qv_vBin, qv_vNeg, qv_vIdx, qv_vFrom, qv_vUpto, qv_vSorted, qv_vCall, qv_vComp, qv_vFlat, upd, small, lim, Option.bind_some, Option.map_some, Option.bind_none, Option.map_none, h4]) ((ev_bin _ _ _ _ _ _ _ (ev_lit _ _ _) (ev_lit _ _ _)).trans hv)).trans (binD_mod hv0)
theorem evIt_range {Φ : Nat → List D → Option (Except Unit D)} {a : X} {ρ : Vars} {i : Int} (h : eval Φ a ρ = some (.int i)) (h0 : 0 ≤ i) (h1 : i ≤ 1000) : evIt Φ (.range a) ρ = some (intsFrom 0 i.toNat) := by
  rw [qi_range, h, Option.bind_some, qv_intD, Option.bind_some, if_pos ⟨by omega, by omega⟩]
theorem evItF_range {Φ : Nat → List D → Option (Except Unit D)} {a : X} {ρ : Vars} {i : Int} (h : eval Φ a ρ = some (.int i)) (h0 : 0 ≤ i) (h1 : i ≤ 1000) : evItF Φ (.range a) ρ = some (intsFrom 0 i.toNat) := by
  rw [qf_range, h, Option.bind_some, qv_intD, Option.bind_some, if_pos ⟨by omega, by omega⟩]
theorem line_keys {base : Int} {atn : Nat} {ρ : Vars} (hb : atn ≤ 40) (h5 : ρ 5 = some (.fro (.int base))) (h10 : ρ 10 = some (.fro (.int (atn : Int)))) : eval (rs Phi 9) (.comp (.tup (.cons (.bin .Add (.var 5) (.var 17)) .nil)) [17] (.range (.bin .Add (.var 10) (.lit (.int 1)))) .tt [5]) ρ = some (.list (((List.range (atn + 1)).map (fun k : Nat => [base + (k : Int)])).map keyD)) := by
  have hit : evIt (rs Phi 9) (.range (.bin .Add (.var 10) (.lit (.int 1)))) ρ = some (intsFrom 0 (atn + 1)) := by
    have e : ((atn : Int) + 1).toNat = atn + 1 := by omega
    rw [evIt_range (i := (atn : Int) + 1) (by simp [qz_nil, qz_cons, qx_set, qx_own, qx_set2, qx_app, qx_last, qx_inc, qx_frz, qx_ret, qx_ite, qx_for, qx_while, qx_raise, qx_run, qx_get, qx_try, qe_var, qe_lit, qe_tup, qe_lst, qe_bin, qe_neg, qe_cmp, qe_ife, qe_idx, qe_from, qe_upto, qe_len, qe_max2, qe_str, qe_tupOf, qe_lstOf, qe_sorted, qe_call, qe_comp, qe_flat, qs_nil, qs_cons, qb_tt, qb_cmp, qb_eq, qb_ne, qb_isN, qb_notN, qb_chain, qb_and, qb_or, qb_not, qb_valO, qb_valC, qi_seq, qi_range, qf_seq, qf_range, qv_intD, qv_strD, qv_lstD, qv_int2, qv_addI, qv_addS, qv_addL, qv_sub, qv_mul, qv_div, qv_mod, qv_pow, qv_cmpD, qv_lt, qv_le, qv_gt, qv_eq, qv_ne, qv_bind1, qv_bind2, qv_seqL, qv_seqT, qv_tB, qv_tL, qv_tN, qv_nN, qv_nT, qv_nI, qv_items, qv_vVar, qv_vLit, qv_vTup, qv_vLst, qv_vBin, qv_vNeg, qv_vIdx, qv_vFrom, qv_vUpto, qv_vSorted, qv_vCall, qv_vComp, qv_vFlat, upd, small, lim, Option.bind_some, Option.map_some, Option.bind_none, Option.map_none, h10]) (by omega) (by omega), e]
  rw [qe_comp, hit, Option.bind_some, intsFrom_eq, compL_map (p := fun _ => true) (h := fun k : Nat => keyD [base + (k : Int)])]
  · have h2 : atn + 1 ≤ 1000 := by omega
    rw [List.filter_eq_self.mpr (fun _ _ => rfl)]
    simp only [Option.bind_some, small, List.length_map, List.length_range, if_pos h2, List.map_map]
    rfl
  · intro k hk
    simp [qz_nil, qz_cons, qx_set, qx_own, qx_set2, qx_app, qx_last, qx_inc, qx_frz, qx_ret, qx_ite, qx_for, qx_while, qx_raise, qx_run, qx_get, qx_try, qe_var, qe_lit, qe_tup, qe_lst, qe_bin, qe_neg, qe_cmp, qe_ife, qe_idx, qe_from, qe_upto, qe_len, qe_max2, qe_str, qe_tupOf, qe_lstOf, qe_sorted, qe_call, qe_comp, qe_flat, qs_nil, qs_cons, qb_tt, qb_cmp, qb_eq, qb_ne, qb_isN, qb_notN, qb_chain, qb_and, qb_or, qb_not, qb_valO, qb_valC, qi_seq, qi_range, qf_seq, qf_range, qv_intD, qv_strD, qv_lstD, qv_int2, qv_addI, qv_addS, qv_addL, qv_sub, qv_mul, qv_div, qv_mod, qv_pow, qv_cmpD, qv_lt, qv_le, qv_gt, qv_eq, qv_ne, qv_bind1, qv_bind2, qv_seqL, qv_seqT, qv_tB, qv_tL, qv_tN, qv_nN, qv_nT, qv_nI, qv_items, qv_vVar, qv_vLit, qv_vTup, qv_vLst, qv_vBin, qv_vNeg, qv_vIdx, qv_vFrom, qv_vUpto, qv_vSorted, qv_vCall, qv_vComp, qv_vFlat, upd, small, lim, Option.bind_some, Option.map_some, Option.bind_none, Option.map_none, h5, keyD]
theorem law_line_spec {s salts : List Int} {p kind : Int} (hs : s.length ≤ 63) (hp : 0 ≤ p) (hsl : salts.length = 6) :
    ∃ L keys, Phi 9 [.list (s.map .int), .int p, .int kind, .list (salts.map .int)] = some (.ok (.tuple [.list (L.map litD), .list (keys.map keyD)])) ∧ Kase kind L keys := by
  suffices h : ∃ d, Phi 9 [.list (s.map .int), .int p, .int kind, .list (salts.map .int)] = some (.ok d) ∧ ∃ L keys, d = .tuple [.list (L.map litD), .list (keys.map keyD)] ∧ Kase kind L keys by
    obtain ⟨_, h, L, k, rfl, h2⟩ := h
    exact ⟨L, k, h, h2⟩
  refine Phi_ok (by rfl) ?_
  show W (execs whyC (rs Phi 9) ss_law_line _) _ _ _
  generalize hρ : args0 [.list (s.map .int), .int p, .int kind, .list (salts.map .int)] = ρ
  have h0 : ρ 0 = some (.fro (.list (s.map .int))) := by rw [← hρ]; rfl
  have h1 : ρ 1 = some (.fro (.int p)) := by rw [← hρ]; rfl
  have h2 : ρ 2 = some (.fro (.int kind)) := by rw [← hρ]; rfl
  have h3 : ρ 3 = some (.fro (.list (salts.map .int))) := by rw [← hρ]; rfl
  have hd := law_digit_spec (s := s) (p := p) hs hp
  refine W.cons (W.set (d := .int (dig s p.toNat)) (by simp [qz_nil, qz_cons, qx_set, qx_own, qx_set2, qx_app, qx_last, qx_inc, qx_frz, qx_ret, qx_ite, qx_for, qx_while, qx_raise, qx_run, qx_get, qx_try, qe_var, qe_lit, qe_tup, qe_lst, qe_bin, qe_neg, qe_cmp, qe_ife, qe_idx, qe_from, qe_upto, qe_len, qe_max2, qe_str, qe_tupOf, qe_lstOf, qe_sorted, qe_call, qe_comp, qe_flat, qs_nil, qs_cons, qb_tt, qb_cmp, qb_eq, qb_ne, qb_isN, qb_notN, qb_chain, qb_and, qb_or, qb_not, qb_valO, qb_valC, qi_seq, qi_range, qf_seq, qf_range, qv_intD, qv_strD, qv_lstD, qv_int2, qv_addI, qv_addS, qv_addL, qv_sub, qv_mul, qv_div, qv_mod, qv_pow, qv_cmpD, qv_lt, qv_le, qv_gt, qv_eq, qv_ne, qv_bind1, qv_bind2, qv_seqL, qv_seqT, qv_tB, qv_tL, qv_tN, qv_nN, qv_nT, qv_nI, qv_items, qv_vVar, qv_vLit, qv_vTup, qv_vLst, qv_vBin, qv_vNeg, qv_vIdx, qv_vFrom, qv_vUpto, qv_vSorted, qv_vCall, qv_vComp, qv_vFlat, upd, small, lim, Option.bind_some, Option.map_some, Option.bind_none, Option.map_none, h0, h1, rs, hd]) ?_)
  generalize dig s p.toNat = head
  obtain ⟨v, hv, hv0⟩ := pow232
  refine W.cons (W.set (d := .int ((head.fdiv 294).fmod v)) ?_ ?_)
  · exact line_base hv hv0 (by simp [upd])
  generalize (head.fdiv 294).fmod v = base
  have hm := fmodB (a := head.fdiv 14 + 6) (b := 7) (by decide)
  refine W.cons (W.set (d := .int ((head.fdiv 14 + 6).fmod 7)) (by simp [qz_nil, qz_cons, qx_set, qx_own, qx_set2, qx_app, qx_last, qx_inc, qx_frz, qx_ret, qx_ite, qx_for, qx_while, qx_raise, qx_run, qx_get, qx_try, qe_var, qe_lit, qe_tup, qe_lst, qe_bin, qe_neg, qe_cmp, qe_ife, qe_idx, qe_from, qe_upto, qe_len, qe_max2, qe_str, qe_tupOf, qe_lstOf, qe_sorted, qe_call, qe_comp, qe_flat, qs_nil, qs_cons, qb_tt, qb_cmp, qb_eq, qb_ne, qb_isN, qb_notN, qb_chain, qb_and, qb_or, qb_not, qb_valO, qb_valC, qi_seq, qi_range, qf_seq, qf_range, qv_intD, qv_strD, qv_lstD, qv_int2, qv_addI, qv_addS, qv_addL, qv_sub, qv_mul, qv_div, qv_mod, qv_pow, qv_cmpD, qv_lt, qv_le, qv_gt, qv_eq, qv_ne, qv_bind1, qv_bind2, qv_seqL, qv_seqT, qv_tB, qv_tL, qv_tN, qv_nN, qv_nT, qv_nI, qv_items, qv_vVar, qv_vLit, qv_vTup, qv_vLst, qv_vBin, qv_vNeg, qv_vIdx, qv_vFrom, qv_vUpto, qv_vSorted, qv_vCall, qv_vComp, qv_vFlat, upd, small, lim, Option.bind_some, Option.map_some, Option.bind_none, Option.map_none]) ?_)
  generalize (head.fdiv 14 + 6).fmod 7 = many at hm
  refine W.cons (W.set (d := .bool ((head.fdiv 98).fmod 3 == 2)) (by simp [qz_nil, qz_cons, qx_set, qx_own, qx_set2, qx_app, qx_last, qx_inc, qx_frz, qx_ret, qx_ite, qx_for, qx_while, qx_raise, qx_run, qx_get, qx_try, qe_var, qe_lit, qe_tup, qe_lst, qe_bin, qe_neg, qe_cmp, qe_ife, qe_idx, qe_from, qe_upto, qe_len, qe_max2, qe_str, qe_tupOf, qe_lstOf, qe_sorted, qe_call, qe_comp, qe_flat, qs_nil, qs_cons, qb_tt, qb_cmp, qb_eq, qb_ne, qb_isN, qb_notN, qb_chain, qb_and, qb_or, qb_not, qb_valO, qb_valC, qi_seq, qi_range, qf_seq, qf_range, qv_intD, qv_strD, qv_lstD, qv_int2, qv_addI, qv_addS, qv_addL, qv_sub, qv_mul, qv_div, qv_mod, qv_pow, qv_cmpD, qv_lt, qv_le, qv_gt, qv_eq, qv_ne, qv_bind1, qv_bind2, qv_seqL, qv_seqT, qv_tB, qv_tL, qv_tN, qv_nN, qv_nT, qv_nI, qv_items, qv_vVar, qv_vLit, qv_vTup, qv_vLst, qv_vBin, qv_vNeg, qv_vIdx, qv_vFrom, qv_vUpto, qv_vSorted, qv_vCall, qv_vComp, qv_vFlat, upd, small, lim, Option.bind_some, Option.map_some, Option.bind_none, Option.map_none]) ?_)
  generalize ((head.fdiv 98).fmod 3 == 2) = single
  refine W.cons (W.set (d := .list (gapsI.map .int)) (by simp [qz_nil, qz_cons, qx_set, qx_own, qx_set2, qx_app, qx_last, qx_inc, qx_frz, qx_ret, qx_ite, qx_for, qx_while, qx_raise, qx_run, qx_get, qx_try, qe_var, qe_lit, qe_tup, qe_lst, qe_bin, qe_neg, qe_cmp, qe_ife, qe_idx, qe_from, qe_upto, qe_len, qe_max2, qe_str, qe_tupOf, qe_lstOf, qe_sorted, qe_call, qe_comp, qe_flat, qs_nil, qs_cons, qb_tt, qb_cmp, qb_eq, qb_ne, qb_isN, qb_notN, qb_chain, qb_and, qb_or, qb_not, qb_valO, qb_valC, qi_seq, qi_range, qf_seq, qf_range, qv_intD, qv_strD, qv_lstD, qv_int2, qv_addI, qv_addS, qv_addL, qv_sub, qv_mul, qv_div, qv_mod, qv_pow, qv_cmpD, qv_lt, qv_le, qv_gt, qv_eq, qv_ne, qv_bind1, qv_bind2, qv_seqL, qv_seqT, qv_tB, qv_tL, qv_tN, qv_nN, qv_nT, qv_nI, qv_items, qv_vVar, qv_vLit, qv_vTup, qv_vLst, qv_vBin, qv_vNeg, qv_vIdx, qv_vFrom, qv_vUpto, qv_vSorted, qv_vCall, qv_vComp, qv_vFlat, upd, small, lim, Option.bind_some, Option.map_some, Option.bind_none, Option.map_none, gapsI]) ?_)
  refine W.cons (W.own (ds := []) (by simp [qs_nil, qs_cons]) (by simp) ?_)
  refine W.cons (W.set (d := .int 4) (by simp [qz_nil, qz_cons, qx_set, qx_own, qx_set2, qx_app, qx_last, qx_inc, qx_frz, qx_ret, qx_ite, qx_for, qx_while, qx_raise, qx_run, qx_get, qx_try, qe_var, qe_lit, qe_tup, qe_lst, qe_bin, qe_neg, qe_cmp, qe_ife, qe_idx, qe_from, qe_upto, qe_len, qe_max2, qe_str, qe_tupOf, qe_lstOf, qe_sorted, qe_call, qe_comp, qe_flat, qs_nil, qs_cons, qb_tt, qb_cmp, qb_eq, qb_ne, qb_isN, qb_notN, qb_chain, qb_and, qb_or, qb_not, qb_valO, qb_valC, qi_seq, qi_range, qf_seq, qf_range, qv_intD, qv_strD, qv_lstD, qv_int2, qv_addI, qv_addS, qv_addL, qv_sub, qv_mul, qv_div, qv_mod, qv_pow, qv_cmpD, qv_lt, qv_le, qv_gt, qv_eq, qv_ne, qv_bind1, qv_bind2, qv_seqL, qv_seqT, qv_tB, qv_tL, qv_tN, qv_nN, qv_nT, qv_nI, qv_items, qv_vVar, qv_vLit, qv_vTup, qv_vLst, qv_vBin, qv_vNeg, qv_vIdx, qv_vFrom, qv_vUpto, qv_vSorted, qv_vCall, qv_vComp, qv_vFlat, upd, small, lim, Option.bind_some, Option.map_some, Option.bind_none, Option.map_none]) ?_)
  generalize hρ' : upd (upd (upd (upd (upd (upd (upd ρ 4 _) 5 _) 6 _) 7 _) 8 _) 9 _) 10 _ = ρ'
  have h6 : ρ' 6 = some (.fro (.int many)) := by rw [← hρ']; simp [upd]
  have I0 : LI s salts p kind head base single 0 ρ' := by
    refine ⟨?_, ?_, ?_, ?_, ?_, ?_, ?_, ?_, [], 4, ?_, rfl, by simp, ?_, by omega, by omega⟩ <;> rw [← hρ'] <;> simp [upd, h0, h1, h2, h3]
  have hit : evItF (rs Phi 9) (.range (.var 6)) ρ' = some (intsFrom 0 many.toNat) := evItF_range (by simp [qz_nil, qz_cons, qx_set, qx_own, qx_set2, qx_app, qx_last, qx_inc, qx_frz, qx_ret, qx_ite, qx_for, qx_while, qx_raise, qx_run, qx_get, qx_try, qe_var, qe_lit, qe_tup, qe_lst, qe_bin, qe_neg, qe_cmp, qe_ife, qe_idx, qe_from, qe_upto, qe_len, qe_max2, qe_str, qe_tupOf, qe_lstOf, qe_sorted, qe_call, qe_comp, qe_flat, qs_nil, qs_cons, qb_tt, qb_cmp, qb_eq, qb_ne, qb_isN, qb_notN, qb_chain, qb_and, qb_or, qb_not, qb_valO, qb_valC, qi_seq, qi_range, qf_seq, qf_range, qv_intD, qv_strD, qv_lstD, qv_int2, qv_addI, qv_addS, qv_addL, qv_sub, qv_mul, qv_div, qv_mod, qv_pow, qv_cmpD, qv_lt, qv_le, qv_gt, qv_eq, qv_ne, qv_bind1, qv_bind2, qv_seqL, qv_seqT, qv_tB, qv_tL, qv_tN, qv_nN, qv_nT, qv_nI, qv_items, qv_vVar, qv_vLit, qv_vTup, qv_vLst, qv_vBin, qv_vNeg, qv_vIdx, qv_vFrom, qv_vUpto, qv_vSorted, qv_vCall, qv_vComp, qv_vFlat, upd, small, lim, Option.bind_some, Option.map_some, Option.bind_none, Option.map_none, h6]) (by omega) (by omega)
  refine W.cons ?_
  simp only [qx_set, qx_own, qx_set2, qx_app, qx_last, qx_inc, qx_frz, qx_ret, qx_ite, qx_for, qx_while, qx_raise, qx_run, qx_get, qx_try, hit, Option.bind_some]
  refine W.range (fun k ρ => LI s salts p kind head base single k ρ) I0 (fun k ρ hk I => ?_) (fun ρ I => ?_)
  · simp only [qv_bind1, qv_bind2, Option.bind_some]
    exact law_line_step hs hp hsl (by omega) I
  · obtain ⟨h0, h1, h2, h3, h4, h5, h7, h8, bs, at_, h9, hb, hB, h10, ha1, ha2⟩ := I
    refine W.cons (W.frz h9 ?_)
    obtain ⟨L, hL, hl, hT⟩ := law_told_spec (bs := bs) (kind := kind) (head := head) (by omega)
    obtain ⟨atn, rfl⟩ : ∃ n : Nat, at_ = n := ⟨at_.toNat, by omega⟩
    have ek := line_keys (ρ := upd ρ 9 (.fro (.list (bs.map bwD)))) (base := base) (atn := atn) (by omega) (by simp [upd, h5]) (by simp [upd, h10])
    refine W.cons (W.ret (d := .tuple [.list (L.map litD), .list (((List.range (atn + 1)).map (fun k : Nat => [base + (k : Int)])).map keyD)]) ?_ ⟨L, _, rfl, by omega, fun l m => ⟨(hT l m).data, (hT l m).name⟩, ?_, .inl ⟨base, atn, by omega, rfl, fun l m => ?_⟩⟩)
    · have e8 : eval (rs Phi 9) (.call 8 (.cons (.var 9) (.cons (.var 2) (.cons (.var 4) .nil)))) (upd ρ 9 (.fro (.list (bs.map bwD)))) = some (.list (L.map litD)) := by
        simp [qz_nil, qz_cons, qx_set, qx_own, qx_set2, qx_app, qx_last, qx_inc, qx_frz, qx_ret, qx_ite, qx_for, qx_while, qx_raise, qx_run, qx_get, qx_try, qe_var, qe_lit, qe_tup, qe_lst, qe_bin, qe_neg, qe_cmp, qe_ife, qe_idx, qe_from, qe_upto, qe_len, qe_max2, qe_str, qe_tupOf, qe_lstOf, qe_sorted, qe_call, qe_comp, qe_flat, qs_nil, qs_cons, qb_tt, qb_cmp, qb_eq, qb_ne, qb_isN, qb_notN, qb_chain, qb_and, qb_or, qb_not, qb_valO, qb_valC, qi_seq, qi_range, qf_seq, qf_range, qv_intD, qv_strD, qv_lstD, qv_int2, qv_addI, qv_addS, qv_addL, qv_sub, qv_mul, qv_div, qv_mod, qv_pow, qv_cmpD, qv_lt, qv_le, qv_gt, qv_eq, qv_ne, qv_bind1, qv_bind2, qv_seqL, qv_seqT, qv_tB, qv_tL, qv_tN, qv_nN, qv_nT, qv_nI, qv_items, qv_vVar, qv_vLit, qv_vTup, qv_vLst, qv_vBin, qv_vNeg, qv_vIdx, qv_vFrom, qv_vUpto, qv_vSorted, qv_vCall, qv_vComp, qv_vFlat, upd, small, lim, Option.bind_some, Option.map_some, Option.bind_none, Option.map_none, h2, h4, rs, hL]
      rw [qe_tup, qs_cons, qs_cons, qs_nil, e8, ek]
      rfl
    · by_cases hk : kind = 0
      · exact .inl fun l m => (hT l m).z hk
      · exact .inr fun l m => (hT l m).nz hk
    · obtain ⟨w, hw⟩ := (hT l m).box
      exact hB _ hw
end Mine
-- P5
namespace Mine
open PySem PySem.W PyProof.Rows PySem.Calls
structure PI (s : List Int) (p head kind : Int) (k : Nat) (ρ : Vars) : Prop where
  h0 : ρ 0 = some (.fro (.list (s.map .int)))
  h1 : ρ 1 = some (.fro (.int p))
  h2 : ρ 2 = some (.fro (.int head))
  h3 : ρ 3 = some (.fro (.int kind))
  bx : ∃ (bs : List (List (Int × Int) × Int)), ρ 5 = some (.own (bs.map bwD)) ∧ bs.length = k ∧ (∀ x ∈ bs, PlaneBox x.1)
theorem plane_box {n x y : Int} {ρ : Vars} (h7 : ρ 7 = some (.fro (.int n))) (h10 : ρ 10 = some (.fro (.int x))) (h11 : ρ 11 = some (.fro (.int y))) :
    eval (rs Phi 10) (.tup (.cons (.tup (.cons (.var 10) (.cons (.bin .Add (.var 10) (.bin .Mod (.bin .FloorDiv (.var 7) (.lit (.int 4))) (.lit (.int 2)))) .nil))) (.cons (.tup (.cons (.var 11) (.cons (.bin .Add (.var 11) (.bin .Mult (.bin .Mod (.bin .FloorDiv (.var 7) (.lit (.int 32))) (.lit (.int 2))) (.lit (.int 2)))) .nil))) .nil))) ρ =
      some (boxD [(x, x + (n.fdiv 4).fmod 2), (y, y + (n.fdiv 32).fmod 2 * 2)]) := by
  have e1 : eval (rs Phi 10) (.bin .Mult (.bin .Mod (.bin .FloorDiv (.var 7) (.lit (.int 32))) (.lit (.int 2))) (.lit (.int 2))) ρ = some (.int ((n.fdiv 32).fmod 2 * 2)) := (ev_bin _ _ _ _ _ (.int ((n.fdiv 32).fmod 2)) _ (by simp [qz_nil, qz_cons, qx_set, qx_own, qx_set2, qx_app, qx_last, qx_inc, qx_frz, qx_ret, qx_ite, qx_for, qx_while, qx_raise, qx_run, qx_get, qx_try, qe_var, qe_lit, qe_tup, qe_lst, qe_bin, qe_neg, qe_cmp, qe_ife, qe_idx, qe_from, qe_upto, qe_len, qe_max2, qe_str, qe_tupOf, qe_lstOf, qe_sorted, qe_call, qe_comp, qe_flat, qs_nil, qs_cons, qb_tt, qb_cmp, qb_eq, qb_ne, qb_isN, qb_notN, qb_chain, qb_and, qb_or, qb_not, qb_valO, qb_valC, qi_seq, qi_range, qf_seq, qf_range, qv_intD, qv_strD, qv_lstD, qv_int2, qv_addI, qv_addS, qv_addL, qv_sub, qv_mul, qv_div, qv_mod, qv_pow, qv_cmpD, qv_lt, qv_le, qv_gt, qv_eq, qv_ne, qv_bind1, qv_bind2, qv_seqL, qv_seqT, qv_tB, qv_tL, qv_tN, qv_nN, qv_nT, qv_nI, qv_items, qv_vVar, qv_vLit, qv_vTup, qv_vLst, qv_vBin, qv_vNeg, qv_vIdx, qv_vFrom, qv_vUpto, qv_vSorted, qv_vCall, qv_vComp, qv_vFlat, upd, small, lim, Option.bind_some, Option.map_some, Option.bind_none, Option.map_none, h7]) (ev_lit _ _ _)).trans (binD_mult (by omega))
  have e2 : eval (rs Phi 10) (.bin .Add (.var 11) (.bin .Mult (.bin .Mod (.bin .FloorDiv (.var 7) (.lit (.int 32))) (.lit (.int 2))) (.lit (.int 2)))) ρ = some (.int (y + (n.fdiv 32).fmod 2 * 2)) := ev_bin _ _ _ _ _ _ _ (ev_var _ _ _ _ h11) e1
  have e3 : eval (rs Phi 10) (.bin .Add (.var 10) (.bin .Mod (.bin .FloorDiv (.var 7) (.lit (.int 4))) (.lit (.int 2)))) ρ = some (.int (x + (n.fdiv 4).fmod 2)) := by simp [qz_nil, qz_cons, qx_set, qx_own, qx_set2, qx_app, qx_last, qx_inc, qx_frz, qx_ret, qx_ite, qx_for, qx_while, qx_raise, qx_run, qx_get, qx_try, qe_var, qe_lit, qe_tup, qe_lst, qe_bin, qe_neg, qe_cmp, qe_ife, qe_idx, qe_from, qe_upto, qe_len, qe_max2, qe_str, qe_tupOf, qe_lstOf, qe_sorted, qe_call, qe_comp, qe_flat, qs_nil, qs_cons, qb_tt, qb_cmp, qb_eq, qb_ne, qb_isN, qb_notN, qb_chain, qb_and, qb_or, qb_not, qb_valO, qb_valC, qi_seq, qi_range, qf_seq, qf_range, qv_intD, qv_strD, qv_lstD, qv_int2, qv_addI, qv_addS, qv_addL, qv_sub, qv_mul, qv_div, qv_mod, qv_pow, qv_cmpD, qv_lt, qv_le, qv_gt, qv_eq, qv_ne, qv_bind1, qv_bind2, qv_seqL, qv_seqT, qv_tB, qv_tL, qv_tN, qv_nN, qv_nT, qv_nI, qv_items, qv_vVar, qv_vLit, qv_vTup, qv_vLst, qv_vBin, qv_vNeg, qv_vIdx, qv_vFrom, qv_vUpto, qv_vSorted, qv_vCall, qv_vComp, qv_vFlat, upd, small, lim, Option.bind_some, Option.map_some, Option.bind_none, Option.map_none, h7, h10]
  have e4 := ev_var (rs Phi 10) _ _ _ h10
  have e5 := ev_var (rs Phi 10) _ _ _ h11
  simp only [qe_tup, qs_nil, qs_cons, e2, e3, e4, e5, Option.bind_some, Option.map_some, small]
  rfl
theorem plane_keys {ρ : Vars} : eval (rs Phi 10) (.comp (.tup (.cons (.bin .FloorDiv (.var 12) (.lit (.int 6))) (.cons (.bin .Mod (.var 12) (.lit (.int 6))) .nil))) [12] (.range (.lit (.int 36))) .tt []) ρ = some (.list (((List.range 36).map (fun k : Nat => [(k : Int).fdiv 6, (k : Int).fmod 6])).map keyD)) := by
  have hit : evIt (rs Phi 10) (.range (.lit (.int 36))) ρ = some (intsFrom 0 36) := evIt_range (i := 36) (by simp [qz_nil, qz_cons, qx_set, qx_own, qx_set2, qx_app, qx_last, qx_inc, qx_frz, qx_ret, qx_ite, qx_for, qx_while, qx_raise, qx_run, qx_get, qx_try, qe_var, qe_lit, qe_tup, qe_lst, qe_bin, qe_neg, qe_cmp, qe_ife, qe_idx, qe_from, qe_upto, qe_len, qe_max2, qe_str, qe_tupOf, qe_lstOf, qe_sorted, qe_call, qe_comp, qe_flat, qs_nil, qs_cons, qb_tt, qb_cmp, qb_eq, qb_ne, qb_isN, qb_notN, qb_chain, qb_and, qb_or, qb_not, qb_valO, qb_valC, qi_seq, qi_range, qf_seq, qf_range, qv_intD, qv_strD, qv_lstD, qv_int2, qv_addI, qv_addS, qv_addL, qv_sub, qv_mul, qv_div, qv_mod, qv_pow, qv_cmpD, qv_lt, qv_le, qv_gt, qv_eq, qv_ne, qv_bind1, qv_bind2, qv_seqL, qv_seqT, qv_tB, qv_tL, qv_tN, qv_nN, qv_nT, qv_nI, qv_items, qv_vVar, qv_vLit, qv_vTup, qv_vLst, qv_vBin, qv_vNeg, qv_vIdx, qv_vFrom, qv_vUpto, qv_vSorted, qv_vCall, qv_vComp, qv_vFlat, upd, small, lim, Option.bind_some, Option.map_some, Option.bind_none, Option.map_none]) (by omega) (by omega)
  rw [qe_comp, hit, Option.bind_some, intsFrom_eq, compL_map (p := fun _ => true) (h := fun k : Nat => keyD [(k : Int).fdiv 6, (k : Int).fmod 6])]
  · rw [List.filter_eq_self.mpr (fun _ _ => rfl)]
    simp only [Option.bind_some, small, List.length_map, List.length_range, if_pos (show 36 ≤ 1000 by decide), List.map_map]
    rfl
  · intro k hk
    simp [qz_nil, qz_cons, qx_set, qx_own, qx_set2, qx_app, qx_last, qx_inc, qx_frz, qx_ret, qx_ite, qx_for, qx_while, qx_raise, qx_run, qx_get, qx_try, qe_var, qe_lit, qe_tup, qe_lst, qe_bin, qe_neg, qe_cmp, qe_ife, qe_idx, qe_from, qe_upto, qe_len, qe_max2, qe_str, qe_tupOf, qe_lstOf, qe_sorted, qe_call, qe_comp, qe_flat, qs_nil, qs_cons, qb_tt, qb_cmp, qb_eq, qb_ne, qb_isN, qb_notN, qb_chain, qb_and, qb_or, qb_not, qb_valO, qb_valC, qi_seq, qi_range, qf_seq, qf_range, qv_intD, qv_strD, qv_lstD, qv_int2, qv_addI, qv_addS, qv_addL, qv_sub, qv_mul, qv_div, qv_mod, qv_pow, qv_cmpD, qv_lt, qv_le, qv_gt, qv_eq, qv_ne, qv_bind1, qv_bind2, qv_seqL, qv_seqT, qv_tB, qv_tL, qv_tN, qv_nN, qv_nT, qv_nI, qv_items, qv_vVar, qv_vLit, qv_vTup, qv_vLst, qv_vBin, qv_vNeg, qv_vIdx, qv_vFrom, qv_vUpto, qv_vSorted, qv_vCall, qv_vComp, qv_vFlat, upd, small, lim, Option.bind_some, Option.map_some, Option.bind_none, Option.map_none, keyD]
theorem lt4 {P : Nat → Prop} (a : P 0) (b : P 1) (c : P 2) (d : P 3) (k : Nat) (h : k < 4) : P k := by
  rcases Nat.lt_or_ge k 1 with q | q
  · exact Nat.lt_one_iff.mp q ▸ a
  · rcases Nat.lt_or_ge k 2 with q2 | q2
    · exact Nat.le_antisymm q (Nat.le_of_lt_succ q2) ▸ b
    · rcases Nat.lt_or_ge k 3 with q3 | q3
      · exact Nat.le_antisymm q2 (Nat.le_of_lt_succ q3) ▸ c
      · exact Nat.le_antisymm q3 (Nat.le_of_lt_succ h) ▸ d
theorem law_plane_step {s : List Int} {p kind head : Int} {k : Nat} {ρ : Vars} {R : D → Prop} {Z : Prop} (hs : s.length ≤ 63) (hp : 0 ≤ p) (hk : k < 4) (I : PI s p head kind k ρ) :
    W (execs whyC (rs Phi 10) (.cons (.set 7 (.bin .Add (.call 6 (.cons (.var 0) (.cons (.bin .Add (.bin .Add (.var 1) (.lit (.int 1))) (.var 6)) .nil))) (.idx (.lst (.cons (.lit (.int 0)) (.cons (.lit (.int 10)) (.cons (.lit (.int 33)) (.cons (.lit (.int 192)) .nil))))) (.var 6)))) (.cons (.ite (.and (.cmp .Eq (.bin .Mod (.bin .FloorDiv (.var 7) (.lit (.int 64))) (.lit (.int 4))) (.lit (.int 3))) (.val (.var 5))) (.cons (.set2 8 9 (.idx (.var 5) (.bin .Mod (.var 7) (.len (.var 5))))) (.cons (.app 5 (.tup (.cons (.var 8) (.cons (.bin .Add (.var 9) (.ife (.cmp .Eq (.bin .Mod (.bin .FloorDiv (.var 7) (.lit (.int 256))) (.lit (.int 4))) (.lit (.int 3))) (.lit (.int 1)) (.lit (.int 0)))) .nil)))) .nil)) (.cons (.set 10 (.bin .Mod (.var 7) (.lit (.int 4)))) (.cons (.set 11 (.bin .Mod (.bin .FloorDiv (.var 7) (.lit (.int 8))) (.lit (.int 4)))) (.cons (.set 8 (.tup (.cons (.tup (.cons (.var 10) (.cons (.bin .Add (.var 10) (.bin .Mod (.bin .FloorDiv (.var 7) (.lit (.int 4))) (.lit (.int 2)))) .nil))) (.cons (.tup (.cons (.var 11) (.cons (.bin .Add (.var 11) (.bin .Mult (.bin .Mod (.bin .FloorDiv (.var 7) (.lit (.int 32))) (.lit (.int 2))) (.lit (.int 2)))) .nil))) .nil)))) (.cons (.app 5 (.tup (.cons (.var 8) (.cons (.bin .Mod (.bin .FloorDiv (.var 7) (.lit (.int 256))) (.lit (.int 3))) .nil)))) .nil))))) .nil)) (upd ρ 6 (.fro (.int (k : Int))))) (fun ρ' => PI s p head kind (k + 1) ρ') R Z := by
  obtain ⟨h0, h1, h2, h3, bs, h9, hb, hB⟩ := I
  have hd := law_digit_spec (s := s) (p := p + 1 + k) hs (by omega)
  obtain ⟨z, hz⟩ := lt4 (P := fun k => ∃ z, idxD [.int 0, .int 10, .int 33, .int 192] (k : Int) = some (.int z)) ⟨0, rfl⟩ ⟨10, rfl⟩ ⟨33, rfl⟩ ⟨192, rfl⟩ k hk
  have hi : eval (rs Phi 10) (.idx (.lst (.cons (.lit (.int 0)) (.cons (.lit (.int 10)) (.cons (.lit (.int 33)) (.cons (.lit (.int 192)) .nil))))) (.var 6)) (upd ρ 6 (.fro (.int (k : Int)))) = some (.int z) :=
    ev_idx (t := true) (ds := [.int 0, .int 10, .int 33, .int 192]) rfl rfl (ev_var _ 6 (.int (k : Int)) _ rfl) hz
  have hl : bs.length ≤ 100000 := by omega
  refine W.cons (W.set (d := .int (dig s (p + 1 + k).toNat + z)) (ev_bin _ _ _ _ _ (.int (dig s (p + 1 + k).toNat)) (.int z) (by simp [qz_nil, qz_cons, qx_set, qx_own, qx_set2, qx_app, qx_last, qx_inc, qx_frz, qx_ret, qx_ite, qx_for, qx_while, qx_raise, qx_run, qx_get, qx_try, qe_var, qe_lit, qe_tup, qe_lst, qe_bin, qe_neg, qe_cmp, qe_ife, qe_idx, qe_from, qe_upto, qe_len, qe_max2, qe_str, qe_tupOf, qe_lstOf, qe_sorted, qe_call, qe_comp, qe_flat, qs_nil, qs_cons, qb_tt, qb_cmp, qb_eq, qb_ne, qb_isN, qb_notN, qb_chain, qb_and, qb_or, qb_not, qb_valO, qb_valC, qi_seq, qi_range, qf_seq, qf_range, qv_intD, qv_strD, qv_lstD, qv_int2, qv_addI, qv_addS, qv_addL, qv_sub, qv_mul, qv_div, qv_mod, qv_pow, qv_cmpD, qv_lt, qv_le, qv_gt, qv_eq, qv_ne, qv_bind1, qv_bind2, qv_seqL, qv_seqT, qv_tB, qv_tL, qv_tN, qv_nN, qv_nT, qv_nI, qv_items, qv_vVar, qv_vLit, qv_vTup, qv_vLst, qv_vBin, qv_vNeg, qv_vIdx, qv_vFrom, qv_vUpto, qv_vSorted, qv_vCall, qv_vComp, qv_vFlat, upd, small, lim, Option.bind_some, Option.map_some, Option.bind_none, Option.map_none, h0, h1, rs, hd]) hi) ?_)
  generalize dig s (p + 1 + k).toNat + z = n
  refine W.cons (W.ite (t := ((n.fdiv 64).fmod 4 == 3) && !(bs.map bwD).isEmpty) ?_ (fun ht => ?_) (fun _ => ?_))
  · by_cases q : (n.fdiv 64).fmod 4 = 3 <;> simp [qz_nil, qz_cons, qx_set, qx_own, qx_set2, qx_app, qx_last, qx_inc, qx_frz, qx_ret, qx_ite, qx_for, qx_while, qx_raise, qx_run, qx_get, qx_try, qe_var, qe_lit, qe_tup, qe_lst, qe_bin, qe_neg, qe_cmp, qe_ife, qe_idx, qe_from, qe_upto, qe_len, qe_max2, qe_str, qe_tupOf, qe_lstOf, qe_sorted, qe_call, qe_comp, qe_flat, qs_nil, qs_cons, qb_tt, qb_cmp, qb_eq, qb_ne, qb_isN, qb_notN, qb_chain, qb_and, qb_or, qb_not, qb_valO, qb_valC, qi_seq, qi_range, qf_seq, qf_range, qv_intD, qv_strD, qv_lstD, qv_int2, qv_addI, qv_addS, qv_addL, qv_sub, qv_mul, qv_div, qv_mod, qv_pow, qv_cmpD, qv_lt, qv_le, qv_gt, qv_eq, qv_ne, qv_bind1, qv_bind2, qv_seqL, qv_seqT, qv_tB, qv_tL, qv_tN, qv_nN, qv_nT, qv_nI, qv_items, qv_vVar, qv_vLit, qv_vTup, qv_vLst, qv_vBin, qv_vNeg, qv_vIdx, qv_vFrom, qv_vUpto, qv_vSorted, qv_vCall, qv_vComp, qv_vFlat, upd, small, lim, Option.bind_some, Option.map_some, Option.bind_none, Option.map_none, h9, hl, q]
  · have hpos : 0 < bs.length := by
      rcases bs with _ | ⟨x, bs⟩
      · simp at ht
      · simp
    have hm := fmodB (a := n) (b := (bs.length : Int)) (by omega)
    have hx : bs[(n.fmod bs.length).toNat]? = some (bs[(n.fmod bs.length).toNat]'(by omega)) := List.getElem?_eq_getElem _
    generalize bs[(n.fmod bs.length).toNat]'(by omega) = x at hx
    obtain ⟨b, w⟩ := x
    have hi2 := idxD_map (enc := bwD) hm.1 hx hl
    have hne : (bs.length : Int) ≠ 0 := by omega
    have hne' : bs ≠ [] := by rintro rfl; simp at hpos
    refine W.cons (W.set2 (a := boxD b) (b := .int w) (by simp [qz_nil, qz_cons, qx_set, qx_own, qx_set2, qx_app, qx_last, qx_inc, qx_frz, qx_ret, qx_ite, qx_for, qx_while, qx_raise, qx_run, qx_get, qx_try, qe_var, qe_lit, qe_tup, qe_lst, qe_bin, qe_neg, qe_cmp, qe_ife, qe_idx, qe_from, qe_upto, qe_len, qe_max2, qe_str, qe_tupOf, qe_lstOf, qe_sorted, qe_call, qe_comp, qe_flat, qs_nil, qs_cons, qb_tt, qb_cmp, qb_eq, qb_ne, qb_isN, qb_notN, qb_chain, qb_and, qb_or, qb_not, qb_valO, qb_valC, qi_seq, qi_range, qf_seq, qf_range, qv_intD, qv_strD, qv_lstD, qv_int2, qv_addI, qv_addS, qv_addL, qv_sub, qv_mul, qv_div, qv_mod, qv_pow, qv_cmpD, qv_lt, qv_le, qv_gt, qv_eq, qv_ne, qv_bind1, qv_bind2, qv_seqL, qv_seqT, qv_tB, qv_tL, qv_tN, qv_nN, qv_nT, qv_nI, qv_items, qv_vVar, qv_vLit, qv_vTup, qv_vLst, qv_vBin, qv_vNeg, qv_vIdx, qv_vFrom, qv_vUpto, qv_vSorted, qv_vCall, qv_vComp, qv_vFlat, upd, small, lim, Option.bind_some, Option.map_some, Option.bind_none, Option.map_none, h9, hl, hne', hi2]; rfl) ?_)
    obtain ⟨w', hw⟩ : ∃ w', eval (rs Phi 10) (.tup (.cons (.var 8) (.cons (.bin .Add (.var 9) (.ife (.cmp .Eq (.bin .Mod (.bin .FloorDiv (.var 7) (.lit (.int 256))) (.lit (.int 4))) (.lit (.int 3))) (.lit (.int 1)) (.lit (.int 0)))) .nil))) (upd (upd (upd (upd ρ 6 (.fro (.int (k : Int)))) 7 (.fro (.int n))) 8 (.fro (boxD b))) 9 (.fro (.int w))) = some (bwD (b, w')) := by
      by_cases q : (n.fdiv 256).fmod 4 = 3
      · exact ⟨w + 1, by simp [qz_nil, qz_cons, qx_set, qx_own, qx_set2, qx_app, qx_last, qx_inc, qx_frz, qx_ret, qx_ite, qx_for, qx_while, qx_raise, qx_run, qx_get, qx_try, qe_var, qe_lit, qe_tup, qe_lst, qe_bin, qe_neg, qe_cmp, qe_ife, qe_idx, qe_from, qe_upto, qe_len, qe_max2, qe_str, qe_tupOf, qe_lstOf, qe_sorted, qe_call, qe_comp, qe_flat, qs_nil, qs_cons, qb_tt, qb_cmp, qb_eq, qb_ne, qb_isN, qb_notN, qb_chain, qb_and, qb_or, qb_not, qb_valO, qb_valC, qi_seq, qi_range, qf_seq, qf_range, qv_intD, qv_strD, qv_lstD, qv_int2, qv_addI, qv_addS, qv_addL, qv_sub, qv_mul, qv_div, qv_mod, qv_pow, qv_cmpD, qv_lt, qv_le, qv_gt, qv_eq, qv_ne, qv_bind1, qv_bind2, qv_seqL, qv_seqT, qv_tB, qv_tL, qv_tN, qv_nN, qv_nT, qv_nI, qv_items, qv_vVar, qv_vLit, qv_vTup, qv_vLst, qv_vBin, qv_vNeg, qv_vIdx, qv_vFrom, qv_vUpto, qv_vSorted, qv_vCall, qv_vComp, qv_vFlat, upd, small, lim, Option.bind_some, Option.map_some, Option.bind_none, Option.map_none, q, bwD]⟩
      · exact ⟨w, by simp [qz_nil, qz_cons, qx_set, qx_own, qx_set2, qx_app, qx_last, qx_inc, qx_frz, qx_ret, qx_ite, qx_for, qx_while, qx_raise, qx_run, qx_get, qx_try, qe_var, qe_lit, qe_tup, qe_lst, qe_bin, qe_neg, qe_cmp, qe_ife, qe_idx, qe_from, qe_upto, qe_len, qe_max2, qe_str, qe_tupOf, qe_lstOf, qe_sorted, qe_call, qe_comp, qe_flat, qs_nil, qs_cons, qb_tt, qb_cmp, qb_eq, qb_ne, qb_isN, qb_notN, qb_chain, qb_and, qb_or, qb_not, qb_valO, qb_valC, qi_seq, qi_range, qf_seq, qf_range, qv_intD, qv_strD, qv_lstD, qv_int2, qv_addI, qv_addS, qv_addL, qv_sub, qv_mul, qv_div, qv_mod, qv_pow, qv_cmpD, qv_lt, qv_le, qv_gt, qv_eq, qv_ne, qv_bind1, qv_bind2, qv_seqL, qv_seqT, qv_tB, qv_tL, qv_tN, qv_nN, qv_nT, qv_nI, qv_items, qv_vVar, qv_vLit, qv_vTup, qv_vLst, qv_vBin, qv_vNeg, qv_vIdx, qv_vFrom, qv_vUpto, qv_vSorted, qv_vCall, qv_vComp, qv_vFlat, upd, small, lim, Option.bind_some, Option.map_some, Option.bind_none, Option.map_none, q, bwD]⟩
    refine W.cons (W.app (ds := bs.map bwD) (d := bwD (b, w')) (by simp [upd, h9]) (by simp; omega) hw (W.nil (W.nil ?_)))
    refine ⟨by simp [upd, h0], by simp [upd, h1], by simp [upd, h2], by simp [upd, h3], bs ++ [(b, w')], by simp [upd], by simp [hb], fun x m => ?_⟩
    rcases List.mem_append.mp m with m | m
    · exact hB x m
    · rw [List.mem_singleton] at m
      subst m
      exact hB (b, w) (List.mem_of_getElem? hx)
  · have m1 := fmodB (a := n) (b := 4) (by decide)
    have m2 := fmodB (a := n.fdiv 8) (b := 4) (by decide)
    have m3 := fmodB (a := n.fdiv 4) (b := 2) (by decide)
    have m4 := fmodB (a := n.fdiv 32) (b := 2) (by decide)
    refine W.cons (W.set (d := .int (n.fmod 4)) (by simp [qz_nil, qz_cons, qx_set, qx_own, qx_set2, qx_app, qx_last, qx_inc, qx_frz, qx_ret, qx_ite, qx_for, qx_while, qx_raise, qx_run, qx_get, qx_try, qe_var, qe_lit, qe_tup, qe_lst, qe_bin, qe_neg, qe_cmp, qe_ife, qe_idx, qe_from, qe_upto, qe_len, qe_max2, qe_str, qe_tupOf, qe_lstOf, qe_sorted, qe_call, qe_comp, qe_flat, qs_nil, qs_cons, qb_tt, qb_cmp, qb_eq, qb_ne, qb_isN, qb_notN, qb_chain, qb_and, qb_or, qb_not, qb_valO, qb_valC, qi_seq, qi_range, qf_seq, qf_range, qv_intD, qv_strD, qv_lstD, qv_int2, qv_addI, qv_addS, qv_addL, qv_sub, qv_mul, qv_div, qv_mod, qv_pow, qv_cmpD, qv_lt, qv_le, qv_gt, qv_eq, qv_ne, qv_bind1, qv_bind2, qv_seqL, qv_seqT, qv_tB, qv_tL, qv_tN, qv_nN, qv_nT, qv_nI, qv_items, qv_vVar, qv_vLit, qv_vTup, qv_vLst, qv_vBin, qv_vNeg, qv_vIdx, qv_vFrom, qv_vUpto, qv_vSorted, qv_vCall, qv_vComp, qv_vFlat, upd, small, lim, Option.bind_some, Option.map_some, Option.bind_none, Option.map_none]) ?_)
    refine W.cons (W.set (d := .int ((n.fdiv 8).fmod 4)) (by simp [qz_nil, qz_cons, qx_set, qx_own, qx_set2, qx_app, qx_last, qx_inc, qx_frz, qx_ret, qx_ite, qx_for, qx_while, qx_raise, qx_run, qx_get, qx_try, qe_var, qe_lit, qe_tup, qe_lst, qe_bin, qe_neg, qe_cmp, qe_ife, qe_idx, qe_from, qe_upto, qe_len, qe_max2, qe_str, qe_tupOf, qe_lstOf, qe_sorted, qe_call, qe_comp, qe_flat, qs_nil, qs_cons, qb_tt, qb_cmp, qb_eq, qb_ne, qb_isN, qb_notN, qb_chain, qb_and, qb_or, qb_not, qb_valO, qb_valC, qi_seq, qi_range, qf_seq, qf_range, qv_intD, qv_strD, qv_lstD, qv_int2, qv_addI, qv_addS, qv_addL, qv_sub, qv_mul, qv_div, qv_mod, qv_pow, qv_cmpD, qv_lt, qv_le, qv_gt, qv_eq, qv_ne, qv_bind1, qv_bind2, qv_seqL, qv_seqT, qv_tB, qv_tL, qv_tN, qv_nN, qv_nT, qv_nI, qv_items, qv_vVar, qv_vLit, qv_vTup, qv_vLst, qv_vBin, qv_vNeg, qv_vIdx, qv_vFrom, qv_vUpto, qv_vSorted, qv_vCall, qv_vComp, qv_vFlat, upd, small, lim, Option.bind_some, Option.map_some, Option.bind_none, Option.map_none]) ?_)
    refine W.cons (W.set (plane_box (by simp [upd]; rfl) (by simp [upd]; rfl) (by simp [upd]; rfl)) ?_)
    refine W.cons (W.app (ds := bs.map bwD) (d := bwD ([(n.fmod 4, n.fmod 4 + (n.fdiv 4).fmod 2), ((n.fdiv 8).fmod 4, (n.fdiv 8).fmod 4 + (n.fdiv 32).fmod 2 * 2)], (n.fdiv 256).fmod 3)) (by simp [upd, h9]) (by simp; omega) (by simp [qz_nil, qz_cons, qx_set, qx_own, qx_set2, qx_app, qx_last, qx_inc, qx_frz, qx_ret, qx_ite, qx_for, qx_while, qx_raise, qx_run, qx_get, qx_try, qe_var, qe_lit, qe_tup, qe_lst, qe_bin, qe_neg, qe_cmp, qe_ife, qe_idx, qe_from, qe_upto, qe_len, qe_max2, qe_str, qe_tupOf, qe_lstOf, qe_sorted, qe_call, qe_comp, qe_flat, qs_nil, qs_cons, qb_tt, qb_cmp, qb_eq, qb_ne, qb_isN, qb_notN, qb_chain, qb_and, qb_or, qb_not, qb_valO, qb_valC, qi_seq, qi_range, qf_seq, qf_range, qv_intD, qv_strD, qv_lstD, qv_int2, qv_addI, qv_addS, qv_addL, qv_sub, qv_mul, qv_div, qv_mod, qv_pow, qv_cmpD, qv_lt, qv_le, qv_gt, qv_eq, qv_ne, qv_bind1, qv_bind2, qv_seqL, qv_seqT, qv_tB, qv_tL, qv_tN, qv_nN, qv_nT, qv_nI, qv_items, qv_vVar, qv_vLit, qv_vTup, qv_vLst, qv_vBin, qv_vNeg, qv_vIdx, qv_vFrom, qv_vUpto, qv_vSorted, qv_vCall, qv_vComp, qv_vFlat, upd, small, lim, Option.bind_some, Option.map_some, Option.bind_none, Option.map_none, bwD]) (W.nil (W.nil ?_)))
    refine ⟨by simp [upd, h0], by simp [upd, h1], by simp [upd, h2], by simp [upd, h3], bs ++ [([(n.fmod 4, n.fmod 4 + (n.fdiv 4).fmod 2), ((n.fdiv 8).fmod 4, (n.fdiv 8).fmod 4 + (n.fdiv 32).fmod 2 * 2)], (n.fdiv 256).fmod 3)], by simp [upd], by simp [hb], fun x m => ?_⟩
    rcases List.mem_append.mp m with m | m
    · exact hB x m
    · rw [List.mem_singleton] at m
      subst m
      exact ⟨_, _, _, _, rfl, by omega, by omega, by omega, by omega, by omega, by omega⟩
theorem law_plane_spec {s : List Int} {p : Int} (hs : s.length ≤ 63) (hp : 0 ≤ p) :
    ∃ kind L keys, Phi 10 [.list (s.map .int), .int p] = some (.ok (.tuple [.list (L.map litD), .list (keys.map keyD)])) ∧ Kase kind L keys := by
  suffices h : ∃ d, Phi 10 [.list (s.map .int), .int p] = some (.ok d) ∧ ∃ kind L keys, d = .tuple [.list (L.map litD), .list (keys.map keyD)] ∧ Kase kind L keys by
    obtain ⟨_, h, kd, L, k, rfl, h2⟩ := h
    exact ⟨kd, L, k, h, h2⟩
  refine Phi_ok (by rfl) ?_
  show W (execs whyC (rs Phi 10) ss_law_plane _) _ _ _
  generalize hρ : args0 [.list (s.map .int), .int p] = ρ
  have h0 : ρ 0 = some (.fro (.list (s.map .int))) := by rw [← hρ]; rfl
  have h1 : ρ 1 = some (.fro (.int p)) := by rw [← hρ]; rfl
  have hd := law_digit_spec (s := s) (p := p) hs hp
  refine W.cons (W.set (d := .int (dig s p.toNat)) (by simp [qz_nil, qz_cons, qx_set, qx_own, qx_set2, qx_app, qx_last, qx_inc, qx_frz, qx_ret, qx_ite, qx_for, qx_while, qx_raise, qx_run, qx_get, qx_try, qe_var, qe_lit, qe_tup, qe_lst, qe_bin, qe_neg, qe_cmp, qe_ife, qe_idx, qe_from, qe_upto, qe_len, qe_max2, qe_str, qe_tupOf, qe_lstOf, qe_sorted, qe_call, qe_comp, qe_flat, qs_nil, qs_cons, qb_tt, qb_cmp, qb_eq, qb_ne, qb_isN, qb_notN, qb_chain, qb_and, qb_or, qb_not, qb_valO, qb_valC, qi_seq, qi_range, qf_seq, qf_range, qv_intD, qv_strD, qv_lstD, qv_int2, qv_addI, qv_addS, qv_addL, qv_sub, qv_mul, qv_div, qv_mod, qv_pow, qv_cmpD, qv_lt, qv_le, qv_gt, qv_eq, qv_ne, qv_bind1, qv_bind2, qv_seqL, qv_seqT, qv_tB, qv_tL, qv_tN, qv_nN, qv_nT, qv_nI, qv_items, qv_vVar, qv_vLit, qv_vTup, qv_vLst, qv_vBin, qv_vNeg, qv_vIdx, qv_vFrom, qv_vUpto, qv_vSorted, qv_vCall, qv_vComp, qv_vFlat, upd, small, lim, Option.bind_some, Option.map_some, Option.bind_none, Option.map_none, h0, h1, rs, hd]) ?_)
  generalize dig s p.toNat = head
  refine W.cons (W.set (d := .int ((head.fdiv 70).fmod 3)) (by simp [qz_nil, qz_cons, qx_set, qx_own, qx_set2, qx_app, qx_last, qx_inc, qx_frz, qx_ret, qx_ite, qx_for, qx_while, qx_raise, qx_run, qx_get, qx_try, qe_var, qe_lit, qe_tup, qe_lst, qe_bin, qe_neg, qe_cmp, qe_ife, qe_idx, qe_from, qe_upto, qe_len, qe_max2, qe_str, qe_tupOf, qe_lstOf, qe_sorted, qe_call, qe_comp, qe_flat, qs_nil, qs_cons, qb_tt, qb_cmp, qb_eq, qb_ne, qb_isN, qb_notN, qb_chain, qb_and, qb_or, qb_not, qb_valO, qb_valC, qi_seq, qi_range, qf_seq, qf_range, qv_intD, qv_strD, qv_lstD, qv_int2, qv_addI, qv_addS, qv_addL, qv_sub, qv_mul, qv_div, qv_mod, qv_pow, qv_cmpD, qv_lt, qv_le, qv_gt, qv_eq, qv_ne, qv_bind1, qv_bind2, qv_seqL, qv_seqT, qv_tB, qv_tL, qv_tN, qv_nN, qv_nT, qv_nI, qv_items, qv_vVar, qv_vLit, qv_vTup, qv_vLst, qv_vBin, qv_vNeg, qv_vIdx, qv_vFrom, qv_vUpto, qv_vSorted, qv_vCall, qv_vComp, qv_vFlat, upd, small, lim, Option.bind_some, Option.map_some, Option.bind_none, Option.map_none]) ?_)
  generalize (head.fdiv 70).fmod 3 = kind
  have hm := fmodB (a := head.fdiv 14 + 4) (b := 5) (by decide)
  refine W.cons (W.set (d := .int ((head.fdiv 14 + 4).fmod 5)) (by simp [qz_nil, qz_cons, qx_set, qx_own, qx_set2, qx_app, qx_last, qx_inc, qx_frz, qx_ret, qx_ite, qx_for, qx_while, qx_raise, qx_run, qx_get, qx_try, qe_var, qe_lit, qe_tup, qe_lst, qe_bin, qe_neg, qe_cmp, qe_ife, qe_idx, qe_from, qe_upto, qe_len, qe_max2, qe_str, qe_tupOf, qe_lstOf, qe_sorted, qe_call, qe_comp, qe_flat, qs_nil, qs_cons, qb_tt, qb_cmp, qb_eq, qb_ne, qb_isN, qb_notN, qb_chain, qb_and, qb_or, qb_not, qb_valO, qb_valC, qi_seq, qi_range, qf_seq, qf_range, qv_intD, qv_strD, qv_lstD, qv_int2, qv_addI, qv_addS, qv_addL, qv_sub, qv_mul, qv_div, qv_mod, qv_pow, qv_cmpD, qv_lt, qv_le, qv_gt, qv_eq, qv_ne, qv_bind1, qv_bind2, qv_seqL, qv_seqT, qv_tB, qv_tL, qv_tN, qv_nN, qv_nT, qv_nI, qv_items, qv_vVar, qv_vLit, qv_vTup, qv_vLst, qv_vBin, qv_vNeg, qv_vIdx, qv_vFrom, qv_vUpto, qv_vSorted, qv_vCall, qv_vComp, qv_vFlat, upd, small, lim, Option.bind_some, Option.map_some, Option.bind_none, Option.map_none]) ?_)
  generalize (head.fdiv 14 + 4).fmod 5 = many at hm
  refine W.cons (W.own (ds := []) (by simp [qs_nil, qs_cons]) (by simp) ?_)
  generalize hρ' : upd (upd (upd (upd ρ 2 _) 3 _) 4 _) 5 _ = ρ'
  have h6 : ρ' 4 = some (.fro (.int many)) := by rw [← hρ']; simp [upd]
  have I0 : PI s p head kind 0 ρ' := by
    refine ⟨?_, ?_, ?_, ?_, [], ?_, rfl, by simp⟩ <;> rw [← hρ'] <;> simp [upd, h0, h1]
  have hit : evItF (rs Phi 10) (.range (.var 4)) ρ' = some (intsFrom 0 many.toNat) := evItF_range (by simp [qz_nil, qz_cons, qx_set, qx_own, qx_set2, qx_app, qx_last, qx_inc, qx_frz, qx_ret, qx_ite, qx_for, qx_while, qx_raise, qx_run, qx_get, qx_try, qe_var, qe_lit, qe_tup, qe_lst, qe_bin, qe_neg, qe_cmp, qe_ife, qe_idx, qe_from, qe_upto, qe_len, qe_max2, qe_str, qe_tupOf, qe_lstOf, qe_sorted, qe_call, qe_comp, qe_flat, qs_nil, qs_cons, qb_tt, qb_cmp, qb_eq, qb_ne, qb_isN, qb_notN, qb_chain, qb_and, qb_or, qb_not, qb_valO, qb_valC, qi_seq, qi_range, qf_seq, qf_range, qv_intD, qv_strD, qv_lstD, qv_int2, qv_addI, qv_addS, qv_addL, qv_sub, qv_mul, qv_div, qv_mod, qv_pow, qv_cmpD, qv_lt, qv_le, qv_gt, qv_eq, qv_ne, qv_bind1, qv_bind2, qv_seqL, qv_seqT, qv_tB, qv_tL, qv_tN, qv_nN, qv_nT, qv_nI, qv_items, qv_vVar, qv_vLit, qv_vTup, qv_vLst, qv_vBin, qv_vNeg, qv_vIdx, qv_vFrom, qv_vUpto, qv_vSorted, qv_vCall, qv_vComp, qv_vFlat, upd, small, lim, Option.bind_some, Option.map_some, Option.bind_none, Option.map_none, h6]) (by omega) (by omega)
  refine W.cons ?_
  simp only [qx_set, qx_own, qx_set2, qx_app, qx_last, qx_inc, qx_frz, qx_ret, qx_ite, qx_for, qx_while, qx_raise, qx_run, qx_get, qx_try, hit, Option.bind_some]
  refine W.range (fun k ρ => PI s p head kind k ρ) I0 (fun k ρ hk I => ?_) (fun ρ I => ?_)
  · simp only [qv_bind1, qv_bind2, Option.bind_some]
    exact law_plane_step hs hp (by omega) I
  · obtain ⟨h0, h1, h2, h3, bs, h9, hb, hB⟩ := I
    refine W.cons (W.frz h9 ?_)
    obtain ⟨L, hL, hl, hT⟩ := law_told_spec (bs := bs) (kind := kind) (head := head) (by omega)
    have ek := plane_keys (ρ := upd ρ 5 (.fro (.list (bs.map bwD))))
    refine W.cons (W.ret (d := .tuple [.list (L.map litD), .list (((List.range 36).map (fun k : Nat => [(k : Int).fdiv 6, (k : Int).fmod 6])).map keyD)]) ?_ ⟨kind, L, _, rfl, by omega, fun l m => ⟨(hT l m).data, (hT l m).name⟩, ?_, .inr ⟨rfl, fun l m => ?_⟩⟩)
    · have e8 : eval (rs Phi 10) (.call 8 (.cons (.var 5) (.cons (.var 3) (.cons (.var 2) .nil)))) (upd ρ 5 (.fro (.list (bs.map bwD)))) = some (.list (L.map litD)) := by
        simp [qz_nil, qz_cons, qx_set, qx_own, qx_set2, qx_app, qx_last, qx_inc, qx_frz, qx_ret, qx_ite, qx_for, qx_while, qx_raise, qx_run, qx_get, qx_try, qe_var, qe_lit, qe_tup, qe_lst, qe_bin, qe_neg, qe_cmp, qe_ife, qe_idx, qe_from, qe_upto, qe_len, qe_max2, qe_str, qe_tupOf, qe_lstOf, qe_sorted, qe_call, qe_comp, qe_flat, qs_nil, qs_cons, qb_tt, qb_cmp, qb_eq, qb_ne, qb_isN, qb_notN, qb_chain, qb_and, qb_or, qb_not, qb_valO, qb_valC, qi_seq, qi_range, qf_seq, qf_range, qv_intD, qv_strD, qv_lstD, qv_int2, qv_addI, qv_addS, qv_addL, qv_sub, qv_mul, qv_div, qv_mod, qv_pow, qv_cmpD, qv_lt, qv_le, qv_gt, qv_eq, qv_ne, qv_bind1, qv_bind2, qv_seqL, qv_seqT, qv_tB, qv_tL, qv_tN, qv_nN, qv_nT, qv_nI, qv_items, qv_vVar, qv_vLit, qv_vTup, qv_vLst, qv_vBin, qv_vNeg, qv_vIdx, qv_vFrom, qv_vUpto, qv_vSorted, qv_vCall, qv_vComp, qv_vFlat, upd, small, lim, Option.bind_some, Option.map_some, Option.bind_none, Option.map_none, h2, h3, rs, hL]
      rw [qe_tup, qs_cons, qs_cons, qs_nil, e8, ek]
      rfl
    · by_cases hk : kind = 0
      · exact .inl fun l m => (hT l m).z hk
      · exact .inr fun l m => (hT l m).nz hk
    · obtain ⟨w, hw⟩ := (hT l m).box
      exact hB _ hw
end Mine
-- P6
namespace Mine
open PySem PySem.W PyProof.Rows PySem.Calls
/-- lists of ints, one before the other -/
noncomputable def fl : List Int → List Int → Bool
  | [], [] => false
  | [], _ :: _ => true
  | _ :: _, [] => false
  | x :: xs, y :: ys => if x = y then fl xs ys else decide (x < y)
theorem p_fl0 : fl [] [] = false := rfl
theorem p_fl1 (y : Int) (ys : List Int) : fl [] (y :: ys) = true := rfl
theorem p_fl2 (x : Int) (xs : List Int) : fl (x :: xs) [] = false := rfl
theorem p_flc (x y : Int) (xs ys : List Int) : fl (x :: xs) (y :: ys) = (if x = y then fl xs ys else decide (x < y)) := rfl
theorem p_ltDI (a b : Int) : ltD (.int a) (.int b) = decide (a < b) := rfl
theorem p_ltDT (a b : List D) : ltD (.tuple a) (.tuple b) = ltL a b := rfl
theorem p_ltDL (a b : List D) : ltD (.list a) (.list b) = ltL a b := rfl
theorem p_ltL0 : ltL [] [] = false := rfl
theorem p_ltL1 (y : D) (ys : List D) : ltL [] (y :: ys) = true := rfl
theorem p_ltL2 (x : D) (xs : List D) : ltL (x :: xs) [] = false := rfl
theorem p_ltLc (x y : D) (xs ys : List D) : ltL (x :: xs) (y :: ys) = (if PyData.eqv x y = true then ltL xs ys else ltD x y) := rfl
theorem p_okI (a b : Int) : okLt (.int a) (.int b) = true := rfl
theorem p_okT (a b : List D) : okLt (.tuple a) (.tuple b) = okLtL a b := rfl
theorem p_okc (x y : D) (xs ys : List D) : okLtL (x :: xs) (y :: ys) = (okLt x y && okLtL xs ys) := rfl
theorem p_ok0 (ys : List D) : okLtL [] ys = true := by cases ys <;> rfl
theorem p_ok1 (x : D) (xs : List D) : okLtL (x :: xs) [] = true := rfl
theorem fl_irr : ∀ a, fl a a = false
  | [] => rfl
  | x :: xs => by simp [p_fl0, p_fl1, p_fl2, p_flc, fl_irr xs]
theorem fl_trans : ∀ a b c, fl a b = true → fl b c = true → fl a c = true
  | [], [], _, h, _ => by cases h
  | [], _ :: _, [], _, h => by cases h
  | [], _ :: _, _ :: _, _, _ => rfl
  | _ :: _, [], _, h, _ => by cases h
  | _ :: _, _ :: _, [], _, h => by cases h
  | x :: xs, y :: ys, z :: zs, h1, h2 => by
    simp only [p_flc] at h1 h2 ⊢
    by_cases e1 : x = y
    · subst e1
      by_cases e2 : x = z
      · subst e2
        simp at h1 h2 ⊢
        exact fl_trans xs ys zs h1 h2
      · simpa [e2] using h2
    · by_cases e2 : y = z
      · subst e2
        simpa [e1] using h1
      · simp [e1, e2] at h1 h2
        have : x ≠ z := by omega
        simp [this]
        omega
theorem fl_asymm (a b : List Int) (h : fl a b = true) : fl b a = false := by
  rcases h' : fl b a with _ | _
  · rfl
  · have := fl_trans a b a h h'
    rw [fl_irr] at this
    cases this
theorem fl_total : ∀ a b, fl a b = true ∨ a = b ∨ fl b a = true
  | [], [] => .inr (.inl rfl)
  | [], _ :: _ => .inl rfl
  | _ :: _, [] => .inr (.inr rfl)
  | x :: xs, y :: ys => by
    by_cases e : x = y
    · subst e
      simp only [p_fl0, p_fl1, p_fl2, p_flc, if_true, List.cons.injEq, true_and]
      exact fl_total xs ys
    · have e' : ¬ y = x := fun q => e q.symm
      simp only [p_fl0, p_fl1, p_fl2, p_flc, if_neg e, if_neg e', decide_eq_true_eq]
      omega
noncomputable def flat (b : List (Int × Int)) : List Int := b.flatMap fun p => [p.1, p.2]
theorem flat_inj : ∀ {a b : List (Int × Int)}, flat a = flat b → a = b
  | [], [], _ => rfl
  | [], _ :: _, h => by simp [flat] at h
  | _ :: _, [], h => by simp [flat] at h
  | p :: a, q :: b, h => by
    simp only [flat, List.flatMap_cons, List.cons_append, List.nil_append, List.cons.injEq] at h
    obtain ⟨h1, h2, h3⟩ := h
    rw [flat_inj (a := a) (b := b) h3, Prod.ext h1 h2]
noncomputable def klt (x y : Lit × Nat) : Bool := fl (flat x.1.box) (flat y.1.box) || (decide (x.1.box = y.1.box) && decide (x.2 < y.2))
theorem klt_irr (x : Lit × Nat) : klt x x = false := by simp [klt, fl_irr]
theorem klt_trans (x y z : Lit × Nat) (h1 : klt x y = true) (h2 : klt y z = true) : klt x z = true := by
  simp only [klt, Bool.or_eq_true, Bool.and_eq_true, decide_eq_true_eq] at h1 h2 ⊢
  rcases h1 with h1 | ⟨e1, h1⟩ <;> rcases h2 with h2 | ⟨e2, h2⟩
  · exact .inl (fl_trans _ _ _ h1 h2)
  · rw [← e2]; exact .inl h1
  · rw [e1]; exact .inl h2
  · exact .inr ⟨e1.trans e2, by omega⟩
theorem klt_asymm (x y : Lit × Nat) (h : klt x y = true) : klt y x = false := by
  rcases h' : klt y x with _ | _
  · rfl
  · have := klt_trans x y x h h'
    rw [klt_irr] at this
    cases this
theorem klt_total (x y : Lit × Nat) : klt x y = true ∨ (x.1.box = y.1.box ∧ x.2 = y.2) ∨ klt y x = true := by
  simp only [klt, Bool.or_eq_true, Bool.and_eq_true, decide_eq_true_eq]
  rcases fl_total (flat x.1.box) (flat y.1.box) with h | h | h
  · exact .inl (.inl h)
  · have e := flat_inj h
    rcases Nat.lt_trichotomy x.2 y.2 with q | q | q
    · exact .inl (.inr ⟨e, q⟩)
    · exact .inr (.inl ⟨e, q⟩)
    · exact .inr (.inr (.inr ⟨e.symm, q⟩))
  · exact .inr (.inr (.inl h))
noncomputable def sortZ (P : List (Lit × Nat)) : List (Lit × Nat) := P.mergeSort fun x y => !klt y x
theorem sortZ_perm (P : List (Lit × Nat)) : (sortZ P).Perm P := List.mergeSort_perm _ _
theorem sortZ_lt {P : List (Lit × Nat)} (nd : (P.map (·.2)).Nodup) : (sortZ P).Pairwise fun x y => klt x y = true := by
  have h1 : (sortZ P).Pairwise fun x y => (!klt y x) = true := List.pairwise_mergeSort (fun a b c h1 h2 => by
    simp only [Bool.not_eq_true'] at h1 h2 ⊢
    rcases h : klt c a with _ | _
    · rfl
    · exfalso
      rcases klt_total a b with q | q | q
      · rw [klt_trans c a b h q] at h2; cases h2
      · have : klt c b = true := by
          simp only [klt, Bool.or_eq_true, Bool.and_eq_true, decide_eq_true_eq] at h ⊢
          rw [← q.1, ← q.2]; exact h
        rw [this] at h2; cases h2
      · rw [q] at h1; cases h1) (fun a b => by
    rcases h : klt a b with _ | _
    · simp
    · rw [klt_asymm a b h]; rfl) P
  have h2 : ((sortZ P).map (·.2)).Nodup := ((sortZ_perm P).map _).nodup_iff.mpr nd
  have h3 : (sortZ P).Pairwise fun x y => x.2 ≠ y.2 := List.pairwise_map.mp h2
  refine (h1.and h3).imp fun {x y} h => ?_
  rcases klt_total x y with q | q | q
  · exact q
  · exact absurd q.2 h.2
  · have := h.1
    rw [q] at this
    cases this
noncomputable def encP (x : Lit × Nat) : D := .tuple [boxD x.1.box, .int (x.2 : Int)]
noncomputable def encQ (x : Lit × Nat) : D := .tuple [.list ((flat x.1.box).map .int), .int (x.2 : Int)]
theorem ltL_ints : ∀ a b : List Int, ltL (a.map .int) (b.map .int) = fl a b
  | [], [] => by simp [p_ltL0, p_ltL1, p_ltL2, p_ltLc, p_fl0, p_fl1, p_fl2, p_flc]
  | [], _ :: _ => by simp [p_ltL0, p_ltL1, p_ltL2, p_ltLc, p_fl0, p_fl1, p_fl2, p_flc]
  | _ :: _, [] => by simp [p_ltL0, p_ltL1, p_ltL2, p_ltLc, p_fl0, p_fl1, p_fl2, p_flc]
  | x :: xs, y :: ys => by
    simp only [List.map_cons, p_ltL0, p_ltL1, p_ltL2, p_ltLc, p_fl0, p_fl1, p_fl2, p_flc, PyData.eqv, ltL_ints xs ys, p_ltDI, p_ltDT, p_ltDL, beq_iff_eq]
theorem ltL_spans : ∀ a b : List (Int × Int), a.length = b.length → ltL (a.map spanD) (b.map spanD) = fl (flat a) (flat b)
  | [], [], _ => by simp [p_ltL0, p_ltL1, p_ltL2, p_ltLc, p_fl0, p_fl1, p_fl2, p_flc, flat]
  | [], _ :: _, h => by simp at h
  | _ :: _, [], h => by simp at h
  | p :: a, q :: b, h => by
    have ih := ltL_spans a b (by simpa using h)
    obtain ⟨x, y⟩ := p
    obtain ⟨u, v⟩ := q
    simp only [List.map_cons, p_ltL0, p_ltL1, p_ltL2, p_ltLc, span_eqv, ih, flat, List.flatMap_cons, List.cons_append, List.nil_append, p_fl0, p_fl1, p_fl2, p_flc, decide_eq_true_eq, Prod.mk.injEq]
    by_cases e1 : x = u <;> by_cases e2 : y = v <;> simp [e1, e2, spanD, p_ltDI, p_ltDT, p_ltDL, p_ltL0, p_ltL1, p_ltL2, p_ltLc, PyData.eqv]
theorem ltD_encP {x y : Lit × Nat} (h : x.1.box.length = y.1.box.length) : ltD (encP x) (encP y) = klt x y := by
  simp only [encP, p_ltDI, p_ltDT, p_ltDL, p_ltL0, p_ltL1, p_ltL2, p_ltLc, box_eqv, PyData.eqv, decide_eq_true_eq, beq_iff_eq, klt]
  by_cases e : x.1.box = y.1.box
  · rw [if_pos e, e, fl_irr]
    by_cases e2 : (x.2 : Int) = y.2
    · have : ¬ x.2 < y.2 := by omega
      simp [e2, this]
    · simp [e2]
  · rw [if_neg e]
    simp only [boxD, p_ltDI, p_ltDT, p_ltDL, ltL_spans _ _ h]
    simp [e]
theorem eqvAll_ints : ∀ a b : List Int, PyData.eqvAll (a.map .int) (b.map .int) = decide (a = b)
  | [], [] => by simp [PyData.eqvAll]
  | [], _ :: _ => by simp [PyData.eqvAll]
  | _ :: _, [] => by simp [PyData.eqvAll]
  | x :: xs, y :: ys => by
    simp only [List.map_cons, PyData.eqvAll, PyData.eqv, eqvAll_ints xs ys, List.cons.injEq, Bool.decide_and]
    rfl
theorem ltD_encQ {x y : Lit × Nat} : ltD (encQ x) (encQ y) = klt x y := by
  simp only [encQ, p_ltDI, p_ltDT, p_ltDL, p_ltL0, p_ltL1, p_ltL2, p_ltLc, eqvAll_ints, PyData.eqv, decide_eq_true_eq, beq_iff_eq, klt, ltL_ints]
  by_cases e : x.1.box = y.1.box
  · rw [if_pos (by rw [e]), e, fl_irr]
    by_cases e2 : (x.2 : Int) = y.2
    · have : ¬ x.2 < y.2 := by omega
      simp [e2, this]
    · simp [e2]
  · rw [if_neg fun q => e (flat_inj q)]
    simp [e]
theorem okLt_spans : ∀ a b : List (Int × Int), okLtL (a.map spanD) (b.map spanD) = true
  | [], b => by cases b <;> simp [p_okc, p_ok0, p_ok1]
  | _ :: _, [] => by simp [p_okc, p_ok0, p_ok1]
  | p :: a, q :: b => by
    simp only [List.map_cons, p_okc, p_ok0, p_ok1, okLt_spans a b, spanD, p_okI, p_okT, Bool.and_self]
theorem encP_lay (x : Lit × Nat) : layOk (encP x) = true := by
  have := box_lay x.1.box
  simp only [layOk, encP, PyData.canLay0, PyData.canLayAll0, PyData.depth, PyData.depthAll, this.1, Bool.and_self, Bool.true_and, decide_eq_true_eq]
  omega
theorem encQ_lay (x : Lit × Nat) : layOk (encQ x) = true := by
  have h1 := canLays PyData.int (flat x.1.box) fun _ _ => by simp [PyData.canLay0]
  have h2 := depths PyData.int 0 (flat x.1.box) fun _ _ => by simp [PyData.depth]
  simp only [layOk, encQ, PyData.canLay0, PyData.canLayAll0, PyData.depth, PyData.depthAll, h1, Bool.and_self, Bool.true_and, decide_eq_true_eq]
  omega
theorem flat_len (b : List (Int × Int)) : (flat b).length = 2 * b.length := by
  induction b with
  | nil => rfl
  | cons p b ih => simp only [flat, List.flatMap_cons, List.length_append, List.length_cons, List.length_nil] at ih ⊢; omega
theorem sorts_encP {P : List (Lit × Nat)} {m : Nat} (hl : P.length ≤ 6) (hm : ∀ x ∈ P, x.1.box.length = m) (nd : (P.map (·.2)).Nodup) : Sorts (P.map encP) ((sortZ P).map encP) where
  len := by simpa using hl
  lay := fun d hd => by
    obtain ⟨x, _, rfl⟩ := List.mem_map.mp hd
    exact encP_lay x
  shp := ⟨m, false, fun d hd => by
    obtain ⟨x, _, rfl⟩ := List.mem_map.mp hd
    exact .tup _ _, fun _ a ha b hb => by
    obtain ⟨x, _, rfl⟩ := List.mem_map.mp ha
    obtain ⟨y, _, rfl⟩ := List.mem_map.mp hb
    simp only [encP, p_okI, p_okT, p_okc, p_ok0, p_ok1, boxD, okLt_spans, Bool.and_self]⟩
  pm := (sortZ_perm P).map _
  srt := by
    refine List.pairwise_map.mpr ?_
    refine (List.Pairwise.and_mem.mp (sortZ_lt nd)).imp fun {x y} h => ?_
    have hx := hm x ((sortZ_perm P).mem_iff.mp h.1)
    have hy := hm y ((sortZ_perm P).mem_iff.mp h.2.1)
    rw [ltD_encP (by omega), ltD_encP (by omega)]
    exact ⟨h.2.2, klt_asymm _ _ h.2.2⟩
  irr := fun d hd => by
    obtain ⟨x, _, rfl⟩ := List.mem_map.mp hd
    rw [ltD_encP rfl]
    exact klt_irr x
theorem sorts_encQ {P : List (Lit × Nat)} {m : Nat} (hl : P.length ≤ 6) (hm : ∀ x ∈ P, x.1.box.length = m) (nd : (P.map (·.2)).Nodup) : Sorts (P.map encQ) ((sortZ P).map encQ) where
  len := by simpa using hl
  lay := fun d hd => by
    obtain ⟨x, _, rfl⟩ := List.mem_map.mp hd
    exact encQ_lay x
  shp := ⟨2 * m, true, fun d hd => by
    obtain ⟨x, hx, rfl⟩ := List.mem_map.mp hd
    refine .lst _ _ (by rw [List.length_map, flat_len, hm x hx]) fun y hy => ?_
    obtain ⟨i, _, rfl⟩ := List.mem_map.mp hy
    exact ⟨i, rfl⟩, fun h => by cases h⟩
  pm := (sortZ_perm P).map _
  srt := by
    refine List.pairwise_map.mpr ?_
    refine (sortZ_lt nd).imp fun {x y} h => ?_
    rw [ltD_encQ, ltD_encQ]
    exact ⟨h, klt_asymm _ _ h⟩
  irr := fun d hd => by
    obtain ⟨x, _, rfl⟩ := List.mem_map.mp hd
    rw [ltD_encQ]
    exact klt_irr x
theorem zip_nodup (L : List Lit) : (L.zipIdx.map (·.2)).Nodup := by
  rw [List.zipIdx_map_snd]
  exact List.nodup_range'
end Mine
-- P7
namespace Mine
open PySem PySem.W PyProof.Rows PySem.Calls
noncomputable def sameB (b : List (Int × Int)) (x : Lit) : Bool := decide (x.box = b)
/-- the first of its box -/
noncomputable def First (L : List Lit) (l : Lit) : Prop := L.find? (sameB l.box) = some l
noncomputable def Conf (L : List Lit) : Prop := ∃ l ∈ L, ∃ f, First L f ∧ f.box = l.box ∧ f.data ≠ l.data
theorem First.uniq {L : List Lit} {a b : Lit} (h : First L a) (h' : First L b) (e : a.box = b.box) : a = b := by
  unfold First at h h'
  rw [e] at h
  exact Option.some.inj (h.symm.trans h')
theorem First.mem {L : List Lit} {a : Lit} (h : First L a) : a ∈ L := List.mem_of_find?_eq_some h
theorem First.ex {L : List Lit} {a : Lit} (h : a ∈ L) : ∃ f, First L f ∧ f.box = a.box := by
  rcases q : L.find? (sameB a.box) with _ | f
  · have := List.find?_eq_none.mp q a h
    simp [sameB] at this
  · have e : f.box = a.box := by have := List.find?_some q; simpa [sameB] using this
    exact ⟨f, by unfold First; rw [e]; exact q, e⟩
theorem First.of {L : List Lit} {l : Lit} {i : Nat} (h : L[i]? = some l) (hb : ∀ j a, j < i → L[j]? = some a → a.box ≠ l.box) : First L l := by
  obtain ⟨hi, he⟩ := List.getElem?_eq_some_iff.mp h
  refine List.find?_eq_some_iff_append.mpr ⟨by simp [sameB], L.take i, L.drop (i + 1), ?_, fun a m => ?_⟩
  · rw [← he, ← List.drop_eq_getElem_cons hi, List.take_append_drop]
  · obtain ⟨j, hj, e⟩ := List.mem_iff_getElem.mp m
    rw [List.length_take] at hj
    rw [List.getElem_take] at e
    have := hb j a (by omega) (by rw [← e]; exact List.getElem?_eq_getElem _)
    simp [sameB, this]
noncomputable abbrev flB (a b : Lit) : Prop := fl (flat a.box) (flat b.box) = true
structure Good (m : Nat) (L : List Lit) : Prop where
  len : L.length ≤ 6
  dim : ∀ l ∈ L, Dim l.box m
  data : ∀ l ∈ L, l.data ∈ dataA
theorem data_layOk {d : D} (h : d ∈ dataA) : layOk d = true := (dataA_lay d h).1
structure WR (L : List Lit) (done : List (Lit × Nat)) (F : List Lit) : Prop where
  mem : ∀ l, l ∈ F ↔ First L l ∧ ∃ p ∈ done, p.1.box = l.box
  srt : F.Pairwise flB
  up : ∀ p ∈ done, ∃ f, F.getLast? = some f ∧ (flB p.1 f ∨ p.1.box = f.box)
  last : ∀ f, F.getLast? = some f → ∃ p ∈ done, p.1.box = f.box
  ok : ∀ p ∈ done, ∀ f, First L f → f.box = p.1.box → f.data = p.1.data
  len : F.length ≤ done.length
theorem klt_box {p q : Lit × Nat} (h : klt p q = true) : flB p.1 q.1 ∨ p.1.box = q.1.box := by
  simp only [klt, Bool.or_eq_true, Bool.and_eq_true, decide_eq_true_eq] at h
  rcases h with h | h
  · exact .inl h
  · exact .inr h.1
theorem flB_ne {a b : Lit} (h : flB a b) : a.box ≠ b.box := fun e => by
  unfold flB at h
  rw [e, fl_irr] at h
  cases h
theorem WR.step {L : List Lit} {done rest : List (Lit × Nat)} {x : Lit} {i : Nat} {F : List Lit} (e : sortZ L.zipIdx = done ++ (x, i) :: rest) (I : WR L done F) :
    L[i]? = some x ∧ x ∈ L ∧ (∀ f, F.getLast? = some f → First L f) ∧
    ((F.getLast? = none ∨ ∃ f, F.getLast? = some f ∧ f.box ≠ x.box) → WR L (done ++ [(x, i)]) (F ++ [x])) ∧
    (∀ f, F.getLast? = some f → f.box = x.box → f.data = x.data → WR L (done ++ [(x, i)]) F) := by
  have hS := sortZ_lt (zip_nodup L)
  have hmem : ∀ p, p ∈ done ++ (x, i) :: rest ↔ p ∈ L.zipIdx := fun p => by rw [← e]; exact (sortZ_perm _).mem_iff
  rw [e] at hS
  have hx : L[i]? = some x := by
    have := (hmem (x, i)).mp (by simp)
    exact List.mem_zipIdx_iff_getElem?.mp this
  have hp := List.pairwise_append.mp hS
  have hlt : ∀ p ∈ done, klt p (x, i) = true := fun p m => hp.2.2 p m _ (.head _)
  have hgt : ∀ p ∈ rest, klt (x, i) p = true := fun p m => List.rel_of_pairwise_cons hp.2.1 m
  have hF : ∀ f, F.getLast? = some f → First L f := fun f hf => ((I.mem f).mp (List.mem_of_getLast? hf)).1
  refine ⟨hx, List.mem_of_getElem? hx, hF, fun hn => ?_, fun f hf hb hd => ?_⟩
  · have nb : ∀ p ∈ done, p.1.box ≠ x.box := fun p m q => by
      obtain ⟨f, hf, h1⟩ := I.up p m
      rcases hn with hn | ⟨f', hf', hne⟩
      · rw [hn] at hf; cases hf
      · rw [hf] at hf'
        cases hf'
        obtain ⟨p', m', e'⟩ := I.last f hf
        have h2 := klt_box (hlt p' m')
        rw [e'] at h2
        rcases h2 with h2 | h2
        · have h3 : flB f x := by unfold flB at h2 ⊢; rw [← e']; exact h2
          rcases h1 with h1 | h1
          · have := fl_trans _ _ _ h1 h3
            exact flB_ne this q
          · exact flB_ne h3 (h1.symm.trans q)
        · exact hne h2
    have fx : First L x := First.of hx fun j a hj ha q => by
      have ha' : (a, j) ∈ done ++ (x, i) :: rest := (hmem _).mpr (List.mem_zipIdx_iff_getElem?.mpr ha)
      have hk : klt (a, j) (x, i) = true := by simp [klt, q, hj]
      rcases List.mem_append.mp ha' with m | m
      · exact nb _ m q
      · rcases List.mem_cons.mp m with m | m
        · cases m; omega
        · have := klt_asymm _ _ (hgt _ m)
          rw [this] at hk
          cases hk
    have up : ∀ f ∈ F, flB f x := fun f m => by
      obtain ⟨h1, p, hp, e'⟩ := (I.mem f).mp m
      rcases klt_box (hlt p hp) with h | h
      · unfold flB at h ⊢; rw [← e']; exact h
      · exact absurd h (nb p hp)
    refine ⟨fun l => ?_, ?_, ?_, ?_, ?_, by simp; exact I.len⟩
    · constructor
      · intro m
        rcases List.mem_append.mp m with m | m
        · obtain ⟨h1, p, hp, e'⟩ := (I.mem l).mp m
          exact ⟨h1, p, List.mem_append_left _ hp, e'⟩
        · rw [List.mem_singleton] at m
          subst m
          exact ⟨fx, (l, i), by simp, rfl⟩
      · rintro ⟨h1, p, hp, e'⟩
        rcases List.mem_append.mp hp with hp | hp
        · exact List.mem_append_left _ ((I.mem l).mpr ⟨h1, p, hp, e'⟩)
        · rw [List.mem_singleton] at hp
          subst hp
          rw [h1.uniq fx e'.symm]
          simp
    · exact List.pairwise_append.mpr ⟨I.srt, List.pairwise_singleton _ _, fun f m y hy => by rw [List.mem_singleton] at hy; subst hy; exact up f m⟩
    · intro p m
      refine ⟨x, by simp, ?_⟩
      rcases List.mem_append.mp m with m | m
      · exact klt_box (hlt p m)
      · rw [List.mem_singleton] at m; subst m; exact .inr rfl
    · intro f hf
      simp at hf
      subst hf
      exact ⟨(x, i), by simp, rfl⟩
    · intro p m f hf hb
      rcases List.mem_append.mp m with m | m
      · exact I.ok p m f hf hb
      · rw [List.mem_singleton] at m
        subst m
        rw [hf.uniq fx hb]
  · have ff := hF f hf
    refine ⟨fun l => ?_, I.srt, ?_, ?_, ?_, by simp; have := I.len; omega⟩
    · constructor
      · intro m
        obtain ⟨h1, p, hp, e'⟩ := (I.mem l).mp m
        exact ⟨h1, p, List.mem_append_left _ hp, e'⟩
      · rintro ⟨h1, p, hp, e'⟩
        rcases List.mem_append.mp hp with hp | hp
        · exact (I.mem l).mpr ⟨h1, p, hp, e'⟩
        · rw [List.mem_singleton] at hp
          subst hp
          rw [h1.uniq ff (e'.symm.trans hb.symm)]
          exact List.mem_of_getLast? hf
    · intro p m
      rcases List.mem_append.mp m with m | m
      · exact I.up p m
      · rw [List.mem_singleton] at m; subst m; exact ⟨f, hf, .inr hb.symm⟩
    · intro g hg
      obtain ⟨p, hp, e'⟩ := I.last g hg
      exact ⟨p, List.mem_append_left _ hp, e'⟩
    · intro p m g hg hgb
      rcases List.mem_append.mp m with m | m
      · exact I.ok p m g hg hgb
      · rw [List.mem_singleton] at m
        subst m
        rw [hg.uniq ff (hgb.trans hb.symm)]
        exact hd
/-- what without_repeats leaves -/
structure Tidied (L F : List Lit) : Prop where
  mem : ∀ l, l ∈ F ↔ First L l
  srt : F.Pairwise flB
  ok : ¬ Conf L
  len : F.length ≤ L.length
theorem without_repeats_spec {m : Nat} {L : List Lit} (G : Good m L) : (∃ F, Phi 1 [.list (L.map litD)] = some (.ok (.list (F.map litD))) ∧ Tidied L F) ∨ (Phi 1 [.list (L.map litD)] = some (.error ()) ∧ Conf L) := by
  suffices h : (∃ d, Phi 1 [.list (L.map litD)] = some (.ok d) ∧ ∃ F, d = .list (F.map litD) ∧ Tidied L F) ∨ (Phi 1 [.list (L.map litD)] = some (.error ()) ∧ Conf L) by
    rcases h with ⟨_, h, F, rfl, h2⟩ | h
    · exact .inl ⟨F, h, h2⟩
    · exact .inr h
  refine Phi_W (by rfl) ?_
  show W (execs whyC (rs Phi 1) ss_without_repeats _) _ _ _
  have hl := G.len
  generalize hρ : args0 [.list (L.map litD)] = ρ
  have h0 : ρ 0 = some (.fro (.list (L.map litD))) := by rw [← hρ]; rfl
  refine W.cons (W.own (ds := []) evs_nil (by simp) (W.cons ?_))
  have hit : evItF (rs Phi 1) (.range (.len (.var 0))) (upd ρ 1 (.own [])) = some (intsFrom 0 L.length) :=
    evItF_range (i := (L.length : Int)) (by have := ev_len (Φ := rs Phi 1) (ρ := upd ρ 1 (.own [])) (ev_var _ 0 _ _ (by simp only [upd]; exact h0)) rfl (by simp; omega); simpa using this) (by omega) (by omega)
  simp only [qx_set, qx_own, qx_set2, qx_app, qx_last, qx_inc, qx_frz, qx_ret, qx_ite, qx_for, qx_while, qx_raise, qx_run, qx_get, qx_try, hit, Option.bind_some]
  refine W.range (fun k ρ => ρ 0 = some (.fro (.list (L.map litD))) ∧ ρ 1 = some (.own ((L.zipIdx.take k).map encP))) ⟨by simp [upd, h0], by simp [upd]⟩ ?_ ?_
  · rintro k ρ hk ⟨h0, h1⟩
    simp only [qv_bind1, qv_bind2, Option.bind_some]
    have hx : L[k]? = some L[k] := List.getElem?_eq_getElem hk
    have hz : L.zipIdx[k]? = some (L[k], k) := by simp [List.getElem?_zipIdx, hx]
    have e1 : eval (rs Phi 1) (.var 2) (upd ρ 2 (.fro (.int (k : Int)))) = some (.int (k : Int)) := ev_var _ _ _ _ (by simp [upd])
    have e2 : eval (rs Phi 1) (.idx (.var 0) (.var 2)) (upd ρ 2 (.fro (.int (k : Int)))) = some (litD L[k]) := ev_idx (ev_var _ 0 _ _ (by simp only [upd]; exact h0)) rfl e1 (idxD_map (by omega) (by simpa using hx) (by omega))
    refine W.cons (W.app (ds := (L.zipIdx.take k).map encP) (d := encP (L[k], k)) (by simp [upd, h1]) (by simp; omega) (ev_tup (evs_cons (ev_box e2) (evs_cons e1 evs_nil)) (by simp)) (W.nil ⟨by simp [upd, h0], ?_⟩))
    have : L.zipIdx.take (k + 1) = L.zipIdx.take k ++ [(L[k], k)] := by rw [List.take_add_one, hz]; rfl
    simp [upd, this]
  · rintro ρ ⟨h0, h1⟩
    rw [show L.zipIdx.take L.length = L.zipIdx from List.take_of_length_le (by simp)] at h1
    refine W.cons (W.own (ds := []) evs_nil (by simp) (W.cons ?_))
    have hS := sorts_encP (P := L.zipIdx) (m := m) (by simpa using hl) (fun x hx => (G.dim x.1 (List.fst_mem_of_mem_zipIdx hx)).1) (zip_nodup L)
    have hit : evItF (rs Phi 1) (.seq (.sorted (.var 1))) (upd ρ 3 (.own [])) = some ((sortZ L.zipIdx).map encP) := by
      have : seqV (.var 1) (upd ρ 3 (.own [])) (eval (rs Phi 1) (.var 1) (upd ρ 3 (.own []))) = some (true, L.zipIdx.map encP) := by simp only [qv_vVar, upd, h1]; rfl
      rw [qf_seq, qe_sorted, this, Option.bind_some, if_pos rfl, sortX_of hS]
      rfl
    simp only [qx_set, qx_own, qx_set2, qx_app, qx_last, qx_inc, qx_frz, qx_ret, qx_ite, qx_for, qx_while, qx_raise, qx_run, qx_get, qx_try, hit, Option.bind_some]
    refine W.seq (enc := encP) (fun done ρ => ρ 0 = some (.fro (.list (L.map litD))) ∧ ∃ F, ρ 3 = some (.own (F.map litD)) ∧ WR L done F) ⟨by simp [upd, h0], [], by simp [upd], by simp, .nil, by simp, by simp, by simp, by simp⟩ ?_ ?_
    · rintro done ⟨x, i⟩ rest ρ e ⟨h0, F, h3, I⟩
      obtain ⟨hx, hxL, hF, s1, s2⟩ := I.step e
      have hdl : done.length ≤ 6 := by
        have h1 : (sortZ L.zipIdx).length = L.length := by rw [(sortZ_perm _).length_eq]; simp
        have h2 := congrArg List.length e
        simp at h2
        omega
      have hfl := I.len
      have hb : bindT [4, 2] (encP (x, i)) ρ = some (upd (upd ρ 4 (.fro (boxD x.box))) 2 (.fro (.int (i : Int)))) := rfl
      rw [hb]
      simp only [Option.bind_some]
      have h0' : upd (upd ρ 4 (.fro (boxD x.box))) 2 (.fro (.int (i : Int))) 0 = some (.fro (.list (L.map litD))) := by simp [upd, h0]
      have h3' : upd (upd ρ 4 (.fro (boxD x.box))) 2 (.fro (.int (i : Int))) 3 = some (.own (F.map litD)) := by simp [upd, h3]
      have h4' : upd (upd ρ 4 (.fro (boxD x.box))) 2 (.fro (.int (i : Int))) 4 = some (.fro (boxD x.box)) := by simp [upd]
      have h2' : upd (upd ρ 4 (.fro (boxD x.box))) 2 (.fro (.int (i : Int))) 2 = some (.fro (.int (i : Int))) := by simp [upd]
      generalize upd (upd ρ 4 (.fro (boxD x.box))) 2 (.fro (.int (i : Int))) = σ at h0' h3' h4' h2'
      have ex : eval (rs Phi 1) (.idx (.var 0) (.var 2)) σ = some (litD x) := ev_idx (ev_var _ 0 _ _ h0') rfl (ev_var _ _ _ _ h2') (idxD_map (by omega) (by simpa using hx) (by omega))
      have app : WR L (done ++ [(x, i)]) (F ++ [x]) → W (execs whyC (rs Phi 1) (.cons (.app 3 (.idx (.var 0) (.var 2))) .nil) σ) (fun ρ' => W (execs whyC (rs Phi 1) .nil ρ') (fun ρ' => ρ' 0 = some (.fro (.list (L.map litD))) ∧ ∃ F, ρ' 3 = some (.own (F.map litD)) ∧ WR L (done ++ [(x, i)]) F) (fun d => ∃ F, d = .list (F.map litD) ∧ Tidied L F) (Conf L)) (fun d => ∃ F, d = .list (F.map litD) ∧ Tidied L F) (Conf L) := fun w =>
        W.cons (W.app h3' (by simp; omega) ex (W.nil (W.nil ⟨by simp [upd, h0'], F ++ [x], by simp [upd], w⟩)))
      rcases hlast : F.getLast? with _ | f
      · have hF0 : F = [] := List.getLast?_eq_none_iff.mp hlast
        refine W.cons (W.ite (t := true) ?_ (fun _ => app (s1 (.inl hlast))) (fun h => by cases h))
        have := evb_or (u := true) (evb_not (evb_own (Φ := rs Phi 1) h3' (by simp; omega))) (c' := .ne (.idx (.idx (.var 3) (.neg (.lit (.int 1)))) (.lit (.int 0))) (.var 4)) (fun h => by simp [hF0] at h)
        simpa [hF0] using this
      · have el : eval (rs Phi 1) (.idx (.var 3) (.neg (.lit (.int 1)))) σ = some (litD f) := ev_idxO h3' ev_neg1 (idxD_last hlast (by omega))
        have hff := hF f hlast
        have hne : F ≠ [] := by rintro rfl; cases hlast
        have e1 : evB (rs Phi 1) (.or (.not (.val (.var 3))) (.ne (.idx (.idx (.var 3) (.neg (.lit (.int 1)))) (.lit (.int 0))) (.var 4))) σ = some (!decide (f.box = x.box)) := by
          have := evb_or (evb_not (evb_own (Φ := rs Phi 1) h3' (by simp; omega))) (fun _ => evb_ne (ev_box el) (ev_var _ _ _ _ h4') (box_layOk _) (box_layOk _))
          rw [this, box_eqv]
          simp [hne]
        refine W.cons (W.ite e1 (fun h => app (s1 (.inr ⟨f, hlast, by simpa using h⟩))) (fun h => ?_))
        have hbx : f.box = x.box := by simpa using h
        refine W.cons (W.ite (evb_ne (ev_data el) (ev_data ex) (data_layOk (G.data _ hff.mem)) (data_layOk (G.data _ hxL))) (fun h => ?_) (fun h => ?_))
        · refine W.cons (W.raise ⟨x, hxL, f, hff, hbx, fun q => ?_⟩)
          rw [q, eqv_refl _ (dataA_lay _ (G.data _ hxL)).2.1] at h
          cases h
        · have hd : f.data = x.data := (dataA_eqv_iff (G.data _ hff.mem) (G.data _ hxL)).mp (by simpa using h)
          exact W.nil (W.nil (W.nil ⟨h0', F, h3', s2 f hlast hbx hd⟩))
    · rintro ρ ⟨h0, F, h3, I⟩
      have hz : ∀ p, p ∈ sortZ L.zipIdx ↔ p ∈ L.zipIdx := fun p => (sortZ_perm _).mem_iff
      have hz2 : ∀ l ∈ L, ∃ i, (l, i) ∈ sortZ L.zipIdx := fun l m => by
        obtain ⟨i, hi, e⟩ := List.mem_iff_getElem.mp m
        exact ⟨i, (hz _).mpr (List.mem_zipIdx_iff_getElem?.mpr (by rw [← e]; exact List.getElem?_eq_getElem hi))⟩
      refine W.cons (W.frz h3 (W.cons (W.ret (d := .list (F.map litD)) (ev_var _ _ _ _ (by simp [upd])) ⟨F, rfl, ?_⟩)))
      refine ⟨fun l => ⟨fun h => ((I.mem l).mp h).1, fun h => (I.mem l).mpr ⟨h, ?_⟩⟩, I.srt, ?_, ?_⟩
      · obtain ⟨i, hi⟩ := hz2 l h.mem
        exact ⟨_, hi, rfl⟩
      · rintro ⟨l, hl, f, hf, hb, hd⟩
        obtain ⟨i, hi⟩ := hz2 l hl
        exact hd (I.ok _ hi f hf hb)
      · have h1 : (sortZ L.zipIdx).length = L.length := by rw [(sortZ_perm _).length_eq]; simp
        rw [← h1]; exact I.len
end Mine
-- BM
namespace Mine
open PySem PySem.W PyProof.Rows PySem.Calls
theorem evb_or' {Φ : Nat → List D → Option (Except Unit D)} {ρ : Vars} {c c' : B} {t u : Bool} (h : evB Φ c ρ = some t) (h' : evB Φ c' ρ = some u) : evB Φ (.or c c') ρ = some (t || u) := by
  show ((evB Φ c ρ).bind fun t => if t then some true else evB Φ c' ρ) = _
  rw [h, h']
  cases t <;> rfl
theorem evb_chainI {Φ : Nat → List D → Option (Except Unit D)} {ρ : Vars} {a b c : X} {o o' : CmpOp} {f g : Int → Int → Bool} {x y z : Int} (h1 : eval Φ a ρ = some (.int x)) (h2 : eval Φ b ρ = some (.int y)) (h3 : eval Φ c ρ = some (.int z)) (hf : cmpI o = some f) (hg : cmpI o' = some g) : evB Φ (.chain o o' a b c) ρ = some (f x y && g y z) := by
  show (((eval Φ a ρ).bind intD).bind fun x => ((eval Φ b ρ).bind intD).bind fun y => ((eval Φ c ρ).bind intD).bind fun z => (cmpI o).bind fun f => (cmpI o').map fun g => f x y && g y z) = _
  rw [h1, h2, h3]
  show ((cmpI o).bind fun f => (cmpI o').map fun g => f x y && g y z) = _
  rw [hf, hg]; rfl
theorem ev_at {α : Type} {enc : α → D} {Φ : Nat → List D → Option (Except Unit D)} {ρ : Vars} {i j k : Nat} {l : List α} {p : α} (h : ρ i = some (.fro (.tuple (l.map enc)))) (hj : ρ j = some (.fro (.int (k : Int)))) (hl : l.length ≤ 1000) (hp : l[k]? = some p) : eval Φ (.idx (.var i) (.var j)) ρ = some (enc p) :=
  ev_idx (ev_var _ _ _ _ h) rfl (ev_var _ _ _ _ hj) (idxD_map (Int.natCast_nonneg k) (by rw [Int.toNat_natCast]; exact hp) (Nat.le_trans hl (by decide)))
theorem drop_at {α : Type} {l : List α} {k : Nat} (h : k < l.length) : ∃ p, l[k]? = some p ∧ l.drop k = p :: l.drop (k + 1) := ⟨l[k], List.getElem?_eq_getElem h, List.drop_eq_getElem_cons h⟩
theorem p_mc (p q : Int × Int) (a b : List (Int × Int)) : meets (p :: a) (q :: b) = (!(decide (q.2 < p.1) || decide (p.2 < q.1)) && meets a b) := rfl
theorem p_m0 (b : List (Int × Int)) : meets [] b = true := by cases b <;> rfl
theorem p_hc (p : Int × Int) (k : Int) (a : List (Int × Int)) (b : List Int) : hasK (p :: a) (k :: b) = ((decide (p.1 ≤ k) && decide (k ≤ p.2)) && hasK a b) := rfl
theorem p_h0 (b : List Int) : hasK [] b = true := by cases b <;> rfl
theorem meets_all : ∀ a : List (Int × Int), meets a [] = true
  | [] => rfl
  | _ :: _ => rfl
theorem Dim.len {b : List (Int × Int)} {m : Nat} (h : Dim b m) : b.length = m ∧ m ≤ 1000 := ⟨h.1, h.2.1.elim (fun e => by rw [e]; decide) fun e => by rw [e]; decide⟩
theorem boxes_meet_spec {a b : List (Int × Int)} {m : Nat} (ha : Dim a m) (hb : Dim b m) : Phi 0 [boxD a, boxD b] = some (.ok (.bool (meets a b))) := by
  obtain ⟨la, lm⟩ := ha.len
  have lb := hb.len.1
  clear ha hb
  have hit : evItF (rs Phi 0) (.range (.len (.var 0))) (args0 [boxD a, boxD b]) = some (intsFrom 0 m) := by
    have := evItF_range (Φ := rs Phi 0) (ev_len (ρ := args0 [boxD a, boxD b]) (ev_var _ 0 (boxD a) _ rfl) rfl (by rw [List.length_map, la]; exact lm)) (Int.natCast_nonneg _) (by rw [List.length_map, la]; exact Int.ofNat_le.mpr lm)
    rwa [List.length_map, la, Int.toNat_natCast] at this
  have key : ∃ d, Phi 0 [boxD a, boxD b] = some (.ok d) ∧ d = .bool (meets a b) := by
    refine Phi_ok (P := fun d => d = .bool (meets a b)) rfl (W.cons ?_)
    show W ((evItF (rs Phi 0) (.range (.len (.var 0))) (args0 [boxD a, boxD b])).bind _) _ _ _
    rw [hit]
    refine W.range (I := fun k ρ => ρ 0 = some (.fro (boxD a)) ∧ ρ 1 = some (.fro (boxD b)) ∧ meets a b = meets (a.drop k) (b.drop k)) ⟨rfl, rfl, rfl⟩ (fun k ρ hk i => ?_) fun ρ i => W.cons (W.ret (ev_lit _ _ _) ?_)
    · obtain ⟨i0, i1, i2⟩ := i
      obtain ⟨p, hp, dp⟩ := drop_at (l := a) (k := k) (by omega)
      obtain ⟨q, hq, dq⟩ := drop_at (l := b) (k := k) (by omega)
      rw [dp, dq] at i2
      have i2 : meets a b = (!(decide (q.2 < p.1) || decide (p.2 < q.1)) && meets (a.drop (k + 1)) (b.drop (k + 1))) := i2
      have ea : eval (rs Phi 0) (.idx (.var 0) (.var 2)) (upd ρ 2 (.fro (.int (k : Int)))) = some (spanD p) := ev_at (i := 0) i0 rfl (by omega) hp
      have eb : eval (rs Phi 0) (.idx (.var 1) (.var 2)) (upd ρ 2 (.fro (.int (k : Int)))) = some (spanD q) := ev_at (i := 1) i1 rfl (by omega) hq
      refine W.cons (W.ite (evb_or' (evb_cmp (ev_sp0 ea) (ev_sp1 eb) rfl) (evb_cmp (ev_sp0 eb) (ev_sp1 ea) rfl)) (fun e => W.cons (W.ret (ev_lit _ _ _) ?_)) fun e => W.nil (W.nil ⟨i0, i1, ?_⟩))
      · rw [i2, e]; rfl
      · rw [i2, e]; rfl
    · rw [i.2.2, List.drop_eq_nil_of_le (by omega : b.length ≤ m), meets_all]
  obtain ⟨d, h, rfl⟩ := key
  exact h
theorem notT {b : Bool} (e : (!b) = true) : b = false := by cases b with | false => rfl | true => exact nomatch e
theorem notF {b : Bool} (e : (!b) = false) : b = true := by cases b with | true => rfl | false => exact nomatch e
theorem hasK_all : ∀ a : List (Int × Int), hasK a [] = true
  | [] => rfl
  | _ :: _ => rfl
theorem law_has_spec {a : List (Int × Int)} {k : List Int} {m : Nat} (ha : Dim a m) (hk : k.length = m) : Phi 11 [boxD a, keyD k] = some (.ok (.bool (hasK a k))) := by
  obtain ⟨la, lm⟩ := ha.len
  clear ha
  have hit : evItF (rs Phi 11) (.range (.len (.var 0))) (args0 [boxD a, keyD k]) = some (intsFrom 0 m) := by
    have := evItF_range (Φ := rs Phi 11) (ev_len (ρ := args0 [boxD a, keyD k]) (ev_var _ 0 (boxD a) _ rfl) rfl (by rw [List.length_map, la]; exact lm)) (Int.natCast_nonneg _) (by rw [List.length_map, la]; exact Int.ofNat_le.mpr lm)
    rwa [List.length_map, la, Int.toNat_natCast] at this
  have key : ∃ d, Phi 11 [boxD a, keyD k] = some (.ok d) ∧ d = .bool (hasK a k) := by
    refine Phi_ok (P := fun d => d = .bool (hasK a k)) rfl (W.cons ?_)
    show W ((evItF (rs Phi 11) (.range (.len (.var 0))) (args0 [boxD a, keyD k])).bind _) _ _ _
    rw [hit]
    refine W.range (I := fun j ρ => ρ 0 = some (.fro (boxD a)) ∧ ρ 1 = some (.fro (keyD k)) ∧ hasK a k = hasK (a.drop j) (k.drop j)) ⟨rfl, rfl, rfl⟩ (fun j ρ hj i => ?_) fun ρ i => W.cons (W.ret (ev_lit _ _ _) ?_)
    · obtain ⟨i0, i1, i2⟩ := i
      obtain ⟨p, hp, dp⟩ := drop_at (l := a) (k := j) (by omega)
      obtain ⟨q, hq, dq⟩ := drop_at (l := k) (k := j) (by omega)
      rw [dp, dq] at i2
      have i2 : hasK a k = ((decide (p.1 ≤ q) && decide (q ≤ p.2)) && hasK (a.drop (j + 1)) (k.drop (j + 1))) := i2
      have ea : eval (rs Phi 11) (.idx (.var 0) (.var 2)) (upd ρ 2 (.fro (.int (j : Int)))) = some (spanD p) := ev_at (i := 0) i0 rfl (by omega) hp
      have eb : eval (rs Phi 11) (.idx (.var 1) (.var 2)) (upd ρ 2 (.fro (.int (j : Int)))) = some (.int q) := ev_at (i := 1) (enc := fun i => PyData.int i) i1 rfl (by omega) hq
      refine W.cons (W.ite (evb_not (evb_chainI (ev_sp0 ea) eb (ev_sp1 ea) rfl rfl)) (fun e => W.cons (W.ret (ev_lit _ _ _) ?_)) fun e => W.nil (W.nil ⟨i0, i1, ?_⟩))
      · rw [i2, notT e]; rfl
      · rw [i2, notF e]; rfl
    · rw [i.2.2, List.drop_eq_nil_of_le (by omega : k.length ≤ m), hasK_all]
  obtain ⟨d, h, rfl⟩ := key
  exact h
end Mine
-- P8
namespace Mine
open PySem PySem.W PyProof.Rows PySem.Calls
noncomputable def loL (l : Lit) : Int := match l.box with | p :: _ => p.1 | _ => 0
noncomputable def hiL (l : Lit) : Int := match l.box with | p :: _ => p.2 | _ => 0
theorem Dim.head {b : List (Int × Int)} {m : Nat} (h : Dim b m) : ∃ l u r, b = (l, u) :: r ∧ l ≤ u ∧ r.length ≤ 1 := by
  rcases h.elim with ⟨_, l, u, rfl, h1⟩ | ⟨_, l, u, l', u', rfl, h1, h2⟩
  · exact ⟨l, u, [], rfl, h1, by simp⟩
  · exact ⟨l, u, _, rfl, h1, by simp⟩
section
variable {Φ : Nat → List D → Option (Except Unit D)} {ρ : Vars} {a : X} {m : Nat} {l : Lit}
theorem ev_sp (h : eval Φ a ρ = some (litD l)) (hd : Dim l.box m) : eval Φ (.idx (.idx a (.lit (.int 0))) (.lit (.int 0))) ρ = some (spanD (loL l, hiL l)) := by
  obtain ⟨x, y, r, e, h1, h2⟩ := hd.head
  have := ev_span (s := (x, y)) (r := r) (by rw [← e]; exact ev_box h) (by omega)
  rw [this]
  simp [loL, hiL, e]
theorem ev_lo (h : eval Φ a ρ = some (litD l)) (hd : Dim l.box m) : eval Φ (.idx (.idx (.idx a (.lit (.int 0))) (.lit (.int 0))) (.lit (.int 0))) ρ = some (.int (loL l)) := ev_sp0 (ev_sp h hd)
theorem ev_hi (h : eval Φ a ρ = some (litD l)) (hd : Dim l.box m) : eval Φ (.idx (.idx (.idx a (.lit (.int 0))) (.lit (.int 0))) (.lit (.int 1))) ρ = some (.int (hiL l)) := ev_sp1 (ev_sp h hd)
end
theorem Dim.le {l : Lit} {m : Nat} (h : Dim l.box m) : loL l ≤ hiL l := by
  obtain ⟨x, y, r, e, h1, h2⟩ := h.head
  simp [loL, hiL, e, h1]
theorem isNoneD_iff (d : D) : isNoneD d = true ↔ d = .none := by
  cases d with
  | none => exact ⟨fun _ => rfl, fun _ => rfl⟩
  | _ => exact ⟨nofun, nofun⟩
noncomputable def ForJ (F : List Lit) : Prop := (∀ l ∈ F, l.box.length = 1 ∧ l.data = .none) ∧ ∃ l ∈ F, loL l < hiL l
theorem is_for_joining_spec {m : Nat} {F : List Lit} (G : Good m F) : ∃ t, Phi 2 [.list (F.map litD)] = some (.ok (.bool t)) ∧ (t = true ↔ ForJ F) := by
  suffices h : ∃ d, Phi 2 [.list (F.map litD)] = some (.ok d) ∧ ∃ t, d = .bool t ∧ (t = true ↔ ForJ F) by
    obtain ⟨_, h, t, rfl, h2⟩ := h
    exact ⟨t, h, h2⟩
  refine Phi_ok (by rfl) ?_
  show W (execs whyC (rs Phi 2) ss_is_for_joining _) _ _ _
  generalize hρ : args0 [.list (F.map litD)] = ρ
  have h0 : ρ 0 = some (.fro (.list (F.map litD))) := by rw [← hρ]; rfl
  refine W.cons (W.set (d := .bool false) (ev_lit _ _ _) (W.cons ?_))
  have hit : evItF (rs Phi 2) (.seq (.var 0)) (upd ρ 1 (.fro (.bool false))) = some (F.map litD) := by
    rw [qf_seq, ev_var _ 0 _ _ (show upd ρ 1 _ 0 = _ by simp only [upd]; exact h0)]
    rfl
  simp only [qx_set, qx_own, qx_set2, qx_app, qx_last, qx_inc, qx_frz, qx_ret, qx_ite, qx_for, qx_while, qx_raise, qx_run, qx_get, qx_try, hit, Option.bind_some]
  refine W.seq (enc := litD) (fun done ρ => ∃ b, ρ 1 = some (.fro (.bool b)) ∧ (∀ l ∈ done, l.box.length = 1 ∧ l.data = .none) ∧ (b = true ↔ ∃ l ∈ done, loL l < hiL l)) ⟨false, by simp [upd], by simp, by simp⟩ ?_ ?_
  · rintro done l rest ρ e ⟨b, h1, hall, hb⟩
    have hl : l ∈ F := by rw [e]; simp
    have hd := G.dim l hl
    simp only [qv_bind1, qv_bind2, Option.bind_some]
    have e2 : eval (rs Phi 2) (.var 2) (upd ρ 2 (.fro (litD l))) = some (litD l) := ev_var _ _ _ _ (by simp [upd])
    have hlen : l.box.length ≤ 2 := by rcases hd with ⟨h1, h2, _⟩; omega
    have ec : evB (rs Phi 2) (.or (.cmp .NotEq (.len (.idx (.var 2) (.lit (.int 0)))) (.lit (.int 1))) (.notN (.idx (.var 2) (.lit (.int 1))))) (upd ρ 2 (.fro (litD l))) = some (!(decide (l.box.length = 1) && isNoneD l.data)) := by
      have := evb_or (c' := .notN (.idx (.var 2) (.lit (.int 1)))) (u := !isNoneD l.data) (evb_cmp (o := .NotEq) (f := fun a b => a != b) (ev_len (ev_box e2) rfl (by simp; omega)) (ev_lit _ (.int 1) _) rfl) (fun _ => by rw [qb_notN, ev_data e2]; rfl)
      rw [this]
      rcases hd.2.1 with q | q
      · have : l.box.length = 1 := hd.1.trans q
        simp [this]
      · have : l.box.length = 2 := hd.1.trans q
        simp [this]
    refine W.cons (W.ite ec (fun h => ?_) (fun h => ?_))
    · refine W.cons (W.ret (ev_lit _ _ _) ⟨false, rfl, ?_⟩)
      simp only [Bool.false_eq_true, false_iff]
      rintro ⟨q, _⟩
      obtain ⟨q1, q2⟩ := q l hl
      rw [q1, (isNoneD_iff _).mpr q2] at h
      simp at h
    · have hh : l.box.length = 1 ∧ l.data = .none := by
        simp only [Bool.not_eq_false', Bool.and_eq_true, decide_eq_true_eq, isNoneD_iff] at h
        exact h
      have hall' : ∀ x ∈ done ++ [l], x.box.length = 1 ∧ x.data = .none := fun x m => by
        rcases List.mem_append.mp m with m | m
        · exact hall x m
        · rw [List.mem_singleton] at m; subst m; exact hh
      refine W.nil (W.cons (W.ite (evb_cmp (o := .NotEq) (f := fun a b => a != b) (ev_lo e2 hd) (ev_hi e2 hd) rfl) (fun h => ?_) (fun h => ?_)))
      · refine W.cons (W.set (ev_lit _ _ _) (W.nil (W.nil ⟨true, by simp [upd], hall', ?_⟩)))
        have := hd.le
        simp only [true_iff]
        exact ⟨l, by simp, by simp at h; omega⟩
      · refine W.nil (W.nil ⟨b, by simp [upd, h1], hall', ?_⟩)
        rw [hb]
        have : ¬ loL l < hiL l := by simp at h; omega
        constructor
        · rintro ⟨x, m, q⟩; exact ⟨x, List.mem_append_left _ m, q⟩
        · rintro ⟨x, m, q⟩
          rcases List.mem_append.mp m with m | m
          · exact ⟨x, m, q⟩
          · rw [List.mem_singleton] at m; subst m; exact absurd q this
  · rintro ρ ⟨b, h1, hall, hb⟩
    refine W.cons (W.ret (ev_var _ _ _ _ h1) ⟨b, rfl, ?_⟩)
    rw [hb]
    exact ⟨fun h => ⟨hall, h⟩, fun h => h.2⟩
theorem W.whileN {c : Vars → Option Bool} {f : Vars → Option Out} {N : Vars → Prop} {R : D → Prop} {Z : Prop} (I : Nat → Vars → Prop) (n : Nat) (le : ∀ k ρ, I k ρ → k ≤ n)
    (step : ∀ k ρ, I k ρ → ∃ t, c ρ = some t ∧ (t = false → N ρ) ∧ (t = true → W (f ρ) (fun ρ' => I (k + 1) ρ') R Z)) : ∀ (fuel k : Nat) (ρ : Vars), I k ρ → n < fuel + k → W (whileN c f fuel ρ) N R Z
  | 0, k, ρ, h, hk => by
    have := le k ρ h
    omega
  | fuel + 1, k, ρ, h, hk => by
    obtain ⟨t, h1, h2, h3⟩ := step k ρ h
    rw [Mine.whileN, h1, Option.bind_some]
    cases t
    · exact h2 rfl
    · have h5 := h3 rfl
      rw [if_pos rfl]
      rcases q : f ρ with _ | (ρ' | d | _) <;> rw [q] at h5
      · exact h5
      · exact W.whileN I n le step fuel (k + 1) ρ' h5 (by omega)
      · exact h5
      · exact h5
noncomputable def Meet (F : List Lit) : Prop := ∃ a ∈ F, ∃ b ∈ F, a ≠ b ∧ meets a.box b.box = true
theorem meets_comm : ∀ a b : List (Int × Int), meets a b = meets b a
  | [], [] => rfl
  | [], _ :: _ => rfl
  | _ :: _, [] => rfl
  | p :: a, q :: b => by
    simp only [p_mc, p_m0, meets_all, meets_comm a b]
    rw [Bool.or_comm]
theorem meets_far {a b : Lit} {m : Nat} (ha : Dim a.box m) (hb : Dim b.box m) (h : hiL a < loL b) : meets a.box b.box = false := by
  obtain ⟨x, y, r, e, h1, h2⟩ := ha.head
  obtain ⟨x', y', r', e', h1', h2'⟩ := hb.head
  simp only [loL, hiL, e, e'] at h
  simp [p_mc, p_m0, meets_all, e, e', h]
theorem flB_lo {a b : Lit} {m : Nat} (ha : Dim a.box m) (hb : Dim b.box m) (h : flB a b) : loL a ≤ loL b := by
  obtain ⟨x, y, r, e, h1, h2⟩ := ha.head
  obtain ⟨x', y', r', e', h1', h2'⟩ := hb.head
  unfold flB at h
  simp only [loL, e, e']
  rw [e, e'] at h
  simp only [flat, List.flatMap_cons, List.cons_append, List.nil_append, fl] at h
  by_cases q : x = x'
  · omega
  · rw [if_neg q] at h
    have := of_decide_eq_true h
    omega
noncomputable def NoMeet (F : List Lit) (k o : Nat) : Prop := ∀ j a b, F[k]? = some a → F[j]? = some b → k < j → j < o → meets a.box b.box = false
structure AI (F : List Lit) (k : Nat) (ρ : Vars) : Prop where
  h0 : ρ 0 = some (.fro (.list (F.map litD)))
  ok : ∀ i, i < k → NoMeet F i F.length
structure AW (F : List Lit) (k o : Nat) (a : Lit) (ρ : Vars) : Prop where
  i : AI F k ρ
  h2 : ρ 2 = some (.fro (boxD a.box))
  h3 : ρ 3 = some (.fro (.int (o : Int)))
  le : o ≤ F.length
  no : NoMeet F k o
  lt : k < o
theorem check_apart_spec {m : Nat} {F : List Lit} (G : Good m F) (srt : F.Pairwise flB) : (∃ d, Phi 4 [.list (F.map litD)] = some (.ok d) ∧ ¬ Meet F) ∨ (Phi 4 [.list (F.map litD)] = some (.error ()) ∧ Meet F) := by
  refine Phi_W (P := fun _ => ¬ Meet F) (by rfl) ?_
  show W (execs whyC (rs Phi 4) ss_check_apart _) _ _ _
  generalize hρ : args0 [.list (F.map litD)] = ρ
  have h0 : ρ 0 = some (.fro (.list (F.map litD))) := by rw [← hρ]; rfl
  have hl := G.len
  have hlen : ∀ ρ : Vars, ρ 0 = some (.fro (.list (F.map litD))) → eval (rs Phi 4) (.len (.var 0)) ρ = some (.int (F.length : Int)) := fun ρ h => by
    have := ev_len (Φ := rs Phi 4) (ev_var _ 0 _ _ h) rfl (by simp; omega)
    simpa using this
  have hidx : ∀ (ρ : Vars) (j k : Nat) (x : Lit), ρ 0 = some (.fro (.list (F.map litD))) → ρ j = some (.fro (.int (k : Int))) → F[k]? = some x → eval (rs Phi 4) (.idx (.var 0) (.var j)) ρ = some (litD x) := fun ρ j k x h hj hx =>
    ev_idx (ev_var _ 0 _ _ h) rfl (ev_var _ _ _ _ hj) (idxD_map (by omega) (by simpa using hx) (by omega))
  refine W.cons ?_
  have hit : evItF (rs Phi 4) (.range (.len (.var 0))) ρ = some (intsFrom 0 F.length) := by
    have := evItF_range (hlen ρ h0) (by omega) (by omega)
    simpa using this
  simp only [qx_set, qx_own, qx_set2, qx_app, qx_last, qx_inc, qx_frz, qx_ret, qx_ite, qx_for, qx_while, qx_raise, qx_run, qx_get, qx_try, hit, Option.bind_some]
  refine W.range (fun k ρ => AI F k ρ) ⟨h0, fun i hi => by omega⟩ ?_ ?_
  · rintro k ρ hk ⟨h0, hok⟩
    simp only [qv_bind1, qv_bind2, Option.bind_some]
    have hx : F[k]? = some F[k] := List.getElem?_eq_getElem hk
    generalize F[k] = a at hx
    have ha : a ∈ F := List.mem_of_getElem? hx
    have da := G.dim a ha
    have h0' : upd ρ 1 (.fro (.int (k : Int))) 0 = some (.fro (.list (F.map litD))) := by simp [upd, h0]
    have h1' : upd ρ 1 (.fro (.int (k : Int))) 1 = some (.fro (.int (k : Int))) := by simp [upd]
    refine W.cons (W.set (ev_box (hidx _ 1 k a h0' h1' hx)) (W.cons (W.set (d := .int ((k + 1 : Nat) : Int)) ?_ (W.cons ?_))))
    · exact ev_bin _ _ _ _ _ (.int (k : Int)) (.int 1) (ev_var _ _ _ _ (by simp [upd])) (ev_lit _ _ _)
    · simp only [qx_set, qx_own, qx_set2, qx_app, qx_last, qx_inc, qx_frz, qx_ret, qx_ite, qx_for, qx_while, qx_raise, qx_run, qx_get, qx_try]
      refine W.whileN (AW F k · a) F.length (fun o ρ h => h.le) ?_ 100 (k + 1) _ ⟨⟨by simp [upd, h0], hok⟩, by simp [upd], by simp [upd], by omega, fun j _ _ _ _ h1 h2 => by omega, by omega⟩ (by omega)
      intro o ρ ⟨⟨h0, hok⟩, h2, h3, hle, hno, hlt⟩
      by_cases ho : o < F.length
      · have hy : F[o]? = some F[o] := List.getElem?_eq_getElem ho
        generalize F[o] = b at hy
        have hb : b ∈ F := List.mem_of_getElem? hy
        have db := G.dim b hb
        have eb := hidx ρ 3 o b h0 h3 hy
        have e2 : eval (rs Phi 4) (.var 2) ρ = some (boxD a.box) := ev_var _ _ _ _ h2
        have ehi : eval (rs Phi 4) (.idx (.idx (.var 2) (.lit (.int 0))) (.lit (.int 1))) ρ = some (.int (hiL a)) := by
          obtain ⟨x, y, r, e, h1, h2⟩ := da.head
          have := ev_sp1 (l := x) (u := y) (ev_span (s := (x, y)) (r := r) (by rw [← e]; exact e2) (by omega))
          rw [this]
          simp [hiL, e]
        refine ⟨true && decide (loL b ≤ hiL a), evb_and ?_ (fun _ => evb_cmp (o := .LtE) (ev_lo eb db) ehi rfl), fun ht => ?_, fun ht => ?_⟩
        · have := evb_cmp (o := .Lt) (ev_var _ _ _ _ h3) (hlen ρ h0) rfl
          rw [this]
          simp [ho]
        · refine W.nil ⟨h0, fun i hi => ?_⟩
          rcases Nat.lt_or_ge i k with q | q
          · exact hok i q
          · have : i = k := by omega
            subst this
            intro j a' c ha' hc hj _
            have : a' = a := Option.some.inj (ha'.symm.trans hx)
            subst this
            rcases Nat.lt_or_ge j o with q | q
            · exact hno j a' c ha' hc hj q
            · have dc := G.dim c (List.mem_of_getElem? hc)
              refine meets_far da dc ?_
              have h1 : ¬ loL b ≤ hiL a' := by simpa using ht
              have h2 : loL b ≤ loL c := by
                rcases Nat.lt_or_ge o j with z | z
                · obtain ⟨z1, z2⟩ := List.getElem?_eq_some_iff.mp hy
                  obtain ⟨z3, z4⟩ := List.getElem?_eq_some_iff.mp hc
                  have := List.pairwise_iff_getElem.mp srt o j z1 z3 z
                  rw [z2, z4] at this
                  exact flB_lo db dc this
                · have : o = j := by omega
                  subst this
                  have : b = c := Option.some.inj (hy.symm.trans hc)
                  subst this
                  omega
              omega
        · have hc : evB (rs Phi 4) (.val (.call 0 (.cons (.var 2) (.cons (.idx (.idx (.var 0) (.var 3)) (.lit (.int 0))) .nil)))) ρ = some (meets a.box b.box) :=
            evb_call (ev_call (evs_cons e2 (evs_cons (ev_box eb) evs_nil)) (by decide) (boxes_meet_spec da db))
          refine W.cons (W.ite hc (fun h => W.cons (W.raise ⟨a, ha, b, hb, fun q => ?_, h⟩)) (fun h => W.nil (W.cons (W.inc h3 (ev_lit _ _ _) (W.nil ⟨⟨by simp [upd, h0], hok⟩, by simp [upd, h2], by simp [upd], by omega, ?_, by omega⟩)))))
          · subst q
            obtain ⟨z1, z2⟩ := List.getElem?_eq_some_iff.mp hx
            obtain ⟨z3, z4⟩ := List.getElem?_eq_some_iff.mp hy
            have := List.pairwise_iff_getElem.mp srt k o z1 z3 hlt
            rw [z2, z4] at this
            exact flB_ne this rfl
          · intro j a' c ha' hc hj hjo
            rcases Nat.lt_or_ge j o with q | q
            · exact hno j a' c ha' hc hj q
            · have : j = o := by omega
              subst this
              rw [← Option.some.inj (hx.symm.trans ha'), ← Option.some.inj (hy.symm.trans hc)]
              exact h
      · refine ⟨false, ?_, fun _ => W.nil ⟨h0, fun i hi => ?_⟩, fun h => by cases h⟩
        · have := evb_and (t := false) (u := false) (c' := .cmp .LtE (.idx (.idx (.idx (.idx (.var 0) (.var 3)) (.lit (.int 0))) (.lit (.int 0))) (.lit (.int 0))) (.idx (.idx (.var 2) (.lit (.int 0))) (.lit (.int 1)))) (Φ := rs Phi 4) (ρ := ρ) (c := .cmp .Lt (.var 3) (.len (.var 0))) (by
            have := evb_cmp (o := .Lt) (ev_var _ _ _ _ h3) (hlen ρ h0) rfl
            rw [this]
            simp; omega) (fun h => by cases h)
          exact this
        · rcases Nat.lt_or_ge i k with q | q
          · exact hok i q
          · have : i = k := by omega
            subst this
            have : o = F.length := by omega
            subst this
            exact hno
  · rintro ρ ⟨h0, hok⟩
    refine W.nil ?_
    rintro ⟨a, ha, b, hb, hne, hm⟩
    obtain ⟨i, hi, rfl⟩ := List.mem_iff_getElem.mp ha
    obtain ⟨j, hj, rfl⟩ := List.mem_iff_getElem.mp hb
    rcases Nat.lt_trichotomy i j with q | q | q
    · have := hok i hi j _ _ (List.getElem?_eq_getElem hi) (List.getElem?_eq_getElem hj) q hj
      rw [this] at hm; cases hm
    · subst q; exact hne rfl
    · have := hok j hj i _ _ (List.getElem?_eq_getElem hj) (List.getElem?_eq_getElem hi) q hi
      rw [meets_comm, this] at hm; cases hm
end Mine
-- P9
namespace Mine
open PySem PySem.W PyProof.Rows PySem.Calls
noncomputable def Cov (P : List Lit) (x : Int) : Prop := ∃ p ∈ P, loL p ≤ x ∧ x ≤ hiL p
noncomputable def mkL (a b : Int) : Lit := ⟨[(a, b)], .none, 0, Str.ofString ""⟩
noncomputable def IsLit (P : List Lit) (a b : Int) (r : Lit) : Prop :=
  (∃ o ∈ P, a ≤ loL o ∧ loL o ≤ b ∧ (∀ o' ∈ P, a ≤ loL o' → loL o' ≤ b → o' = o) ∧ r = o) ∨
  ((∃ o ∈ P, ∃ o' ∈ P, o ≠ o' ∧ (a ≤ loL o ∧ loL o ≤ b) ∧ a ≤ loL o' ∧ loL o' ≤ b) ∧ r = mkL a b)
noncomputable def One (l : Lit) : Prop := l.box = [(loL l, hiL l)] ∧ loL l ≤ hiL l
theorem Dim.one {l : Lit} (h : Dim l.box 1) : One l := by
  rcases h.elim with ⟨_, x, y, e, h1⟩ | ⟨q, _⟩
  · constructor
    · simp [loL, hiL, e]
    · simp [loL, hiL, e, h1]
  · cases q
theorem One.dim {l : Lit} (h : One l) : Dim l.box 1 := by
  rw [h.1]
  exact ⟨rfl, .inl rfl, fun p m => by rw [List.mem_singleton] at m; subst m; exact h.2⟩
structure JI (P R : List Lit) : Prop where
  one : ∀ r ∈ R, One r
  sep : R.Pairwise fun r r' => hiL r + 2 ≤ loL r'
  cov : ∀ x, Cov P x ↔ ∃ r ∈ R, loL r ≤ x ∧ x ≤ hiL r
  lit : ∀ r ∈ R, IsLit P (loL r) (hiL r) r
  st : ∀ r ∈ R, ∃ p ∈ P, loL p = loL r
  len : R.length ≤ P.length
theorem JI.nil : JI [] [] := ⟨by simp, .nil, by simp [Cov], by simp, by simp, by simp⟩
theorem Cov.snoc {P : List Lit} {l : Lit} {x : Int} : Cov (P ++ [l]) x ↔ Cov P x ∨ (loL l ≤ x ∧ x ≤ hiL l) := by
  constructor
  · rintro ⟨p, m, h⟩
    rcases List.mem_append.mp m with m | m
    · exact .inl ⟨p, m, h⟩
    · rw [List.mem_singleton] at m; subst m; exact .inr h
  · rintro (⟨p, m, h⟩ | h)
    · exact ⟨p, List.mem_append_left _ m, h⟩
    · exact ⟨l, by simp, h⟩
theorem IsLit.snoc {P : List Lit} {l r : Lit} {a b : Int} (h : IsLit P a b r) (hl : b < loL l) : IsLit (P ++ [l]) a b r := by
  rcases h with ⟨o, m, h1, h2, h3, h4⟩ | ⟨⟨o, m, o', m', h⟩, h4⟩
  · refine .inl ⟨o, List.mem_append_left _ m, h1, h2, fun o' m' q1 q2 => ?_, h4⟩
    rcases List.mem_append.mp m' with m' | m'
    · exact h3 o' m' q1 q2
    · rw [List.mem_singleton] at m'; subst m'; omega
  · exact .inr ⟨⟨o, List.mem_append_left _ m, o', List.mem_append_left _ m', h⟩, h4⟩
theorem JI.app {P R : List Lit} {l : Lit} (I : JI P R) (oP : ∀ p ∈ P, loL p ≤ hiL p) (ol : One l) (h : ∀ r ∈ R, hiL r + 2 ≤ loL l) : JI (P ++ [l]) (R ++ [l]) := by
  refine ⟨fun r m => ?_, ?_, fun x => ?_, fun r m => ?_, fun r m => ?_, by simp; exact I.len⟩
  · rcases List.mem_append.mp m with m | m
    · exact I.one r m
    · rw [List.mem_singleton] at m; subst m; exact ol
  · exact List.pairwise_append.mpr ⟨I.sep, List.pairwise_singleton _ _, fun f m y hy => by rw [List.mem_singleton] at hy; subst hy; exact h f m⟩
  · rw [Cov.snoc, I.cov]
    constructor
    · rintro (⟨r, m, q⟩ | q)
      · exact ⟨r, List.mem_append_left _ m, q⟩
      · exact ⟨l, by simp, q⟩
    · rintro ⟨r, m, q⟩
      rcases List.mem_append.mp m with m | m
      · exact .inl ⟨r, m, q⟩
      · rw [List.mem_singleton] at m; subst m; exact .inr q
  · rcases List.mem_append.mp m with m | m
    · refine (I.lit r m).snoc ?_
      have := h r m; omega
    · rw [List.mem_singleton] at m; subst m
      refine .inl ⟨r, by simp, by omega, ol.2, fun o' m' q1 q2 => ?_, rfl⟩
      rcases List.mem_append.mp m' with m' | m'
      · exfalso
        obtain ⟨r', mr, q3, q4⟩ := (I.cov (loL o')).mp ⟨o', m', by omega, oP o' m'⟩
        have := h r' mr
        omega
      · exact List.mem_singleton.mp m'
  · rcases List.mem_append.mp m with m | m
    · obtain ⟨p, mp, e⟩ := I.st r m
      exact ⟨p, List.mem_append_left _ mp, e⟩
    · rw [List.mem_singleton] at m; subst m; exact ⟨r, by simp, rfl⟩
theorem JI.mrg {P R : List Lit} {l g : Lit} (I : JI P (R ++ [g])) (ol : One l) (hp : ∀ p ∈ P, p ≠ l ∧ loL p ≤ loL l) (h : loL l ≤ hiL g + 1) {M : Int} (hM : M = if hiL l > hiL g then hiL l else hiL g) : JI (P ++ [l]) (R ++ [mkL (loL g) M]) := by
  obtain ⟨p, mp, ep⟩ := I.st g (by simp)
  have hp1 := hp p mp
  have og := I.one g (by simp)
  have h1 : hiL g ≤ M := by rw [hM]; split <;> omega
  have h2 : hiL l ≤ M := by rw [hM]; split <;> omega
  have h3 : M = hiL l ∨ M = hiL g := by rw [hM]; split <;> simp
  have e1 : loL (mkL (loL g) M) = loL g := rfl
  have e2 : hiL (mkL (loL g) M) = M := rfl
  have hs := List.pairwise_append.mp I.sep
  have hR : ∀ r ∈ R, hiL r + 2 ≤ loL g := fun r m => hs.2.2 r m g (by simp)
  have ol2 := ol.2
  have og2 := og.2
  refine ⟨fun r m => ?_, ?_, fun x => ?_, fun r m => ?_, fun r m => ?_, by have := I.len; simp at this ⊢; omega⟩
  · rcases List.mem_append.mp m with m | m
    · exact I.one r (List.mem_append_left _ m)
    · rw [List.mem_singleton] at m; subst m
      exact ⟨rfl, by rw [e1, e2]; omega⟩
  · exact List.pairwise_append.mpr ⟨hs.1, List.pairwise_singleton _ _, fun f m y hy => by rw [List.mem_singleton] at hy; subst hy; rw [e1]; exact hR f m⟩
  · rw [Cov.snoc, I.cov]
    constructor
    · rintro (⟨r, m, q⟩ | q)
      · rcases List.mem_append.mp m with m | m
        · exact ⟨r, List.mem_append_left _ m, q⟩
        · rw [List.mem_singleton] at m; subst m
          exact ⟨_, List.mem_append_right _ (List.mem_singleton.mpr rfl), by rw [e1]; omega, by rw [e2]; omega⟩
      · exact ⟨_, List.mem_append_right _ (List.mem_singleton.mpr rfl), by rw [e1]; omega, by rw [e2]; omega⟩
    · rintro ⟨r, m, q⟩
      rcases List.mem_append.mp m with m | m
      · exact .inl ⟨r, List.mem_append_left _ m, q⟩
      · rw [List.mem_singleton] at m; subst m
        rw [e1, e2] at q
        by_cases z : x ≤ hiL g
        · exact .inl ⟨g, by simp, q.1, z⟩
        · exact .inr ⟨by omega, by omega⟩
  · rcases List.mem_append.mp m with m | m
    · refine (I.lit r (List.mem_append_left _ m)).snoc ?_
      have := hR r m; omega
    · rw [List.mem_singleton] at m; subst m
      rw [e1, e2]
      exact .inr ⟨⟨p, List.mem_append_left _ mp, l, by simp, hp1.1, ⟨by omega, by omega⟩, by omega, by omega⟩, rfl⟩
  · rcases List.mem_append.mp m with m | m
    · obtain ⟨p, mp, e⟩ := I.st r (List.mem_append_left _ m)
      exact ⟨p, List.mem_append_left _ mp, e⟩
    · rw [List.mem_singleton] at m; subst m
      exact ⟨p, List.mem_append_left _ mp, ep⟩
theorem joined_spec {m : Nat} {F : List Lit} (hl : F.length ≤ 6) (one : ∀ l ∈ F, One l) (srt : F.Pairwise flB) : ∃ R, Phi 3 [.list (F.map litD)] = some (.ok (.tuple (R.map litD))) ∧ JI F R := by
  suffices h : ∃ d, Phi 3 [.list (F.map litD)] = some (.ok d) ∧ ∃ R, d = .tuple (R.map litD) ∧ JI F R by
    obtain ⟨_, h, t, rfl, h2⟩ := h
    exact ⟨t, h, h2⟩
  refine Phi_ok (by rfl) ?_
  show W (execs whyC (rs Phi 3) ss_joined _) _ _ _
  generalize hρ : args0 [.list (F.map litD)] = ρ
  have h0 : ρ 0 = some (.fro (.list (F.map litD))) := by rw [← hρ]; rfl
  refine W.cons (W.own (ds := []) evs_nil (by simp) (W.cons ?_))
  have hit : evItF (rs Phi 3) (.seq (.var 0)) (upd ρ 1 (.own [])) = some (F.map litD) := by
    rw [qf_seq, ev_var _ 0 _ _ (show upd ρ 1 _ 0 = _ by simp only [upd]; exact h0)]
    rfl
  simp only [qx_set, qx_own, qx_set2, qx_app, qx_last, qx_inc, qx_frz, qx_ret, qx_ite, qx_for, qx_while, qx_raise, qx_run, qx_get, qx_try, hit, Option.bind_some]
  refine W.seq (enc := litD) (fun done ρ => ∃ R, ρ 1 = some (.own (R.map litD)) ∧ JI done R) ⟨[], by simp [upd], JI.nil⟩ ?_ ?_
  · rintro done l rest ρ e ⟨R, h1, I⟩
    have hlF : l ∈ F := by rw [e]; simp
    have ol := one l hlF
    have hdone : ∀ p ∈ done, p ≠ l ∧ loL p ≤ loL l := fun p mp => by
      rw [e] at srt
      have := (List.pairwise_append.mp srt).2.2 p mp l (.head _)
      exact ⟨fun q => flB_ne this (by rw [q]), flB_lo (one p (by rw [e]; exact List.mem_append_left _ mp)).dim ol.dim this⟩
    have hRl : R.length ≤ 6 := by
      have h1 := I.len
      have h2 := congrArg List.length e
      simp at h2
      omega
    simp only [qv_bind1, qv_bind2, Option.bind_some]
    have e2 : eval (rs Phi 3) (.var 2) (upd ρ 2 (.fro (litD l))) = some (litD l) := ev_var _ _ _ _ (by simp [upd])
    refine W.cons (W.set2 (a := .int (loL l)) (b := .int (hiL l)) (ev_sp e2 ol.dim) ?_)
    have h1' : upd (upd (upd ρ 2 (.fro (litD l))) 3 (.fro (.int (loL l)))) 4 (.fro (.int (hiL l))) 1 = some (.own (R.map litD)) := by simp [upd, h1]
    have h2' : upd (upd (upd ρ 2 (.fro (litD l))) 3 (.fro (.int (loL l)))) 4 (.fro (.int (hiL l))) 2 = some (.fro (litD l)) := by simp [upd]
    have h3' : upd (upd (upd ρ 2 (.fro (litD l))) 3 (.fro (.int (loL l)))) 4 (.fro (.int (hiL l))) 3 = some (.fro (.int (loL l))) := by simp [upd]
    have h4' : upd (upd (upd ρ 2 (.fro (litD l))) 3 (.fro (.int (loL l)))) 4 (.fro (.int (hiL l))) 4 = some (.fro (.int (hiL l))) := by simp [upd]
    generalize upd (upd (upd ρ 2 (.fro (litD l))) 3 (.fro (.int (loL l)))) 4 (.fro (.int (hiL l))) = σ at h1' h2' h3' h4'
    have app : (∀ r ∈ R, hiL r + 2 ≤ loL l) → W (execs whyC (rs Phi 3) (.cons (.app 1 (.var 2)) .nil) σ) (fun ρ' => W (execs whyC (rs Phi 3) .nil ρ') (fun ρ' => ∃ R, ρ' 1 = some (.own (R.map litD)) ∧ JI (done ++ [l]) R) (fun d => ∃ R, d = .tuple (R.map litD) ∧ JI F R) False) (fun d => ∃ R, d = .tuple (R.map litD) ∧ JI F R) False := fun h =>
      W.cons (W.app h1' (by simp; omega) (ev_var _ _ _ _ h2') (W.nil (W.nil ⟨R ++ [l], by simp [upd], I.app (fun p mp => (one p (by rw [e]; exact List.mem_append_left _ mp)).2) ol h⟩)))
    rcases List.eq_nil_or_concat R with hR | ⟨R0, g, hR⟩
    · subst hR
      refine W.cons (W.ite (t := false) ?_ (fun h => by cases h) (fun _ => app (by simp)))
      exact evb_and (u := false) (evb_own (Φ := rs Phi 3) h1' (by simp)) (fun h => by simp at h)
    · rw [List.concat_eq_append] at hR
      subst hR
      have og := I.one g (by simp)
      have el : eval (rs Phi 3) (.idx (.var 1) (.neg (.lit (.int 1)))) σ = some (litD g) := ev_idxO h1' ev_neg1 (idxD_last (by simp) (by omega))
      refine W.cons (W.ite (evb_and (evb_own (Φ := rs Phi 3) h1' (by simp at hRl ⊢; omega)) (fun _ => evb_cmp (o := .LtE) (ev_var _ _ _ _ h3') (ev_bin _ _ _ _ _ (.int (hiL g)) (.int 1) (ev_hi el og.dim) (ev_lit _ _ _)) rfl)) (fun h => ?_) (fun h => ?_))
      · have hle : loL l ≤ hiL g + 1 := by simpa using h
        refine W.cons (W.set2 (a := .int (loL g)) (b := .int (hiL g)) (ev_sp el og.dim) (W.cons (W.last (ds := R0.map litD) (x := litD g) (d := litD (mkL (loL g) (if hiL l > hiL g then hiL l else hiL g))) (by simp [upd, h1']) (by simp at hRl ⊢; omega) ?_ (W.nil (W.nil ⟨R0 ++ [mkL (loL g) (if hiL l > hiL g then hiL l else hiL g)], by simp [upd], I.mrg ol hdone hle rfl⟩)))))
        have x5 := ev_var (rs Phi 3) 5 (.int (loL g)) (upd (upd σ 5 (.fro (.int (loL g)))) 6 (.fro (.int (hiL g)))) (by simp [upd])
        have x6 : eval (rs Phi 3) (.max2 (.var 6) (.var 4)) (upd (upd σ 5 (.fro (.int (loL g)))) 6 (.fro (.int (hiL g)))) = some (.int (if hiL l > hiL g then hiL l else hiL g)) := by
          rw [qe_max2, ev_var _ 6 (.int (hiL g)) _ (by simp [upd]), ev_var _ 4 (.int (hiL l)) _ (by simp [upd, h4'])]
          rfl
        exact ev_tup (evs_cons (ev_tup (evs_cons (ev_tup (evs_cons x5 (evs_cons x6 evs_nil)) (by simp)) evs_nil) (by simp [mkL])) (evs_cons (ev_lit _ _ _) (evs_cons (ev_lit _ _ _) (evs_cons (ev_lit _ _ _) evs_nil)))) (by simp)
      · have hgt : ¬ loL l ≤ hiL g + 1 := by simpa using h
        refine app fun r mr => ?_
        rcases List.mem_append.mp mr with mr | mr
        · have := (List.pairwise_append.mp I.sep).2.2 r mr g (by simp)
          have := og.2
          omega
        · rw [List.mem_singleton] at mr; subst mr; omega
  · rintro ρ ⟨R, h1, I⟩
    have hRl := I.len
    refine W.cons (W.ret (d := .tuple (R.map litD)) ?_ ⟨R, rfl, I⟩)
    have : seqV (.var 1) ρ (eval (rs Phi 3) (.var 1) ρ) = some (true, R.map litD) := by simp only [qv_vVar, h1]
    rw [qe_tupOf, this, Option.bind_some, if_pos rfl, small, if_pos (by simp; omega)]
end Mine
-- P10
namespace Mine
open PySem PySem.W PyProof.Rows PySem.Calls
theorem Tidied.good {m : Nat} {L F : List Lit} (T : Tidied L F) (G : Good m L) : Good m F :=
  ⟨Nat.le_trans T.len G.len, fun l h => G.dim l ((T.mem l).mp h).mem, fun l h => G.data l ((T.mem l).mp h).mem⟩
theorem ForJ.one {m : Nat} {F : List Lit} (G : Good m F) (h : ForJ F) : ∀ l ∈ F, One l := fun l hl => by
  have d := G.dim l hl
  have : m = 1 := by rw [← d.1]; exact (h.1 l hl).1
  subst this
  exact d.one
theorem tidy_set_spec {m : Nat} {L : List Lit} (G : Good m L) :
    (Phi 5 [.list (L.map litD)] = some (.error ()) ∧ Conf L) ∨ ∃ F, Tidied L F ∧ ((ForJ F ∧ ∃ R, JI F R ∧ Phi 5 [.list (L.map litD)] = some (.ok (.tuple (R.map litD)))) ∨
      (¬ ForJ F ∧ ¬ Meet F ∧ Phi 5 [.list (L.map litD)] = some (.ok (.tuple (F.map litD)))) ∨ (¬ ForJ F ∧ Meet F ∧ Phi 5 [.list (L.map litD)] = some (.error ()))) := by
  have key : ∀ o, execs whyC (rs Phi 5) ss_tidy_set (args0 [.list (L.map litD)]) = some o → Phi 5 [.list (L.map litD)] = resO (some o) := fun o h => by
    rw [Phi_def, if_pos (by rfl)]
    show resO (execs whyC (rs Phi 5) ss_tidy_set _) = _
    rw [h]
  generalize hρ : args0 [.list (L.map litD)] = ρ at key
  have h0 : ρ 0 = some (.fro (.list (L.map litD))) := by rw [← hρ]; rfl
  have e0 : evals (rs Phi 5) (.cons (.var 0) .nil) ρ = some [.list (L.map litD)] := evs_cons (ev_var _ _ _ _ h0) evs_nil
  rcases without_repeats_spec G with ⟨F, h1, T⟩ | ⟨h1, hc⟩
  · right
    refine ⟨F, T, ?_⟩
    have GF := T.good G
    have e1 : evals (rs Phi 5) (.cons (.var 1) .nil) (upd ρ 1 (.fro (.list (F.map litD)))) = some [.list (F.map litD)] := evs_cons (ev_var _ _ _ _ (by simp [upd])) evs_nil
    obtain ⟨t, h2, ht⟩ := is_for_joining_spec GF
    have eb := evb_call (ev_call e1 (show 2 < 5 by decide) h2)
    have s1 : exec whyC (rs Phi 5) (.get 1 1 (.cons (.var 0) .nil)) ρ = some (.next (upd ρ 1 (.fro (.list (F.map litD))))) := by
      rw [qx_get, e0, Option.bind_some, rs_lt (by decide), h1]
    cases t with
    | true =>
      have fj := ht.mp rfl
      obtain ⟨R, h3, J⟩ := joined_spec (m := m) GF.len (fj.one GF) T.srt
      refine .inl ⟨fj, R, J, ?_⟩
      refine key (.ret (.tuple (R.map litD))) ?_
      have s2 : exec whyC (rs Phi 5) (.ite (.val (.call 2 (.cons (.var 1) .nil))) (.cons (.ret (.call 3 (.cons (.var 1) .nil))) .nil) .nil) (upd ρ 1 (.fro (.list (F.map litD)))) = some (.ret (.tuple (R.map litD))) := by
        rw [qx_ite, eb, Option.bind_some, if_pos rfl, qz_cons, qx_ret, ev_call e1 (show 3 < 5 by decide) h3]
        rfl
      simp only [ss_tidy_set, qz_nil, qz_cons, s1, s2]
    | false =>
      have fj : ¬ ForJ F := fun h => by have := ht.mpr h; cases this
      have s2 : exec whyC (rs Phi 5) (.ite (.val (.call 2 (.cons (.var 1) .nil))) (.cons (.ret (.call 3 (.cons (.var 1) .nil))) .nil) .nil) (upd ρ 1 (.fro (.list (F.map litD)))) = some (.next (upd ρ 1 (.fro (.list (F.map litD))))) := by
        rw [qx_ite, eb, Option.bind_some, if_neg (by decide), qz_nil]
      rcases check_apart_spec GF T.srt with ⟨d, h4, hm⟩ | ⟨h4, hm⟩
      · refine .inr (.inl ⟨fj, hm, key (.ret (.tuple (F.map litD))) ?_⟩)
        have s3 : exec whyC (rs Phi 5) (.run 4 (.cons (.var 1) .nil)) (upd ρ 1 (.fro (.list (F.map litD)))) = some (.next (upd ρ 1 (.fro (.list (F.map litD))))) := by
          rw [qx_run, e1, Option.bind_some, rs_lt (by decide), h4]
        have s4 : exec whyC (rs Phi 5) (.ret (.tupOf (.var 1))) (upd ρ 1 (.fro (.list (F.map litD)))) = some (.ret (.tuple (F.map litD))) := by
          have hl := GF.len
          rw [qx_ret, qe_tupOf, seqV_eval (ev_var _ 1 (.list (F.map litD)) _ (by simp [upd]))]
          simp only [qv_seqL, qv_seqT, Option.bind_some, if_true, small]
          rw [if_pos (by simp; omega)]
          rfl
        simp only [ss_tidy_set, qz_nil, qz_cons, s1, s2, s3, s4]
      · refine .inr (.inr ⟨fj, hm, key .exc ?_⟩)
        have s3 : exec whyC (rs Phi 5) (.run 4 (.cons (.var 1) .nil)) (upd ρ 1 (.fro (.list (F.map litD)))) = some .exc := by
          rw [qx_run, e1, Option.bind_some, rs_lt (by decide), h4]
        simp only [ss_tidy_set, qz_nil, qz_cons, s1, s2, s3]
  · left
    refine ⟨key .exc ?_, hc⟩
    have s1 : exec whyC (rs Phi 5) (.get 1 1 (.cons (.var 0) .nil)) ρ = some .exc := by
      rw [qx_get, e0, Option.bind_some, rs_lt (by decide), h1]
    simp only [ss_tidy_set, qz_nil, qz_cons, s1]
/-- a longest run of covered ints -/
noncomputable def Run (F : List Lit) (a b : Int) : Prop := a ≤ b ∧ (∀ x, a ≤ x → x ≤ b → Cov F x) ∧ ¬ Cov F (a - 1) ∧ ¬ Cov F (b + 1)
structure RunsI (F R : List Lit) : Prop where
  mem : ∀ r, r ∈ R ↔ ∃ a b, Run F a b ∧ IsLit F a b r
  srt : R.Pairwise fun r r' => loL r < loL r'
theorem IsLit.uniq {F : List Lit} {a b : Int} {r r' : Lit} (h : IsLit F a b r) (h' : IsLit F a b r') : r = r' := by
  rcases h with ⟨o, m, h1, h2, h3, rfl⟩ | ⟨⟨o, m, o', m', n, h1, h2⟩, rfl⟩ <;> rcases h' with ⟨p, mp, q1, q2, q3, rfl⟩ | ⟨⟨p, mp, p', mp', n', q1, q2⟩, rfl⟩
  · exact q3 _ m h1 h2
  · exact absurd ((h3 _ mp q1.1 q1.2).trans (h3 _ mp' q2.1 q2.2).symm) n'
  · exact absurd ((q3 _ m h1.1 h1.2).trans (q3 _ m' h2.1 h2.2).symm) n
  · rfl
theorem IsLit.lo {F : List Lit} {a b : Int} {r : Lit} (h : IsLit F a b r) (hab : a ≤ b) : a ≤ loL r ∧ loL r ≤ b := by
  rcases h with ⟨o, m, h1, h2, h3, rfl⟩ | ⟨_, rfl⟩
  · exact ⟨h1, h2⟩
  · exact ⟨by simp [loL, mkL], by simpa [loL, mkL] using hab⟩
theorem pw_total {α : Type} {R : α → α → Prop} {l : List α} (h : l.Pairwise R) {a b : α} (ha : a ∈ l) (hb : b ∈ l) : a = b ∨ R a b ∨ R b a := by
  induction h with
  | nil => cases ha
  | cons h1 _ ih =>
    rcases List.mem_cons.mp ha with e1 | m1 <;> rcases List.mem_cons.mp hb with e2 | m2
    · exact .inl (e1.trans e2.symm)
    · rw [e1]; exact .inr (.inl (h1 _ m2))
    · rw [e2]; exact .inr (.inr (h1 _ m1))
    · exact ih m1 m2
theorem JI.runs {F R : List Lit} (J : JI F R) : RunsI F R := by
  have tot : ∀ r ∈ R, ∀ r' ∈ R, r = r' ∨ hiL r + 2 ≤ loL r' ∨ hiL r' + 2 ≤ loL r := fun r m r' m' => pw_total J.sep m m'
  have run : ∀ r ∈ R, Run F (loL r) (hiL r) := fun r m => by
    have o := (J.one r m).2
    refine ⟨o, fun x h1 h2 => (J.cov x).mpr ⟨r, m, h1, h2⟩, fun h => ?_, fun h => ?_⟩
    · obtain ⟨r', m', q1, q2⟩ := (J.cov _).mp h
      rcases tot r m r' m' with rfl | t | t <;> omega
    · obtain ⟨r', m', q1, q2⟩ := (J.cov _).mp h
      rcases tot r m r' m' with rfl | t | t <;> omega
  refine ⟨fun r => ⟨fun m => ⟨_, _, run r m, J.lit r m⟩, ?_⟩, ?_⟩
  · rintro ⟨a, b, ⟨h1, h2, h3, h4⟩, hl⟩
    obtain ⟨r', m', q1, q2⟩ := (J.cov a).mp (h2 a (by omega) h1)
    have ea : loL r' = a := by
      rcases Int.lt_or_le (loL r') a with z | z
      · exact absurd ((J.cov (a - 1)).mpr ⟨r', m', by omega, by omega⟩) h3
      · omega
    have eb : hiL r' = b := by
      rcases Int.lt_or_le b (hiL r') with z | z
      · exact absurd ((J.cov (b + 1)).mpr ⟨r', m', by omega, by omega⟩) h4
      · rcases Int.lt_or_le (hiL r') b with y | y
        · obtain ⟨r'', m'', q3, q4⟩ := (J.cov (hiL r' + 1)).mp (h2 _ (by omega) (by omega))
          rcases tot r' m' r'' m'' with rfl | t | t <;> omega
        · omega
    have := J.lit r' m'
    rw [ea, eb] at this
    rw [hl.uniq this]
    exact m'
  · refine (List.Pairwise.and_mem.mp J.sep).imp fun {r r'} h => ?_
    have := (J.one r h.1).2
    omega
/-- two sorted lists of the same members -/
theorem sorted_eq {α : Type} {R : α → α → Prop} (irr : ∀ a, ¬ R a a) (asym : ∀ a b, R a b → ¬ R b a) : ∀ {l l' : List α}, l.Pairwise R → l'.Pairwise R → (∀ x, x ∈ l ↔ x ∈ l') → l = l'
  | [], [], _, _, _ => rfl
  | [], y :: _, _, _, h => by have := (h y).mpr (.head _); cases this
  | x :: _, [], _, _, h => by have := (h x).mp (.head _); cases this
  | x :: l, y :: l', h1, h2, h => by
    cases h1 with
    | cons a1 b1 =>
    cases h2 with
    | cons a2 b2 =>
    have e : x = y := by
      rcases List.mem_cons.mp ((h x).mp (.head _)) with q | q
      · exact q
      · rcases List.mem_cons.mp ((h y).mpr (.head _)) with z | z
        · exact z.symm
        · exact absurd (a1 y z) (asym _ _ (a2 x q))
    subst e
    have : l = l' := sorted_eq irr asym b1 b2 fun z => by
      constructor
      · intro m
        rcases List.mem_cons.mp ((h z).mp (.tail _ m)) with q | q
        · subst q; exact absurd (a1 _ m) (irr _)
        · exact q
      · intro m
        rcases List.mem_cons.mp ((h z).mpr (.tail _ m)) with q | q
        · subst q; exact absurd (a2 _ m) (irr _)
        · exact q
    rw [this]
theorem RunsI.uniq {F R R' : List Lit} (h : RunsI F R) (h' : RunsI F R') : R = R' :=
  sorted_eq (fun a => by omega) (fun a b q => by omega) h.srt h'.srt fun r => (h.mem r).trans (h'.mem r).symm
theorem RunsI.congr {F F' R : List Lit} (h : RunsI F R) (e : ∀ l, l ∈ F ↔ l ∈ F') : RunsI F' R := by
  have c : ∀ x, Cov F x ↔ Cov F' x := fun x => ⟨fun ⟨p, m, q⟩ => ⟨p, (e p).mp m, q⟩, fun ⟨p, m, q⟩ => ⟨p, (e p).mpr m, q⟩⟩
  have r : ∀ a b, Run F a b ↔ Run F' a b := fun a b => by unfold Run; simp only [c]
  have i : ∀ a b l, IsLit F a b l ↔ IsLit F' a b l := fun a b l => by unfold IsLit; simp only [e]
  refine ⟨fun l => ?_, h.srt⟩
  rw [h.mem]
  simp only [r, i]
end Mine
-- P11
namespace Mine
open PySem PySem.W PyProof.Rows PySem.Calls
theorem W.rangeE {f : D → Vars → Option Out} {N : Vars → Prop} {R : D → Prop} {Z : Prop} {ρ : Vars} {n : Nat} {enc : Nat → D} (I : Nat → Vars → Prop) (h0 : I 0 ρ)
    (step : ∀ k ρ, k < n → I k ρ → W (f (enc k) ρ) (fun ρ' => I (k + 1) ρ') R Z) (hN : ∀ ρ, I n ρ → N ρ) : W (forL f ((List.range n).map enc) ρ) N R Z := by
  refine W.seq (fun done ρ => I done.length ρ) h0 (fun done x rest ρ e i => ?_) (fun ρ i => hN ρ (by simpa using i))
  have hx : x = done.length ∧ done.length < n := by
    have h1 : (List.range n)[done.length]? = some x := by rw [e]; simp
    rw [List.getElem?_eq_some_iff] at h1
    obtain ⟨h2, h3⟩ := h1
    simp at h2 h3
    exact ⟨h3.symm, h2⟩
  obtain ⟨rfl, hl⟩ := hx
  rw [List.length_append]
  simpa using step _ ρ hl i
theorem ev_comp {Φ : Nat → List D → Option (Except Unit D)} {ρ : Vars} {α : Type} {enc h : α → D} {p : α → Bool} {xs : List α} {elt : X} {it : It} {c : B} {caps : List Nat} {i : Nat} (hit : evIt Φ it ρ = some (xs.map enc)) (hl : xs.length ≤ 1000)
    (hc : ∀ x ∈ xs, evB Φ c (upd (lim caps ρ) i (.fro (enc x))) = some (p x)) (he : ∀ x ∈ xs, p x = true → eval Φ elt (upd (lim caps ρ) i (.fro (enc x))) = some (h x)) : eval Φ (.comp elt [i] it c caps) ρ = some (.list ((xs.filter p).map h)) := by
  rw [qe_comp, hit, Option.bind_some, compL_map (p := p) (h := h)]
  · rw [Option.bind_some, small, if_pos (by simpa using hl)]
  · intro x m
    simp only [qv_bind1, qv_bind2, Option.bind_some, hc x m]
    cases q : p x
    · simp
    · simp [he x m q]
theorem evIt_var {Φ : Nat → List D → Option (Except Unit D)} {ρ : Vars} {i : Nat} {ds : List D} (h : ρ i = some (.fro (.list ds))) : evIt Φ (.seq (.var i)) ρ = some ds := by
  rw [qi_seq, seqV_eval (ev_var _ _ _ _ h)]
  rfl
theorem evIt_own {Φ : Nat → List D → Option (Except Unit D)} {ρ : Vars} {i : Nat} {ds : List D} (h : ρ i = some (.own ds)) : evIt Φ (.seq (.var i)) ρ = some ds := by
  have : seqV (.var i) ρ (eval Φ (.var i) ρ) = some (true, ds) := by simp only [qv_vVar, h]
  rw [qi_seq, this]
  rfl
theorem ev_key {Φ : Nat → List D → Option (Except Unit D)} {ρ : Vars} {a : X} {y : Int} (h : eval Φ a ρ = some (keyD [y])) : eval Φ (.idx a (.lit (.int 0))) ρ = some (.int y) := ev_idx h rfl (ev_lit _ _ _) rfl
theorem evb_chain {Φ : Nat → List D → Option (Except Unit D)} {ρ : Vars} {a b c : X} {o o' : CmpOp} {x y z : Int} {f g : Int → Int → Bool} (h1 : eval Φ a ρ = some (.int x)) (h2 : eval Φ b ρ = some (.int y)) (h3 : eval Φ c ρ = some (.int z)) (hf : cmpI o = some f) (hg : cmpI o' = some g) :
    evB Φ (.chain o o' a b c) ρ = some (f x y && g y z) := by
  rw [qb_chain, h1, h2, h3]
  simp only [Option.bind_some, qv_intD, hf, hg, Option.map_some]
theorem evb_isN {Φ : Nat → List D → Option (Except Unit D)} {ρ : Vars} {a : X} {d : D} (h : eval Φ a ρ = some d) : evB Φ (.isN a) ρ = some (isNoneD d) := by rw [qb_isN, h]; rfl
theorem evb_notN {Φ : Nat → List D → Option (Except Unit D)} {ρ : Vars} {a : X} {d : D} (h : eval Φ a ρ = some d) : evB Φ (.notN a) ρ = some (!isNoneD d) := by rw [qb_notN, h]; rfl
structure RU (F : List Lit) (z : Int) (R : List Lit) : Prop where
  mem : ∀ r, r ∈ R ↔ ∃ a b, Run F a b ∧ b + 2 ≤ z ∧ IsLit F a b r
  srt : R.Pairwise fun r r' => loL r < loL r'
theorem RU.skip {F R : List Lit} {z : Int} (h : RU F z R) (hc : Cov F z ∨ ¬ Cov F (z - 1)) : RU F (z + 1) R := by
  refine ⟨fun r => (h.mem r).trans ⟨fun ⟨a, b, q1, q2, q3⟩ => ⟨a, b, q1, by omega, q3⟩, fun ⟨a, b, q1, q2, q3⟩ => ⟨a, b, q1, ?_, q3⟩⟩, h.srt⟩
  by_cases e : b + 2 ≤ z
  · exact e
  · exfalso
    rcases hc with hc | hc
    · have : b + 1 = z := by omega
      exact q1.2.2.2 (by rw [this]; exact hc)
    · have : b = z - 1 := by omega
      exact hc (by rw [← this]; exact q1.2.1 b q1.1 (by omega))
theorem RU.add {F R : List Lit} {z a : Int} {l : Lit} (h : RU F z R) (hr : Run F a (z - 1)) (hl : IsLit F a (z - 1) l) : RU F (z + 1) (R ++ [l]) := by
  refine ⟨fun r => ⟨fun m => ?_, ?_⟩, List.pairwise_append.mpr ⟨h.srt, List.pairwise_singleton _ _, fun r m y hy => ?_⟩⟩
  · rcases List.mem_append.mp m with m | m
    · obtain ⟨a', b', q1, q2, q3⟩ := (h.mem r).mp m
      exact ⟨a', b', q1, by omega, q3⟩
    · rw [List.mem_singleton] at m; subst m
      exact ⟨a, z - 1, hr, by omega, hl⟩
  · rintro ⟨a', b', q1, q2, q3⟩
    by_cases e : b' + 2 ≤ z
    · exact List.mem_append_left _ ((h.mem r).mpr ⟨a', b', q1, e, q3⟩)
    · have eb : b' = z - 1 := by omega
      subst eb
      have ea : a' = a := by
        rcases Int.lt_trichotomy a' a with q | q | q
        · exact absurd (q1.2.1 (a - 1) (by omega) (by have := hr.1; omega)) hr.2.2.1
        · exact q
        · exact absurd (hr.2.1 (a' - 1) (by omega) (by have := q1.1; omega)) q1.2.2.1
      subst ea
      rw [q3.uniq hl]
      simp
  · rw [List.mem_singleton] at hy; subst hy
    obtain ⟨a', b', q1, q2, q3⟩ := (h.mem r).mp m
    have h1 := q3.lo q1.1
    have h2 := hl.lo hr.1
    have : b' < a := by
      rcases Int.lt_or_le b' a with q | q
      · exact q
      · exact absurd (hr.2.1 (b' + 1) (by omega) (by omega)) q1.2.2.2
    omega
noncomputable def inR (a y : Int) (l : Lit) : Bool := decide (a ≤ loL l) && decide (loL l < y)
theorem filt_one {F : List Lit} {a y : Int} {o : Lit} (h : F.filter (inR a y) = [o]) : IsLit F a (y - 1) o := by
  have ho : o ∈ F.filter (inR a y) := by rw [h]; simp
  have h1 := List.mem_filter.mp ho
  have h2 := h1.2
  simp only [inR, Bool.and_eq_true, decide_eq_true_eq] at h2
  refine .inl ⟨o, h1.1, h2.1, by omega, fun o' m q1 q2 => ?_, rfl⟩
  have : o' ∈ F.filter (inR a y) := List.mem_filter.mpr ⟨m, by simp only [inR, Bool.and_eq_true, decide_eq_true_eq]; omega⟩
  rw [h] at this
  exact List.mem_singleton.mp this
theorem filt_two {F : List Lit} {a y : Int} (nd : F.Nodup) (h : (F.filter (inR a y)).length ≠ 1) (ne : F.filter (inR a y) ≠ []) : IsLit F a (y - 1) (mkL a (y - 1)) := by
  have nd' := nd.filter (inR a y)
  rcases q : F.filter (inR a y) with _ | ⟨o, _ | ⟨o', r⟩⟩
  · exact absurd q ne
  · rw [q] at h; simp at h
  · have m1 : o ∈ F.filter (inR a y) := by rw [q]; simp
    have m2 : o' ∈ F.filter (inR a y) := by rw [q]; simp
    have h1 := List.mem_filter.mp m1
    have h2 := List.mem_filter.mp m2
    have p1 := h1.2
    have p2 := h2.2
    simp only [inR, Bool.and_eq_true, decide_eq_true_eq] at p1 p2
    refine .inr ⟨⟨o, h1.1, o', h2.1, fun e => ?_, ⟨p1.1, by omega⟩, p2.1, by omega⟩, rfl⟩
    rw [q] at nd'
    subst e
    simp at nd'
structure RS (F : List Lit) (base : Int) (k : Nat) (ρ : Vars) : Prop where
  h0 : ρ 0 = some (.fro (.list (F.map litD)))
  rr : ∃ R, ρ 2 = some (.own (R.map litD)) ∧ RU F (base + k) R ∧ R.length ≤ k
  bg : (ρ 3 = some (.fro .none) ∧ ¬ Cov F (base + k - 1)) ∨ ∃ a, ρ 3 = some (.fro (.int a)) ∧ a ≤ base + k - 1 ∧ (∀ y, a ≤ y → y ≤ base + k - 1 → Cov F y) ∧ ¬ Cov F (a - 1)
noncomputable abbrev runsBody : SS := (.cons (.set 6 (.cmp .Lt (.lit (.int 0)) (.len (.comp (.var 5) [5] (.seq (.var 0)) (.val (.call 11 (.cons (.idx (.var 5) (.lit (.int 0))) (.cons (.var 4) .nil)))) [4])))) (.cons (.ite (.and (.val (.var 6)) (.isN (.var 3))) (.cons (.set 3 (.idx (.var 4) (.lit (.int 0)))) .nil) .nil) (.cons (.ite (.and (.not (.val (.var 6))) (.notN (.var 3))) (.cons (.set 7 (.comp (.var 5) [5] (.seq (.var 0)) (.chain .LtE .Lt (.var 3) (.idx (.idx (.idx (.var 5) (.lit (.int 0))) (.lit (.int 0))) (.lit (.int 0))) (.idx (.var 4) (.lit (.int 0)))) [3, 4])) (.cons (.ite (.cmp .Eq (.len (.var 7)) (.lit (.int 1))) (.cons (.app 2 (.idx (.var 7) (.lit (.int 0)))) .nil) (.cons (.app 2 (.tup (.cons (.tup (.cons (.tup (.cons (.var 3) (.cons (.bin .Sub (.idx (.var 4) (.lit (.int 0))) (.lit (.int 1))) .nil))) .nil)) (.cons (.lit .none) (.cons (.lit (.int 0)) (.cons (.lit (.str (Str.ofString ""))) .nil)))))) .nil)) (.cons (.set 3 (.lit .none)) .nil))) .nil) .nil)))
theorem runs_step {F : List Lit} {base : Int} {k : Nat} {ρ : Vars} {R : D → Prop} {Z : Prop} (hF : F.length ≤ 6) (one : ∀ l ∈ F, One l) (nd : F.Nodup) (hk : k ≤ 100) (I : RS F base k ρ) :
    W (execs whyC (rs Phi 12) runsBody (upd ρ 4 (.fro (keyD [base + k])))) (fun ρ' => RS F base (k + 1) ρ') R Z := by
  obtain ⟨h0, ⟨Rl, h2, U, hlen⟩, bg⟩ := I
  generalize hσ : upd ρ 4 (.fro (keyD [base + k])) = σ
  have s0 : σ 0 = some (.fro (.list (F.map litD))) := by rw [← hσ]; simp [upd, h0]
  have s2 : σ 2 = some (.own (Rl.map litD)) := by rw [← hσ]; simp [upd, h2]
  have s4 : σ 4 = some (.fro (keyD [base + k])) := by rw [← hσ]; simp [upd]
  have s3 : σ 3 = ρ 3 := by rw [← hσ]; simp [upd]
  have ek : ∀ τ : Vars, τ 4 = σ 4 → eval (rs Phi 12) (.idx (.var 4) (.lit (.int 0))) τ = some (.int (base + k)) := fun τ h => ev_key (ev_var _ _ _ _ (h.trans s4))
  have c1 : eval (rs Phi 12) (.comp (.var 5) [5] (.seq (.var 0)) (.val (.call 11 (.cons (.idx (.var 5) (.lit (.int 0))) (.cons (.var 4) .nil)))) [4]) σ = some (.list ((F.filter fun l => hasK l.box [base + k]).map litD)) := by
    refine ev_comp (enc := litD) (evIt_var s0) (by omega) (fun l m => ?_) (fun l m _ => ev_var _ _ _ _ (by simp [upd]))
    have x5 : eval (rs Phi 12) (.var 5) (upd (lim [4] σ) 5 (.fro (litD l))) = some (litD l) := ev_var _ _ _ _ (by simp [upd])
    have x4 : eval (rs Phi 12) (.var 4) (upd (lim [4] σ) 5 (.fro (litD l))) = some (keyD [base + k]) := ev_var _ _ _ _ (by simp [upd, lim, s4])
    exact evb_call (ev_call (evs_cons (ev_box x5) (evs_cons x4 evs_nil)) (by decide) (law_has_spec (one l m).dim rfl))
  have hcov : (decide ((0 : Int) < (((F.filter fun l => hasK l.box [base + k]).map litD).length : Nat))) = true ↔ Cov F (base + k) := by
    rw [decide_eq_true_eq, List.length_map]
    have : (0 : Int) < ((F.filter fun l => hasK l.box [base + k]).length : Nat) ↔ 0 < (F.filter fun l => hasK l.box [base + k]).length := by omega
    rw [this, List.length_pos_iff_exists_mem]
    have hb : ∀ l ∈ F, (hasK l.box [base + k] = true ↔ loL l ≤ base + k ∧ base + k ≤ hiL l) := fun l m => by
      rw [(one l m).1]
      simp [p_hc, p_h0, hasK_all]
    constructor
    · rintro ⟨l, m⟩
      obtain ⟨m1, m2⟩ := List.mem_filter.mp m
      exact ⟨l, m1, (hb l m1).mp m2⟩
    · rintro ⟨l, m, q⟩
      exact ⟨l, List.mem_filter.mpr ⟨m, (hb l m).mpr q⟩⟩
  have e1 : eval (rs Phi 12) (.cmp .Lt (.lit (.int 0)) (.len (.comp (.var 5) [5] (.seq (.var 0)) (.val (.call 11 (.cons (.idx (.var 5) (.lit (.int 0))) (.cons (.var 4) .nil)))) [4]))) σ = some (.bool (decide ((0 : Int) < (((F.filter fun l => hasK l.box [base + k]).map litD).length : Nat)))) :=
    ev_cmp (u := 0) (f := fun a b => decide (a < b)) (ev_lit _ _ _) (ev_len c1 rfl (by have := List.length_filter_le (fun l => hasK l.box [base + k]) F; simp; omega)) rfl
  refine W.cons (W.set e1 ?_)
  generalize decide ((0 : Int) < (((F.filter fun l => hasK l.box [base + k]).map litD).length : Nat)) = t at hcov
  generalize hτ : upd σ 6 (.fro (.bool t)) = τ
  have t0 : τ 0 = some (.fro (.list (F.map litD))) := by rw [← hτ]; simp [upd, s0]
  have t2 : τ 2 = some (.own (Rl.map litD)) := by rw [← hτ]; simp [upd, s2]
  have t4 : τ 4 = σ 4 := by rw [← hτ]; simp [upd]
  have t6 : τ 6 = some (.fro (.bool t)) := by rw [← hτ]; simp [upd]
  have t3 : τ 3 = ρ 3 := by rw [← hτ]; simp [upd, s3]
  have z1 : base + ((k + 1 : Nat) : Int) = base + k + 1 := by omega
  have z2 : base + k + 1 - 1 = base + (k : Int) := by omega
  cases t with
  | true =>
    have hc := hcov.mp rfl
    have U' := U.skip (.inl hc)
    rcases bg with ⟨h3, hn⟩ | ⟨a, h3, ha, hall, hn⟩
    · refine W.cons (W.ite (t := true) (evb_and (evb_fro t6) fun _ => evb_isN (ev_var _ _ _ _ (t3.trans h3))) (fun _ => W.cons (W.set (ek τ t4) (W.nil ?_))) (fun h => by cases h))
      refine W.cons (W.ite (t := false) (evb_and (t := false) (u := false) (evb_not (evb_fro (j := 6) (b := true) (by simp [upd, t6]))) fun h => by cases h) (fun h => by cases h) (fun _ => W.nil (W.nil ?_)))
      refine ⟨by simp [upd, t0], ⟨Rl, by simp [upd, t2], by rw [z1]; exact U', by omega⟩, .inr ⟨base + k, by simp [upd], by omega, fun y q1 q2 => ?_, hn⟩⟩
      have : y = base + k := by omega
      rw [this]; exact hc
    · refine W.cons (W.ite (t := false) (evb_and (u := false) (evb_fro t6) fun _ => evb_isN (ev_var _ _ _ _ (t3.trans h3))) (fun h => by cases h) (fun _ => W.nil ?_))
      refine W.cons (W.ite (t := false) (evb_and (t := false) (u := false) (evb_not (evb_fro t6)) fun h => by cases h) (fun h => by cases h) (fun _ => W.nil (W.nil ?_)))
      refine ⟨t0, ⟨Rl, t2, by rw [z1]; exact U', by omega⟩, .inr ⟨a, t3.trans h3, by omega, fun y q1 q2 => ?_, hn⟩⟩
      by_cases q : y = base + k
      · rw [q]; exact hc
      · exact hall y q1 (by omega)
  | false =>
    have hc : ¬ Cov F (base + k) := fun h => by have := hcov.mpr h; cases this
    refine W.cons (W.ite (t := false) (evb_and (t := false) (u := false) (evb_fro t6) fun h => by cases h) (fun h => by cases h) (fun _ => W.nil ?_))
    rcases bg with ⟨h3, hn⟩ | ⟨a, h3, ha, hall, hn⟩
    · refine W.cons (W.ite (t := false) (evb_and (u := false) (evb_not (evb_fro t6)) fun _ => evb_notN (ev_var _ _ _ _ (t3.trans h3))) (fun h => by cases h) (fun _ => W.nil (W.nil ?_)))
      exact ⟨t0, ⟨Rl, t2, by rw [z1]; exact U.skip (.inr hn), by omega⟩, .inl ⟨t3.trans h3, by rw [z1, z2]; exact hc⟩⟩
    · have hrun : Run F a (base + k - 1) := ⟨by omega, hall, hn, by rw [show base + (k : Int) - 1 + 1 = base + k by omega]; exact hc⟩
      have c2 : eval (rs Phi 12) (.comp (.var 5) [5] (.seq (.var 0)) (.chain .LtE .Lt (.var 3) (.idx (.idx (.idx (.var 5) (.lit (.int 0))) (.lit (.int 0))) (.lit (.int 0))) (.idx (.var 4) (.lit (.int 0)))) [3, 4]) τ = some (.list ((F.filter (inR a (base + k))).map litD)) := by
        refine ev_comp (enc := litD) (evIt_var t0) (by omega) (fun l m => ?_) (fun l m _ => ev_var _ _ _ _ (by simp [upd]))
        have x5 : eval (rs Phi 12) (.var 5) (upd (lim [3, 4] τ) 5 (.fro (litD l))) = some (litD l) := ev_var _ _ _ _ (by simp [upd])
        exact evb_chain (o := .LtE) (o' := .Lt) (f := fun a b => decide (a ≤ b)) (g := fun a b => decide (a < b)) (ev_var _ 3 (.int a) _ (by simp [upd, lim, t3, h3])) (ev_lo x5 (one l m).dim) (ek _ (by simp [upd, lim, t4])) rfl rfl
      have hfl := List.length_filter_le (inR a (base + k)) F
      refine W.cons (W.ite (t := true) (evb_and (evb_not (evb_fro t6)) fun _ => evb_notN (ev_var _ _ _ _ (t3.trans h3))) (fun _ => ?_) (fun h => by cases h))
      refine W.cons (W.set c2 ?_)
      have hne : F.filter (inR a (base + k)) ≠ [] := by
        obtain ⟨p, mp, q1, q2⟩ := hall a (by omega) ha
        have : loL p = a := by
          rcases Int.lt_or_le (loL p) a with z | z
          · exact absurd ⟨p, mp, by omega, by omega⟩ hn
          · omega
        refine List.ne_nil_of_mem (a := p) (List.mem_filter.mpr ⟨mp, ?_⟩)
        simp only [inR, Bool.and_eq_true, decide_eq_true_eq]
        omega
      have e7 : ∀ υ : Vars, υ 7 = some (.fro (.list ((F.filter (inR a (base + k))).map litD))) → evB (rs Phi 12) (.cmp .Eq (.len (.var 7)) (.lit (.int 1))) υ = some (((((F.filter (inR a (base + k))).map litD).length : Nat) : Int) == 1) := fun υ h =>
        evb_cmp (ev_len (ev_var _ _ _ _ h) rfl (by simp; omega)) (ev_lit _ _ _) rfl
      have fin : ∀ (l : Lit), IsLit F a (base + k - 1) l → RS F base (k + 1) (upd (upd (upd τ 7 (.fro (.list ((F.filter (inR a (base + k))).map litD)))) 2 (.own (Rl.map litD ++ [litD l]))) 3 (.fro .none)) := fun l hl => by
        refine ⟨by simp [upd, t0], ⟨Rl ++ [l], by simp [upd], by rw [z1]; exact U.add hrun hl, by simp; omega⟩, .inl ⟨by simp [upd], by rw [z1, z2]; exact hc⟩⟩
      refine W.cons (W.ite (e7 _ (by simp [upd])) (fun h => ?_) (fun h => ?_))
      · obtain ⟨o, ho⟩ : ∃ o, F.filter (inR a (base + k)) = [o] := by
          have : (F.filter (inR a (base + k))).length = 1 := by simp at h; omega
          exact List.length_eq_one_iff.mp this
        refine W.cons (W.app (ds := Rl.map litD) (d := litD o) (by simp [upd, t2]) (by simp; omega) ?_ (W.nil (W.cons (W.set (ev_lit _ _ _) (W.nil (W.nil (fin o (filt_one ho))))))))
        refine ev_idx (ev_var _ _ _ _ (by simp [upd]; rfl)) rfl (ev_lit _ _ _) ?_
        rw [ho]
        rfl
      · have hl1 : (F.filter (inR a (base + k))).length ≠ 1 := fun q => by simp [q] at h
        refine W.cons (W.app (ds := Rl.map litD) (d := litD (mkL a (base + k - 1))) (by simp [upd, t2]) (by simp; omega) ?_ (W.nil (W.cons (W.set (ev_lit _ _ _) (W.nil (W.nil (fin _ (filt_two nd hl1 hne))))))))
        have x3 := ev_var (rs Phi 12) 3 (.int a) (upd τ 7 (.fro (.list ((F.filter (inR a (base + k))).map litD)))) (by simp [upd, t3, h3])
        have x4 : eval (rs Phi 12) (.bin .Sub (.idx (.var 4) (.lit (.int 0))) (.lit (.int 1))) (upd τ 7 (.fro (.list ((F.filter (inR a (base + k))).map litD)))) = some (.int (base + k - 1)) := ev_bin _ _ _ _ _ (.int (base + k)) (.int 1) (ek _ (by simp [upd, t4])) (ev_lit _ _ _)
        exact ev_tup (evs_cons (ev_tup (evs_cons (ev_tup (evs_cons x3 (evs_cons x4 evs_nil)) (by simp)) evs_nil) (by simp [mkL])) (evs_cons (ev_lit _ _ _) (evs_cons (ev_lit _ _ _) (evs_cons (ev_lit _ _ _) evs_nil)))) (by simp)
theorem law_runs_spec {F : List Lit} {base : Int} {at_ : Nat} (hF : F.length ≤ 6) (one : ∀ l ∈ F, One l) (nd : F.Nodup) (hat : at_ ≤ 40) (hbx : ∀ l ∈ F, base + 1 ≤ loL l ∧ hiL l < base + at_) :
    ∃ R, Phi 12 [.list (F.map litD), .list (((List.range (at_ + 1)).map (fun k : Nat => [base + (k : Int)])).map keyD)] = some (.ok (.tuple (R.map litD))) ∧ RunsI F R := by
  suffices h : ∃ d, Phi 12 [.list (F.map litD), .list (((List.range (at_ + 1)).map (fun k : Nat => [base + (k : Int)])).map keyD)] = some (.ok d) ∧ ∃ R, d = .tuple (R.map litD) ∧ RunsI F R by
    obtain ⟨_, h, t, rfl, h2⟩ := h
    exact ⟨t, h, h2⟩
  refine Phi_ok (by rfl) ?_
  show W (execs whyC (rs Phi 12) ss_law_runs _) _ _ _
  generalize hρ : args0 [.list (F.map litD), .list (((List.range (at_ + 1)).map (fun k : Nat => [base + (k : Int)])).map keyD)] = ρ
  have h0 : ρ 0 = some (.fro (.list (F.map litD))) := by rw [← hρ]; rfl
  have h1 : ρ 1 = some (.fro (.list (((List.range (at_ + 1)).map (fun k : Nat => [base + (k : Int)])).map keyD))) := by rw [← hρ]; rfl
  refine W.cons (W.own (ds := []) evs_nil (by simp) (W.cons (W.set (ev_lit _ _ _) (W.cons ?_))))
  generalize hσ : upd (upd ρ 2 (.own [])) 3 (.fro .none) = σ
  have s0 : σ 0 = some (.fro (.list (F.map litD))) := by rw [← hσ]; simp [upd, h0]
  have s1 : σ 1 = some (.fro (.list (((List.range (at_ + 1)).map (fun k : Nat => [base + (k : Int)])).map keyD))) := by rw [← hσ]; simp only [upd]; exact h1
  have s2 : σ 2 = some (.own []) := by rw [← hσ]; simp [upd]
  have s3 : σ 3 = some (.fro .none) := by rw [← hσ]; simp [upd]
  have x1 := ev_var (rs Phi 12) _ _ _ s1
  have xl : eval (rs Phi 12) (.len (.var 1)) σ = some (.int ((at_ + 1 : Nat) : Int)) := by
    have := ev_len x1 rfl (by simp; omega)
    simpa using this
  have xi : eval (rs Phi 12) (.idx (.var 1) (.bin .Sub (.len (.var 1)) (.lit (.int 1)))) σ = some (keyD [base + (at_ : Int)]) := by
    refine ev_idx x1 rfl (ev_bin _ _ _ _ _ (.int ((at_ + 1 : Nat) : Int)) (.int 1) xl (ev_lit _ _ _)) (idxD_map (by omega) ?_ (by simp; omega))
    have : (((at_ + 1 : Nat) : Int) - 1).toNat = at_ := by omega
    rw [this]
    simp
  have hit : evItF (rs Phi 12) (.seq (.bin .Add (.var 1) (.lst (.cons (.tup (.cons (.bin .Add (.idx (.idx (.var 1) (.bin .Sub (.len (.var 1)) (.lit (.int 1)))) (.lit (.int 0))) (.lit (.int 1))) .nil)) .nil)))) σ = some ((List.range (at_ + 2)).map fun k : Nat => keyD [base + (k : Int)]) := by
    have y1 : eval (rs Phi 12) (.bin .Add (.idx (.idx (.var 1) (.bin .Sub (.len (.var 1)) (.lit (.int 1)))) (.lit (.int 0))) (.lit (.int 1))) σ = some (.int (base + at_ + 1)) := ev_bin _ _ _ _ _ (.int (base + at_)) (.int 1) (ev_key xi) (ev_lit _ _ _)
    have y2 : eval (rs Phi 12) (.lst (.cons (.tup (.cons (.bin .Add (.idx (.idx (.var 1) (.bin .Sub (.len (.var 1)) (.lit (.int 1)))) (.lit (.int 0))) (.lit (.int 1))) .nil)) .nil)) σ = some (.list [keyD [base + at_ + 1]]) := by
      rw [qe_lst, evs_cons (ev_tup (evs_cons y1 evs_nil) (by simp)) evs_nil]
      rfl
    rw [qf_seq, ev_bin _ _ _ _ _ _ _ x1 y2, show ∀ x y : List D, binD .Add (.list x) (.list y) = (if x.length + y.length ≤ 1000 then some (.list (x ++ y)) else none) from fun _ _ => rfl, if_pos (by simp; omega)]
    simp only [Option.bind_some, qv_seqL, qv_seqT, Option.map_some]
    rw [List.range_succ (n := at_ + 1), List.map_append, List.map_map]
    simp only [List.map_cons, List.map_nil]
    rw [show base + ((at_ + 1 : Nat) : Int) = base + at_ + 1 by omega]
    rfl
  simp only [qx_set, qx_own, qx_set2, qx_app, qx_last, qx_inc, qx_frz, qx_ret, qx_ite, qx_for, qx_while, qx_raise, qx_run, qx_get, qx_try, hit, Option.bind_some]
  have nocov : ∀ x, Cov F x → base + 1 ≤ x ∧ x < base + at_ := fun x ⟨p, m, q1, q2⟩ => by have := hbx p m; omega
  refine W.rangeE (enc := fun k : Nat => keyD [base + (k : Int)]) (fun k ρ => RS F base k ρ) ⟨s0, ⟨[], s2, ⟨fun r => ⟨fun h => (by cases h), fun ⟨a, b, q1, q2, q3⟩ => ?_⟩, .nil⟩, by simp⟩, .inl ⟨s3, fun h => ?_⟩⟩ ?_ ?_
  · have := nocov b (q1.2.1 b q1.1 (by omega))
    omega
  · have := nocov _ h
    omega
  · intro k ρ hk I
    simp only [qv_bind1, qv_bind2, Option.bind_some]
    exact runs_step hF one nd (by omega) I
  · rintro ρ ⟨h0, ⟨R, h2, U, hl⟩, _⟩
    refine W.cons (W.ret (d := .tuple (R.map litD)) ?_ ⟨R, rfl, ⟨fun r => (U.mem r).trans ⟨fun ⟨a, b, q1, q2, q3⟩ => ⟨a, b, q1, q3⟩, fun ⟨a, b, q1, q3⟩ => ⟨a, b, q1, ?_, q3⟩⟩, U.srt⟩⟩)
    · have : seqV (.var 2) ρ (eval (rs Phi 12) (.var 2) ρ) = some (true, R.map litD) := by simp only [qv_vVar, h2]
      rw [qe_tupOf, this, Option.bind_some, if_pos rfl, small, if_pos (by simp; omega)]
    · have := nocov b (q1.2.1 b q1.1 (by omega))
      omega
end Mine
-- P12
namespace Mine
open PySem PySem.W PyProof.Rows PySem.Calls
theorem First.snoc {L : List Lit} {x l : Lit} : First (L ++ [x]) l ↔ First L l ∨ (l = x ∧ ∀ y ∈ L, y.box ≠ x.box) := by
  unfold First
  rw [List.find?_append]
  rcases q : L.find? (sameB l.box) with _ | f
  · have hn := List.find?_eq_none.mp q
    simp only [Option.none_or, List.find?_singleton, reduceCtorEq, false_or]
    constructor
    · intro h
      split at h
      · have e : x = l := Option.some.inj h
        subst e
        exact ⟨rfl, fun y m e => hn y m (by simp [sameB, e])⟩
      · cases h
    · rintro ⟨rfl, _⟩
      simp [sameB]
  · simp only [Option.some_or]
    constructor
    · exact .inl
    · rintro (h | ⟨rfl, h⟩)
      · exact h
      · have m := List.mem_of_find?_eq_some q
        have := List.find?_some q
        exact absurd (by simpa [sameB] using this) (h f m)
theorem First.app {L M : List Lit} {l : Lit} (h : First L l) : First (L ++ M) l := by
  unfold First at h ⊢
  rw [List.find?_append, h]
  rfl
structure Firsts (L F : List Lit) : Prop where
  mem : ∀ l, l ∈ F ↔ First L l
  bx : F.Pairwise fun a b => a.box ≠ b.box
  ok : ∀ l ∈ L, ∀ f, First L f → f.box = l.box → f.data = l.data
  len : F.length ≤ L.length
theorem Firsts.nd {L F : List Lit} (h : Firsts L F) : F.Nodup := h.bx.imp fun {a b} q e => q (by rw [e])
theorem Firsts.good {m : Nat} {L F : List Lit} (T : Firsts L F) (G : Good m L) : Good m F :=
  ⟨Nat.le_trans T.len G.len, fun l h => G.dim l ((T.mem l).mp h).mem, fun l h => G.data l ((T.mem l).mp h).mem⟩
theorem Firsts.add {L F : List Lit} {x : Lit} (h : Firsts L F) (hn : ∀ f ∈ F, f.box ≠ x.box) : Firsts (L ++ [x]) (F ++ [x]) := by
  have nb : ∀ y ∈ L, y.box ≠ x.box := fun y m e => by
    obtain ⟨f, hf, hb⟩ := First.ex m
    exact hn f ((h.mem f).mpr hf) (hb.trans e)
  refine ⟨fun l => ?_, List.pairwise_append.mpr ⟨h.bx, List.pairwise_singleton _ _, fun f m y hy => by rw [List.mem_singleton] at hy; subst hy; exact hn f m⟩, fun l m f hf hb => ?_, by simp; exact h.len⟩
  · rw [First.snoc, ← h.mem, List.mem_append, List.mem_singleton]
    exact ⟨fun q => q.imp id fun e => ⟨e, nb⟩, fun q => q.imp id fun e => e.1⟩
  · rcases First.snoc.mp hf with hf2 | ⟨e2, _⟩ <;> rcases List.mem_append.mp m with m2 | m2
    · exact h.ok l m2 f hf2 hb
    · rw [List.mem_singleton] at m2
      exact absurd (hb.trans (by rw [m2])) (nb f hf2.mem)
    · exact absurd (hb.symm.trans (by rw [e2])) (nb l m2)
    · rw [List.mem_singleton] at m2; rw [m2, e2]
theorem Firsts.same {L F : List Lit} {x f : Lit} (h : Firsts L F) (hf : f ∈ F) (hb : f.box = x.box) (hd : f.data = x.data) : Firsts (L ++ [x]) F := by
  have ff := (h.mem f).mp hf
  have e : ∀ l, First (L ++ [x]) l ↔ First L l := fun l => by
    rw [First.snoc]
    exact ⟨fun q => q.elim id fun q => absurd hb (q.2 f ff.mem), .inl⟩
  refine ⟨fun l => by rw [e, h.mem], h.bx, fun l m g hg hgb => ?_, by have := h.len; simp; omega⟩
  rw [e] at hg
  rcases List.mem_append.mp m with m | m
  · exact h.ok l m g hg hgb
  · rw [List.mem_singleton] at m; subst m
    rw [hg.uniq ff (hgb.trans hb.symm)]
    exact hd
theorem Firsts.noConf {L F : List Lit} (h : Firsts L F) : ¬ Conf L := fun ⟨l, m, f, hf, hb, hd⟩ => hd (h.ok l m f hf hb)
noncomputable def Over (F : List Lit) (keys : List (List Int)) : Prop := ∃ k ∈ keys, 1 < (F.filter fun l => hasK l.box k).length
noncomputable def confD : D := .str (Str.ofString "conflicting intervals specified")
noncomputable def DueRes (L : List Lit) (keys : List (List Int)) (d : D) : Prop :=
  (Conf L ∧ d = confD) ∨ ∃ F, Firsts L F ∧ ((ForJ F ∧ ∃ R, d = .tuple (R.map litD) ∧ RunsI F R) ∨ (¬ ForJ F ∧ Over F keys ∧ d = confD) ∨ (¬ ForJ F ∧ ¬ Over F keys ∧ d = .tuple (((sortZ F.zipIdx).map (·.1)).map litD)))
theorem flatL_spans : ∀ b : List (Int × Int), flatL (b.map spanD) = some ((flat b).map .int)
  | [] => rfl
  | p :: b => by
    simp only [List.map_cons, flatL, spanD, qv_items, Option.bind_some, flatL_spans b, Option.map_some, flat, List.flatMap_cons]
    rfl
noncomputable abbrev dueA : SS := (.cons (.set 5 (.comp (.var 4) [4] (.seq (.var 2)) (.eq (.idx (.var 4) (.lit (.int 0))) (.idx (.var 3) (.lit (.int 0)))) [3])) (.cons (.ite (.not (.val (.var 5))) (.cons (.app 2 (.var 3)) .nil) (.cons (.ite (.ne (.idx (.idx (.var 5) (.lit (.int 0))) (.lit (.int 1))) (.idx (.var 3) (.lit (.int 1)))) (.cons (.ret (.lit (.str (Str.ofString "conflicting intervals specified")))) .nil) .nil) .nil)) .nil))
theorem due_A {m : Nat} {L done rest F : List Lit} {x : Lit} {keys : List (List Int)} {ρ : Vars} {Z : Prop} (G : Good m L) (e : L = done ++ x :: rest) (h1 : ρ 1 = some (.fro (.list (keys.map keyD)))) (h2 : ρ 2 = some (.own (F.map litD))) (I : Firsts done F) :
    W (execs whyC (rs Phi 13) dueA (upd ρ 3 (.fro (litD x)))) (fun ρ' => ρ' 1 = some (.fro (.list (keys.map keyD))) ∧ ∃ F, ρ' 2 = some (.own (F.map litD)) ∧ Firsts (done ++ [x]) F) (DueRes L keys) Z := by
  have hxL : x ∈ L := by rw [e]; simp
  have hdL : ∀ y ∈ done, y ∈ L := fun y m => by rw [e]; exact List.mem_append_left _ m
  have hFL : ∀ f ∈ F, f ∈ L := fun f m => hdL f ((I.mem f).mp m).mem
  have hFl : F.length ≤ 6 := by
    have h1 := I.len
    have h2 := congrArg List.length e
    have := G.len
    simp at h2
    omega
  generalize hσ : upd ρ 3 (.fro (litD x)) = σ
  have s1 : σ 1 = some (.fro (.list (keys.map keyD))) := by rw [← hσ]; simp only [upd]; exact h1
  have s2 : σ 2 = some (.own (F.map litD)) := by rw [← hσ]; simp [upd, h2]
  have s3 : σ 3 = some (.fro (litD x)) := by rw [← hσ]; simp [upd]
  have c1 : eval (rs Phi 13) (.comp (.var 4) [4] (.seq (.var 2)) (.eq (.idx (.var 4) (.lit (.int 0))) (.idx (.var 3) (.lit (.int 0)))) [3]) σ = some (.list ((F.filter fun f => decide (f.box = x.box)).map litD)) := by
    refine ev_comp (enc := litD) (evIt_own s2) (by omega) (fun l ml => ?_) (fun l m _ => ev_var _ _ _ _ (by simp [upd]))
    have x4 : eval (rs Phi 13) (.var 4) (upd (lim [3] σ) 4 (.fro (litD l))) = some (litD l) := ev_var _ _ _ _ (by simp [upd])
    have x3 : eval (rs Phi 13) (.var 3) (upd (lim [3] σ) 4 (.fro (litD l))) = some (litD x) := ev_var _ _ _ _ (by simp [upd, lim, s3])
    rw [evb_eq (ev_box x4) (ev_box x3) (box_layOk _) (box_layOk _), box_eqv]
  refine W.cons (W.set c1 ?_)
  have hfl := List.length_filter_le (fun f => decide (f.box = x.box)) F
  generalize hτ : upd σ 5 (.fro (.list ((F.filter fun f => decide (f.box = x.box)).map litD))) = τ
  have t1 : τ 1 = some (.fro (.list (keys.map keyD))) := by rw [← hτ]; simp only [upd]; exact s1
  have t2 : τ 2 = some (.own (F.map litD)) := by rw [← hτ]; simp [upd, s2]
  have t3 : τ 3 = some (.fro (litD x)) := by rw [← hτ]; simp [upd, s3]
  have t5 : τ 5 = some (.fro (.list ((F.filter fun f => decide (f.box = x.box)).map litD))) := by rw [← hτ]; simp [upd]
  refine W.cons (W.ite (evb_not (evb_froL t5 (by simp; omega))) (fun h => ?_) (fun h => ?_))
  · have hn : ∀ f ∈ F, f.box ≠ x.box := fun f m q => by
      have : f ∈ F.filter fun f => decide (f.box = x.box) := List.mem_filter.mpr ⟨m, by simp [q]⟩
      rcases z : F.filter (fun f => decide (f.box = x.box)) with _ | ⟨y, r⟩
      · rw [z] at this; cases this
      · rw [z] at h; simp at h
    refine W.cons (W.app t2 (by simp; omega) (ev_var _ _ _ _ t3) (W.nil (W.nil ⟨?_, F ++ [x], by simp [upd], I.add hn⟩)))
    simp only [upd]; exact t1
  · rcases z : F.filter (fun f => decide (f.box = x.box)) with _ | ⟨f, r⟩
    · rw [z] at h; simp at h
    · have hf : f ∈ F.filter fun f => decide (f.box = x.box) := by rw [z]; simp
      obtain ⟨m1, m2⟩ := List.mem_filter.mp hf
      have hb : f.box = x.box := by simpa using m2
      rw [z] at t5
      have xf : eval (rs Phi 13) (.idx (.var 5) (.lit (.int 0))) τ = some (litD f) := ev_idx (ev_var _ _ _ _ t5) rfl (ev_lit _ _ _) (idxD_map (xs := f :: r) (by omega) rfl (by rw [← z]; omega))
      refine W.cons (W.ite (evb_ne (ev_data xf) (ev_data (ev_var _ _ _ _ t3)) (data_layOk (G.data _ (hFL f m1))) (data_layOk (G.data _ hxL))) (fun h => ?_) (fun h => ?_))
      · refine W.cons (W.ret (ev_lit _ _ _) (.inl ⟨⟨x, hxL, f, ?_, hb, fun q => ?_⟩, rfl⟩))
        · rw [e]; exact ((I.mem f).mp m1).app
        · rw [q, eqv_refl _ (dataA_lay _ (G.data _ hxL)).2.1] at h
          cases h
      · have hd : f.data = x.data := (dataA_eqv_iff (G.data _ (hFL f m1)) (G.data _ hxL)).mp (by simpa using h)
        exact W.nil (W.nil (W.nil ⟨t1, F, t2, I.same m1 hb hd⟩))
theorem due_sort {m : Nat} {F : List Lit} {ρ : Vars} {N : Vars → Prop} {P : D → Prop} {Z : Prop} (G : Good m F) (h2 : ρ 2 = some (.own (F.map litD))) (hP : P (.tuple (((sortZ F.zipIdx).map (·.1)).map litD))) :
    W (execs whyC (rs Phi 13) (.cons (.own 8 .nil) (.cons (.for_ [9] (.range (.len (.var 2))) (.cons (.app 8 (.tup (.cons (.flat (.seq (.idx (.idx (.var 2) (.var 9)) (.lit (.int 0))))) (.cons (.var 9) .nil)))) .nil)) (.cons (.ret (.tupOf (.comp (.idx (.var 2) (.var 9)) [10, 9] (.seq (.sorted (.var 8))) .tt [2]))) .nil))) ρ) N P Z := by
  have hl := G.len
  refine W.cons (W.own (ds := []) evs_nil (by simp) (W.cons ?_))
  have s2 : upd ρ 8 (.own []) 2 = some (.own (F.map litD)) := by simp [upd, h2]
  have hit : evItF (rs Phi 13) (.range (.len (.var 2))) (upd ρ 8 (.own [])) = some (intsFrom 0 F.length) := by
    have := evItF_range (ev_lenO (Φ := rs Phi 13) s2 (by simp; omega)) (by omega) (by simp; omega)
    simpa using this
  simp only [qx_set, qx_own, qx_set2, qx_app, qx_last, qx_inc, qx_frz, qx_ret, qx_ite, qx_for, qx_while, qx_raise, qx_run, qx_get, qx_try, hit, Option.bind_some]
  refine W.range (fun k ρ => ρ 2 = some (.own (F.map litD)) ∧ ρ 8 = some (.own ((F.zipIdx.take k).map encQ))) ⟨s2, by simp [upd]⟩ ?_ ?_
  · rintro k ρ hk ⟨h2, h8⟩
    simp only [qv_bind1, qv_bind2, Option.bind_some]
    have hx : F[k]? = some F[k] := List.getElem?_eq_getElem hk
    have hz : F.zipIdx[k]? = some (F[k], k) := by simp [List.getElem?_zipIdx, hx]
    have e1 : eval (rs Phi 13) (.var 9) (upd ρ 9 (.fro (.int (k : Int)))) = some (.int (k : Int)) := ev_var _ _ _ _ (by simp [upd])
    have e2 : eval (rs Phi 13) (.idx (.var 2) (.var 9)) (upd ρ 9 (.fro (.int (k : Int)))) = some (litD F[k]) := ev_idxO (j := 2) (by simp [upd]; exact h2) e1 (idxD_map (by omega) (by simpa using hx) (by omega))
    have e3 : eval (rs Phi 13) (.flat (.seq (.idx (.idx (.var 2) (.var 9)) (.lit (.int 0))))) (upd ρ 9 (.fro (.int (k : Int)))) = some (.list ((flat F[k].box).map .int)) := by
      have d := G.dim F[k] (List.getElem_mem _)
      have hb : F[k].box.length ≤ 2 := by rcases d with ⟨h1, h2, _⟩; omega
      rw [qe_flat, qi_seq, seqV_eval (ev_box e2)]
      simp only [boxD, qv_seqL, qv_seqT, Option.map_some, Option.bind_some, flatL_spans, small, List.length_map, flat_len]
      rw [if_pos (by omega)]
    refine W.cons (W.app (ds := (F.zipIdx.take k).map encQ) (d := encQ (F[k], k)) (by simp [upd, h8]) (by simp; omega) (ev_tup (evs_cons e3 (evs_cons e1 evs_nil)) (by simp)) (W.nil ⟨by simp [upd, h2], ?_⟩))
    have : F.zipIdx.take (k + 1) = F.zipIdx.take k ++ [(F[k], k)] := by rw [List.take_add_one, hz]; rfl
    simp [upd, this]
  · rintro ρ ⟨h2, h8⟩
    rw [show F.zipIdx.take F.length = F.zipIdx from List.take_of_length_le (by simp)] at h8
    have hS := sorts_encQ (P := F.zipIdx) (m := m) (by simpa using hl) (fun x hx => (G.dim x.1 (List.fst_mem_of_mem_zipIdx hx)).1) (zip_nodup F)
    have es : eval (rs Phi 13) (.sorted (.var 8)) ρ = some (.list ((sortZ F.zipIdx).map encQ)) := by
      have : seqV (.var 8) ρ (eval (rs Phi 13) (.var 8) ρ) = some (true, F.zipIdx.map encQ) := by simp only [qv_vVar, h8]
      rw [qe_sorted, this, Option.bind_some, if_pos rfl, sortX_of hS]
    have hsl : (sortZ F.zipIdx).length = F.length := by rw [(sortZ_perm _).length_eq]; simp
    have ec : eval (rs Phi 13) (.comp (.idx (.var 2) (.var 9)) [10, 9] (.seq (.sorted (.var 8))) .tt [2]) ρ = some (.list (((sortZ F.zipIdx).map (·.1)).map litD)) := by
      have hit : evIt (rs Phi 13) (.seq (.sorted (.var 8))) ρ = some ((sortZ F.zipIdx).map encQ) := by
        rw [qi_seq, seqV_eval es]; rfl
      rw [qe_comp, hit, Option.bind_some, compL_map (p := fun _ => true) (h := fun x => litD x.1)]
      · rw [List.filter_eq_self.mpr (fun _ _ => rfl), Option.bind_some, small, if_pos (by simp [hsl]; omega), List.map_map]
        rfl
      · rintro ⟨l, i⟩ m
        have hx : F[i]? = some l := List.mem_zipIdx_iff_getElem?.mp ((sortZ_perm _).mem_iff.mp m)
        have hb : bindT [10, 9] (encQ (l, i)) (lim [2] ρ) = some (upd (upd (lim [2] ρ) 10 (.fro (.list ((flat l.box).map .int)))) 9 (.fro (.int (i : Int)))) := rfl
        rw [hb]
        simp only [Option.bind_some, qb_tt, qb_cmp, qb_eq, qb_ne, qb_isN, qb_notN, qb_chain, qb_and, qb_or, qb_not, qb_valO, qb_valC, if_true]
        rw [ev_idxO (j := 2) (k := (i : Int)) (x := litD l) (ds := F.map litD) (by simp [upd, lim, h2]) (ev_var _ _ _ _ (by simp [upd])) (idxD_map (by omega) (by simpa using hx) (by omega))]
        rfl
    refine W.cons (W.ret (d := .tuple (((sortZ F.zipIdx).map (·.1)).map litD)) ?_ hP)
    rw [qe_tupOf, seqV_eval ec]
    simp only [qv_seqL, qv_seqT, Option.bind_some, if_true, small]
    rw [if_pos (by simp [hsl]; omega)]
theorem law_due_spec {m : Nat} {L : List Lit} {keys : List (List Int)} (G : Good m L) (hom : (∀ l ∈ L, l.data = .none) ∨ (∀ l ∈ L, l.data ≠ .none)) (hks : ∀ k ∈ keys, k.length = m)
    (runs : ∀ F, Firsts L F → ForJ F → ∃ R, Phi 12 [.list (F.map litD), .list (keys.map keyD)] = some (.ok (.tuple (R.map litD))) ∧ RunsI F R) :
    ∃ d, Phi 13 [.list (L.map litD), .list (keys.map keyD)] = some (.ok d) ∧ DueRes L keys d := by
  refine Phi_ok (by rfl) ?_
  show W (execs whyC (rs Phi 13) ss_law_due _) _ _ _
  generalize hρ : args0 [.list (L.map litD), .list (keys.map keyD)] = ρ
  have h0 : ρ 0 = some (.fro (.list (L.map litD))) := by rw [← hρ]; rfl
  have h1 : ρ 1 = some (.fro (.list (keys.map keyD))) := by rw [← hρ]; rfl
  refine W.cons (W.own (ds := []) evs_nil (by simp) (W.cons ?_))
  have hit : evItF (rs Phi 13) (.seq (.var 0)) (upd ρ 2 (.own [])) = some (L.map litD) := by
    rw [qf_seq, ev_var _ 0 _ _ (show upd ρ 2 _ 0 = _ by simp only [upd]; exact h0)]
    rfl
  simp only [qx_set, qx_own, qx_set2, qx_app, qx_last, qx_inc, qx_frz, qx_ret, qx_ite, qx_for, qx_while, qx_raise, qx_run, qx_get, qx_try, hit, Option.bind_some]
  refine W.seq (enc := litD) (fun done ρ => ρ 1 = some (.fro (.list (keys.map keyD))) ∧ ∃ F, ρ 2 = some (.own (F.map litD)) ∧ Firsts done F) ⟨by simp only [upd]; exact h1, [], by simp [upd], ⟨fun l => by simp [First], .nil, by simp, by simp⟩⟩ ?_ ?_
  · rintro done x rest ρ e ⟨h1, F, h2, I⟩
    simp only [qv_bind1, qv_bind2, Option.bind_some]
    exact due_A G e h1 h2 I
  · rintro ρ ⟨h1, F, h2, I⟩
    have GF := I.good G
    have hl := GF.len
    have hom' : (∀ l ∈ F, l.data = .none) ∨ (∀ l ∈ F, l.data ≠ .none) := hom.imp (fun h l m => h l ((I.mem l).mp m).mem) (fun h l m => h l ((I.mem l).mp m).mem)
    have c1 : eval (rs Phi 13) (.comp (.var 4) [4] (.seq (.var 2)) (.cmp .Lt (.idx (.idx (.idx (.var 4) (.lit (.int 0))) (.lit (.int 0))) (.lit (.int 0))) (.idx (.idx (.idx (.var 4) (.lit (.int 0))) (.lit (.int 0))) (.lit (.int 1)))) []) ρ = some (.list ((F.filter fun l => decide (loL l < hiL l)).map litD)) := by
      refine ev_comp (enc := litD) (evIt_own h2) (by omega) (fun l ml => ?_) (fun l m _ => ev_var _ _ _ _ (by simp [upd]))
      have x4 : eval (rs Phi 13) (.var 4) (upd (lim [] ρ) 4 (.fro (litD l))) = some (litD l) := ev_var _ _ _ _ (by simp [upd])
      exact evb_cmp (o := .Lt) (f := fun a b => decide (a < b)) (ev_lo x4 (GF.dim l ml)) (ev_hi x4 (GF.dim l ml)) rfl
    refine W.cons (W.set c1 ?_)
    have hfl := List.length_filter_le (fun l => decide (loL l < hiL l)) F
    generalize hτ : upd ρ 6 (.fro (.list ((F.filter fun l => decide (loL l < hiL l)).map litD))) = τ
    have t1 : τ 1 = some (.fro (.list (keys.map keyD))) := by rw [← hτ]; simp only [upd]; exact h1
    have t2 : τ 2 = some (.own (F.map litD)) := by rw [← hτ]; simp [upd, h2]
    have t6 : τ 6 = some (.fro (.list ((F.filter fun l => decide (loL l < hiL l)).map litD))) := by rw [← hτ]; simp [upd]
    obtain ⟨t, ht, hj⟩ : ∃ t, evB (rs Phi 13) (.and (.val (.var 6)) (.and (.cmp .Eq (.len (.idx (.idx (.var 6) (.lit (.int 0))) (.lit (.int 0)))) (.lit (.int 1))) (.isN (.idx (.idx (.var 6) (.lit (.int 0))) (.lit (.int 1)))))) τ = some t ∧ (t = true ↔ ForJ F) := by
      rcases z : F.filter (fun l => decide (loL l < hiL l)) with _ | ⟨f, r⟩
      · rw [z] at t6
        refine ⟨false, evb_and (t := false) (u := false) (evb_froL t6 (by simp)) (fun h => by cases h), ?_⟩
        simp only [Bool.false_eq_true, false_iff]
        rintro ⟨_, l, m, q⟩
        have : l ∈ F.filter fun l => decide (loL l < hiL l) := List.mem_filter.mpr ⟨m, by simpa using q⟩
        rw [z] at this
        cases this
      · have hf : f ∈ F.filter fun l => decide (loL l < hiL l) := by rw [z]; simp
        obtain ⟨m1, m2⟩ := List.mem_filter.mp hf
        have hrl : (f :: r).length ≤ 6 := by rw [← z]; omega
        rw [z] at t6
        have xf : eval (rs Phi 13) (.idx (.var 6) (.lit (.int 0))) τ = some (litD f) := ev_idx (ev_var _ _ _ _ t6) rfl (ev_lit _ _ _) (idxD_map (xs := f :: r) (by omega) rfl (by omega))
        have d := GF.dim f m1
        have hb : f.box.length ≤ 2 := by rcases d with ⟨h1, h2, _⟩; omega
        refine ⟨_, evb_and (t := true) (evb_froL t6 (by simp at hrl ⊢; omega)) (fun _ => evb_and (evb_cmp (ev_len (ev_box xf) rfl (by simp; omega)) (ev_lit _ _ _) rfl) (fun _ => evb_isN (ev_data xf))), ?_⟩
        simp only [Bool.true_and, Bool.and_eq_true, isNoneD_iff, List.length_map, beq_iff_eq]
        constructor
        · rintro ⟨q1, q2⟩
          have q1' : f.box.length = 1 := by omega
          refine ⟨fun l ml => ⟨by rw [(GF.dim l ml).1, ← d.1, q1'], ?_⟩, f, m1, by simpa using m2⟩
          rcases hom' with h | h
          · exact h l ml
          · exact absurd q2 (h f m1)
        · rintro ⟨q, _⟩
          exact ⟨by rw [(q f m1).1]; rfl, (q f m1).2⟩
    refine W.cons (W.ite ht (fun h => ?_) (fun h => ?_))
    · have fj := hj.mp h
      obtain ⟨R, hR, RI⟩ := runs F I fj
      refine W.cons (W.frz t2 (W.cons (W.ret (d := .tuple (R.map litD)) (ev_call (evs_cons (ev_var _ _ _ _ (by simp [upd])) (evs_cons (ev_var _ 1 (.list (keys.map keyD)) _ (by simp only [upd]; exact t1)) evs_nil)) (by decide) hR) (.inr ⟨F, I, .inl ⟨fj, R, rfl, RI⟩⟩))))
    · have fj : ¬ ForJ F := fun q => by have := hj.mpr q; rw [h] at this; cases this
      refine W.nil (W.cons ?_)
      have hit : evItF (rs Phi 13) (.seq (.var 1)) τ = some (keys.map keyD) := by
        rw [qf_seq, ev_var _ 1 _ _ t1]
        rfl
      simp only [qx_set, qx_own, qx_set2, qx_app, qx_last, qx_inc, qx_frz, qx_ret, qx_ite, qx_for, qx_while, qx_raise, qx_run, qx_get, qx_try, hit, Option.bind_some]
      refine W.seq (enc := keyD) (fun done ρ => ρ 2 = some (.own (F.map litD)) ∧ ∀ k ∈ done, ¬ 1 < (F.filter fun l => hasK l.box k).length) ⟨t2, by simp⟩ ?_ ?_
      · rintro done k rest ρ e ⟨h2, hn⟩
        have hk : k ∈ keys := by rw [e]; simp
        simp only [qv_bind1, qv_bind2, Option.bind_some]
        have s2 : upd ρ 7 (.fro (keyD k)) 2 = some (.own (F.map litD)) := by simp [upd, h2]
        have c2 : eval (rs Phi 13) (.comp (.var 4) [4] (.seq (.var 2)) (.val (.call 11 (.cons (.idx (.var 4) (.lit (.int 0))) (.cons (.var 7) .nil)))) [7]) (upd ρ 7 (.fro (keyD k))) = some (.list ((F.filter fun l => hasK l.box k).map litD)) := by
          refine ev_comp (enc := litD) (evIt_own s2) (by omega) (fun l ml => ?_) (fun l m _ => ev_var _ _ _ _ (by simp [upd]))
          have x4 : eval (rs Phi 13) (.var 4) (upd (lim [7] (upd ρ 7 (.fro (keyD k)))) 4 (.fro (litD l))) = some (litD l) := ev_var _ _ _ _ (by simp [upd])
          have x7 : eval (rs Phi 13) (.var 7) (upd (lim [7] (upd ρ 7 (.fro (keyD k)))) 4 (.fro (litD l))) = some (keyD k) := ev_var _ _ _ _ (by simp [upd, lim])
          exact evb_call (ev_call (evs_cons (ev_box x4) (evs_cons x7 evs_nil)) (by decide) (law_has_spec (GF.dim l ml) (hks k hk)))
        have hfl := List.length_filter_le (fun l => hasK l.box k) F
        refine W.cons (W.ite (evb_cmp (o := .Gt) (f := fun a b => decide (b < a)) (ev_len c2 rfl (by simp; omega)) (ev_lit _ (.int 1) _) rfl) (fun h => ?_) (fun h => ?_))
        · refine W.cons (W.ret (ev_lit _ _ _) (.inr ⟨F, I, .inr (.inl ⟨fj, ⟨k, hk, ?_⟩, rfl⟩)⟩))
          simp at h; omega
        · refine W.nil (W.nil ⟨s2, fun k' m => ?_⟩)
          rcases List.mem_append.mp m with m | m
          · exact hn k' m
          · rw [List.mem_singleton] at m; subst m
            simp at h; omega
      · rintro ρ ⟨h2, hn⟩
        exact due_sort GF h2 (.inr ⟨F, I, .inr (.inr ⟨fj, fun ⟨k, m, q⟩ => hn k m q, rfl⟩)⟩)
end Mine
-- P13
namespace Mine
open PySem PySem.W PyProof.Rows PySem.Calls
theorem has_meets : ∀ {a b : List (Int × Int)} {k : List Int}, hasK a k = true → hasK b k = true → a.length = k.length → b.length = k.length → meets a b = true
  | [], _, _, _, _, _, _ => rfl
  | _ :: _, [], _, _, _, _, _ => rfl
  | p :: a, q :: b, [], _, _, h, _ => by simp at h
  | p :: a, q :: b, k :: ks, h1, h2, h3, h4 => by
    simp only [p_hc, p_h0, hasK_all, Bool.and_eq_true, decide_eq_true_eq] at h1 h2
    have ih := has_meets h1.2 h2.2 (by simpa using h3) (by simpa using h4)
    simp only [p_mc, p_m0, meets_all, ih, Bool.and_true, Bool.not_eq_true', Bool.or_eq_false_iff, decide_eq_false_iff_not]
    omega
theorem two_of_len {α : Type} {l : List α} (nd : l.Nodup) (h : 1 < l.length) : ∃ a ∈ l, ∃ b ∈ l, a ≠ b := by
  match l, h with
  | a :: b :: r, _ => exact ⟨a, by simp, b, by simp, fun e => by subst e; simp at nd⟩
theorem len_of_two {α : Type} {l : List α} {a b : α} (ha : a ∈ l) (hb : b ∈ l) (h : a ≠ b) : 1 < l.length := by
  match l with
  | [] => cases ha
  | [x] => rw [List.mem_singleton] at ha hb; exact absurd (ha.trans hb.symm) h
  | _ :: _ :: _ => simp
theorem Meet.congr {F F' : List Lit} (e : ∀ l, l ∈ F ↔ l ∈ F') : Meet F ↔ Meet F' := by unfold Meet; simp only [e]
theorem ForJ.congr {F F' : List Lit} (e : ∀ l, l ∈ F ↔ l ∈ F') : ForJ F ↔ ForJ F' := by unfold ForJ; simp only [e]
theorem over_meet {m : Nat} {F : List Lit} {keys : List (List Int)} (G : Good m F) (nd : F.Nodup) (hks : ∀ k ∈ keys, k.length = m) (h : Over F keys) : Meet F := by
  obtain ⟨k, hk, hl⟩ := h
  obtain ⟨a, ha, b, hb, hne⟩ := two_of_len (nd.filter _) hl
  obtain ⟨a1, a2⟩ := List.mem_filter.mp ha
  obtain ⟨b1, b2⟩ := List.mem_filter.mp hb
  exact ⟨a, a1, b, b1, hne, has_meets a2 b2 (by rw [(G.dim a a1).1, hks k hk]) (by rw [(G.dim b b1).1, hks k hk])⟩
theorem meet_over {F : List Lit} {keys : List (List Int)} (hc : ∀ a ∈ F, ∀ b ∈ F, meets a.box b.box = true → ∃ k ∈ keys, hasK a.box k = true ∧ hasK b.box k = true) (h : Meet F) : Over F keys := by
  obtain ⟨a, ha, b, hb, hne, hm⟩ := h
  obtain ⟨k, hk, h1, h2⟩ := hc a ha b hb hm
  exact ⟨k, hk, len_of_two (List.mem_filter.mpr ⟨ha, h1⟩) (List.mem_filter.mpr ⟨hb, h2⟩) hne⟩
theorem mid {x u x' u' M : Int} (h1 : x ≤ u) (h2 : x' ≤ u') (ha : ¬ u' < x) (hb : ¬ u < x') (lo : 0 ≤ x) (lo' : 0 ≤ x') (hi : u < M) (hi' : u' < M) : ∃ p, 0 ≤ p ∧ p < M ∧ (x ≤ p ∧ p ≤ u) ∧ x' ≤ p ∧ p ≤ u' := by
  by_cases h : x ≤ x'
  · exact ⟨x', lo', Int.lt_of_le_of_lt h2 hi', ⟨h, Int.not_lt.mp hb⟩, Int.le_refl _, h2⟩
  · exact ⟨x, lo, Int.lt_of_le_of_lt h1 hi, ⟨Int.le_refl _, h1⟩, Int.le_of_lt (Int.not_le.mp h), Int.not_lt.mp ha⟩
theorem line_cover {base : Int} {n : Nat} {a b : List (Int × Int)} (ha : LineBox base n a) (hb : LineBox base n b) (h : meets a b = true) : ∃ k ∈ (List.range (n + 1)).map (fun k : Nat => [base + (k : Int)]), hasK a k = true ∧ hasK b k = true := by
  obtain ⟨l, u, rfl, h1, h2, h3⟩ := ha
  obtain ⟨l', u', rfl, h1', h2', h3'⟩ := hb
  simp only [p_mc, p_m0, meets_all, Bool.and_true, Bool.not_eq_true', Bool.or_eq_false_iff, decide_eq_false_iff_not] at h
  obtain ⟨p, p1, p2, p3, p4⟩ := mid (x := l) (u := u) (x' := l') (u' := u') (M := (n : Int)) h2 h2' (fun z => h.1 (Int.add_lt_add_left z base)) (fun z => h.2 (Int.add_lt_add_left z base)) (Int.le_trans (by decide) h1) (Int.le_trans (by decide) h1') h3 h3'
  have K : ∀ {a b : Int}, (a ≤ p ∧ p ≤ b) → hasK [(base + a, base + b)] [base + p] = true := fun u => by
    simp only [p_hc, p_h0, hasK_all, Bool.and_true, Bool.and_eq_true, decide_eq_true_eq]
    exact ⟨Int.add_le_add_left u.1 base, Int.add_le_add_left u.2 base⟩
  exact ⟨[base + p], List.mem_map.mpr ⟨p.toNat, List.mem_range.mpr (by omega), by rw [Int.toNat_of_nonneg p1]⟩, K p3, K p4⟩
theorem six {p q : Int} (h1 : 0 ≤ p) (h2 : p < 6) (h3 : 0 ≤ q) (h4 : q < 6) : ∃ k : Nat, k < 36 ∧ (k : Int).fdiv 6 = p ∧ (k : Int).fmod 6 = q := by
  refine ⟨(6 * p + q).toNat, by omega, ?_, ?_⟩
  · rw [Int.fdiv_eq_ediv_of_nonneg _ (by decide)]; omega
  · rw [Int.fmod_eq_emod_of_nonneg _ (by decide)]; omega
theorem plane_cover {a b : List (Int × Int)} (ha : PlaneBox a) (hb : PlaneBox b) (h : meets a b = true) : ∃ k ∈ (List.range 36).map (fun k : Nat => [(k : Int).fdiv 6, (k : Int).fmod 6]), hasK a k = true ∧ hasK b k = true := by
  obtain ⟨x, u, y, v, rfl, h1, h2, h3, h4, h5, h6⟩ := ha
  obtain ⟨x', u', y', v', rfl, h1', h2', h3', h4', h5', h6'⟩ := hb
  simp only [p_mc, p_m0, meets_all, Bool.and_true, Bool.and_eq_true, Bool.not_eq_true', Bool.or_eq_false_iff, decide_eq_false_iff_not] at h
  obtain ⟨p, p1, p2, p3, p4⟩ := mid (x := x) (u := u) (x' := x') (u' := u') (by omega) (by omega) h.1.1 h.1.2 (by omega) (by omega) (by omega) (by omega)
  obtain ⟨q, q1, q2, q3, q4⟩ := mid (x := y) (u := v) (x' := y') (u' := v') (by omega) (by omega) h.2.1 h.2.2 (by omega) (by omega) (by omega) (by omega)
  obtain ⟨k, hk, e1, e2⟩ := six p1 p2 q1 q2
  have K : ∀ {a b c d : Int}, (a ≤ p ∧ p ≤ b) → (c ≤ q ∧ q ≤ d) → hasK [(a, b), (c, d)] [p, q] = true := fun u v => by
    simp only [p_hc, p_h0, hasK_all, Bool.and_true, Bool.and_eq_true, decide_eq_true_eq]
    exact ⟨u, v⟩
  exact ⟨[p, q], List.mem_map.mpr ⟨k, List.mem_range.mpr hk, by rw [e1, e2]⟩, K p3 q3, K p4 q4⟩
theorem lits_lay {R : List Lit} (h : ∀ l ∈ R, l.data ∈ dataA ∧ (PyData.str l.name).canLay0 = true) : layOk (.tuple (R.map litD)) = true := by
  have h1 := canLays litD R fun l m => (lit_lay (h l m).1 (h l m).2).1
  have h2 := depths litD 3 R fun l m => (lit_lay (h l m).1 (h l m).2).2
  unfold layOk
  rw [Bool.and_eq_true]
  refine ⟨by simp only [PyData.canLay0]; exact h1, decide_eq_true ?_⟩
  show PyData.depthAll (R.map litD) + 1 ≤ 40
  omega
theorem conf_lay : layOk confD = true := by decide +kernel
theorem empty_lay : (PyData.str (Str.ofString "")).canLay0 = true := by decide +kernel
structure KGood (m : Nat) (L : List Lit) (keys : List (List Int)) : Prop where
  g : Good m L
  ks : ∀ k ∈ keys, k.length = m
  name : ∀ l ∈ L, (PyData.str l.name).canLay0 = true
  hom : (∀ l ∈ L, l.data = .none) ∨ (∀ l ∈ L, l.data ≠ .none)
  cov : ∀ a ∈ L, ∀ b ∈ L, meets a.box b.box = true → ∃ k ∈ keys, hasK a.box k = true ∧ hasK b.box k = true
  runs : ∀ F, Firsts L F → ForJ F → ∃ R, Phi 12 [.list (F.map litD), .list (keys.map keyD)] = some (.ok (.tuple (R.map litD))) ∧ RunsI F R
theorem Kase.good {kind : Int} {L : List Lit} {keys : List (List Int)} (K : Kase kind L keys) : ∃ m, KGood m L keys := by
  rcases K.shape with ⟨base, at_, hat, rfl, hb⟩ | ⟨rfl, hb⟩
  · have G : Good 1 L := ⟨K.len, fun l m => by
      obtain ⟨lo, hi, e, h1, h2, h3⟩ := hb l m
      rw [e]
      exact ⟨rfl, .inl rfl, fun p mp => by rw [List.mem_singleton] at mp; subst mp; show base + lo ≤ base + hi; omega⟩, fun l m => (K.data l m).1⟩
    refine ⟨1, G, fun k m => ?_, fun l m => (K.data l m).2, K.hom, fun a ha b hb' h => line_cover (hb a ha) (hb b hb') h, fun F I fj => ?_⟩
    · obtain ⟨i, _, rfl⟩ := List.mem_map.mp m; rfl
    · refine law_runs_spec (I.good G).len (fun l m => ((I.good G).dim l m).one) I.nd hat fun l m => ?_
      obtain ⟨lo, hi, e, h1, h2, h3⟩ := hb l ((I.mem l).mp m).mem
      simp only [loL, hiL, e]
      omega
  · have G : Good 2 L := ⟨K.len, fun l m => by
      obtain ⟨x, u, y, v, e, h1, h2, h3, h4, h5, h6⟩ := hb l m
      rw [e]
      refine ⟨rfl, .inr rfl, fun p mp => ?_⟩
      simp only [List.mem_cons, List.not_mem_nil, or_false] at mp
      rcases mp with rfl | rfl
      · exact h2
      · exact h5, fun l m => (K.data l m).1⟩
    refine ⟨2, G, fun k m => ?_, fun l m => (K.data l m).2, K.hom, fun a ha b hb' h => plane_cover (hb a ha) (hb b hb') h, fun F I fj => ?_⟩
    · obtain ⟨i, _, rfl⟩ := List.mem_map.mp m; rfl
    · exfalso
      obtain ⟨h1, l, m, _⟩ := fj
      have := (h1 l m).1
      rw [((I.good G).dim l m).1] at this
      cases this
theorem sorted_tidy {L F F2 : List Lit} (T : Tidied L F) (I : Firsts L F2) : F = (sortZ F2.zipIdx).map (·.1) := by
  have hm : ∀ x, x ∈ (sortZ F2.zipIdx).map (·.1) ↔ x ∈ F2 := fun x => by
    rw [List.mem_map]
    constructor
    · rintro ⟨p, m, rfl⟩
      exact List.fst_mem_of_mem_zipIdx ((sortZ_perm _).mem_iff.mp m)
    · intro m
      obtain ⟨i, hi, e⟩ := List.mem_iff_getElem.mp m
      exact ⟨(x, i), (sortZ_perm _).mem_iff.mpr (List.mem_zipIdx_iff_getElem?.mpr (by rw [← e]; exact List.getElem?_eq_getElem hi)), rfl⟩
  have hs : ((sortZ F2.zipIdx).map (·.1)).Pairwise flB := by
    refine List.pairwise_map.mpr ((List.Pairwise.and_mem.mp (sortZ_lt (zip_nodup F2))).imp fun {x y} h => ?_)
    rcases klt_box h.2.2 with q | q
    · exact q
    · exfalso
      have hx := List.mem_zipIdx_iff_getElem?.mp ((sortZ_perm _).mem_iff.mp h.1)
      have hy := List.mem_zipIdx_iff_getElem?.mp ((sortZ_perm _).mem_iff.mp h.2.1)
      obtain ⟨i1, e1⟩ := List.getElem?_eq_some_iff.mp hx
      obtain ⟨i2, e2⟩ := List.getElem?_eq_some_iff.mp hy
      rcases Nat.lt_trichotomy x.2 y.2 with z | z | z
      · have := List.pairwise_iff_getElem.mp I.bx _ _ i1 i2 z
        rw [e1, e2] at this
        exact this q
      · have : x = y := Prod.ext (by rw [← e1, ← e2]; congr 1) z
        rw [this] at h
        have := klt_irr y
        rw [h.2.2] at this
        cases this
      · have := List.pairwise_iff_getElem.mp I.bx _ _ i2 i1 z
        rw [e1, e2] at this
        exact this q.symm
  exact sorted_eq (R := flB) (fun a h => flB_ne h rfl) (fun a b h h' => by
    have := fl_trans _ _ _ h h'
    rw [fl_irr] at this
    cases this) T.srt hs fun x => by rw [hm, T.mem, I.mem]
theorem kase_eq {kind : Int} {L : List Lit} {keys : List (List Int)} (K : Kase kind L keys) : ∃ d, Phi 13 [.list (L.map litD), .list (keys.map keyD)] = some (.ok d) ∧ layOk d = true ∧ d.canLay0 = true ∧
    (Phi 5 [.list (L.map litD)] = some (.ok d) ∨ (Phi 5 [.list (L.map litD)] = some (.error ()) ∧ d = confD)) := by
  obtain ⟨m, KG⟩ := K.good
  have G := KG.g
  obtain ⟨d, hd, D⟩ := law_due_spec G KG.hom KG.ks KG.runs
  suffices h : layOk d = true ∧ (Phi 5 [.list (L.map litD)] = some (.ok d) ∨ (Phi 5 [.list (L.map litD)] = some (.error ()) ∧ d = confD)) by
    refine ⟨d, hd, h.1, ?_, h.2⟩
    have := h.1
    simp only [layOk, Bool.and_eq_true] at this
    exact this.1
  have lay : ∀ F : List Lit, (∀ l ∈ F, l ∈ L) → ∀ l ∈ F, l.data ∈ dataA ∧ (PyData.str l.name).canLay0 = true := fun F h l ml => ⟨G.data l (h l ml), KG.name l (h l ml)⟩
  rcases tidy_set_spec G with ⟨h5, hc⟩ | ⟨F, T, hT⟩
  · rcases D with ⟨_, rfl⟩ | ⟨F2, I, _⟩
    · exact ⟨conf_lay, .inr ⟨h5, rfl⟩⟩
    · exact absurd hc I.noConf
  · rcases D with ⟨hc, _⟩ | ⟨F2, I, hD⟩
    · exact absurd hc T.ok
    · have em : ∀ l, l ∈ F ↔ l ∈ F2 := fun l => (T.mem l).trans (I.mem l).symm
      have hmo : Meet F ↔ Over F2 keys := by
        rw [Meet.congr em]
        exact ⟨meet_over fun a ha b hb h => KG.cov a ((I.mem a).mp ha).mem b ((I.mem b).mp hb).mem h, over_meet (I.good G) I.nd KG.ks⟩
      rcases hT with ⟨fj, R, J, h5⟩ | ⟨fj, hm, h5⟩ | ⟨fj, hm, h5⟩ <;> rcases hD with ⟨fj2, R2, rfl, RI⟩ | ⟨fj2, ho, rfl⟩ | ⟨fj2, ho, rfl⟩
      · have : R = R2 := (J.runs.congr em).uniq RI
        subst this
        refine ⟨lits_lay fun l ml => ?_, .inl h5⟩
        obtain ⟨a, b, _, hl⟩ := (RI.mem l).mp ml
        rcases hl with ⟨o, mo, _, _, _, rfl⟩ | ⟨_, rfl⟩
        · exact lay F2 (fun l m => ((I.mem l).mp m).mem) _ mo
        · exact ⟨none_mem, empty_lay⟩
      · exact absurd ((ForJ.congr em).mp fj) fj2
      · exact absurd ((ForJ.congr em).mp fj) fj2
      · exact absurd ((ForJ.congr em).mpr fj2) fj
      · exact absurd (hmo.mpr ho) hm
      · rw [← sorted_tidy T I]
        exact ⟨lits_lay (lay F fun l m => ((T.mem l).mp m).mem), .inl h5⟩
      · exact absurd ((ForJ.congr em).mpr fj2) fj
      · exact ⟨conf_lay, .inr ⟨h5, rfl⟩⟩
      · exact absurd (hmo.mp hm) ho
noncomputable def caseD (c : List Lit × List (List Int)) : D := .tuple [.list (c.1.map litD), .list (c.2.map keyD)]
theorem plain_law (script : List Int) (h : script.length ≤ 63) : execs whyC (rs Phi 14) ss_law (args0 [.list (script.map .int)]) = some (.ret (.bool true)) := by
  suffices hW : W (execs whyC (rs Phi 14) ss_law (args0 [.list (script.map .int)])) (fun _ => False) (fun d => d = .bool true) False by
    rcases q : execs whyC (rs Phi 14) ss_law (args0 [.list (script.map .int)]) with _ | (ρ | d | _) <;> rw [q] at hW
    · exact hW.elim
    · exact hW.elim
    · have : d = .bool true := hW
      rw [this]
    · exact hW.elim
  generalize hρ : args0 [.list (script.map .int)] = ρ
  have h0 : ρ 0 = some (.fro (.list (script.map .int))) := by rw [← hρ]; rfl
  have h5 : ρ 5 = none := by rw [← hρ]; rfl
  obtain ⟨L1, k1, e1, K1⟩ := law_line_spec (s := script) (salts := [16, 1, 32, 12, 144, 6]) (p := 0) (kind := 0) h (by decide) rfl
  have hd := law_digit_spec (s := script) (p := 19) h (by decide)
  obtain ⟨L2, k2, e2, K2⟩ := law_line_spec (s := script) (salts := [16, 1, 32, 0, 144, 6]) (p := 7) (kind := 1 + (dig script (19 : Int).toNat).fmod 2) h (by decide) rfl
  obtain ⟨kd, L3, k3, e3, K3⟩ := law_plane_spec (s := script) (p := 14) h (by decide)
  have x1 : eval (rs Phi 14) (.call 9 (.cons (.var 0) (.cons (.lit (.int 0)) (.cons (.lit (.int 0)) (.cons (.lst (.cons (.lit (.int 16)) (.cons (.lit (.int 1)) (.cons (.lit (.int 32)) (.cons (.lit (.int 12)) (.cons (.lit (.int 144)) (.cons (.lit (.int 6)) .nil))))))) .nil))))) ρ = some (caseD (L1, k1)) := by
    refine ev_call (evs_cons (ev_var _ _ _ _ h0) (evs_cons (ev_lit _ _ _) (evs_cons (ev_lit _ _ _) (evs_cons ?_ evs_nil)))) (by decide) e1
    rw [qe_lst, evs_cons (ev_lit _ _ _) (evs_cons (ev_lit _ _ _) (evs_cons (ev_lit _ _ _) (evs_cons (ev_lit _ _ _) (evs_cons (ev_lit _ _ _) (evs_cons (ev_lit _ _ _) evs_nil)))))]
    rfl
  refine W.cons (W.own (ds := [caseD (L1, k1)]) (evs_cons x1 evs_nil) (by simp) ?_)
  generalize hσ : upd ρ 1 (.own [caseD (L1, k1)]) = σ
  have s0 : σ 0 = some (.fro (.list (script.map .int))) := by rw [← hσ]; simp only [upd]; exact h0
  have s5 : σ 5 = none := by rw [← hσ]; simp only [upd]; exact h5
  have s1 : σ 1 = some (.own [caseD (L1, k1)]) := by rw [← hσ]; simp [upd]
  have x19 : eval (rs Phi 14) (.bin .Add (.lit (.int 1)) (.bin .Mod (.call 6 (.cons (.var 0) (.cons (.lit (.int 19)) .nil))) (.lit (.int 2)))) σ = some (.int (1 + (dig script (19 : Int).toNat).fmod 2)) :=
    ev_bin _ _ _ _ _ (.int 1) (.int ((dig script (19 : Int).toNat).fmod 2)) (ev_lit _ _ _) ((ev_bin _ _ _ _ _ _ _ (ev_call (evs_cons (ev_var _ _ _ _ s0) (evs_cons (ev_lit _ _ _) evs_nil)) (by decide) hd) (ev_lit _ _ _)).trans (binD_mod (by decide)))
  have x2 : eval (rs Phi 14) (.call 9 (.cons (.var 0) (.cons (.lit (.int 7)) (.cons (.bin .Add (.lit (.int 1)) (.bin .Mod (.call 6 (.cons (.var 0) (.cons (.lit (.int 19)) .nil))) (.lit (.int 2)))) (.cons (.lst (.cons (.lit (.int 16)) (.cons (.lit (.int 1)) (.cons (.lit (.int 32)) (.cons (.lit (.int 0)) (.cons (.lit (.int 144)) (.cons (.lit (.int 6)) .nil))))))) .nil))))) σ = some (caseD (L2, k2)) := by
    refine ev_call (evs_cons (ev_var _ _ _ _ s0) (evs_cons (ev_lit _ _ _) (evs_cons x19 (evs_cons ?_ evs_nil)))) (by decide) e2
    rw [qe_lst, evs_cons (ev_lit _ _ _) (evs_cons (ev_lit _ _ _) (evs_cons (ev_lit _ _ _) (evs_cons (ev_lit _ _ _) (evs_cons (ev_lit _ _ _) (evs_cons (ev_lit _ _ _) evs_nil)))))]
    rfl
  refine W.cons (W.app s1 (by simp) x2 ?_)
  generalize hτ : upd σ 1 _ = τ
  have t0 : τ 0 = some (.fro (.list (script.map .int))) := by rw [← hτ]; simp only [upd]; exact s0
  have t5 : τ 5 = none := by rw [← hτ]; simp only [upd]; exact s5
  have t1 : τ 1 = some (.own [caseD (L1, k1), caseD (L2, k2)]) := by rw [← hτ]; simp [upd]
  have x3 : eval (rs Phi 14) (.call 10 (.cons (.var 0) (.cons (.lit (.int 14)) .nil))) τ = some (caseD (L3, k3)) := ev_call (evs_cons (ev_var _ _ _ _ t0) (evs_cons (ev_lit _ _ _) evs_nil)) (by decide) e3
  refine W.cons (W.app t1 (by simp) x3 ?_)
  have u1 : upd τ 1 (.own ([caseD (L1, k1), caseD (L2, k2)] ++ [caseD (L3, k3)])) 1 = some (.own ([(L1, k1), (L2, k2), (L3, k3)].map caseD)) := by simp [upd]
  refine W.cons (W.frz u1 (W.cons ?_))
  generalize hυ : upd (upd τ 1 _) 1 _ = υ
  have v5 : υ 5 = none := by rw [← hυ]; simp only [upd]; exact t5
  have v1 : υ 1 = some (.fro (.list ([(L1, k1), (L2, k2), (L3, k3)].map caseD))) := by rw [← hυ]; simp [upd]
  have hit : evItF (rs Phi 14) (.seq (.var 1)) υ = some ([(L1, k1), (L2, k2), (L3, k3)].map caseD) := by
    rw [qf_seq, ev_var _ 1 _ _ v1]
    rfl
  simp only [qx_set, qx_own, qx_set2, qx_app, qx_last, qx_inc, qx_frz, qx_ret, qx_ite, qx_for, qx_while, qx_raise, qx_run, qx_get, qx_try, hit, Option.bind_some]
  have KK : ∀ c ∈ [(L1, k1), (L2, k2), (L3, k3)], ∃ kind, Kase kind c.1 c.2 := fun c m => by
    simp only [List.mem_cons, List.not_mem_nil, or_false] at m
    rcases m with rfl | rfl | rfl
    · exact ⟨_, K1⟩
    · exact ⟨_, K2⟩
    · exact ⟨_, K3⟩
  refine W.seq (enc := caseD) (fun _ ρ => ρ 5 = none) v5 (fun done c rest ρ e h5 => ?_) (fun ρ _ => W.cons (W.ret (ev_lit _ _ _) rfl))
  obtain ⟨kind, K⟩ := KK c (by rw [e]; simp)
  obtain ⟨d, hd, hl, hc, ht⟩ := kase_eq K
  have hb : bindT [2, 3] (caseD c) ρ = some (upd (upd ρ 2 (.fro (.list (c.1.map litD)))) 3 (.fro (.list (c.2.map keyD)))) := rfl
  rw [hb]
  simp only [Option.bind_some]
  generalize hω : upd (upd ρ 2 (.fro (.list (c.1.map litD)))) 3 (.fro (.list (c.2.map keyD))) = ω
  have w2 : ω 2 = some (.fro (.list (c.1.map litD))) := by rw [← hω]; simp [upd]
  have w3 : ω 3 = some (.fro (.list (c.2.map keyD))) := by rw [← hω]; simp [upd]
  have w5 : ω 5 = none := by rw [← hω]; simp only [upd]; exact h5
  have ell : eval (rs Phi 14) (.lstOf (.var 2)) ω = some (.list (c.1.map litD)) := by
    have := K.len
    rw [qe_lstOf, seqV_eval (ev_var _ _ _ _ w2)]
    simp only [qv_seqL, qv_seqT, Option.bind_some, if_true, small]
    rw [if_pos (by simp; omega)]
  have htry : exec whyC (rs Phi 14) (.try_ 4 5 5 (.cons (.lstOf (.var 2)) .nil)) ω = some (.next (upd ω 4 (.fro d))) := by
    rw [qx_try]
    simp only [w5, evs_cons ell evs_nil, Option.bind_some, rs_lt (show 5 < 14 by decide)]
    rcases ht with ht | ⟨ht, rfl⟩ <;> rw [ht] <;> rfl
  refine W.cons ?_
  rw [htry]
  have z4 : upd ω 4 (.fro d) 4 = some (.fro d) := by simp [upd]
  have z2 : upd ω 4 (.fro d) 2 = some (.fro (.list (c.1.map litD))) := by simp [upd, w2]
  have z3 : upd ω 4 (.fro d) 3 = some (.fro (.list (c.2.map keyD))) := by simp [upd, w3]
  refine W.cons (W.ite (evb_ne (ev_var _ _ _ _ z4) (ev_call (evs_cons (ev_var _ _ _ _ z2) (evs_cons (ev_var _ _ _ _ z3) evs_nil)) (by decide) hd) hl hl) (fun h => ?_) (fun _ => W.nil (W.nil ?_)))
  · rw [eqv_refl d hc] at h
    cases h
  · simp only [upd]; exact w5
end Mine
-- J2
namespace Mine
open PySem PySem.W PyProof.Rows PySem.Calls
theorem upto {P : Nat → Prop} {n : Nat} (h : ∀ f, f < n → P f) (hn : P n) : ∀ f, f < n + 1 → P f := fun f hf => by
  rcases Nat.lt_or_ge f n with q | q
  · exact h f q
  · have : f = n := by omega
    subst this; exact hn
section
variable {prog : Program} {w : World} {H : Heap}
theorem all_fn (G : Gx prog w H (glN w) 44 whyC) (X : (KH w).In H) : ∀ f, f < 14 → FnOk prog w H (glN w) fnN 44 whyC (f + 1) f (Phi f) := by
  have a0 : ∀ f, f < 0 → FnOk prog w H (glN w) fnN 44 whyC (f + 1) f (Phi f) := fun f h => by omega
  have a1 := upto (P := fun f => FnOk prog w H (glN w) fnN 44 whyC (f + 1) f (Phi f)) a0 (fn_boxes_meet G X a0 fun ds r h => Phi_run 0 ds r h)
  have a2 := upto (P := fun f => FnOk prog w H (glN w) fnN 44 whyC (f + 1) f (Phi f)) a1 (fn_without_repeats G X a1 fun ds r h => Phi_run 1 ds r h)
  have a3 := upto (P := fun f => FnOk prog w H (glN w) fnN 44 whyC (f + 1) f (Phi f)) a2 (fn_is_for_joining G X a2 fun ds r h => Phi_run 2 ds r h)
  have a4 := upto (P := fun f => FnOk prog w H (glN w) fnN 44 whyC (f + 1) f (Phi f)) a3 (fn_joined G X a3 fun ds r h => Phi_run 3 ds r h)
  have a5 := upto (P := fun f => FnOk prog w H (glN w) fnN 44 whyC (f + 1) f (Phi f)) a4 (fn_check_apart G X a4 fun ds r h => Phi_run 4 ds r h)
  have a6 := upto (P := fun f => FnOk prog w H (glN w) fnN 44 whyC (f + 1) f (Phi f)) a5 (fn_tidy_set G X a5 fun ds r h => Phi_run 5 ds r h)
  have a7 := upto (P := fun f => FnOk prog w H (glN w) fnN 44 whyC (f + 1) f (Phi f)) a6 (fn_law_digit G X a6 fun ds r h => Phi_run 6 ds r h)
  have a8 := upto (P := fun f => FnOk prog w H (glN w) fnN 44 whyC (f + 1) f (Phi f)) a7 (fn_law_data G X a7 fun ds r h => Phi_run 7 ds r h)
  have a9 := upto (P := fun f => FnOk prog w H (glN w) fnN 44 whyC (f + 1) f (Phi f)) a8 (fn_law_told G X a8 fun ds r h => Phi_run 8 ds r h)
  have a10 := upto (P := fun f => FnOk prog w H (glN w) fnN 44 whyC (f + 1) f (Phi f)) a9 (fn_law_line G X a9 fun ds r h => Phi_run 9 ds r h)
  have a11 := upto (P := fun f => FnOk prog w H (glN w) fnN 44 whyC (f + 1) f (Phi f)) a10 (fn_law_plane G X a10 fun ds r h => Phi_run 10 ds r h)
  have a12 := upto (P := fun f => FnOk prog w H (glN w) fnN 44 whyC (f + 1) f (Phi f)) a11 (fn_law_has G X a11 fun ds r h => Phi_run 11 ds r h)
  have a13 := upto (P := fun f => FnOk prog w H (glN w) fnN 44 whyC (f + 1) f (Phi f)) a12 (fn_law_runs G X a12 fun ds r h => Phi_run 12 ds r h)
  exact upto (P := fun f => FnOk prog w H (glN w) fnN 44 whyC (f + 1) f (Phi f)) a13 (fn_law_due G X a13 fun ds r h => Phi_run 13 ds r h)
theorem glN_of {x : Str} {v : Value} (h : nsIn (KH w) mainGlobals x = some none) (hx : x ≠ "__name__") (hv : bootBuiltins x = some v) : glN w x = some v := by
  unfold glN
  rw [h]
  show (if x = "__name__" then none else bootBuiltins x) = some v
  rw [if_neg hx, hv]
theorem mkG {mg mb : Str → Option Value} (X : (KH w).In H) (g : H.Ns mainGlobals mg) (b : H.Ns builtinsNs mb) (lim : H.NoLimit) (bt : ∀ x : Str, x ≠ "__name__" → mb x = bootBuiltins x) : Gx prog w H (glN w) 44 whyC := by
  have top : GlobOk H (glN w) := ⟨mg, mb, g, b, fun x v h => by
    unfold glN at h
    split at h
    · rename_i q; cases h; exact .inl (mg_of X g q)
    · rename_i q
      split at h
      · cases h
      · rename_i n; exact .inr ⟨mg_none_of X g q, by rw [bt x n]; exact h⟩
    · cases h⟩
  have hE : glN w "Exception" = some (.type "Exception") := glN_of (by rfl) (by decide) (by decide +kernel)
  have hB : glN w "BadRule" = some (.ref 44) := by rfl
  have hF : glN w "conflict" = some (.ref 60) := by rfl
  refine ⟨top, glN_of (by rfl) (by decide) (by decide +kernel), glN_of (by rfl) (by decide) (by decide +kernel), glN_of (by rfl) (by decide) (by decide +kernel), glN_of (by rfl) (by decide) (by decide +kernel), glN_of (by rfl) (by decide) (by decide +kernel), glN_of (by rfl) (by decide) (by decide +kernel), glN_of (by rfl) (by decide) (by decide +kernel), lim, hB, ?_, ?_, ?_⟩
  · intro B s e oe kH he hc E Q hq
    obtain ⟨h, g, d, t, os⟩ := s
    exact PySem.wpAny_excMatches_sub_self (atC (X.keeps kH)) he hc (by decide) hq
  · intro B s e dx vs sl m t kH he hn hm E Q hq
    obtain ⟨h, g, d, t', os⟩ := s
    exact get_C (X.keeps kH) he hn hm hq
  · intro A kd env s p q r hA hu hd ek hk kH E Q hq
    exact boom hA top hE hB hF lim X kH (by omega) ek.kind ((ek.kinds _).trans hk) ek.gl ek.bu hq
theorem wellInt {P : Params} {h : Heap} {v : Value} {d : WData} {n : Int} (hw : Well P h v d) : d = .int n → Rp (fun _ => False) h v (.int n) := by
  refine Well.casesOn (motive_1 := fun v d _ => d = .int n → Rp (fun _ => False) h v (.int n)) hw ?_ ?_ ?_ ?_ ?_ ?_ ?_ ?_ ?_ ?_ ?_ ?_ ?_
  case refine_3 => exact fun i t e => WData.int.inj e ▸ .int i t
  all_goals intros; rename_i e; exact nomatch e
theorem wellL {P : Params} {h : Heap} {v : Value} {d : WData} {xs : List WData} (hw : Well P h v d) : d = .list xs → ∃ a vs, v = .ref a ∧ h.get? a = some { cls := .type "list", data := .seq vs.toArray } ∧ WellAll P h vs xs := by
  refine Well.casesOn (motive_1 := fun v d _ => d = .list xs → ∃ a vs, v = .ref a ∧ h.get? a = some { cls := .type "list", data := .seq vs.toArray } ∧ WellAll P h vs xs) hw ?_ ?_ ?_ ?_ ?_ ?_ ?_ ?_ ?_ ?_ ?_ ?_ ?_
  case refine_8 => exact fun {a vs ys} e r z => ⟨a, vs, rfl, e, WData.list.inj z ▸ r⟩
  all_goals intros; rename_i e; exact nomatch e
theorem wellInts {P : Params} {h : Heap} {ns : List Int} : ∀ {vs : List Value}, WellAll P h vs (ofPys (ns.map .int)) → RpAll (fun _ => False) h vs (ns.map .int) := by
  induction ns with
  | nil => exact fun hw => WellAll.casesOn (motive_2 := fun vs ds _ => ds = [] → RpAll (fun _ => False) h vs []) hw (fun _ => .nil) (fun _ _ e => nomatch e) rfl
  | cons n ns ih => exact fun hw => WellAll.casesOn (motive_2 := fun vs ds _ => ds = .int n :: ofPys (ns.map .int) → RpAll (fun _ => False) h vs (.int n :: ns.map .int)) hw (fun e => nomatch e) (fun a r e => .cons (wellInt a (List.cons.inj e).1) (ih ((List.cons.inj e).2 ▸ r))) rfl
theorem wellList {P : Params} {h : Heap} {ns : List Int} {v : Value} (hw : Well P h v (ofPy (.list (ns.map .int)))) : Rp (fun _ => False) h v (.list (ns.map .int)) := by
  obtain ⟨a, vs, rfl, e, r⟩ := wellL (xs := ofPys (ns.map .int)) hw rfl
  exact .lst (n := 0) e (fun q => q) (wellInts r)
theorem args1 {d : D} {i : Nat} {sl : Slot} (hi : args0 [d] i = some sl) : i = 0 ∧ sl = .fro d := by
  cases i with
  | zero => exact ⟨rfl, (Option.some.inj hi).symm⟩
  | succ i => exact nomatch (show (none : Option Slot) = some sl from hi)
theorem law_body {A : Around} {env : Env} {kd : Str → Option NameKind} {s : Shared} {m : Str → Option Value} {v : Value} {ns : List Int} {body : List Stmt} {Q : Flow → Shared → Prop} {E : Value → Shared → Prop}
    (G : Gx prog w H (glN w) 44 whyC) (X : (KH w).In H) (hA : A.handled = none) (fr : A.frames = some [env]) (hu : A.units + 42 ≤ 9000) (hd : A.depth + 14 < 990) (ek : EnvOk kd env) (eF : env.frame = some env.locals) (eC : env.cells = []) (hns : s.heap.Ns env.locals m)
    (hm : m (nm_law 0) = some v) (hk : kd (nm_law 0) = some .local) (kH : Kp H s.heap) (lnew : H.get? env.locals = none) (hv : Rp (fun _ => False) H v (.list (ns.map .int))) (hl : ns.length ≤ 63) (cs : CSs True nm_law fnN kd body ss_law)
    (hQ : ∀ h' tk, Kp H h' → Q (.ret (.bool true)) { s with heap := h', toks := tk }) : wpAny (model prog w) A (PySem.execs body env) Q E s := by
  have C := mkCx (A := A) (fs := [env]) (n := 14) G (all_fn G X) fr hA (by omega) (by omega)
  have R := mkRx (A := A) (fs := [env]) (n := 14) G (all_fn G X) fr hA (by omega) (by omega)
  have ff : FF [] H := fun e he => by cases he
  have S : St nm_law env (fun _ => False) H s.heap (args0 [.list (ns.map .int)]) (fun i => if i = 0 then v else .none) m := by
    refine ⟨hns, lnew, fun x c hc => ?_, ?_, fun i hi => ?_, fun i d hi => ?_, fun i es hi => ?_, fun i j es es' hi => ?_, kH, fun a q => q.elim⟩
    · rw [eC] at hc; cases hc
    · rw [eC]; exact .nil
    · obtain ⟨sl, e⟩ := Option.isSome_iff_exists.mp hi
      cases (args1 e).1
      exact .inl ⟨(ek.kinds _).trans hk, hm⟩
    · obtain ⟨z, e⟩ := args1 hi
      cases z; cases e
      exact (hv.keeps kH).mono fun x q => q.elim id fun q => q.elim fun j q => q.elim fun es q => nomatch (args1 q.1).2
    · exact nomatch (args1 hi).2
    · exact nomatch (args1 hi).2
  refine CSs.sound C R (nmL_ok _ (by decide) (by decide)) ek eF ff (fun S => ⟨S.stays, S.ff ek eF ff⟩) (fun _ => rfl) cs S (plain_law ns hl) ?_
  intro u h' tk k r
  cases r
  exact hQ h' tk k
theorem law_frame {name : Str} {scope : Scope} {L q : Addr} {cd : Value} {s : Shared} {m : Str → Option Value} {v : Value} {ns : List Int} {body : List Stmt} {Q : Flow → Shared → Prop} {E : Value → Shared → Prop}
    (G : Gx prog w H (glN w) 44 whyC) (X : (KH w).In H) (hk : scope.kind = .function) (hfree : ∀ y ∈ scope.names, y.2 ≠ .cell ∧ y.2 ≠ .free) (hns : s.heap.Ns L m)
    (hm : m (nm_law 0) = some v) (hl0 : scope.names.lookup (nm_law 0) = some .local) (kH : Kp H s.heap) (lnew : H.get? L = none) (hv : Rp (fun _ => False) H v (.list (ns.map .int))) (hl : ns.length ≤ 63) (cs : CSs True nm_law fnN (fun x => scope.names.lookup x) body ss_law)
    (hQ : ∀ h' tk, Kp H h' → Q (.ret (.bool true)) { s with heap := h', toks := tk }) : wpAny (model prog w) (callerA.deeper (envOf name scope L q cd)) (PySem.execs body (envOf name scope L q cd)) Q E s := by
  refine law_body (A := callerA.deeper (envOf name scope L q cd)) (ns := ns) G X rfl rfl (by show 4 + 3 + 42 ≤ 9000; omega) (by show 1 + claimMargin + 1 + 14 < 990; decide) ⟨hk, rfl, rfl, fun x => rfl, fun x hx => ?_⟩ rfl rfl hns hm hl0 kH lnew hv hl cs hQ
  exfalso
  rcases hx with hx | hx
  · exact (hfree _ (mem_of_lookup hx)).1 rfl
  · exact (hfree _ (mem_of_lookup hx)).2 rfl
end
end Mine
-- J3
namespace Mine
open PySem PySem.W PyProof.Rows PySem.Calls
theorem T0 : PySem.Challenge.rw_pf0326_01.Holds := by
  w_on
  o_law
  o_head (kHook K0 [3, 27, 28, 30, 31, 43, 44, 52, 53, 59, 60, 66, 67, 73, 74, 80, 81, 87, 88, 94, 95, 101, 102, 108, 109, 113, 114, 118, 119, 123, 124, 130, 131, 135, 136, 140, 141] (fun _ => by kernel_rfl))
  case hw => w_witness2
  · w_strict (k_go0; skip)
    rename_i w s₀ s₁ mg mb G Y fa o pm doc kV ho hg KX X V GL T B TE TW a9 a8 M a7 a6 hcd ns hs hlay0 hL1 hr1 hl2 a4 a3 a2 vs a0 hL ra w1 r0 hI hr hc1 hc2 KB hD h₁ F N0
    have GG := mkG KX T.g T.b T.nolimit T.builtins (prog := PySem.Challenge.rw_pf0326_01.row.prog)
    refine law_frame (ns := ns) GG KX rfl (by decide) F.ns rfl rfl F.keep (Heap.get?_none_of_le (Nat.le_refl _)) (wellList w1) (by omega) ?_ ?_
    · exact (.cons (.own 1 (.inl (by rfl)) (.cons (.call 9 (by rfl) (.var 0) (.cons .int (.cons .int (.cons (.lst (.cons .int (.cons .int (.cons .int (.cons .int (.cons .int (.cons .int .nil))))))) .nil)))) .nil)) (.cons (.app 1 (by rfl) (.call 9 (by rfl) (.var 0) (.cons .int (.cons (.bin .int (.bin (.call 6 (by rfl) (.var 0) (.cons .int .nil)) .int)) (.cons (.lst (.cons .int (.cons .int (.cons .int (.cons .int (.cons .int (.cons .int .nil))))))) .nil))))) (.cons (.app 1 (by rfl) (.call 10 (by rfl) (.var 0) (.cons .int .nil))) (.frz 1 (.cons (.for_ (.two 2 3 (.inl (by rfl)) (.inl (by rfl)) (by decide)) (.seq (.var 1)) (.cons (.try_ 4 5 5 trivial (by rfl) (by rfl) (by decide) (by rfl) (by rfl) (.lstOf (by rfl) (.var 2)) .nil) (.cons (.ite (.ne (.var 4) (.call 13 (by rfl) (.var 2) (.cons (.var 3) .nil))) (.cons (.ret .boolC) .nil) .nil) .nil))) (.cons (.ret .boolC) .nil))))))
    · intro h' tk k
      have hp : PySem.Challenge.rw_pf0326_01.row.claim.post [ofPy (.list (ns.map .int))] (.bool true) [ofPy (.list (ns.map .int))] = true := by
        first
          | wrow_post
          | kc_post
      exact ⟨.inl ⟨.bool true, .bool true, [], rfl, fun _ => rfl, .bool true, hp, fun _ => ⟨.nil, fun _ m => by cases m⟩⟩, k, rfl, hg⟩
end Mine
theorem PySem.Challenge.cw_pf0326_01_holds : PySem.Challenge.rw_pf0326_01.Holds :=
  Mine.T0
