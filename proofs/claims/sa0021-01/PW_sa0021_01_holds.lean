import PyProof.Rows.All
import Wide.All
import OpenK.AllK
import Wide.FinOn
import PySem.Challenge.RW_sa0021_01
set_option Elab.async false
section
open PySem PySem.W PyProof.Rows
namespace Mine
set_option maxRecDepth 100000
set_option maxHeartbeats 8000000
set_option synthInstance.maxSize 1 in
open_top hd for PySem.Challenge.rw_sa0021_01
end Mine
end
section
open PySem PySem.W PyProof.Rows
namespace Mine

/-- values of the walk, without addresses: tuples by what they hold, lists and dicts by their number in the ledger -/
inductive AV where
  | none
  | bool (b : Bool)
  | int (i : Int)
  | str (x : Str)
  | tup (l : List AV)
  | ref (i : Nat)
  | opq (a : Addr)

noncomputable def AV.pick (n : Bool) (fb : Bool → Bool) (fi : Int → Bool) (fs : Str → Bool) (ft : List AV → Bool) (fr : Nat → Bool) (fo : Addr → Bool) (b : AV) : Bool := @AV.casesOn (fun _ => Bool) b n fb fi fs ft fr fo
noncomputable def no1 {α : Type} (_ : α) : Bool := false
noncomputable def AV.beq (a : AV) : AV → Bool :=
  @AV.rec (fun _ => AV → Bool) (fun _ => List AV → Bool) (AV.pick true no1 no1 no1 no1 no1 no1) (fun x => AV.pick false (fun y => x == y) no1 no1 no1 no1 no1) (fun x => AV.pick false no1 (fun y => x == y) no1 no1 no1 no1)
    (fun x => AV.pick false no1 no1 (fun y => decide (x = y)) no1 no1 no1) (fun _ ih => AV.pick false no1 no1 no1 ih no1 no1) (fun x => AV.pick false no1 no1 no1 no1 (fun y => x == y) no1) (fun x => AV.pick false no1 no1 no1 no1 no1 (fun y => Nat.beq x y))
    (fun m => @List.casesOn _ (fun _ => Bool) m true fun _ _ => false) (fun _ _ ih jh m => @List.casesOn _ (fun _ => Bool) m false fun b r => ih b && jh r) a
theorem AV.beq_self (a : AV) : AV.beq a a = true :=
  @AV.rec (fun a => AV.beq a a = true) (fun l => AV.beq (.tup l) (.tup l) = true) rfl (fun b => (beq_self_eq_true b : _)) (fun b => (beq_self_eq_true b : _)) (fun x => decide_eq_true (rfl : x = x)) (fun _ h => h) (fun b => (beq_self_eq_true b : _)) (fun b => Nat.beq_refl b)
    rfl (fun _ _ h k => (Bool.and_eq_true _ _).mpr ⟨h, k⟩) a
theorem ff {p : Prop} (h : false = true) : p := Bool.noConfusion h
theorem AV.beq_to (a : AV) : ∀ b, AV.beq a b = true → a = b :=
  @AV.rec (fun a => ∀ b, AV.beq a b = true → a = b) (fun l => ∀ m, AV.beq (.tup l) (.tup m) = true → l = m)
    (fun b => @AV.casesOn (fun b => AV.beq .none b = true → AV.none = b) b (fun _ => rfl) (fun _ => ff) (fun _ => ff) (fun _ => ff) (fun _ => ff) (fun _ => ff) (fun _ => ff))
    (fun x b => @AV.casesOn (fun b => AV.beq (.bool x) b = true → AV.bool x = b) b ff (fun _ h => congrArg _ (eq_of_beq h)) (fun _ => ff) (fun _ => ff) (fun _ => ff) (fun _ => ff) (fun _ => ff))
    (fun x b => @AV.casesOn (fun b => AV.beq (.int x) b = true → AV.int x = b) b ff (fun _ => ff) (fun _ h => congrArg _ (eq_of_beq h)) (fun _ => ff) (fun _ => ff) (fun _ => ff) (fun _ => ff))
    (fun x b => @AV.casesOn (fun b => AV.beq (.str x) b = true → AV.str x = b) b ff (fun _ => ff) (fun _ => ff) (fun _ h => congrArg _ (of_decide_eq_true h)) (fun _ => ff) (fun _ => ff) (fun _ => ff))
    (fun x ih b => @AV.casesOn (fun b => AV.beq (.tup x) b = true → AV.tup x = b) b ff (fun _ => ff) (fun _ => ff) (fun _ => ff) (fun m h => congrArg _ (ih m h)) (fun _ => ff) (fun _ => ff))
    (fun x b => @AV.casesOn (fun b => AV.beq (.ref x) b = true → AV.ref x = b) b ff (fun _ => ff) (fun _ => ff) (fun _ => ff) (fun _ => ff) (fun _ h => congrArg _ (eq_of_beq h)) (fun _ => ff))
    (fun x b => @AV.casesOn (fun b => AV.beq (.opq x) b = true → AV.opq x = b) b ff (fun _ => ff) (fun _ => ff) (fun _ => ff) (fun _ => ff) (fun _ => ff) (fun _ h => congrArg _ (Nat.eq_of_beq_eq_true h)))
    (fun m => @List.casesOn _ (fun m => AV.beq (.tup []) (.tup m) = true → [] = m) m (fun _ => rfl) (fun _ _ => ff))
    (fun x l ih jh m => @List.casesOn _ (fun m => AV.beq (.tup (x :: l)) (.tup m) = true → x :: l = m) m ff (fun b r h => by
      have h := (Bool.and_eq_true _ _).mp (h : (AV.beq x b && AV.beq (.tup l) (.tup r)) = true)
      rw [ih b h.1, jh r h.2])) a
noncomputable instance : DecidableEq AV := fun a b => decidable_of_iff (AV.beq a b = true) ⟨AV.beq_to a b, fun e => e ▸ AV.beq_self a⟩

mutual
inductive Rep (h : Heap) (ρ : List Addr) : Value → AV → Prop
  | none : Rep h ρ Value.none AV.none
  | bool (b : Bool) : Rep h ρ (Value.bool b) (AV.bool b)
  | int (i : Int) (t : Tok) : Rep h ρ (Value.int i t) (AV.int i)
  | str (x : Str) (t : Tok) : Rep h ρ (Value.str x t) (AV.str x)
  | tup {a : Addr} {vs : List Value} {l : List AV} : IsTup h a vs.toArray → RepL h ρ vs l → Rep h ρ (Value.ref a) (AV.tup l)
  | ref {a : Addr} {i : Nat} : ρ[i]? = some a → Rep h ρ (Value.ref a) (AV.ref i)
  | opq (a : Addr) : Rep h ρ (Value.ref a) (AV.opq a)
inductive RepL (h : Heap) (ρ : List Addr) : List Value → List AV → Prop
  | nil : RepL h ρ [] []
  | cons {v : Value} {vs : List Value} {x : AV} {l : List AV} : Rep h ρ v x → RepL h ρ vs l → RepL h ρ (v :: vs) (x :: l)
end

section
variable {h : Heap} {ρ : List Addr} {c : Value}
noncomputable def RepIs (h : Heap) (ρ : List Addr) (c : Value) (x : AV) : Prop :=
  @AV.casesOn (fun _ => Prop) x (c = .none) (fun b => c = .bool b) (fun i => ∃ t, c = .int i t) (fun x => ∃ t, c = .str x t) (fun l => ∃ a vs, c = .ref a ∧ IsTup h a vs.toArray ∧ RepL h ρ vs l) (fun i => ∃ a, c = .ref a ∧ ρ[i]? = some a) (fun a => c = .ref a)
theorem Rep.inv {x : AV} (r : Rep h ρ c x) : RepIs h ρ c x :=
  Rep.casesOn (motive_1 := fun c x _ => RepIs h ρ c x) r rfl (fun _ => rfl) (fun _ t => ⟨t, rfl⟩) (fun _ t => ⟨t, rfl⟩) (fun e q => ⟨_, _, rfl, e, q⟩) (fun e => ⟨_, rfl, e⟩) (fun _ => rfl)
theorem Rep.none_ (r : Rep h ρ c .none) : c = .none := r.inv
theorem Rep.bool_ {b : Bool} (r : Rep h ρ c (.bool b)) : c = .bool b := r.inv
theorem Rep.int_ {i : Int} (r : Rep h ρ c (.int i)) : ∃ t, c = .int i t := r.inv
theorem Rep.str_ {x : Str} (r : Rep h ρ c (.str x)) : ∃ t, c = .str x t := r.inv
theorem Rep.tup_ {l : List AV} (r : Rep h ρ c (.tup l)) : ∃ a vs, c = .ref a ∧ IsTup h a vs.toArray ∧ RepL h ρ vs l := r.inv
theorem Rep.ref_ {i : Nat} (r : Rep h ρ c (.ref i)) : ∃ a, c = .ref a ∧ ρ[i]? = some a := r.inv
theorem Rep.opq_ {a : Addr} (r : Rep h ρ c (.opq a)) : c = .ref a := r.inv
noncomputable def RepLIs (h : Heap) (ρ : List Addr) (vs : List Value) (l : List AV) : Prop := @List.casesOn _ (fun _ => Prop) l (vs = []) (fun x r => ∃ v ws, vs = v :: ws ∧ Rep h ρ v x ∧ RepL h ρ ws r)
theorem RepL.inv {vs : List Value} {l : List AV} (r : RepL h ρ vs l) : RepLIs h ρ vs l :=
  RepL.casesOn (motive_2 := fun vs l _ => RepLIs h ρ vs l) r rfl (fun a q => ⟨_, _, rfl, a, q⟩)
theorem RepL.nil_ {vs : List Value} (r : RepL h ρ vs []) : vs = [] := r.inv
theorem RepL.cons_ {vs : List Value} {x : AV} {l : List AV} (r : RepL h ρ vs (x :: l)) : ∃ v ws, vs = v :: ws ∧ Rep h ρ v x ∧ RepL h ρ ws l := r.inv
end

noncomputable def TupKeep (h h' : Heap) : Prop := ∀ a vs, IsTup h a vs → IsTup h' a vs
noncomputable def Pre (ρ ρ' : List Addr) : Prop := ∀ (i : Nat) (a : Addr), ρ[i]? = some a → ρ'[i]? = some a
theorem Pre.refl (ρ : List Addr) : Pre ρ ρ := fun _ _ h => h
theorem Pre.trans {a b c : List Addr} (x : Pre a b) (y : Pre b c) : Pre a c := fun i q h => y i q (x i q h)
theorem Pre.append (ρ τ : List Addr) : Pre ρ (ρ ++ τ) := fun i a h => by
  rw [List.getElem?_append_left (List.getElem?_eq_some_iff.mp h).1]; exact h
theorem Pre.mem {ρ ρ' : List Addr} (p : Pre ρ ρ') {a : Addr} (h : a ∈ ρ) : a ∈ ρ' := by
  obtain ⟨i, hi⟩ := List.mem_iff_getElem?.mp h
  exact List.mem_of_getElem? (p i a hi)
theorem Pre.length {ρ ρ' : List Addr} (p : Pre ρ ρ') : ρ.length ≤ ρ'.length :=
  Nat.le_of_not_lt fun h => absurd (p _ _ (List.getElem?_eq_getElem h)) (by rw [List.getElem?_eq_none (Nat.le_refl _)]; exact nofun)

theorem Rep.mono {h h' : Heap} {ρ ρ' : List Addr} (k : TupKeep h h') (p : Pre ρ ρ') {v : Value} {x : AV} (r : Rep h ρ v x) : Rep h' ρ' v x :=
  Rep.rec (motive_1 := fun v x _ => Rep h' ρ' v x) (motive_2 := fun vs l _ => RepL h' ρ' vs l) Rep.none (fun b => .bool b) (fun i t => .int i t) (fun x t => .str x t) (fun a _ ih => .tup (k _ _ a) ih) (fun a => .ref (p _ _ a)) (fun a => .opq a) .nil (fun _ _ i j => .cons i j) r
theorem RepL.mono {h h' : Heap} {ρ ρ' : List Addr} (k : TupKeep h h') (p : Pre ρ ρ') {v : List Value} {x : List AV} (r : RepL h ρ v x) : RepL h' ρ' v x :=
  RepL.rec (motive_1 := fun v x _ => Rep h' ρ' v x) (motive_2 := fun vs l _ => RepL h' ρ' vs l) Rep.none (fun b => .bool b) (fun i t => .int i t) (fun x t => .str x t) (fun a _ ih => .tup (k _ _ a) ih) (fun a => .ref (p _ _ a)) (fun a => .opq a) .nil (fun _ _ i j => .cons i j) r

section
variable {h : Heap} {ρ : List Addr} {vs ws : List Value} {l m : List AV}
theorem RepL.length (r : RepL h ρ vs l) : vs.length = l.length :=
  RepL.rec (motive_1 := fun _ _ _ => True) (motive_2 := fun vs l _ => vs.length = l.length) trivial (fun _ => trivial) (fun _ _ => trivial) (fun _ _ => trivial) (fun _ _ _ => trivial) (fun _ => trivial) (fun _ => trivial) rfl (fun _ _ _ e => congrArg (· + 1) e) r
theorem RepL.append (r : RepL h ρ vs l) (q : RepL h ρ ws m) : RepL h ρ (vs ++ ws) (l ++ m) :=
  RepL.rec (motive_1 := fun _ _ _ => True) (motive_2 := fun vs l _ => RepL h ρ (vs ++ ws) (l ++ m)) trivial (fun _ => trivial) (fun _ _ => trivial) (fun _ _ => trivial) (fun _ _ _ => trivial) (fun _ => trivial) (fun _ => trivial) q (fun a _ _ e => .cons a e) r
theorem RepL.get (r : RepL h ρ vs l) : ∀ {i : Nat} {x : AV}, l[i]? = some x → ∃ v, vs[i]? = some v ∧ Rep h ρ v x :=
  RepL.rec (motive_1 := fun _ _ _ => True) (motive_2 := fun vs l _ => ∀ {i : Nat} {x : AV}, l[i]? = some x → ∃ v, vs[i]? = some v ∧ Rep h ρ v x) trivial (fun _ => trivial) (fun _ _ => trivial) (fun _ _ => trivial) (fun _ _ _ => trivial) (fun _ => trivial) (fun _ => trivial)
    (fun e => nomatch e) (fun {v _ _ _} a _ _ ih {i} {_} => @Nat.casesOn (fun i => _[i]? = some _ → ∃ v, _[i]? = some v ∧ Rep h ρ v _) i (fun e => ⟨v, rfl, Option.some.inj e ▸ a⟩) (fun _ e => ih e)) r
theorem RepL.take (r : RepL h ρ vs l) : ∀ n : Nat, RepL h ρ (vs.take n) (l.take n) :=
  RepL.rec (motive_1 := fun _ _ _ => True) (motive_2 := fun vs l _ => ∀ n : Nat, RepL h ρ (vs.take n) (l.take n)) trivial (fun _ => trivial) (fun _ _ => trivial) (fun _ _ => trivial) (fun _ _ _ => trivial) (fun _ => trivial) (fun _ => trivial)
    (fun n => by rw [List.take_nil, List.take_nil]; exact .nil) (fun a _ _ ih n => @Nat.casesOn (fun n => RepL h ρ ((_ :: _).take n) ((_ :: _).take n)) n .nil (fun n => .cons a (ih n))) r
theorem RepL.drop (r : RepL h ρ vs l) : ∀ n : Nat, RepL h ρ (vs.drop n) (l.drop n) :=
  RepL.rec (motive_1 := fun _ _ _ => True) (motive_2 := fun vs l _ => ∀ n : Nat, RepL h ρ (vs.drop n) (l.drop n)) trivial (fun _ => trivial) (fun _ _ => trivial) (fun _ _ => trivial) (fun _ _ _ => trivial) (fun _ => trivial) (fun _ => trivial)
    (fun n => by rw [List.drop_nil, List.drop_nil]; exact .nil) (fun a q _ ih n => @Nat.casesOn (fun n => RepL h ρ ((_ :: _).drop n) ((_ :: _).drop n)) n (.cons a q) ih) r
theorem RepL.reverse (r : RepL h ρ vs l) : RepL h ρ vs.reverse l.reverse :=
  RepL.rec (motive_1 := fun _ _ _ => True) (motive_2 := fun vs l _ => RepL h ρ vs.reverse l.reverse) trivial (fun _ => trivial) (fun _ _ => trivial) (fun _ _ => trivial) (fun _ _ _ => trivial) (fun _ => trivial) (fun _ => trivial) .nil
    (fun a _ _ e => by rw [List.reverse_cons, List.reverse_cons]; exact e.append (.cons a .nil)) r
theorem RepL.set (r : RepL h ρ vs l) {v : Value} {x : AV} (q : Rep h ρ v x) : ∀ i : Nat, RepL h ρ (vs.set i v) (l.set i x) :=
  RepL.rec (motive_1 := fun _ _ _ => True) (motive_2 := fun vs l _ => ∀ i : Nat, RepL h ρ (vs.set i v) (l.set i x)) trivial (fun _ => trivial) (fun _ _ => trivial) (fun _ _ => trivial) (fun _ _ _ => trivial) (fun _ => trivial) (fun _ => trivial)
    (fun _ => .nil) (fun a r _ ih n => @Nat.casesOn (fun n => RepL h ρ ((_ :: _).set n v) ((_ :: _).set n x)) n (.cons q r) (fun n => .cons a (ih n))) r
theorem RepL.mem (r : RepL h ρ vs l) : ∀ {v : Value}, v ∈ vs → ∃ x ∈ l, Rep h ρ v x :=
  RepL.rec (motive_1 := fun _ _ _ => True) (motive_2 := fun vs l _ => ∀ {v : Value}, v ∈ vs → ∃ x ∈ l, Rep h ρ v x) trivial (fun _ => trivial) (fun _ _ => trivial) (fun _ _ => trivial) (fun _ _ _ => trivial) (fun _ => trivial) (fun _ => trivial)
    (fun h => nomatch h) (fun {_ _ _ _} a _ _ ih {_} hv => (List.mem_cons.mp hv).elim (fun e => ⟨_, .head _, e ▸ a⟩) (fun h => let ⟨x, hx, q⟩ := ih h; ⟨x, .tail _ hx, q⟩)) r
end

set_option genSizeOf false in
/-- the objects of the ledger -/
inductive AObj where
  | list (l : List AV)
  | sdict (kvs : List (Str × AV))
  | tdict (ks : List AV)

set_option genInjectivity false in
set_option genSizeOf false in
structure Glo where
  prog : Program
  w : World
  h₀ : Heap
  os₀ : OsState
  mg : Str → Option Value
  mb : Str → Option Value

end Mine
end
section
open PySem PySem.W PyProof.Rows
set_option linter.unusedSimpArgs false
namespace Mine

noncomputable def AV.fold {α β : Type} (n : α) (fb : Bool → α) (fi : Int → α) (fs : Str → α) (ft : β → α) (fr : Nat → α) (fo : Addr → α) (e : β) (c : α → β → β) (x : AV) : α := @AV.rec (fun _ => α) (fun _ => β) n fb fi fs (fun _ => ft) fr fo e (fun _ _ => c) x
noncomputable def AV.foldL {α β : Type} (n : α) (fb : Bool → α) (fi : Int → α) (fs : Str → α) (ft : β → α) (fr : Nat → α) (fo : Addr → α) (e : β) (c : α → β → β) (x : List AV) : β := @AV.rec_1 (fun _ => α) (fun _ => β) n fb fi fs (fun _ => ft) fr fo e (fun _ _ => c) x
noncomputable def to {α β : Type} (b : β) (_ : α) : β := b
noncomputable def hashA (w : World) : AV → Int := AV.fold 0 (to 0) (to 0) (hashStr w) (fun l => reduceHash (Builtin.Tuple.tupleHashOf l)) (to 0) (to 0) [] List.cons
noncomputable def hashAs (w : World) : List AV → List Int := AV.foldL 0 (to 0) (to 0) (hashStr w) (fun l => reduceHash (Builtin.Tuple.tupleHashOf l)) (to 0) (to 0) [] List.cons
noncomputable def drawsA : AV → Nat := AV.fold 0 (to 0) (to 0) (to 1) (fun l => l + 1) (to 0) (to 0) 0 Nat.add
noncomputable def drawsAs : List AV → Nat := AV.foldL 0 (to 0) (to 0) (to 1) (fun l => l + 1) (to 0) (to 0) 0 Nat.add
theorem hashAs_nil (w : World) : hashAs w [] = [] := rfl
theorem hashAs_cons (w : World) (x : AV) (l : List AV) : hashAs w (x :: l) = hashA w x :: hashAs w l := rfl
theorem drawsAs_nil : drawsAs [] = 0 := rfl
theorem drawsAs_cons (x : AV) (l : List AV) : drawsAs (x :: l) = drawsA x + drawsAs l := rfl
theorem hashAs_append (w : World) (l m : List AV) : hashAs w (l ++ m) = hashAs w l ++ hashAs w m := by
  induction l with
  | nil => rfl
  | cons x l ih => exact congrArg _ ih
theorem drawsAs_append (l m : List AV) : drawsAs (l ++ m) = drawsAs l + drawsAs m := by
  induction l with
  | nil => exact (Nat.zero_add _).symm
  | cons x l ih => exact (congrArg _ ih).trans (Nat.add_assoc _ _ _).symm

/-- keys: texts and tuples of keys, n floors deep at most -/
noncomputable def okKey (n : Nat) : AV → Bool := @Nat.rec (fun _ => AV → Bool) (AV.pick false no1 no1 PyData.strOk no1 no1 no1) (fun _ ih => AV.pick false no1 no1 PyData.strOk (fun l => l.all ih) no1 no1) n
theorem okKey_tup {n : Nat} {l : List AV} : okKey (n + 1) (.tup l) = l.all (okKey n) := rfl

noncomputable def AV.solid : AV → Bool := AV.fold true (to true) (to true) (to true) id (to true) no1 true and
noncomputable def AV.solids : List AV → Bool := AV.foldL true (to true) (to true) (to true) id (to true) no1 true and
theorem AV.solids_cons {x : AV} {l : List AV} : AV.solids (x :: l) = (AV.solid x && AV.solids l) := rfl
theorem two {a b : Bool} (h : (a && b) = true) : a = true ∧ b = true := (Bool.and_eq_true _ _).mp h
theorem none_at {α : Type} {i : Nat} {a : α} (h : ([] : List α)[i]? = some a) {p : Prop} : p := absurd (List.mem_of_getElem? h) List.not_mem_nil
theorem isTup_same {h : Heap} {a : Addr} {vs ws : List Value} (x : IsTup h a vs.toArray) (y : IsTup h a ws.toArray) : vs = ws := by
  obtain ⟨o, ho, hc, n, hd⟩ := x
  obtain ⟨o', ho', hc', n', hd'⟩ := y
  obtain rfl := Option.some.inj (ho.symm.trans ho')
  exact congrArg Array.toList (Data.seq.inj (hd.symm.trans hd')).1
theorem Rep.inj_tup {h : Heap} {a : Addr} {vs : List Value} {l : List AV} (t : IsTup h a vs.toArray) (ih : ∀ m, RepL h [] vs m → AV.solids l = true → AV.solids m = true → l = m) (y : AV) :
    Rep h [] (.ref a) y → AV.solids l = true → AV.solid y = true → AV.tup l = y :=
  @AV.casesOn (fun y => Rep h [] (.ref a) y → AV.solids l = true → AV.solid y = true → AV.tup l = y) y (fun r _ _ => Value.noConfusion r.none_) (fun _ r _ _ => Value.noConfusion r.bool_) (fun _ r _ _ => r.int_.elim fun _ e => Value.noConfusion e) (fun _ r _ _ => r.str_.elim fun _ e => Value.noConfusion e)
    (fun m r e f => by
      obtain ⟨b, ws, e1, t', q⟩ := r.tup_
      obtain rfl := (Value.ref.inj e1)
      obtain rfl := isTup_same t t'
      rw [ih m q e f])
    (fun _ r _ _ => let ⟨_, _, e⟩ := r.ref_; none_at e) (fun _ _ _ f => ff f)
theorem val_eq {c d e : Value} (x : c = d) (y : c = e) : d = e := x.symm.trans y
theorem Rep.inj {h : Heap} {v : Value} {x y : AV} (r : Rep h [] v x) (q : Rep h [] v y) (e : AV.solid x = true) (f : AV.solid y = true) : x = y :=
  Rep.rec (motive_1 := fun v x _ => ∀ y, Rep h [] v y → AV.solid x = true → AV.solid y = true → x = y) (motive_2 := fun vs l _ => ∀ m, RepL h [] vs m → AV.solids l = true → AV.solids m = true → l = m)
    (fun y r _ _ => @AV.casesOn (fun y => RepIs h [] .none y → AV.none = y) y (fun _ => rfl) (fun _ e => Value.noConfusion e) (fun _ e => e.elim fun _ e => Value.noConfusion e) (fun _ e => e.elim fun _ e => Value.noConfusion e) (fun _ e => e.elim fun _ e => e.elim fun _ e => Value.noConfusion e.1) (fun _ e => e.elim fun _ e => Value.noConfusion e.1) (fun _ e => Value.noConfusion e) r.inv)
    (fun b y r _ _ => @AV.casesOn (fun y => RepIs h [] (.bool b) y → AV.bool b = y) y (fun e => Value.noConfusion e) (fun _ e => congrArg _ (Value.bool.inj e)) (fun _ e => e.elim fun _ e => Value.noConfusion e) (fun _ e => e.elim fun _ e => Value.noConfusion e) (fun _ e => e.elim fun _ e => e.elim fun _ e => Value.noConfusion e.1) (fun _ e => e.elim fun _ e => Value.noConfusion e.1) (fun _ e => Value.noConfusion e) r.inv)
    (fun i t y r _ _ => @AV.casesOn (fun y => RepIs h [] (.int i t) y → AV.int i = y) y (fun e => Value.noConfusion e) (fun _ e => Value.noConfusion e) (fun _ e => e.elim fun _ e => congrArg _ (Value.int.inj e).1) (fun _ e => e.elim fun _ e => Value.noConfusion e) (fun _ e => e.elim fun _ e => e.elim fun _ e => Value.noConfusion e.1) (fun _ e => e.elim fun _ e => Value.noConfusion e.1) (fun _ e => Value.noConfusion e) r.inv)
    (fun i t y r _ _ => @AV.casesOn (fun y => RepIs h [] (.str i t) y → AV.str i = y) y (fun e => Value.noConfusion e) (fun _ e => Value.noConfusion e) (fun _ e => e.elim fun _ e => Value.noConfusion e) (fun _ e => e.elim fun _ e => congrArg _ (Value.str.inj e).1) (fun _ e => e.elim fun _ e => e.elim fun _ e => Value.noConfusion e.1) (fun _ e => e.elim fun _ e => Value.noConfusion e.1) (fun _ e => Value.noConfusion e) r.inv)
    (fun a _ ih y r e f => Rep.inj_tup a ih y r e f)
    (fun a y _ _ _ => none_at a) (fun a y _ e _ => ff e) (fun m r _ _ => @List.casesOn _ (fun m => RepLIs h [] [] m → [] = m) m (fun _ => rfl) (fun _ _ e => e.elim fun _ e => e.elim fun _ e => absurd e.1.symm (List.cons_ne_nil _ _)) r.inv)
    (fun {v vs x l} _ _ i j m r e => @List.casesOn _ (fun m => RepLIs h [] (v :: vs) m → AV.solids m = true → x :: l = m) m (fun e => absurd e (List.cons_ne_nil _ _)) (fun y m e' f => by
      obtain ⟨w, ws, e1, b, q⟩ := e'
      obtain ⟨rfl, rfl⟩ := List.cons.inj e1
      rw [i _ b (two e).1 (two f).1, j _ q (two e).2 (two f).2]) r.inv) r y q e f

section
variable {prog : Program} {w : World}

theorem isTup_typeIs {s : Shared} {a : Addr} {vs : Array Value} (x : IsTup s.heap a vs) : s.TypeIs (.ref a) "tuple" := let ⟨o, ho, hc, _⟩ := x; ⟨o, ho, hc⟩

noncomputable def KeyJ (prog : Program) (w : World) (n : Nat) : Prop :=
  ∀ (A : Around) (E : Value → Shared → Prop) (s : Shared) (v : Value) (x : AV) (Q : Int → Shared → Prop), A.units + n < cLine → Rep s.heap [] v x → okKey n x = true →
    Q (hashA w x) { s with toks := s.toks + drawsA x } → wpAny (model prog w) A (PySem.pyHash v) Q E s

theorem keyJ_tuple {n : Nat} (ih : KeyJ prog w n) {A : Around} {E : Value → Shared → Prop} {s : Shared} {a : Addr} {vs : List Value} {l : List AV} {Q : Int → Shared → Prop} (hu : A.units + (n + 1) < cLine)
    (ht : IsTup s.heap a vs.toArray) (hr : RepL s.heap [] vs l) (hk : l.all (okKey n) = true) (h : Q (hashA w (.tup l)) { s with toks := s.toks + drawsA (.tup l) }) :
    wpAny (model prog w) A (pyHash (.ref a)) Q E s := by
  have hT := isTup_typeIs ht
  obtain ⟨o, ho, _, n', hd⟩ := ht
  unfold pyHash
  unfold pyHashByItsType
  refine wpAny_bind (wpAny_cRoomFor_or (.inr (by lia)) ?_)
  refine wpAny_bind (wpAny_specialOf hT F.slot_tuple_hash.lookup ?_)
  show wpAny _ _ (if (some (Value.builtin "tuple.__hash__") == some Value.none) = true then _ else _) Q E s
  rw [if_neg (by rw [beq_builtin_none]; exact Bool.false_ne_true)]
  refine wpAny_bind (wpAny_specialOf hT F.slot_tuple_hash.lookup ?_)
  show wpAny _ _ (callSpecialIfBoundUnlessNone? (.ref a) "__hash__" _ >>= _) Q E s
  refine wpAny_bind (wpAny_callSpecialIfBoundUnlessNone?_slot hT F.slot_tuple_hash (wpAny_call_entry F.slot_tuple_hash hT F.entry_tuple_hash ?_ (F.args_tuple_hash_1 _)))
  show wpAny _ _ (Builtin.Tuple.tupleItemsOf (.ref a) >>= _) _ _ s
  refine wpAny_bind (wpAny_tupleItemsOf ho hd ?_)
  refine wpAny_bind ?_
  rw [← Array.forIn_toList]
  refine wpAny_forIn_list _
    (fun rest (b : Array Int) s' => ∃ done left, l = done ++ left ∧ RepL s.heap [] rest left ∧ left.all (okKey n) = true ∧ b.toList = hashAs w done ∧ s' = { s with toks := s.toks + drawsAs done })
    _ ?_ ?_ _ _ ⟨[], l, rfl, by simpa using hr, hk, rfl, rfl⟩
  · rintro x rest b s' ⟨done, left, rfl, hl, hkl, hb, rfl⟩
    cases hl with
    | @cons _ _ k ks' h1 hl' =>
      simp only [List.all_cons, Bool.and_eq_true] at hkl
      refine wpAny_bind (ih A.in1 _ _ _ _ _ (by simp only [Around.in1_units]; lia) h1 hkl.1 ?_)
      have e2 : ({ s with toks := s.toks + drawsAs done + drawsA k } : Shared) = { s with toks := s.toks + drawsAs (done ++ [k]) } := by rw [drawsAs_append, Nat.add_assoc]; rfl
      have e1 : (b.push (hashA w k)).toList = hashAs w (done ++ [k]) := by rw [hashAs_append, Array.toList_push, hb]; rfl
      first
        | exact wpAny_pure ⟨done ++ [k], ks', List.append_cons .., hl', hkl.2, e1, e2⟩
        | exact wpAny_bind (wpAny_pure (wpAny_pure ⟨done ++ [k], ks', List.append_cons .., hl', hkl.2, e1, e2⟩))
  · rintro b s' ⟨done, left, rfl, hl, _, hb, rfl⟩
    cases hl
    rw [List.append_nil] at h
    show wpAny _ _ (retInt (Builtin.Tuple.tupleHashOf b.toList)) _ _ _
    rw [hb]
    refine wpAny_ret_mkInt ?_
    show wpAny _ _ (if (decide (-(2 : Int) ^ 63 ≤ Builtin.Tuple.tupleHashOf (hashAs w done)) && decide (Builtin.Tuple.tupleHashOf (hashAs w done) < 2 ^ 63)) = true then _ else _) Q E _
    replace h : Q (reduceHash (Builtin.Tuple.tupleHashOf (hashAs w done))) { s with toks := s.toks + (drawsAs done + 1) } := h
    unfold reduceHash at h
    by_cases hr : (decide (-(2 : Int) ^ 63 ≤ Builtin.Tuple.tupleHashOf (hashAs w done)) && decide (Builtin.Tuple.tupleHashOf (hashAs w done) < 2 ^ 63)) = true
    · rw [if_pos hr]
      rw [if_pos hr] at h
      exact wpAny_pure h
    · rw [if_neg hr]
      rw [if_neg hr] at h
      exact wpAny_bind (wpAny_rule (wpAny_pure h))

theorem keyJ (n : Nat) : KeyJ prog w n := by
  induction n with
  | zero =>
    intro A E s v x Q hu hr hk h
    cases x with
    | str y => obtain ⟨_, rfl⟩ := hr.str_; exact wpAny_pyHash_str h
    | _ => exact ff hk
  | succ n ih =>
    intro A E s v x Q hu hr hk h
    cases x with
    | str y => obtain ⟨_, rfl⟩ := hr.str_; exact wpAny_pyHash_str h
    | tup l => obtain ⟨a, vs, rfl, ht, hl⟩ := hr.tup_; exact keyJ_tuple ih hu ht hl hk h
    | _ => exact ff hk

end

noncomputable def AV.py : AV → PyData := AV.fold .none .bool .int .str .tuple (to .none) (to .none) [] List.cons
noncomputable def AV.pys : List AV → List PyData := AV.foldL .none .bool .int .str .tuple (to .none) (to .none) [] List.cons
theorem AV.py_tup {l : List AV} : AV.py (.tup l) = .tuple (AV.pys l) := rfl
theorem AV.pys_nil : AV.pys [] = [] := rfl
theorem AV.pys_cons {x : AV} {l : List AV} : AV.pys (x :: l) = AV.py x :: AV.pys l := rfl
-- plain values: no bool, no reference
noncomputable def AV.flat : AV → Bool := AV.fold true no1 (to true) PyData.strOk id no1 no1 true and
noncomputable def AV.flats : List AV → Bool := AV.foldL true no1 (to true) PyData.strOk id no1 no1 true and
theorem AV.flat_tup {l : List AV} : AV.flat (.tup l) = AV.flats l := rfl
theorem AV.flat_str {x : Str} : AV.flat (.str x) = PyData.strOk x := rfl
theorem AV.flats_nil : AV.flats [] = true := rfl
theorem AV.flats_cons {x : AV} {l : List AV} : AV.flats (x :: l) = (AV.flat x && AV.flats l) := rfl
theorem AV.flats_iff : ∀ l : List AV, AV.flats l = true ↔ ∀ x ∈ l, AV.flat x = true := fun l => by
  induction l with
  | nil => exact ⟨fun _ _ h => (nomatch h), fun _ => rfl⟩
  | cons x l ih => rw [AV.flats_cons, Bool.and_eq_true, ih, List.forall_mem_cons]

theorem reads_tup {h : Heap} {ρ : List Addr} {a : Addr} {vs : List Value} {l : List AV} (t : IsTup h a vs.toArray) (ih : ∃ as, ReadsAll h vs (AV.pys l) as) : ∃ as, Reads h (.ref a) (AV.py (.tup l)) as := by
  obtain ⟨o, ho, hc, n, hd⟩ := t
  obtain ⟨as, q⟩ := ih
  exact ⟨as, Reads.tuple ho hc hd q⟩
theorem RepL.reads {h : Heap} {ρ : List Addr} {v : List Value} {x : List AV} (r : RepL h ρ v x) (hf : AV.flats x = true) : ∃ as, ReadsAll h v (AV.pys x) as :=
  RepL.rec (motive_1 := fun v x _ => AV.flat x = true → ∃ as, Reads h v x.py as) (motive_2 := fun vs l _ => AV.flats l = true → ∃ as, ReadsAll h vs (AV.pys l) as)
    (fun _ => ⟨_, Reads.none⟩) (fun b _ => ⟨_, Reads.bool b⟩) (fun i t _ => ⟨_, Reads.int i t⟩) (fun x t _ => ⟨_, Reads.str x t⟩)
    (fun a _ ih hf => reads_tup (ρ := ρ) a (ih hf)) (fun _ hf => ff hf) (fun _ hf => ff hf) (fun _ => ⟨_, ReadsAll.nil⟩)
    (fun _ _ i j hf => let ⟨_, q⟩ := i (two hf).1; let ⟨_, p⟩ := j (two hf).2; ⟨_, ReadsAll.cons q p⟩) r hf
theorem Rep.reads {h : Heap} {ρ : List Addr} {v : Value} {x : AV} (r : Rep h ρ v x) : AV.flat x = true → ∃ as, Reads h v x.py as :=
  Rep.casesOn (motive_1 := fun v x _ => AV.flat x = true → ∃ as, Reads h v x.py as) r
    (fun _ => ⟨_, Reads.none⟩) (fun b _ => ⟨_, Reads.bool b⟩) (fun i t _ => ⟨_, Reads.int i t⟩) (fun x t _ => ⟨_, Reads.str x t⟩)
    (fun a q hf => reads_tup (ρ := ρ) a (q.reads hf)) (fun _ hf => ff hf) (fun _ hf => ff hf)
theorem AV.flats_lay (x : List AV) : AV.flats x = true → PyData.canLayAll0 (AV.pys x) = true :=
  @AV.rec_1 (fun x => AV.flat x = true → x.py.canLay0 = true) (fun x => AV.flats x = true → PyData.canLayAll0 (AV.pys x) = true)
    (fun _ => rfl) (fun _ h => ff h) (fun _ _ => rfl) (fun _ h => h) (fun _ ih h => ih h) (fun _ h => ff h) (fun _ h => ff h) (fun _ => rfl) (fun _ _ i j h => (Bool.and_eq_true _ _).mpr ⟨i (two h).1, j (two h).2⟩) x
theorem AV.flat_lay (x : AV) (h : AV.flat x = true) : x.py.canLay0 = true := (two (AV.flats_lay [x] ((Bool.and_eq_true _ _).mpr ⟨h, rfl⟩))).1
theorem ne_dec {p : Prop} [Decidable p] (h : ¬ p) : false = decide p := (decide_eq_false h).symm
theorem inj_dec {α β : Type} {f : α → β} [DecidableEq α] [DecidableEq β] (h : ∀ {a b}, f a = f b → a = b) (a b : α) : decide (a = b) = decide (f a = f b) := decide_eq_decide.mpr ⟨congrArg f, h⟩
theorem cons_dec {α : Type} [DecidableEq α] (a b : α) (l m : List α) : (decide (a = b) && decide (l = m)) = decide (a :: l = b :: m) := by simp only [List.cons.injEq, Bool.decide_and]
theorem AV.flats_eqv (x : List AV) : ∀ y, AV.flats x = true → AV.flats y = true → PyData.eqvAll (AV.pys x) (AV.pys y) = decide (x = y) :=
  @AV.rec_1 (fun x => ∀ y, AV.flat x = true → AV.flat y = true → PyData.eqv x.py y.py = decide (x = y)) (fun x => ∀ y, AV.flats x = true → AV.flats y = true → PyData.eqvAll (AV.pys x) (AV.pys y) = decide (x = y))
    (fun y => @AV.casesOn (fun y => AV.flat .none = true → AV.flat y = true → PyData.eqv (AV.py .none) y.py = decide (.none = y)) y (fun _ _ => (decide_eq_true rfl).symm) (fun _ _ => ff) (fun _ _ _ => ne_dec fun e => AV.noConfusion e) (fun _ _ _ => ne_dec fun e => AV.noConfusion e) (fun _ _ _ => ne_dec fun e => AV.noConfusion e) (fun _ _ => ff) (fun _ _ => ff))
    (fun _ _ h => ff h)
    (fun i y => @AV.casesOn (fun y => AV.flat (.int i) = true → AV.flat y = true → PyData.eqv (AV.py (.int i)) y.py = decide (.int i = y)) y (fun _ _ => ne_dec fun e => AV.noConfusion e) (fun _ _ => ff) (fun j _ _ => inj_dec (fun e => AV.int.inj e) i j) (fun _ _ _ => ne_dec fun e => AV.noConfusion e) (fun _ _ _ => ne_dec fun e => AV.noConfusion e) (fun _ _ => ff) (fun _ _ => ff))
    (fun i y => @AV.casesOn (fun y => AV.flat (.str i) = true → AV.flat y = true → PyData.eqv (AV.py (.str i)) y.py = decide (.str i = y)) y (fun _ _ => ne_dec fun e => AV.noConfusion e) (fun _ _ => ff) (fun _ _ _ => ne_dec fun e => AV.noConfusion e) (fun j _ _ => inj_dec (fun e => AV.str.inj e) i j) (fun _ _ _ => ne_dec fun e => AV.noConfusion e) (fun _ _ => ff) (fun _ _ => ff))
    (fun i ih y => @AV.casesOn (fun y => AV.flat (.tup i) = true → AV.flat y = true → PyData.eqv (AV.py (.tup i)) y.py = decide (.tup i = y)) y (fun _ _ => ne_dec fun e => AV.noConfusion e) (fun _ _ => ff) (fun _ _ _ => ne_dec fun e => AV.noConfusion e) (fun _ _ _ => ne_dec fun e => AV.noConfusion e) (fun j h k => (ih j h k).trans (inj_dec (fun e => AV.tup.inj e) i j)) (fun _ _ => ff) (fun _ _ => ff))
    (fun _ _ h => ff h) (fun _ _ h => ff h)
    (fun y => @List.casesOn _ (fun y => AV.flats [] = true → AV.flats y = true → PyData.eqvAll (AV.pys []) (AV.pys y) = decide ([] = y)) y (fun _ _ => (decide_eq_true rfl).symm) (fun _ _ _ _ => ne_dec fun e => List.cons_ne_nil _ _ e.symm))
    (fun a l i j y => @List.casesOn _ (fun y => AV.flats (a :: l) = true → AV.flats y = true → PyData.eqvAll (AV.pys (a :: l)) (AV.pys y) = decide (a :: l = y)) y (fun _ _ => ne_dec (List.cons_ne_nil _ _)) (fun b m h k => by
      have h1 := i b (two h).1 (two k).1
      have h2 := j m (two h).2 (two k).2
      exact (show (PyData.eqv a.py b.py && PyData.eqvAll (AV.pys l) (AV.pys m)) = _ by rw [h1, h2]; exact cons_dec a b l m))) x
theorem AV.flat_eqv (x y : AV) (h : AV.flat x = true) (k : AV.flat y = true) : PyData.eqv x.py y.py = decide (x = y) := by
  have e := AV.flats_eqv [x] [y] ((Bool.and_eq_true _ _).mpr ⟨h, rfl⟩) ((Bool.and_eq_true _ _).mpr ⟨k, rfl⟩)
  rw [show PyData.eqvAll (AV.pys [x]) (AV.pys [y]) = (PyData.eqv x.py y.py && true) from rfl, Bool.and_true] at e
  rw [e]
  exact decide_eq_decide.mpr ⟨fun e => (List.cons.inj e).1, congrArg fun x => [x]⟩
theorem okKey_solid (n : Nat) : ∀ (x : AV), okKey n x = true → AV.solid x = true := by
  induction n with
  | zero => exact fun x => @AV.casesOn (fun x => okKey 0 x = true → AV.solid x = true) x ff (fun _ => ff) (fun _ => ff) (fun _ _ => rfl) (fun _ => ff) (fun _ => ff) (fun _ => ff)
  | succ n ih =>
    have all : ∀ l : List AV, l.all (okKey n) = true → AV.solids l = true := fun l => by
      induction l with
      | nil => exact fun _ => rfl
      | cons x l hi => exact fun h => (Bool.and_eq_true _ _).mpr ⟨ih x (two h).1, hi (two h).2⟩
    exact fun x => @AV.casesOn (fun x => okKey (n + 1) x = true → AV.solid x = true) x ff (fun _ => ff) (fun _ => ff) (fun _ _ => rfl) (fun l h => all l h) (fun _ => ff) (fun _ => ff)
theorem okKey_flat (n : Nat) : ∀ (x : AV), okKey n x = true → AV.flat x = true ∧ x.py.depth ≤ n := by
  induction n with
  | zero => exact fun x => @AV.casesOn (fun x => okKey 0 x = true → AV.flat x = true ∧ x.py.depth ≤ 0) x ff (fun _ => ff) (fun _ => ff) (fun _ h => ⟨h, Nat.le_refl _⟩) (fun _ => ff) (fun _ => ff) (fun _ => ff)
  | succ n ih =>
    have all : ∀ l : List AV, l.all (okKey n) = true → AV.flats l = true ∧ PyData.depthAll (AV.pys l) ≤ n := fun l => by
      induction l with
      | nil => exact fun _ => ⟨rfl, Nat.zero_le _⟩
      | cons x l hi => exact fun h => ⟨(Bool.and_eq_true _ _).mpr ⟨(ih x (two h).1).1, (hi (two h).2).1⟩, Nat.max_le.mpr ⟨(ih x (two h).1).2, (hi (two h).2).2⟩⟩
    exact fun x => @AV.casesOn (fun x => okKey (n + 1) x = true → AV.flat x = true ∧ x.py.depth ≤ n + 1) x ff (fun _ => ff) (fun _ => ff) (fun _ h => ⟨h, Nat.zero_le _⟩) (fun l h => ⟨(all l h).1, Nat.succ_le_succ (all l h).2⟩) (fun _ => ff) (fun _ => ff)

section
variable {prog : Program} {w : World}

theorem eqBool_rep {A : Around} {E : Value → Shared → Prop} {s : Shared} {ρ : List Addr} {u v : Value} {x y : AV} {Q : Bool → Shared → Prop} (hu : Rep s.heap ρ u x) (hv : Rep s.heap ρ v y) (fx : AV.flat x = true) (fy : AV.flat y = true)
    (hr : A.units + min x.py.depth y.py.depth < cLine) (h : Q (decide (x = y)) s) : wpAny (model prog w) A (eqBool u v) Q E s := by
  obtain ⟨as, ra⟩ := hu.reads fx
  obtain ⟨bs, rb⟩ := hv.reads fy
  exact SeqAt.eqAt_reads _ _ A s _ _ _ _ ra rb (AV.flat_lay x fx) (AV.flat_lay y fy) hr prog w E Q (by rw [AV.flat_eqv x y fx fy]; exact h)

theorem quietJ : ∀ (n : Nat) (A : Around) (E : Value → Shared → Prop) (s : Shared) (v : Value) (x : AV) (Q : Bool → Shared → Prop), Rep s.heap [] v x → okKey n x = true → Q true s →
    wpAny (model prog w) A (eqIsQuiet n v) Q E s := by
  intro n
  induction n with
  | zero =>
    intro A E s v x Q hr hk h
    cases x with
    | str y => obtain ⟨_, rfl⟩ := hr.str_; rw [eqIsQuiet_byValue _ rfl]; exact wpAny_pure h
    | _ => exact ff hk
  | succ n ih =>
    intro A E s v x Q hr hk h
    cases x with
    | str y => obtain ⟨_, rfl⟩ := hr.str_; rw [eqIsQuiet_byValue _ rfl]; exact wpAny_pure h
    | tup l =>
      obtain ⟨a, vs, rfl, ht, hl⟩ := hr.tup_
      have hT := isTup_typeIs ht
      obtain ⟨o, ho, _, n', hd⟩ := ht
      have hk' : l.all (okKey n) = true := hk
      unfold eqIsQuiet
      refine wpAny_bind (wpAny_specialOf hT F.slot_tuple_eq.lookup ?_)
      show wpAny _ _ (isInstance (.ref a) (.type "tuple") >>= _) _ _ s
      refine wpAny_bind (wpAny_isInstance hT isSubtype_tuple_tuple ?_)
      first | refine PySem.wpAny_ite_false rfl ?_ | simp only [Bool.not_true, Bool.false_eq_true, if_false]
      refine wpAny_bind (wpAny_seqItems ho hd ?_)
      refine wpAny_bind ?_
      show wpAny _ _ (forIn vs.toArray _ _) _ _ s
      rw [← Array.forIn_toList]
      refine wpAny_forIn_list _ (fun rest r s' => r.1 = none ∧ s' = s ∧ ∃ left, RepL s.heap [] rest left ∧ left.all (okKey n) = true) _ ?_ ?_ _ _ ⟨rfl, rfl, l, by simpa using hl, hk'⟩
      · rintro v rest r s' ⟨hr, rfl, left, hl', hkl⟩
        cases hl' with
        | @cons _ _ k ks h1 h2 =>
          simp only [List.all_cons, Bool.and_eq_true] at hkl
          refine wpAny_bind (ih A _ _ _ _ _ h1 hkl.1 ?_)
          first | refine PySem.wpAny_ite_false rfl ?_ | simp only [Bool.not_true, Bool.false_eq_true, if_false]
          exact wpAny_pure ⟨rfl, rfl, ks, h2, hkl.2⟩
      · rintro ⟨r1, r2⟩ s' ⟨hr1, rfl, _⟩
        have hr' : r1 = none := hr1
        subst hr'
        exact wpAny_pure h
    | _ => exact ff hk

theorem rep_keeps {h h' : Heap} {d : Addr} {o : Obj} {es ep} (ho : h.get? d = some o) (hd : o.data = .dict es ep) (hs : Heap.SameBut d h h') : TupKeep h h' := by
  rintro a vs ⟨o', ho', hc, n, hd'⟩
  have hne : a ≠ d := by
    rintro rfl
    obtain rfl : o' = o := Option.some.inj (ho'.symm.trans ho)
    rw [hd] at hd'; exact nomatch hd'
  exact ⟨o', (hs.2 a hne).trans ho', hc, n, hd'⟩

/-- the kind of keys: tuples of texts and of tuples, eight floors at most -/
noncomputable def tkind (prog : Program) (w : World) : HeapKind prog w AV where
  is := fun h k a => Rep h [] (.ref a) k ∧ okKey 8 k = true
  hash := hashA w
  draws := drawsA
  room := fun A => A.units + 20 < cLine
  inj := fun hx hy => Rep.inj hx.1 hy.1 (okKey_solid _ _ hx.2) (okKey_solid _ _ hy.2)
  keeps := fun x ho hd hs => ⟨x.1.mono (rep_keeps ho hd hs) (Pre.refl _), x.2⟩
  pyHash := fun hu hk h => keyJ 8 _ _ _ _ _ _ (Nat.lt_of_le_of_lt (Nat.add_le_add_left (by decide) _) hu) hk.1 hk.2 h
  eqBool := fun hu hx hy h => eqBool_rep hx.1 hy.1 (okKey_flat _ _ hx.2).1 (okKey_flat _ _ hy.2).1 (Nat.lt_of_le_of_lt (Nat.add_le_add_left (Nat.le_trans (Nat.min_le_left _ _) (Nat.le_trans (okKey_flat _ _ hx.2).2 (by decide))) _) hu) h
  quiet := fun hk h => quietJ 8 _ _ _ _ _ _ hk.1 hk.2 h
end
end Mine
end
section
open PySem PySem.W PyProof.Rows
namespace Mine

-- no reference from n on
noncomputable def AV.lt (n : Nat) : AV → Bool := AV.fold true (to true) (to true) (to true) id (fun i => decide (i < n)) (to true) true and
noncomputable def AV.lts (n : Nat) : List AV → Bool := AV.foldL true (to true) (to true) (to true) id (fun i => decide (i < n)) (to true) true and
section
variable {n : Nat}
theorem AV.lt_none : AV.lt n .none = true := rfl
theorem AV.lt_bool {b : Bool} : AV.lt n (.bool b) = true := rfl
theorem AV.lt_int {i : Int} : AV.lt n (.int i) = true := rfl
theorem AV.lt_str {x : Str} : AV.lt n (.str x) = true := rfl
theorem AV.lt_tup {l : List AV} : AV.lt n (.tup l) = AV.lts n l := rfl
theorem AV.lt_ref {i : Nat} : AV.lt n (.ref i) = decide (i < n) := rfl
theorem AV.lts_nil : AV.lts n [] = true := rfl
theorem AV.lts_cons {x : AV} {l : List AV} : AV.lts n (x :: l) = (AV.lt n x && AV.lts n l) := rfl
theorem AV.lts_iff {l : List AV} : AV.lts n l = true ↔ ∀ x ∈ l, AV.lt n x = true := by
  induction l with
  | nil => exact ⟨fun _ _ h => (nomatch h), fun _ => rfl⟩
  | cons x l ih => rw [AV.lts_cons, Bool.and_eq_true, ih, List.forall_mem_cons]
theorem AV.lts_mono {m : Nat} (h : n ≤ m) {x : List AV} : AV.lts n x = true → AV.lts m x = true :=
  @AV.rec_1 (fun x => AV.lt n x = true → AV.lt m x = true) (fun x => AV.lts n x = true → AV.lts m x = true) id (fun _ => id) (fun _ => id) (fun _ => id) (fun _ => id) (fun _ e => decide_eq_true (Nat.lt_of_lt_of_le (of_decide_eq_true e) h)) (fun _ => id) id (fun _ _ i j e => (Bool.and_eq_true _ _).mpr ⟨i (two e).1, j (two e).2⟩) x
theorem AV.lt_mono {m : Nat} (h : n ≤ m) {x : AV} (e : AV.lt n x = true) : AV.lt m x = true := (two (AV.lts_mono h (x := [x]) ((Bool.and_eq_true _ _).mpr ⟨e, rfl⟩))).1
end
theorem AV.flats_lt {x : List AV} : AV.flats x = true → AV.lts 0 x = true :=
  @AV.rec_1 (fun x => AV.flat x = true → AV.lt 0 x = true) (fun x => AV.flats x = true → AV.lts 0 x = true) id (fun _ _ => rfl) (fun _ => id) (fun _ _ => rfl) (fun _ => id) (fun _ => ff) (fun _ => ff) id (fun _ _ i j e => (Bool.and_eq_true _ _).mpr ⟨i (two e).1, j (two e).2⟩) x
theorem AV.flat_lt {x : AV} (e : AV.flat x = true) : AV.lt 0 x = true := (two (AV.flats_lt (x := [x]) ((Bool.and_eq_true _ _).mpr ⟨e, rfl⟩))).1
section
variable {h : Heap} {ρ ρ' : List Addr} {n : Nat} {v : Value} {x : AV} {vs : List Value} {l : List AV}
theorem RepL.rest (p : ∀ (i : Nat) (a : Addr), i < n → ρ[i]? = some a → ρ'[i]? = some a) (r : RepL h ρ vs l) : AV.lts n l = true → RepL h ρ' vs l :=
  RepL.rec (motive_1 := fun v x _ => AV.lt n x = true → Rep h ρ' v x) (motive_2 := fun vs l _ => AV.lts n l = true → RepL h ρ' vs l) (fun _ => .none) (fun b _ => .bool b) (fun i t _ => .int i t) (fun x t _ => .str x t) (fun a _ ih e => .tup a (ih e))
    (fun a e => .ref (p _ _ (of_decide_eq_true e) a)) (fun a _ => .opq a) (fun _ => .nil) (fun _ _ i j e => .cons (i (two e).1) (j (two e).2)) r
theorem RepL.head_ (r : RepL h ρ [v] [x]) : Rep h ρ v x := let ⟨_, _, e, a, _⟩ := r.cons_; (List.cons.inj e).1 ▸ a
theorem Rep.rest (p : ∀ (i : Nat) (a : Addr), i < n → ρ[i]? = some a → ρ'[i]? = some a) (r : Rep h ρ v x) (e : AV.lt n x = true) : Rep h ρ' v x := (RepL.rest p (.cons r .nil) ((Bool.and_eq_true _ _).mpr ⟨e, rfl⟩)).head_
theorem RepL.refs (r : RepL h ρ vs l) : AV.lts ρ.length l = true :=
  RepL.rec (motive_1 := fun v x _ => AV.lt ρ.length x = true) (motive_2 := fun vs l _ => AV.lts ρ.length l = true) rfl (fun b => rfl) (fun i t => rfl) (fun x t => rfl) (fun _ _ ih => ih) (fun a => decide_eq_true (List.getElem?_eq_some_iff.mp a).1) (fun a => rfl) rfl (fun _ _ i j => (Bool.and_eq_true _ _).mpr ⟨i, j⟩) r
theorem Rep.refs (r : Rep h ρ v x) : AV.lt ρ.length x = true := (two (RepL.refs (.cons r .nil))).1
end
theorem Rep.any {h : Heap} {ρ ρ' : List Addr} {v : Value} {x : AV} (r : Rep h ρ v x) (e : AV.lt 0 x = true) : Rep h ρ' v x := r.rest (n := 0) (fun _ _ h => absurd h (Nat.not_lt_zero _)) e
theorem RepL.any {h : Heap} {ρ ρ' : List Addr} {v : List Value} {x : List AV} (r : RepL h ρ v x) (e : AV.lts 0 x = true) : RepL h ρ' v x := r.rest (n := 0) (fun _ _ h => absurd h (Nat.not_lt_zero _)) e
theorem okKey_lt {n : Nat} {x : AV} (h : okKey n x = true) : AV.lt 0 x = true := AV.flat_lt (okKey_flat n x h).1

noncomputable def KeepX (ρ : List Addr) (h h' : Heap) : Prop := ∀ b o, b ∉ ρ → h.get? b = some o → h'.get? b = some o
theorem KeepX.refl (ρ : List Addr) (h : Heap) : KeepX ρ h h := fun _ _ _ e => e
theorem KeepX.of_all {ρ : List Addr} {h h' : Heap} (k : ∀ b o, h.get? b = some o → h'.get? b = some o) : KeepX ρ h h' := fun b o _ e => k b o e

section
variable (G : Glo)

noncomputable def ObjRep (h : Heap) (ρ : List Addr) (a : Addr) : AObj → Prop
  | AObj.list l => ∃ vs n, h.get? a = some { cls := .type "list", data := .seq vs.toArray n } ∧ RepL h ρ vs l
  | AObj.sdict kvs => ∃ cvs, h.DictOf (strKind G.prog G.w) a cvs ∧ cvs.map (·.1) = kvs.map (·.1) ∧ RepL h ρ (cvs.map (·.2)) (kvs.map (·.2))
  | AObj.tdict ks => ∃ xs : List (AV × Addr × Value), h.DictOfH (tkind G.prog G.w) a xs ∧ xs.map (·.1) = ks ∧ ∀ x ∈ xs, x.2.2 = .bool true

variable {G}

theorem ObjRep.mono {h h' : Heap} {ρ ρ' : List Addr} {a : Addr} {o : AObj} (ha : ∀ o, h.get? a = some o → h'.get? a = some o) (k : TupKeep h h') (p : Pre ρ ρ') (r : ObjRep G h ρ a o) : ObjRep G h' ρ' a o := by
  cases o with
  | list l =>
    obtain ⟨vs, n, e, q⟩ := r
    exact ⟨vs, n, ha _ e, q.mono k p⟩
  | sdict kvs =>
    obtain ⟨cvs, ⟨ob, es, ep, e, r1⟩, c, q⟩ := r
    exact ⟨cvs, ⟨ob, es, ep, ha _ e, r1⟩, c, q.mono k p⟩
  | tdict ks =>
    obtain ⟨xs, ⟨ob, es, ep, e, e1, e2, e3, r1, r2⟩, c, q⟩ := r
    exact ⟨xs, ⟨ob, es, ep, ha _ e, e1, e2, e3, fun x hx => ⟨(r1 x hx).1.mono k (Pre.refl _), (r1 x hx).2⟩, r2⟩, c, q⟩

theorem ObjRep.there {h : Heap} {ρ : List Addr} {a : Addr} {o : AObj} (r : ObjRep G h ρ a o) : ∃ ob, h.get? a = some ob ∧ ob.cls ≠ .type "tuple" ∧ ob.cls ≠ .type "cell" ∧ ob.cls ≠ .type "frame" := by
  cases o with
  | list l => obtain ⟨vs, n, e, q⟩ := r; exact ⟨_, e, by simp, by simp, by simp⟩
  | sdict kvs => obtain ⟨cvs, ⟨ob, es, ep, e, r1⟩, c, q⟩ := r; exact ⟨_, e, by rw [r1.1.1]; decide, by rw [r1.1.1]; decide, by rw [r1.1.1]; decide⟩
  | tdict ks => obtain ⟨xs, ⟨ob, es, ep, e, e1, r1⟩, c, q⟩ := r; exact ⟨_, e, by rw [e1.1]; decide, by rw [e1.1]; decide, by rw [e1.1]; decide⟩

structure StG (G : Glo) (σ : List AObj) (ρ : List Addr) (s : Shared) : Prop where
  base : ∀ b o, G.h₀.get? b = some o → s.heap.get? b = some o
  fresh : ∀ a ∈ ρ, G.h₀.get? a = none
  nodup : ρ.Nodup
  len : ρ.length = σ.length
  objs : ∀ (i : Nat) (a : Addr) (o : AObj), ρ[i]? = some a → σ[i]? = some o → ObjRep G s.heap ρ a o
  gens : s.gens = #[]
  os : s.os = G.os₀

variable {σ : List AObj} {ρ : List Addr} {s : Shared}

theorem StG.obj (S : StG G σ ρ s) {i : Nat} {o : AObj} (h : σ[i]? = some o) : ∃ a, ρ[i]? = some a ∧ ObjRep G s.heap ρ a o := by
  have hi : i < ρ.length := by rw [S.len]; exact (List.getElem?_eq_some_iff.mp h).1
  exact ⟨_, List.getElem?_eq_getElem hi, S.objs i _ o (List.getElem?_eq_getElem hi) h⟩
theorem StG.mem (S : StG G σ ρ s) {a : Addr} (h : a ∈ ρ) : ∃ (i : Nat) (o : AObj), ρ[i]? = some a ∧ σ[i]? = some o ∧ ObjRep G s.heap ρ a o := by
  obtain ⟨i, hi⟩ := List.mem_iff_getElem?.mp h
  have hl : i < σ.length := by rw [← S.len]; exact (List.getElem?_eq_some_iff.mp hi).1
  exact ⟨i, _, hi, List.getElem?_eq_getElem hl, S.objs i a _ hi (List.getElem?_eq_getElem hl)⟩
theorem StG.tup (S : StG G σ ρ s) {a : Addr} {vs : Array Value} (h : IsTup s.heap a vs) : a ∉ ρ := fun hm => by
  obtain ⟨i, o, _, _, r⟩ := S.mem hm
  obtain ⟨ob, e, hc, _⟩ := r.there
  obtain ⟨o', e', hc', _⟩ := h
  rw [e] at e'; cases e'; exact hc hc'
theorem StG.lt (S : StG G σ ρ s) {a : Addr} (h : a ∈ ρ) : a < s.heap.objs.size := by
  obtain ⟨i, o, _, _, r⟩ := S.mem h
  obtain ⟨ob, e, _⟩ := r.there
  exact Heap.lt_size e
theorem StG.idx (S : StG G σ ρ s) {i j : Nat} {a : Addr} (hi : ρ[i]? = some a) (hj : ρ[j]? = some a) : i = j :=
  (List.getElem?_inj (List.getElem?_eq_some_iff.mp hi).1 S.nodup).mp (hi.trans hj.symm)
theorem StG.tupKeep (S : StG G σ ρ s) {h' : Heap} (k : KeepX ρ s.heap h') : TupKeep s.heap h' := fun a vs ht => by
  have hn := S.tup ht
  obtain ⟨o, e, r⟩ := ht
  exact ⟨o, k a o hn e, r⟩
theorem StG.sys (S : StG G σ ρ s) {o₁ : Obj} (hb : G.h₀.get? sysModules = some o₁) {a : Addr} (h : a ∈ ρ) : (a == sysModules) = false := by
  have := S.fresh a h
  refine beq_eq_false_iff_ne.mpr fun e => ?_
  rw [e, hb] at this; cases this
theorem StG.new (S : StG G σ ρ s) {a : Addr} (h : s.heap.get? a = none) : G.h₀.get? a = none := by
  cases e : G.h₀.get? a with
  | none => rfl
  | some o => rw [S.base a o e] at h; cases h

theorem StG.with (S : StG G σ ρ s) {s' : Shared} (hh : s'.heap = s.heap) (hg : s'.gens = s.gens) (ho : s'.os = s.os) : StG G σ ρ s' :=
  ⟨by rw [hh]; exact S.base, S.fresh, S.nodup, S.len, by rw [hh]; exact S.objs, by rw [hg]; exact S.gens, by rw [ho]; exact S.os⟩

theorem StG.ext (S : StG G σ ρ s) {s' : Shared} (k : ∀ b o, s.heap.get? b = some o → s'.heap.get? b = some o) (hg : s'.gens = s.gens) (ho : s'.os = s.os) : StG G σ ρ s' :=
  ⟨fun b o e => k b o (S.base b o e), S.fresh, S.nodup, S.len,
    fun i a o hi ho => (S.objs i a o hi ho).mono (fun o e => k a o e) (S.tupKeep (KeepX.of_all k)) (Pre.refl _), by rw [hg]; exact S.gens, by rw [ho]; exact S.os⟩

/-- other objects than the ledger's change -/
theorem StG.off (S : StG G σ ρ s) {s' : Shared} {wr : List Addr} (k : ∀ b o, b ∉ wr → s.heap.get? b = some o → s'.heap.get? b = some o) (hw : ∀ b ∈ wr, b ∉ ρ ∧ G.h₀.get? b = none ∧ ∀ vs, ¬ IsTup s.heap b vs)
    (hg : s'.gens = s.gens) (ho : s'.os = s.os) : StG G σ ρ s' :=
  ⟨fun b o e => k b o (fun hm => by rw [(hw b hm).2.1] at e; cases e) (S.base b o e), S.fresh, S.nodup, S.len,
    fun i a o hi ho => (S.objs i a o hi ho).mono (fun o e => k a o (fun hm => (hw a hm).1 (List.mem_of_getElem? hi)) e)
      (fun a vs ht => by
        have hn : a ∉ wr := fun hm => (hw a hm).2.2 vs ht
        obtain ⟨o, e, r⟩ := ht
        exact ⟨o, k a o hn e, r⟩) (Pre.refl _), by rw [hg]; exact S.gens, by rw [ho]; exact S.os⟩

theorem StG.push (S : StG G σ ρ s) {s' : Shared} {a : Addr} {o : AObj} (ha : s.heap.get? a = none) (k : ∀ b o, s.heap.get? b = some o → s'.heap.get? b = some o) (r : ObjRep G s'.heap (ρ ++ [a]) a o)
    (hg : s'.gens = s.gens) (ho : s'.os = s.os) : StG G (σ ++ [o]) (ρ ++ [a]) s' := by
  have hn : a ∉ ρ := fun hm => by
    obtain ⟨i, ob, _, _, r⟩ := S.mem hm
    obtain ⟨_, e, _⟩ := r.there
    rw [ha] at e; cases e
  refine ⟨fun b o e => k b o (S.base b o e), ?_, ?_, by simp [S.len], ?_, by rw [hg]; exact S.gens, by rw [ho]; exact S.os⟩
  · intro b hb
    rcases List.mem_append.mp hb with hb | hb
    · exact S.fresh b hb
    · rw [List.mem_singleton.mp hb]; exact S.new ha
  · exact List.nodup_append.mpr ⟨S.nodup, by simp, fun x hx y hy e => hn (by rw [List.mem_singleton.mp hy] at e; rw [← e]; exact hx)⟩
  · intro i b o' hi ho'
    rcases Nat.lt_trichotomy i ρ.length with h | h | h
    · rw [List.getElem?_append_left h] at hi
      rw [List.getElem?_append_left (by rw [← S.len]; exact h)] at ho'
      exact (S.objs i b o' hi ho').mono (fun o e => k b o e) (S.tupKeep (KeepX.of_all k)) (Pre.append _ _)
    · subst h
      simp at hi
      rw [S.len] at ho'
      simp at ho'
      subst hi; subst ho'; exact r
    · rw [List.getElem?_eq_none (by simp; lia)] at hi; cases hi

theorem StG.upd (S : StG G σ ρ s) {s' : Shared} {i : Nat} {a : Addr} {o : AObj} (hi : ρ[i]? = some a) (k : ∀ b o, b ≠ a → s.heap.get? b = some o → s'.heap.get? b = some o) (r : ObjRep G s'.heap ρ a o)
    (hg : s'.gens = s.gens) (ho : s'.os = s.os) : StG G (σ.set i o) ρ s' := by
  have tk : TupKeep s.heap s'.heap := fun b vs ht => by
    have hn : b ≠ a := fun e => S.tup ht (e ▸ List.mem_of_getElem? hi)
    obtain ⟨o, e, r⟩ := ht
    exact ⟨o, k b o hn e, r⟩
  refine ⟨fun b o e => k b o (fun h => ?_) (S.base b o e), S.fresh, S.nodup, by simp [S.len], ?_, by rw [hg]; exact S.gens, by rw [ho]; exact S.os⟩
  · rw [h, S.fresh a (List.mem_of_getElem? hi)] at e; cases e
  · intro j b o' hj hj'
    by_cases h : i = j
    · subst h
      rw [hi] at hj; cases hj
      have hl : i < σ.length := by rw [← S.len]; exact (List.getElem?_eq_some_iff.mp hi).1
      rw [List.getElem?_set_self hl] at hj'; cases hj'; exact r
    · rw [List.getElem?_set_ne h] at hj'
      exact (S.objs j b o' hj hj').mono (fun o e => k b o (fun e => h (S.idx hi (e ▸ hj))) e) tk (Pre.refl _)

noncomputable def AObj.lt (n : Nat) : AObj → Bool
  | AObj.list l => AV.lts n l
  | AObj.sdict kvs => AV.lts n (kvs.map (·.2))
  | AObj.tdict _ => true
theorem ObjRep.rest {h : Heap} {ρ ρ' : List Addr} {a : Addr} {o : AObj} {n : Nat} (p : ∀ (i : Nat) (a : Addr), i < n → ρ[i]? = some a → ρ'[i]? = some a) (r : ObjRep G h ρ a o) (e : o.lt n = true) : ObjRep G h ρ' a o := by
  cases o with
  | list l => obtain ⟨vs, n, e1, q⟩ := r; exact ⟨vs, n, e1, q.rest p e⟩
  | sdict kvs => obtain ⟨cvs, e1, c, q⟩ := r; exact ⟨cvs, e1, c, q.rest p e⟩
  | tdict ks => exact r
theorem ObjRep.refs {h : Heap} {ρ : List Addr} {a : Addr} {o : AObj} (r : ObjRep G h ρ a o) : o.lt ρ.length = true := by
  cases o with
  | list l => obtain ⟨vs, n, e1, q⟩ := r; exact q.refs
  | sdict kvs => obtain ⟨cvs, e1, c, q⟩ := r; exact q.refs
  | tdict ks => rfl
theorem StG.closed (S : StG G σ ρ s) : ∀ o ∈ σ, o.lt σ.length = true := fun o ho => by
  obtain ⟨i, hi⟩ := List.mem_iff_getElem?.mp ho
  obtain ⟨a, _, r⟩ := S.obj hi
  rw [← S.len]; exact r.refs
/-- what is no longer wanted of the ledger is let go -/
theorem StG.take (S : StG G σ ρ s) (n : Nat) (hn : n ≤ σ.length) (hc : ∀ o ∈ σ.take n, o.lt n = true) : StG G (σ.take n) (ρ.take n) s := by
  refine ⟨S.base, fun a ha => S.fresh a (List.mem_of_mem_take ha), S.nodup.sublist (List.take_sublist _ _), by simp [S.len], fun i a o hi ho => ?_, S.gens, S.os⟩
  have hlt : i < n := by
    have := (List.getElem?_eq_some_iff.mp hi).1
    simp only [List.length_take] at this
    lia
  rw [List.getElem?_take_of_lt hlt] at hi
  have ho' := ho
  rw [List.getElem?_take_of_lt hlt] at ho
  exact (S.objs i a o hi ho).rest (n := n) (fun j b hj e => by rw [List.getElem?_take_of_lt hj]; exact e) (hc o (List.mem_of_getElem? ho'))
theorem StG.drop {o : AObj} (S : StG G (σ ++ [o]) ρ s) (hc : ∀ o ∈ σ, o.lt σ.length = true) : StG G σ (ρ.take σ.length) s := by
  have := S.take σ.length (by simp) (by simpa using hc)
  simpa using this
end

end Mine
end
section
open PySem PySem.W PyProof.Rows
set_option linter.unusedVariables false
set_option linter.unusedSimpArgs false
namespace Mine

structure Room (A : Around) (d : Nat) : Prop where
  handled : A.handled = none
  depth : A.depth + d ≤ 900
  units : A.units + 8 * d + 400 ≤ 9900
theorem cLine_eq : cLine = 9900 := rfl
theorem Room.u (r : Room A d) : A.units + 300 < cLine := by have := r.units; rw [cLine_eq]; lia
theorem Room.mono {d d' : Nat} (r : Room A d) (h : d' ≤ d) : Room A d' := ⟨r.handled, by have := r.depth; lia, by have := r.units; lia⟩
theorem Room.deeper {d : Nat} (r : Room A (d + 1)) (env : Env) : Room (A.deeper env) d := ⟨r.handled, by have := r.depth; simp only [Around.deeper]; lia, by have := r.units; simp only [Around.deeper]; lia⟩
theorem Room.lim (r : Room A d) : A.depth < recursionLimit := by have := r.depth; show _ < 1000; lia

structure Ext (ρ ρ' : List Addr) (h h' : Heap) : Prop where
  pre : Pre ρ ρ'
  new : ∀ a ∈ ρ', a ∈ ρ ∨ h.get? a = none
  keep : KeepX ρ h h'
theorem Ext.refl (ρ : List Addr) (h : Heap) : Ext ρ ρ h h := ⟨Pre.refl _, fun _ h => .inl h, KeepX.refl _ _⟩
theorem Ext.of_all {ρ : List Addr} {h h' : Heap} (k : ∀ b o, h.get? b = some o → h'.get? b = some o) : Ext ρ ρ h h' := ⟨Pre.refl _, fun _ h => .inl h, KeepX.of_all k⟩
theorem Ext.trans {ρ₁ ρ₂ ρ₃ : List Addr} {h₁ h₂ h₃ : Heap} (x : Ext ρ₁ ρ₂ h₁ h₂) (y : Ext ρ₂ ρ₃ h₂ h₃) : Ext ρ₁ ρ₃ h₁ h₃ := by
  refine ⟨x.pre.trans y.pre, fun a ha => ?_, fun b o hb e => ?_⟩
  · rcases y.new a ha with h | h
    · exact x.new a h
    · by_cases hm : a ∈ ρ₁
      · exact .inl hm
      · cases e : h₁.get? a with
        | none => exact .inr rfl
        | some o => rw [x.keep a o hm e] at h; cases h
  · refine y.keep b o (fun hm => ?_) (x.keep b o hb e)
    rcases x.new b hm with h | h
    · exact hb h
    · rw [h] at e; cases e
theorem Ext.push {ρ : List Addr} {h h' : Heap} {a : Addr} (ha : h.get? a = none) (k : ∀ b o, h.get? b = some o → h'.get? b = some o) : Ext ρ (ρ ++ [a]) h h' :=
  ⟨Pre.append _ _, fun b hb => by
    rcases List.mem_append.mp hb with hb | hb
    · exact .inl hb
    · rw [List.mem_singleton.mp hb]; exact .inr ha, KeepX.of_all k⟩
theorem Ext.upd {ρ : List Addr} {h h' : Heap} {a : Addr} (ha : a ∈ ρ) (k : ∀ b o, b ≠ a → h.get? b = some o → h'.get? b = some o) : Ext ρ ρ h h' :=
  ⟨Pre.refl _, fun _ h => .inl h, fun b o hb e => k b o (fun q => hb (q ▸ ha)) e⟩
theorem get_size_none (h : Heap) : h.get? h.objs.size = none := by
  cases e : h.get? h.objs.size with
  | none => rfl
  | some o => exact absurd (Heap.lt_size e) (Nat.lt_irrefl _)

section
variable (G : Glo) (env : Env)

structure StL (Γ : List (Str × AV)) (ρ : List Addr) (h : Heap) : Prop where
  kind : env.scope.kind = .function
  glob : env.globals = mainGlobals
  blt : env.builtins = builtinsNs
  ns : ∃ m, h.Ns env.locals m ∧ ∀ x v, env.kindOf x = some .local → Γ.lookup x = some v → ∃ cv, m x = some cv ∧ Rep h ρ cv v
  cell : ∀ x c, env.cells.lookup x = some c → ∃ ov, h.IsCell c ov ∧ ∀ v, env.kindOf x ≠ some .local → Γ.lookup x = some v → ∃ cv, ov = some cv ∧ Rep h ρ cv v
  has : ∀ x, env.kindOf x = some .cell ∨ env.kindOf x = some .free → ∃ c, env.cells.lookup x = some c
  offL : env.locals ∉ ρ
  offC : ∀ x c, env.cells.lookup x = some c → c ∉ ρ ∧ c ≠ env.locals
  newL : G.h₀.get? env.locals = none
  newC : ∀ x c, env.cells.lookup x = some c → G.h₀.get? c = none
  apart : ∀ x y c, env.cells.lookup x = some c → env.cells.lookup y = some c → x = y

variable {G env} {Γ : List (Str × AV)} {σ σ' σ₁ σ₂ σ₃ : List AObj} {ρ ρ' : List Addr} {s s' : Shared}

theorem StL.keep (L : StL G env Γ ρ s.heap) (S : StG G σ ρ s) (x : Ext ρ ρ' s.heap s'.heap) : StL G env Γ ρ' s'.heap := by
  obtain ⟨m, hn, hm⟩ := L.ns
  have tk := S.tupKeep x.keep
  have hL : ∃ o, s.heap.get? env.locals = some o := let ⟨o, _, _, e, _⟩ := hn; ⟨o, e⟩
  refine ⟨L.kind, L.glob, L.blt, ⟨m, hn.at' fun o e => x.keep _ o L.offL e, fun y v hk hv => ?_⟩, fun y c hc => ?_, L.has, fun hm' => ?_, fun y c hc => ⟨fun hm' => ?_, (L.offC y c hc).2⟩, L.newL, L.newC, L.apart⟩
  · obtain ⟨cv, e, r⟩ := hm y v hk hv
    exact ⟨cv, e, r.mono tk x.pre⟩
  · obtain ⟨ov, ⟨o, e, hd⟩, hh⟩ := L.cell y c hc
    refine ⟨ov, ⟨o, x.keep _ o (L.offC y c hc).1 e, hd⟩, fun v hk hv => ?_⟩
    obtain ⟨cv, e, r⟩ := hh v hk hv
    exact ⟨cv, e, r.mono tk x.pre⟩
  · obtain ⟨o, e⟩ := hL
    rcases x.new _ hm' with h | h
    · exact L.offL h
    · rw [e] at h; cases h
  · obtain ⟨ov, ⟨o, e, _⟩, _⟩ := L.cell y c hc
    rcases x.new _ hm' with h | h
    · exact (L.offC y c hc).1 h
    · rw [e] at h; cases h

theorem StL.weaken {Γ' : List (Str × AV)} (L : StL G env Γ ρ h) (k : ∀ x v, Γ'.lookup x = some v → Γ.lookup x = some v) : StL G env Γ' ρ h := by
  obtain ⟨m, hn, hm⟩ := L.ns
  refine ⟨L.kind, L.glob, L.blt, ⟨m, hn, fun y v hk hv => hm y v hk (k _ _ hv)⟩, fun y c hc => ?_, L.has, L.offL, L.offC, L.newL, L.newC, L.apart⟩
  obtain ⟨ov, e, hh⟩ := L.cell y c hc
  exact ⟨ov, e, fun v hk hv => hh v hk (k _ _ hv)⟩

/-- an expression's value -/
noncomputable def EJ (G : Glo) (env : Env) (d : Nat) (Γ : List (Str × AV)) (σ : List AObj) (t : Sem Value) (v : AV) (σ' : List AObj) : Prop :=
  ∀ (A : Around) (s : Shared) (ρ : List Addr) (Q : Value → Shared → Prop) (E : Value → Shared → Prop), Room A d → StG G σ ρ s → StL G env Γ ρ s.heap →
    (∀ cv s' ρ', StG G σ' ρ' s' → Ext ρ ρ' s.heap s'.heap → Rep s'.heap ρ' cv v → Q cv s') → wpAny (model G.prog G.w) A t Q E s
/-- the values of several -/
noncomputable def EsJ (G : Glo) (env : Env) (d : Nat) (Γ : List (Str × AV)) (σ : List AObj) (t : Sem (List Value)) (v : List AV) (σ' : List AObj) : Prop :=
  ∀ (A : Around) (s : Shared) (ρ : List Addr) (Q : List Value → Shared → Prop) (E : Value → Shared → Prop), Room A d → StG G σ ρ s → StL G env Γ ρ s.heap →
    (∀ cv s' ρ', StG G σ' ρ' s' → Ext ρ ρ' s.heap s'.heap → RepL s'.heap ρ' cv v → Q cv s') → wpAny (model G.prog G.w) A t Q E s
/-- a truth -/
noncomputable def TJ (G : Glo) (env : Env) (d : Nat) (Γ : List (Str × AV)) (σ : List AObj) (t : Sem Bool) (v : Bool) (σ' : List AObj) : Prop :=
  ∀ (A : Around) (s : Shared) (ρ : List Addr) (Q : Bool → Shared → Prop) (E : Value → Shared → Prop), Room A d → StG G σ ρ s → StL G env Γ ρ s.heap →
    (∀ s' ρ', StG G σ' ρ' s' → Ext ρ ρ' s.heap s'.heap → Q v s') → wpAny (model G.prog G.w) A t Q E s
/-- what a step of two or more values gives, no frame in sight -/
noncomputable def OJ (G : Glo) (d : Nat) (σ : List AObj) (args : List AV) (t : List Value → Sem Value) (v : AV) (σ' : List AObj) : Prop :=
  ∀ (A : Around) (s : Shared) (ρ : List Addr) (cs : List Value) (Q : Value → Shared → Prop) (E : Value → Shared → Prop), Room A d → StG G σ ρ s → RepL s.heap ρ cs args →
    (∀ cv s' ρ', StG G σ' ρ' s' → Ext ρ ρ' s.heap s'.heap → Rep s'.heap ρ' cv v → Q cv s') → wpAny (model G.prog G.w) A (t cs) Q E s

theorem EsJ.nil {pos : Pos} : EsJ G env d Γ σ (spliced (backTo pos (starEach [] env))) [] σ := fun A s ρ Q E _ S _ h => wpAny_pure (h _ s ρ S (Ext.refl _ _) .nil)

theorem EsJ.cons {pos : Pos} {e : Expr} {es : List Expr} {v : AV} {vs : List AV} (h1 : EJ G env d Γ σ (eval e env) v σ₁) (h2 : EsJ G env d Γ σ₁ (spliced (backTo pos (starEach es env))) vs σ₂)
    (he : starEach (e :: es) env = (false, eval e env) :: starEach es env := by rfl) : EsJ G env d Γ σ (spliced (backTo pos (starEach (e :: es) env))) (v :: vs) σ₂ := by
  intro A s ρ Q E R S L h
  rw [he]
  show wpAny _ A (spliced ((false, eval e env) :: backTo pos (starEach es env))) Q E s
  unfold spliced
  refine wpAny_bind (h1 A s ρ _ E R S L fun cv s' ρ' S' x r => ?_)
  first | refine PySem.wpAny_ite_false rfl ?_ | simp only [Bool.false_eq_true, if_false]
  refine wpAny_bind (wpAny_pure ?_)
  refine wpAny_bind (wpAny_holding (h2 A s' ρ' _ E R S' (L.keep S x) fun cvs s'' ρ'' S'' x' r' => ?_))
  exact wpAny_pure (h _ s'' ρ'' S'' (x.trans x') (.cons (r.mono (S'.tupKeep x'.keep) x'.pre) r'))

theorem EJ.mkTup {t : Sem (List Value)} {vs : List AV} (h1 : EsJ G env d Γ σ t vs σ₁) (hl : vs.length ≤ 1000 := by exact Nat.le_of_ble_eq_true rfl) : EJ G env d Γ σ (t >>= newTuple) (.tup vs) σ₁ := by
  intro A s ρ Q E R S L h
  refine wpAny_bind (h1 A s ρ _ E R S L fun cvs s' ρ' S' x r => ?_)
  refine wpAny_newObj_type ?_ (by show cvs.toArray.size ≤ sizeLine; rw [List.size_toArray, r.length]; exact Nat.le_trans hl (by decide))
  have k : ∀ b o, s'.heap.get? b = some o → (s'.heap.push { cls := .type "tuple", data := .seq cvs.toArray }).get? b = some o := fun b o e => Heap.get?_push_of_some _ e
  refine h _ _ ρ' (S'.ext (s' := { s' with heap := _ }) k rfl rfl) (x.trans (Ext.of_all k)) (.tup ⟨_, Heap.get?_push_size _ rfl, rfl, _, rfl⟩ (r.mono (S'.tupKeep (KeepX.of_all k)) (Pre.refl _)))
theorem EJ.mkTuple {es : List Expr} {k : Nat} {pos : Pos} {vs : List AV} (h1 : EsJ G env d Γ σ (spliced (backTo pos (starEach es env))) vs σ₁) (hl : vs.length ≤ 1000 := by exact Nat.le_of_ble_eq_true rfl) : EJ G env d Γ σ (eval (.Tuple es k pos) env) (.tup vs) σ₁ := by
  intro A s ρ Q E R S L h
  show wpAny _ A (do standAt pos; newTuple (← spliced (backTo pos (starEach es env)))) Q E s
  exact wpAny_bind (wpAny_standAt (EJ.mkTup h1 hl A s ρ Q E R S L h))
theorem EJ.mkList {es : List Expr} {pos : Pos} {vs : List AV} (h1 : EsJ G env d Γ σ (spliced (backTo pos (starEach es env))) vs σ₁) (hl : vs.length ≤ 1000 := by exact Nat.le_of_ble_eq_true rfl) :
    EJ G env d Γ σ (eval (.List es pos) env) (.ref σ₁.length) (σ₁ ++ [AObj.list vs]) := by
  intro A s ρ Q E R S L h
  show wpAny _ A (do standAt pos; newList (← spliced (backTo pos (starEach es env)))) Q E s
  refine wpAny_bind (wpAny_standAt (wpAny_bind (h1 A s ρ _ E R S L fun cvs s' ρ' S' x r => ?_)))
  refine wpAny_newObj_type ?_ (by show cvs.toArray.size ≤ sizeLine; rw [List.size_toArray, r.length]; exact Nat.le_trans hl (by decide))
  have k : ∀ b o, s'.heap.get? b = some o → (s'.heap.push { cls := .type "list", data := .seq cvs.toArray }).get? b = some o := fun b o e => Heap.get?_push_of_some _ e
  have ha := get_size_none s'.heap
  refine h _ _ (ρ' ++ [s'.heap.objs.size]) (S'.push (s' := { s' with heap := _ }) ha k ⟨cvs, 0, Heap.get?_push_size _ rfl, r.mono (S'.tupKeep (KeepX.of_all k)) (Pre.append _ _)⟩ rfl rfl) (x.trans (Ext.push ha k))
    (.ref (by rw [← S'.len]; simp))
end
end Mine
end
section
open PySem PySem.W PyProof.Rows
set_option linter.unusedVariables false
set_option linter.unusedSimpArgs false
namespace Mine
section
variable {G : Glo} {env : Env} {d : Nat} {Γ : List (Str × AV)} {σ σ' σ₁ σ₂ σ₃ : List AObj}

theorem EJ.loc {x : Str} {pos : Pos} {v : AV} (hv : Γ.lookup x = some v := by rfl) (hk : env.kindOf x = some .local := by rfl) (hd : (x == ("__debug__" : Str)) = false := by decide) : EJ G env d Γ σ (eval (.Name x pos) env) v σ := by
  intro A s ρ Q E R S L h
  obtain ⟨m, hn, hm⟩ := L.ns
  obtain ⟨cv, e, r⟩ := hm x v hk hv
  exact wpAny_Name (wpAny_loadName_local L.kind hk hn e (h cv s ρ S (Ext.refl _ _) r)) hd
theorem EJ.cell {x : Str} {pos : Pos} {v : AV} (hv : Γ.lookup x = some v := by rfl) (hk : env.kindOf x = some .cell := by rfl) (hd : (x == ("__debug__" : Str)) = false := by decide) : EJ G env d Γ σ (eval (.Name x pos) env) v σ := by
  intro A s ρ Q E R S L h
  obtain ⟨c, hc⟩ := L.has x (.inl hk)
  obtain ⟨ov, ic, hh⟩ := L.cell x c hc
  obtain ⟨cv, rfl, r⟩ := hh v (by rw [hk]; decide) hv
  exact wpAny_Name (wpAny_loadName_cell L.kind hk hc ic (h cv s ρ S (Ext.refl _ _) r)) hd
theorem EJ.cInt {i : Int} {k : Nat} {pos : Pos} : EJ G env d Γ σ (eval (.Constant (.int i) k pos) env) (.int i) σ :=
  fun A s ρ Q E _ S _ h => wpAny_Constant_int (h _ _ ρ (S.with rfl rfl rfl) (Ext.refl _ _) (.int i _))
theorem EJ.cStr {x : Str} {k : Nat} {pos : Pos} : EJ G env d Γ σ (eval (.Constant (.str x) k pos) env) (.str x) σ :=
  fun A s ρ Q E _ S _ h => wpAny_Constant_str (h _ _ ρ (S.with rfl rfl rfl) (Ext.refl _ _) (.str x _))
theorem EJ.cBool {b : Bool} {k : Nat} {pos : Pos} : EJ G env d Γ σ (eval (.Constant (.bool b) k pos) env) (.bool b) σ :=
  fun A s ρ Q E _ S _ h => wpAny_Constant_bool (h _ _ ρ S (Ext.refl _ _) (.bool b))
theorem EJ.cNone {k : Nat} {pos : Pos} : EJ G env d Γ σ (eval (.Constant .none k pos) env) .none σ :=
  fun A s ρ Q E _ S _ h => wpAny_Constant_none (h _ _ ρ S (Ext.refl _ _) .none)

/-- a step on two values -/
noncomputable def O2 (G : Glo) (d : Nat) (σ : List AObj) (x y : AV) (t : Value → Value → Sem Value) (v : AV) (σ' : List AObj) : Prop :=
  ∀ (A : Around) (s : Shared) (ρ : List Addr) (cx cy : Value) (Q : Value → Shared → Prop) (E : Value → Shared → Prop), Room A d → StG G σ ρ s → Rep s.heap ρ cx x → Rep s.heap ρ cy y →
    (∀ cv s' ρ', StG G σ' ρ' s' → Ext ρ ρ' s.heap s'.heap → Rep s'.heap ρ' cv v → Q cv s') → wpAny (model G.prog G.w) A (t cx cy) Q E s
noncomputable def O1 (G : Glo) (d : Nat) (σ : List AObj) (x : AV) (t : Value → Sem Value) (v : AV) (σ' : List AObj) : Prop :=
  ∀ (A : Around) (s : Shared) (ρ : List Addr) (cx : Value) (Q : Value → Shared → Prop) (E : Value → Shared → Prop), Room A d → StG G σ ρ s → Rep s.heap ρ cx x →
    (∀ cv s' ρ', StG G σ' ρ' s' → Ext ρ ρ' s.heap s'.heap → Rep s'.heap ρ' cv v → Q cv s') → wpAny (model G.prog G.w) A (t cx) Q E s
/-- truth of a value -/
noncomputable def B1 (G : Glo) (d : Nat) (σ : List AObj) (x : AV) (b : Bool) : Prop :=
  ∀ (A : Around) (s : Shared) (ρ : List Addr) (cx : Value) (Q : Bool → Shared → Prop) (E : Value → Shared → Prop), Room A d → StG G σ ρ s → Rep s.heap ρ cx x →
    (∀ s' , StG G σ ρ s' → Ext ρ ρ s.heap s'.heap → Q b s') → wpAny (model G.prog G.w) A (truthy cx) Q E s
theorem B1.bool {b : Bool} : B1 G d σ (.bool b) b := fun A s ρ cx Q E _ S r h => by
  cases r; exact wpAny_truthy_bool (h s S (Ext.refl _ _))

theorem EJ.two {e₁ e₂ : Expr} {x y v : AV} {t : Value → Value → Sem Value} (h1 : EJ G env d Γ σ (eval e₁ env) x σ₁) (h2 : EJ G env d Γ σ₁ (eval e₂ env) y σ₂) (h3 : O2 G d σ₂ x y t v σ₃)
    {A : Around} {s : Shared} {ρ : List Addr} {Q : Value → Shared → Prop} {E : Value → Shared → Prop} (R : Room A d) (S : StG G σ ρ s) (L : StL G env Γ ρ s.heap)
    (h : ∀ cv s' ρ', StG G σ₃ ρ' s' → Ext ρ ρ' s.heap s'.heap → Rep s'.heap ρ' cv v → Q cv s') :
    wpAny (model G.prog G.w) A (eval e₁ env) (fun a s₁ => wpAny (model G.prog G.w) A (eval e₂ env) (fun b s₂ => wpAny (model G.prog G.w) A (t a b) Q E s₂) E s₁) E s :=
  h1 A s ρ _ E R S L fun ca s₁ ρ₁ S₁ x₁ r₁ => h2 A s₁ ρ₁ _ E R S₁ (L.keep S x₁) fun cb s₂ ρ₂ S₂ x₂ r₂ =>
    h3 A s₂ ρ₂ ca cb Q E R S₂ (r₁.mono (S₁.tupKeep x₂.keep) x₂.pre) r₂ fun cv s₃ ρ₃ S₃ x₃ r₃ => h cv s₃ ρ₃ S₃ ((x₁.trans x₂).trans x₃) r₃

theorem EJ.binop {l r : Expr} {op : Operator} {pos : Pos} {x y v : AV} (h1 : EJ G env d Γ σ (eval l env) x σ₁) (h2 : EJ G env d Γ σ₁ (eval r env) y σ₂) (h3 : O2 G d σ₂ x y (binaryOp op) v σ₃) :
    EJ G env d Γ σ (eval (.BinOp l op r pos) env) v σ₃ := fun A s ρ Q E R S L h => wpAny_BinOp (EJ.two h1 h2 h3 R S L h)
theorem EJ.cmp {l r : Expr} {op : CmpOp} {pos : Pos} {x y v : AV} (h1 : EJ G env d Γ σ (eval l env) x σ₁) (h2 : EJ G env d Γ σ₁ (eval r env) y σ₂) (h3 : O2 G d σ₂ x y (compareOp op) v σ₃)
    (hm : behindInMarks op r = false := by with_unfolding_all rfl) : EJ G env d Γ σ (eval (.Compare l [op] [r] pos) env) v σ₃ := fun A s ρ Q E R S L h => wpAny_Compare1 (EJ.two h1 h2 h3 R S L h) hm
theorem TJ.cmp {l r : Expr} {op : CmpOp} {pos : Pos} {w : Sem Value} {x y : AV} {b : Bool} (h1 : EJ G env d Γ σ (eval l env) x σ₁) (h2 : EJ G env d Γ σ₁ (eval r env) y σ₂) (h3 : O2 G d σ₂ x y (compareOp op) (.bool b) σ₃)
    (hm : behindInMarks op r = false := by with_unfolding_all rfl) : TJ G env d Γ σ (isTrue (.Compare l [op] [r] pos) env w) b σ₃ := fun A s ρ Q E R S L h => by
  refine wpAny_isTrue_Compare1 ?_ hm
  refine h1 A s ρ _ E R S L fun ca s₁ ρ₁ S₁ x₁ r₁ => h2 A s₁ ρ₁ _ E R S₁ (L.keep S x₁) fun cb s₂ ρ₂ S₂ x₂ r₂ =>
    h3 A s₂ ρ₂ ca cb _ E R S₂ (r₁.mono (S₁.tupKeep x₂.keep) x₂.pre) r₂ fun cv s₃ ρ₃ S₃ x₃ r₃ => ?_
  (first | obtain ⟨_, rfl⟩ := Rep.int_ r₃ | obtain ⟨_, rfl⟩ := Rep.str_ r₃ | obtain rfl := Rep.bool_ r₃ | obtain rfl := Rep.none_ r₃ | obtain rfl := Rep.opq_ r₃ | obtain ⟨_, rfl, _⟩ := Rep.ref_ r₃ | cases r₃)
  exact wpAny_truthy_bool (h s₃ ρ₃ S₃ ((x₁.trans x₂).trans x₃))
theorem TJ.val {e : Expr} {v : AV} {b : Bool} (h1 : EJ G env d Γ σ (eval e env) v σ₁) (hb : B1 G d σ₁ v b)
    (he : isTrue e env (eval e env) = (do let v ← eval e env; standAt e.pos; holding [v] (truthy v)) := by rfl) : TJ G env d Γ σ (isTrue e env (eval e env)) b σ₁ := fun A s ρ Q E R S L h => by
  refine wpAny_isTrue_value ?_ he
  refine h1 A s ρ _ E R S L fun ca s₁ ρ₁ S₁ x₁ r₁ => ?_
  exact hb A s₁ ρ₁ ca Q E R S₁ r₁ fun s₂ S₂ x₂ => h s₂ ρ₁ S₂ (x₁.trans x₂)
theorem TJ.neg {e : Expr} {pos : Pos} {w : Sem Value} {b : Bool} (h1 : TJ G env d Γ σ (isTrue e env (eval e env)) b σ₁) : TJ G env d Γ σ (isTrue (.UnaryOp .Not e pos) env w) (!b) σ₁ := fun A s ρ Q E R S L h =>
  wpAny_isTrue_Not (h1 A s ρ _ E R S L fun s₁ ρ₁ S₁ x₁ => h s₁ ρ₁ S₁ x₁)

/-- all of several tests -/
theorem TJ.andNil : TJ G env d Γ σ (allTrue .And [] env) true σ := fun A s ρ Q E R S L h => wpAny_allTrue_And_nil (h s ρ S (Ext.refl _ _))
theorem TJ.andF {e : Expr} {es : List Expr} (h1 : TJ G env d Γ σ (isTrue e env (eval e env)) false σ₁) : TJ G env d Γ σ (allTrue .And (e :: es) env) false σ₁ := fun A s ρ Q E R S L h =>
  wpAny_allTrue_And_cons (h1 A s ρ _ E R S L fun s₁ ρ₁ S₁ x₁ => by simp only [Bool.false_eq_true, if_false]; exact h s₁ ρ₁ S₁ x₁)
theorem TJ.andT {e : Expr} {es : List Expr} {b : Bool} (h1 : TJ G env d Γ σ (isTrue e env (eval e env)) true σ₁) (h2 : TJ G env d Γ σ₁ (allTrue .And es env) b σ₂) : TJ G env d Γ σ (allTrue .And (e :: es) env) b σ₂ := fun A s ρ Q E R S L h =>
  wpAny_allTrue_And_cons (h1 A s ρ _ E R S L fun s₁ ρ₁ S₁ x₁ => by
    simp only [if_true]; exact h2 A s₁ ρ₁ Q E R S₁ (L.keep S x₁) fun s₂ ρ₂ S₂ x₂ => h s₂ ρ₂ S₂ (x₁.trans x₂))
theorem TJ.orNil : TJ G env d Γ σ (allTrue .Or [] env) false σ := fun A s ρ Q E R S L h => wpAny_allTrue_Or_nil (h s ρ S (Ext.refl _ _))
theorem TJ.orT {e : Expr} {es : List Expr} (h1 : TJ G env d Γ σ (isTrue e env (eval e env)) true σ₁) : TJ G env d Γ σ (allTrue .Or (e :: es) env) true σ₁ := fun A s ρ Q E R S L h =>
  wpAny_allTrue_Or_cons (h1 A s ρ _ E R S L fun s₁ ρ₁ S₁ x₁ => by simp only [if_true]; exact h s₁ ρ₁ S₁ x₁)
theorem TJ.orF {e : Expr} {es : List Expr} {b : Bool} (h1 : TJ G env d Γ σ (isTrue e env (eval e env)) false σ₁) (h2 : TJ G env d Γ σ₁ (allTrue .Or es env) b σ₂) : TJ G env d Γ σ (allTrue .Or (e :: es) env) b σ₂ := fun A s ρ Q E R S L h =>
  wpAny_allTrue_Or_cons (h1 A s ρ _ E R S L fun s₁ ρ₁ S₁ x₁ => by
    simp only [Bool.false_eq_true, if_false]; exact h2 A s₁ ρ₁ Q E R S₁ (L.keep S x₁) fun s₂ ρ₂ S₂ x₂ => h s₂ ρ₂ S₂ (x₁.trans x₂))
/-- both tests, no way of its own where the first is not known -/
theorem TJ.and2 {e f : Expr} {b c : Bool} (h1 : TJ G env d Γ σ (isTrue e env (eval e env)) b σ) (h2 : b = true → TJ G env d Γ σ (isTrue f env (eval f env)) c σ) :
    TJ G env d Γ σ (allTrue .And [e, f] env) (b && c) σ := by
  cases b with
  | false => exact TJ.andF h1
  | true =>
    cases c with
    | false => exact TJ.andT h1 (TJ.andF (h2 rfl))
    | true => exact TJ.andT h1 (TJ.andT (h2 rfl) TJ.andNil)
theorem TJ.or2 {e f : Expr} {b c : Bool} (h1 : TJ G env d Γ σ (isTrue e env (eval e env)) b σ) (h2 : b = false → TJ G env d Γ σ (isTrue f env (eval f env)) c σ) :
    TJ G env d Γ σ (allTrue .Or [e, f] env) (b || c) σ := by
  cases b with
  | true => exact TJ.orT h1
  | false =>
    cases c with
    | false => exact TJ.orF h1 (TJ.orF (h2 rfl) TJ.orNil)
    | true => exact TJ.orF h1 (TJ.orT (h2 rfl))
theorem TJ.boolOp {op : BoolOp} {es : List Expr} {pos : Pos} {w : Sem Value} {b : Bool} (h1 : TJ G env d Γ σ (allTrue op es env) b σ₁) : TJ G env d Γ σ (isTrue (.BoolOp op es pos) env w) b σ₁ := fun A s ρ Q E R S L h =>
  wpAny_isTrue_BoolOp (h1 A s ρ Q E R S L h)

theorem EJ.ifT {t a b : Expr} {pos : Pos} {v : AV} (h1 : TJ G env d Γ σ (isTrue t env (eval t env)) true σ₁) (h2 : EJ G env d Γ σ₁ (eval a env) v σ₂) : EJ G env d Γ σ (eval (.IfExp t a b pos) env) v σ₂ := fun A s ρ Q E R S L h =>
  wpAny_IfExp (h1 A s ρ _ E R S L fun s₁ ρ₁ S₁ x₁ => by simp only [if_true]; exact h2 A s₁ ρ₁ Q E R S₁ (L.keep S x₁) fun cv s₂ ρ₂ S₂ x₂ r => h cv s₂ ρ₂ S₂ (x₁.trans x₂) r)
theorem EJ.ifF {t a b : Expr} {pos : Pos} {v : AV} (h1 : TJ G env d Γ σ (isTrue t env (eval t env)) false σ₁) (h2 : EJ G env d Γ σ₁ (eval b env) v σ₂) : EJ G env d Γ σ (eval (.IfExp t a b pos) env) v σ₂ := fun A s ρ Q E R S L h =>
  wpAny_IfExp (h1 A s ρ _ E R S L fun s₁ ρ₁ S₁ x₁ => by simp only [Bool.false_eq_true, if_false]; exact h2 A s₁ ρ₁ Q E R S₁ (L.keep S x₁) fun cv s₂ ρ₂ S₂ x₂ r => h cv s₂ ρ₂ S₂ (x₁.trans x₂) r)
theorem EJ.ite {t a b : Expr} {pos : Pos} {c : Bool} {v u : AV} (h1 : TJ G env d Γ σ (isTrue t env (eval t env)) c σ₁) (h2 : c = true → EJ G env d Γ σ₁ (eval a env) v σ₂) (h3 : c = false → EJ G env d Γ σ₁ (eval b env) u σ₂) :
    EJ G env d Γ σ (eval (.IfExp t a b pos) env) (if c then v else u) σ₂ := by
  cases c with
  | true => exact EJ.ifT h1 (h2 rfl)
  | false => exact EJ.ifF h1 (h3 rfl)
theorem EJ.and2 {e f : Expr} {pos : Pos} {b c : Bool} (h1 : EJ G env d Γ σ (eval e env) (.bool b) σ) (h2 : b = true → EJ G env d Γ σ (eval f env) (.bool c) σ) : EJ G env d Γ σ (eval (.BoolOp .And [e, f] pos) env) (.bool (b && c)) σ := fun A s ρ Q E R S L h => by
  refine wpAny_And2 (h1 A s ρ _ E R S L fun cv s₁ ρ₁ S₁ x₁ r => ?_)
  cases r
  refine wpAny_truthy_bool ?_
  cases b with
  | false => simp only [Bool.false_eq_true, if_false]; exact h _ s₁ ρ₁ S₁ x₁ (.bool _)
  | true => simp only [if_true]; exact h2 rfl A s₁ ρ₁ Q E R S₁ (L.keep S x₁) fun cv s₂ ρ₂ S₂ x₂ r => h cv s₂ ρ₂ S₂ (x₁.trans x₂) r
theorem EJ.or2 {e f : Expr} {pos : Pos} {b c : Bool} (h1 : EJ G env d Γ σ (eval e env) (.bool b) σ) (h2 : b = false → EJ G env d Γ σ (eval f env) (.bool c) σ) : EJ G env d Γ σ (eval (.BoolOp .Or [e, f] pos) env) (.bool (b || c)) σ := fun A s ρ Q E R S L h => by
  refine wpAny_Or2 (h1 A s ρ _ E R S L fun cv s₁ ρ₁ S₁ x₁ r => ?_)
  cases r
  refine wpAny_truthy_bool ?_
  cases b with
  | true => simp only [if_true]; exact h _ s₁ ρ₁ S₁ x₁ (.bool _)
  | false => simp only [Bool.false_eq_true, if_false]; exact h2 rfl A s₁ ρ₁ Q E R S₁ (L.keep S x₁) fun cv s₂ ρ₂ S₂ x₂ r => h cv s₂ ρ₂ S₂ (x₁.trans x₂) r

theorem O2.of {x y v : AV} {t : Value → Value → Sem Value} (h : O2 G d σ x y t v σ') {u : AV} (e : v = u := by rfl) : O2 G d σ x y t u σ' := e ▸ h
end
end Mine
end
section
open PySem PySem.W PyProof.Rows
set_option linter.unusedVariables false
set_option linter.unusedSimpArgs false
namespace Mine
section
variable {G : Glo} {env : Env} {d : Nat} {Γ : List (Str × AV)} {σ σ' σ₁ σ₂ σ₃ : List AObj}

-- ints
theorem O2.addI {a b : Int} : O2 G d σ (.int a) (.int b) (binaryOp .Add) (.int (a + b)) σ := fun A s ρ cx cy Q E R S r1 r2 h => by
  (first | obtain ⟨_, rfl⟩ := Rep.int_ r1 | obtain ⟨_, rfl⟩ := Rep.str_ r1 | obtain rfl := Rep.bool_ r1 | obtain rfl := Rep.none_ r1 | obtain rfl := Rep.opq_ r1 | obtain ⟨_, rfl, _⟩ := Rep.ref_ r1 | cases r1); (first | obtain ⟨_, rfl⟩ := Rep.int_ r2 | obtain ⟨_, rfl⟩ := Rep.str_ r2 | obtain rfl := Rep.bool_ r2 | obtain rfl := Rep.none_ r2 | obtain rfl := Rep.opq_ r2 | obtain ⟨_, rfl, _⟩ := Rep.ref_ r2 | cases r2); exact wpAny_add_int (h _ _ ρ (S.with rfl rfl rfl) (Ext.refl _ _) (.int _ _))
theorem O2.mulI {a b : Int} (hm : IntMulOk a b := by mul_fits) : O2 G d σ (.int a) (.int b) (binaryOp .Mult) (.int (a * b)) σ := fun A s ρ cx cy Q E R S r1 r2 h => by
  (first | obtain ⟨_, rfl⟩ := Rep.int_ r1 | obtain ⟨_, rfl⟩ := Rep.str_ r1 | obtain rfl := Rep.bool_ r1 | obtain rfl := Rep.none_ r1 | obtain rfl := Rep.opq_ r1 | obtain ⟨_, rfl, _⟩ := Rep.ref_ r1 | cases r1); (first | obtain ⟨_, rfl⟩ := Rep.int_ r2 | obtain ⟨_, rfl⟩ := Rep.str_ r2 | obtain rfl := Rep.bool_ r2 | obtain rfl := Rep.none_ r2 | obtain rfl := Rep.opq_ r2 | obtain ⟨_, rfl, _⟩ := Rep.ref_ r2 | cases r2); exact PyProof.Rows.mul_int (h _ _ ρ (S.with rfl rfl rfl) (Ext.refl _ _) (.int _ _)) hm
theorem O2.modI {a b : Int} (hb : b ≠ 0 := by decide) : O2 G d σ (.int a) (.int b) (binaryOp .Mod) (.int (a.fmod b)) σ := fun A s ρ cx cy Q E R S r1 r2 h => by
  (first | obtain ⟨_, rfl⟩ := Rep.int_ r1 | obtain ⟨_, rfl⟩ := Rep.str_ r1 | obtain rfl := Rep.bool_ r1 | obtain rfl := Rep.none_ r1 | obtain rfl := Rep.opq_ r1 | obtain ⟨_, rfl, _⟩ := Rep.ref_ r1 | cases r1); (first | obtain ⟨_, rfl⟩ := Rep.int_ r2 | obtain ⟨_, rfl⟩ := Rep.str_ r2 | obtain rfl := Rep.bool_ r2 | obtain rfl := Rep.none_ r2 | obtain rfl := Rep.opq_ r2 | obtain ⟨_, rfl, _⟩ := Rep.ref_ r2 | cases r2); exact PyProof.Rows.mod_int hb (h _ _ ρ (S.with rfl rfl rfl) (Ext.refl _ _) (.int _ _))
theorem O2.shrI {a b : Int} (hb : 0 ≤ b) : O2 G d σ (.int a) (.int b) (binaryOp .RShift) (.int (a.fdiv (2 ^ b.toNat))) σ := fun A s ρ cx cy Q E R S r1 r2 h => by
  (first | obtain ⟨_, rfl⟩ := Rep.int_ r1 | obtain ⟨_, rfl⟩ := Rep.str_ r1 | obtain rfl := Rep.bool_ r1 | obtain rfl := Rep.none_ r1 | obtain rfl := Rep.opq_ r1 | obtain ⟨_, rfl, _⟩ := Rep.ref_ r1 | cases r1); (first | obtain ⟨_, rfl⟩ := Rep.int_ r2 | obtain ⟨_, rfl⟩ := Rep.str_ r2 | obtain rfl := Rep.bool_ r2 | obtain rfl := Rep.none_ r2 | obtain rfl := Rep.opq_ r2 | obtain ⟨_, rfl, _⟩ := Rep.ref_ r2 | cases r2); exact PyProof.Rows.rshift_int hb (h _ _ ρ (S.with rfl rfl rfl) (Ext.refl _ _) (.int _ _))
theorem O2.subI {a b : Int} (h3 : ∀ (A : Around) (s : Shared) (t u : Tok) (Q : Value → Shared → Prop) (E : Value → Shared → Prop), Q (.int (a - b) s.toks) { s with toks := s.toks + 1 } → wpAny (model G.prog G.w) A (binaryOp .Sub (.int a t) (.int b u)) Q E s) :
    O2 G d σ (.int a) (.int b) (binaryOp .Sub) (.int (a - b)) σ := fun A s ρ cx cy Q E R S r1 r2 h => by
  (first | obtain ⟨_, rfl⟩ := Rep.int_ r1 | obtain ⟨_, rfl⟩ := Rep.str_ r1 | obtain rfl := Rep.bool_ r1 | obtain rfl := Rep.none_ r1 | obtain rfl := Rep.opq_ r1 | obtain ⟨_, rfl, _⟩ := Rep.ref_ r1 | cases r1); (first | obtain ⟨_, rfl⟩ := Rep.int_ r2 | obtain ⟨_, rfl⟩ := Rep.str_ r2 | obtain rfl := Rep.bool_ r2 | obtain rfl := Rep.none_ r2 | obtain rfl := Rep.opq_ r2 | obtain ⟨_, rfl, _⟩ := Rep.ref_ r2 | cases r2); exact h3 _ _ _ _ _ _ (h _ _ ρ (S.with rfl rfl rfl) (Ext.refl _ _) (.int _ _))
theorem O2.ltI {a b : Int} : O2 G d σ (.int a) (.int b) (compareOp .Lt) (.bool (decide (a < b))) σ := fun A s ρ cx cy Q E R S r1 r2 h => by
  (first | obtain ⟨_, rfl⟩ := Rep.int_ r1 | obtain ⟨_, rfl⟩ := Rep.str_ r1 | obtain rfl := Rep.bool_ r1 | obtain rfl := Rep.none_ r1 | obtain rfl := Rep.opq_ r1 | obtain ⟨_, rfl, _⟩ := Rep.ref_ r1 | cases r1); (first | obtain ⟨_, rfl⟩ := Rep.int_ r2 | obtain ⟨_, rfl⟩ := Rep.str_ r2 | obtain rfl := Rep.bool_ r2 | obtain rfl := Rep.none_ r2 | obtain rfl := Rep.opq_ r2 | obtain ⟨_, rfl, _⟩ := Rep.ref_ r2 | cases r2); exact PyProof.Rows.lt_int (h _ _ ρ S (Ext.refl _ _) (.bool _))
theorem O2.gtI {a b : Int} : O2 G d σ (.int a) (.int b) (compareOp .Gt) (.bool (decide (b < a))) σ := fun A s ρ cx cy Q E R S r1 r2 h => by
  (first | obtain ⟨_, rfl⟩ := Rep.int_ r1 | obtain ⟨_, rfl⟩ := Rep.str_ r1 | obtain rfl := Rep.bool_ r1 | obtain rfl := Rep.none_ r1 | obtain rfl := Rep.opq_ r1 | obtain ⟨_, rfl, _⟩ := Rep.ref_ r1 | cases r1); (first | obtain ⟨_, rfl⟩ := Rep.int_ r2 | obtain ⟨_, rfl⟩ := Rep.str_ r2 | obtain rfl := Rep.bool_ r2 | obtain rfl := Rep.none_ r2 | obtain rfl := Rep.opq_ r2 | obtain ⟨_, rfl, _⟩ := Rep.ref_ r2 | cases r2); exact PyProof.Rows.gt_int (h _ _ ρ S (Ext.refl _ _) (.bool _))

-- texts
theorem O2.addS {a b : Str} (hl : a.length + b.length ≤ 1000000) : O2 G d σ (.str a) (.str b) (binaryOp .Add) (.str (a ++ b)) σ := fun A s ρ cx cy Q E R S r1 r2 h => by
  (first | obtain ⟨_, rfl⟩ := Rep.int_ r1 | obtain ⟨_, rfl⟩ := Rep.str_ r1 | obtain rfl := Rep.bool_ r1 | obtain rfl := Rep.none_ r1 | obtain rfl := Rep.opq_ r1 | obtain ⟨_, rfl, _⟩ := Rep.ref_ r1 | cases r1); (first | obtain ⟨_, rfl⟩ := Rep.int_ r2 | obtain ⟨_, rfl⟩ := Rep.str_ r2 | obtain rfl := Rep.bool_ r2 | obtain rfl := Rep.none_ r2 | obtain rfl := Rep.opq_ r2 | obtain ⟨_, rfl, _⟩ := Rep.ref_ r2 | cases r2); exact PyProof.Rows.add_str (fun t' tk => h _ _ ρ (S.with rfl rfl rfl) (Ext.refl _ _) (.str _ _)) (Nat.le_trans hl (by decide))

-- equality
noncomputable def depthA (x : AV) : Nat := x.py.depth
theorem O2.eq {x y : AV} (fx : AV.flat x = true) (fy : AV.flat y = true) (hd : min (depthA x) (depthA y) ≤ 300 := by first | decide | exact Nat.le_trans (Nat.min_le_right _ _) (by decide +kernel)) : O2 G d σ x y (compareOp .Eq) (.bool (decide (x = y))) σ := fun A s ρ cx cy Q E R S r1 r2 h => by
  obtain ⟨as, ra⟩ := r1.reads fx
  obtain ⟨bs, rb⟩ := r2.reads fy
  exact SeqAt.compareEq_reads ra rb (AV.flat_lay x fx) (AV.flat_lay y fy) (Nat.lt_of_le_of_lt (Nat.add_le_add_left hd _) R.u) (by rw [AV.flat_eqv x y fx fy]; exact h _ s ρ S (Ext.refl _ _) (.bool _))
theorem O2.ne {x y : AV} (fx : AV.flat x = true) (fy : AV.flat y = true) (hd : min (depthA x) (depthA y) ≤ 300 := by first | decide | exact Nat.le_trans (Nat.min_le_right _ _) (by decide +kernel)) : O2 G d σ x y (compareOp .NotEq) (.bool (!decide (x = y))) σ := fun A s ρ cx cy Q E R S r1 r2 h => by
  obtain ⟨as, ra⟩ := r1.reads fx
  obtain ⟨bs, rb⟩ := r2.reads fy
  exact SeqAt.compareNe_reads ra rb (AV.flat_lay x fx) (AV.flat_lay y fy) (Nat.lt_of_le_of_lt (Nat.add_le_add_left hd _) R.u) (by rw [AV.flat_eqv x y fx fy]; exact h _ s ρ S (Ext.refl _ _) (.bool _))
theorem O2.eqB {a b : Bool} : O2 G d σ (.bool a) (.bool b) (compareOp .Eq) (.bool (a == b)) σ := fun A s ρ cx cy Q E R S r1 r2 h => by
  (first | obtain ⟨_, rfl⟩ := Rep.int_ r1 | obtain ⟨_, rfl⟩ := Rep.str_ r1 | obtain rfl := Rep.bool_ r1 | obtain rfl := Rep.none_ r1 | obtain rfl := Rep.opq_ r1 | obtain ⟨_, rfl, _⟩ := Rep.ref_ r1 | cases r1); (first | obtain ⟨_, rfl⟩ := Rep.int_ r2 | obtain ⟨_, rfl⟩ := Rep.str_ r2 | obtain rfl := Rep.bool_ r2 | obtain rfl := Rep.none_ r2 | obtain rfl := Rep.opq_ r2 | obtain ⟨_, rfl, _⟩ := Rep.ref_ r2 | cases r2); exact PyProof.Rows.eq_bool (h _ s ρ S (Ext.refl _ _) (.bool _))
/-- lists by what they hold -/
theorem reads_list {s : Shared} {ρ : List Addr} {i : Nat} {l : List AV} {cv : Value} (S : StG G σ ρ s) (hi : σ[i]? = some (AObj.list l)) (r : Rep s.heap ρ cv (.ref i)) (f : AV.flats l = true) : ∃ as, Reads s.heap cv (.list (AV.pys l)) as := by
  obtain ⟨_, rfl, e⟩ := Rep.ref_ r
  obtain ⟨a, ea, vs, n, eo, q⟩ := S.obj hi
  rw [e] at ea; cases ea
  obtain ⟨as, ra⟩ := q.reads f
  exact ⟨_, Reads.list eo rfl rfl (by simpa using ra)⟩
theorem O2.eqL {i j : Nat} {l m : List AV} (hi : σ[i]? = some (AObj.list l)) (hj : σ[j]? = some (AObj.list m)) (fx : AV.flats l = true) (fy : AV.flats m = true) (hd : PyData.depthAll (AV.pys l) ≤ 200) :
    O2 G d σ (.ref i) (.ref j) (compareOp .Eq) (.bool (decide (l = m))) σ := fun A s ρ cx cy Q E R S r1 r2 h => by
  obtain ⟨as, ra⟩ := reads_list S hi r1 fx
  obtain ⟨bs, rb⟩ := reads_list S hj r2 fy
  refine SeqAt.compareEq_reads ra rb (by simpa [PyData.canLay0] using AV.flats_lay l fx) (by simpa [PyData.canLay0] using AV.flats_lay m fy) ?_ (by rw [PyData.eqv, AV.flats_eqv l m fx fy]; exact h _ s ρ S (Ext.refl _ _) (.bool _))
  have := R.u
  simp only [PyData.depth]
  lia
theorem O2.neL {i j : Nat} {l m : List AV} (hi : σ[i]? = some (AObj.list l)) (hj : σ[j]? = some (AObj.list m)) (fx : AV.flats l = true) (fy : AV.flats m = true) (hd : PyData.depthAll (AV.pys l) ≤ 200) :
    O2 G d σ (.ref i) (.ref j) (compareOp .NotEq) (.bool (!decide (l = m))) σ := fun A s ρ cx cy Q E R S r1 r2 h => by
  obtain ⟨as, ra⟩ := reads_list S hi r1 fx
  obtain ⟨bs, rb⟩ := reads_list S hj r2 fy
  refine SeqAt.compareNe_reads ra rb (by simpa [PyData.canLay0] using AV.flats_lay l fx) (by simpa [PyData.canLay0] using AV.flats_lay m fy) ?_ (by rw [PyData.eqv, AV.flats_eqv l m fx fy]; exact h _ s ρ S (Ext.refl _ _) (.bool _))
  have := R.u
  simp only [PyData.depth]
  lia
theorem any_py : ∀ (l : List AV) (x : AV), AV.flats l = true → AV.flat x = true → (AV.pys l).any (fun y => PyData.eqv y x.py) = decide (x ∈ l)
  | [], x, _, _ => by simp [AV.pys_nil, AV.pys_cons]
  | y :: l, x, h, hx => by
    simp only [AV.flats_nil, AV.flats_cons, Bool.and_eq_true] at h
    simp only [AV.pys_nil, AV.pys_cons, List.any_cons, AV.flat_eqv y x h.1 hx, any_py l x h.2 hx, List.mem_cons, Bool.decide_or]
    by_cases e : y = x
    · simp [e]
    · have : ¬ x = y := fun q => e q.symm
      simp [e, this]
theorem O2.inT {x : AV} {l : List AV} (fx : AV.flat x = true) (fl : AV.flats l = true) (hd : min (PyData.depthAll (AV.pys l)) (depthA x) ≤ 200) : O2 G d σ x (.tup l) (compareOp .In) (.bool (decide (x ∈ l))) σ := fun A s ρ cx cy Q E R S r1 r2 h => by
  obtain ⟨as, ra⟩ := r1.reads fx
  obtain ⟨bs, rb⟩ := r2.reads (x := .tup l) (by simpa [AV.flat_tup, AV.flat_str] using fl)
  rw [AV.py_tup] at rb
  refine SeqAt.in_tuple_reads rb ra (AV.flats_lay l fl) (AV.flat_lay x fx) ?_ (by rw [any_py l x fl fx]; exact h _ s ρ S (Ext.refl _ _) (.bool _))
  have := R.u
  unfold depthA at hd
  lia
theorem O2.notInT {x : AV} {l : List AV} (fx : AV.flat x = true) (fl : AV.flats l = true) (hd : min (PyData.depthAll (AV.pys l)) (depthA x) ≤ 200) : O2 G d σ x (.tup l) (compareOp .NotIn) (.bool (!decide (x ∈ l))) σ := fun A s ρ cx cy Q E R S r1 r2 h => by
  obtain ⟨as, ra⟩ := r1.reads fx
  obtain ⟨bs, rb⟩ := r2.reads (x := .tup l) (by simpa [AV.flat_tup, AV.flat_str] using fl)
  rw [AV.py_tup] at rb
  refine SeqAt.notIn_tuple_reads rb ra (AV.flats_lay l fl) (AV.flat_lay x fx) ?_ (by rw [any_py l x fl fx]; exact h _ s ρ S (Ext.refl _ _) (.bool _))
  have := R.u
  unfold depthA at hd
  lia
noncomputable def AV.isNone : AV → Bool
  | .none => true
  | _ => false
theorem O2.is {x : AV} : O2 G d σ x .none (compareOp .Is) (.bool x.isNone) σ := fun A s ρ cx cy Q E R S r1 r2 h => by
  (first | obtain ⟨_, rfl⟩ := Rep.int_ r2 | obtain ⟨_, rfl⟩ := Rep.str_ r2 | obtain rfl := Rep.bool_ r2 | obtain rfl := Rep.none_ r2 | obtain rfl := Rep.opq_ r2 | obtain ⟨_, rfl, _⟩ := Rep.ref_ r2 | cases r2)
  refine is_none ?_
  have : (cx == Value.none) = x.isNone := by cases r1 <;> rfl
  rw [this]; exact h _ s ρ S (Ext.refl _ _) (.bool _)

-- tuples and lists put together
theorem O2.addT {l m : List AV} (hl : l.length + m.length ≤ 100000) : O2 G d σ (.tup l) (.tup m) (binaryOp .Add) (.tup (l ++ m)) σ := fun A s ρ cx cy Q E R S r1 r2 h => by
  obtain ⟨t, vs, rfl, ht, r⟩ := Rep.tup_ r1
  obtain ⟨b, ws, rfl, hb, q⟩ := Rep.tup_ r2
  have el := r.length
  have em := q.length
  have ht0 := ht
  have hb0 := hb
  obtain ⟨⟨cls, dd, data, sl⟩, ho, hc, n, hd⟩ := ht
  obtain ⟨⟨cls2, dd2, data2, sl2⟩, ho2, hc2, n2, hd2⟩ := hb
  simp only at hc hd hc2 hd2
  subst hc hd hc2 hd2
  have e : vs.toArray ++ ws.toArray = (vs ++ ws).toArray := by simp
  by_cases hv : vs = []
  · refine concat_meets ⟨_, ho, rfl⟩ ⟨_, ho2, rfl⟩ noFill_tuple_add seq_tuple_add PySem.F.slot_tuple_add PySem.F.entry_tuple_add (PySem.F.args_tuple_add_2 _ _)
      (tuple_addW0 t b vs.toArray ws.toArray n n2 dd dd2 sl sl2 (by simp [hv])) ⟨ho, ho2, ?_⟩
    have hln : l = [] := List.length_eq_zero_iff.mp (by rw [← el, hv]; rfl)
    refine h _ _ ρ (S.with rfl rfl rfl) (Ext.refl _ _) ?_
    rw [hln, List.nil_append]; exact .tup hb0 q
  · by_cases hw : ws = []
    · refine concat_meets ⟨_, ho, rfl⟩ ⟨_, ho2, rfl⟩ noFill_tuple_add seq_tuple_add PySem.F.slot_tuple_add PySem.F.entry_tuple_add (PySem.F.args_tuple_add_2 _ _)
        (tuple_addW1 t b vs.toArray ws.toArray n n2 dd dd2 sl sl2 (by simpa using hv) (by simp [hw])) ⟨ho, ho2, ?_⟩
      have hln : m = [] := List.length_eq_zero_iff.mp (by rw [← em, hw]; rfl)
      refine h _ _ ρ (S.with rfl rfl rfl) (Ext.refl _ _) ?_
      rw [hln, List.append_nil]; exact .tup ht0 r
    · refine concat_meets ⟨_, ho, rfl⟩ ⟨_, ho2, rfl⟩ noFill_tuple_add seq_tuple_add PySem.F.slot_tuple_add PySem.F.entry_tuple_add (PySem.F.args_tuple_add_2 _ _)
        (tuple_addW2 t b vs.toArray ws.toArray n n2 dd dd2 sl sl2 (by simpa using hv) (by simpa using hw) (by rw [List.size_toArray, List.size_toArray, el, em]; exact Nat.le_trans hl (by decide))) ⟨ho, ho2, ?_⟩
      rw [e]
      have k : ∀ b o, s.heap.get? b = some o → (s.heap.push { cls := .type "tuple", data := .seq (vs ++ ws).toArray }).get? b = some o := fun b o e => Heap.get?_push_of_some _ e
      exact h _ _ ρ (S.ext (s' := { s with heap := s.heap.push { cls := .type "tuple", data := .seq (vs ++ ws).toArray } }) k rfl rfl) (Ext.of_all k) (.tup (IsTup.new _ _) ((r.append q).mono (S.tupKeep (KeepX.of_all k)) (Pre.refl _)))
theorem O2.addL {i j : Nat} {l m : List AV} (hi : σ[i]? = some (AObj.list l)) (hj : σ[j]? = some (AObj.list m)) (hl : l.length + m.length ≤ 100000) :
    O2 G d σ (.ref i) (.ref j) (binaryOp .Add) (.ref σ.length) (σ ++ [AObj.list (l ++ m)]) := fun A s ρ cx cy Q E R S r1 r2 h => by
  obtain ⟨t, rfl, e1⟩ := Rep.ref_ r1
  obtain ⟨b, rfl, e2⟩ := Rep.ref_ r2
  obtain ⟨_, ea, vs, n, ho, r⟩ := S.obj hi
  rw [e1] at ea; cases ea
  obtain ⟨_, eb, ws, n2, ho2, q⟩ := S.obj hj
  rw [e2] at eb; cases eb
  have el := r.length
  have em := q.length
  have e : vs.toArray ++ ws.toArray = (vs ++ ws).toArray := by simp
  refine concat_meets ⟨_, ho, rfl⟩ ⟨_, ho2, rfl⟩ noFill_list_add seq_list_add PySem.F.slot_list_add PySem.F.entry_list_add (PySem.F.args_list_add_2 _ _) (list_addW t b vs.toArray ws.toArray n n2 none none #[] #[] (by simp [el, em]; exact Nat.le_trans hl (by decide))) ⟨ho, ho2, ?_⟩
  rw [e]
  have k : ∀ b o, s.heap.get? b = some o → (s.heap.push { cls := .type "list", data := .seq (vs ++ ws).toArray }).get? b = some o := fun b o e => Heap.get?_push_of_some _ e
  have ha := get_size_none s.heap
  exact h _ _ (ρ ++ [s.heap.objs.size]) (S.push (s' := { s with heap := s.heap.push { cls := .type "list", data := .seq (vs ++ ws).toArray } }) ha k ⟨vs ++ ws, 0, Heap.get?_push_size _ rfl, (r.append q).mono (S.tupKeep (KeepX.of_all k)) (Pre.append _ _)⟩ rfl rfl)
    (Ext.push ha k) (.ref (by rw [← S.len]; simp))

-- dicts
theorem reads_sdict {s : Shared} {ρ : List Addr} {i : Nat} {kvs : List (Str × AV)} {cv : Value} (S : StG G σ ρ s) (hi : σ[i]? = some (AObj.sdict kvs)) (r : Rep s.heap ρ cv (.ref i)) :
    ∃ a cvs, cv = .ref a ∧ ρ[i]? = some a ∧ s.heap.DictOf (PySem.strKind G.prog G.w) a cvs ∧ cvs.map (·.1) = kvs.map (·.1) ∧ RepL s.heap ρ (cvs.map (·.2)) (kvs.map (·.2)) := by
  obtain ⟨a, rfl, e⟩ := Rep.ref_ r
  obtain ⟨_, ea, cvs, h1, h2, h3⟩ := S.obj hi
  rw [e] at ea; cases ea
  exact ⟨a, cvs, rfl, e, h1, h2, h3⟩
noncomputable def look (kvs : List (Str × AV)) (k : Str) : Option AV := (kvs.find? fun x => decide (x.1 = k)).map (·.2)
theorem valueAt_look {h : Heap} {ρ : List Addr} {k : Str} : ∀ {cvs : List (Str × Value)} {kvs : List (Str × AV)}, cvs.map (·.1) = kvs.map (·.1) → RepL h ρ (cvs.map (·.2)) (kvs.map (·.2)) →
    (valueAt cvs k = none ∧ look kvs k = none) ∨ ∃ cv v, valueAt cvs k = some cv ∧ look kvs k = some v ∧ Rep h ρ cv v := by
  intro cvs
  induction cvs with
  | nil =>
    intro kvs h r
    cases kvs with
    | nil => exact .inl ⟨rfl, rfl⟩
    | cons => cases h
  | cons c cvs ih =>
    intro kvs h r
    cases kvs with
    | nil => cases h
    | cons d kvs =>
      obtain ⟨a, cv⟩ := c
      obtain ⟨b, v⟩ := d
      have h0 : a = b := (List.cons.inj h).1
      have h' : cvs.map (·.1) = kvs.map (·.1) := (List.cons.inj h).2
      subst h0
      cases r with
      | cons r q =>
        by_cases e : a = k
        · exact .inr ⟨cv, v, by simp [valueAt, e], by simp [look, e], r⟩
        · rcases ih h' q with ⟨h1, h2⟩ | ⟨cv', v', h1, h2, h3⟩
          · exact .inl ⟨by simpa [valueAt, e] using h1, by simpa [look, List.find?_cons, e] using h2⟩
          · exact .inr ⟨cv', v', by simpa [valueAt, e] using h1, by simpa [look, List.find?_cons, e] using h2, h3⟩
theorem isStrOf_self (x : Str) (t : Tok) : (PySem.strKind G.prog G.w).is x (.str x t) = true := by simp [PySem.strKind, Value.isStrOf]

/-- the table of loaded modules is no object of the call -/
structure GloOK (G : Glo) : Prop where
  sys : ∃ o, G.h₀.get? sysModules = some o
  glob : G.h₀.Ns mainGlobals G.mg
  blt : G.h₀.Ns builtinsNs G.mb
  lim : G.h₀.NoLimit
  boot : ∀ x : Str, x ≠ "__name__" → G.mb x = bootBuiltins x

theorem O2.inD (K : GloOK G) {i : Nat} {kvs : List (Str × AV)} {k : Str} (hi : σ[i]? = some (AObj.sdict kvs)) : O2 G d σ (.str k) (.ref i) (compareOp .In) (.bool (look kvs k).isSome) σ := fun A s ρ cx cy Q E R S r1 r2 h => by
  (first | obtain ⟨_, rfl⟩ := Rep.int_ r1 | obtain ⟨_, rfl⟩ := Rep.str_ r1 | obtain rfl := Rep.bool_ r1 | obtain rfl := Rep.none_ r1 | obtain rfl := Rep.opq_ r1 | obtain ⟨_, rfl, _⟩ := Rep.ref_ r1 | cases r1)
  obtain ⟨a, cvs, rfl, e, h1, h2, h3⟩ := reads_sdict S hi r2
  obtain ⟨o₁, hs⟩ := K.sys
  refine wpAny_in_of (isStrOf_self k _) (S.sys hs (List.mem_of_getElem? e)) h1.mapOf ?_
  have : (valueAt cvs k).isSome = (look kvs k).isSome := by
    rcases valueAt_look (k := k) h2 h3 with ⟨a1, a2⟩ | ⟨_, _, a1, a2, _⟩ <;> simp [a1, a2]
  rw [this]; exact h _ _ ρ (S.with rfl rfl rfl) (Ext.refl _ _) (.bool _)
theorem O2.notInD (K : GloOK G) {i : Nat} {kvs : List (Str × AV)} {k : Str} (hi : σ[i]? = some (AObj.sdict kvs)) : O2 G d σ (.str k) (.ref i) (compareOp .NotIn) (.bool (!(look kvs k).isSome)) σ := fun A s ρ cx cy Q E R S r1 r2 h => by
  (first | obtain ⟨_, rfl⟩ := Rep.int_ r1 | obtain ⟨_, rfl⟩ := Rep.str_ r1 | obtain rfl := Rep.bool_ r1 | obtain rfl := Rep.none_ r1 | obtain rfl := Rep.opq_ r1 | obtain ⟨_, rfl, _⟩ := Rep.ref_ r1 | cases r1)
  obtain ⟨a, cvs, rfl, e, h1, h2, h3⟩ := reads_sdict S hi r2
  obtain ⟨o₁, hs⟩ := K.sys
  refine wpAny_notIn_of (isStrOf_self k _) (S.sys hs (List.mem_of_getElem? e)) h1.mapOf ?_
  have : (valueAt cvs k).isSome = (look kvs k).isSome := by
    rcases valueAt_look (k := k) h2 h3 with ⟨a1, a2⟩ | ⟨_, _, a1, a2, _⟩ <;> simp [a1, a2]
  rw [this]; exact h _ _ ρ (S.with rfl rfl rfl) (Ext.refl _ _) (.bool _)
theorem atKey_mem {xs : List (AV × Addr × Value)} {k : AV} : (atKey xs k).isSome = decide (k ∈ xs.map (·.1)) := by
  induction xs with
  | nil => rfl
  | cons x xs ih =>
    by_cases e : x.1 = k
    · simp [atKey, e]
    · have e' : ¬ k = x.1 := fun q => e q.symm
      simp only [atKey, List.find?_cons, e, decide_false] at ih ⊢
      rw [ih]; simp [e']
theorem O2.inTD (K : GloOK G) {i : Nat} {ks l : List AV} (hi : σ[i]? = some (AObj.tdict ks)) (hk : okKey 8 (.tup l) = true) : O2 G d σ (.tup l) (.ref i) (compareOp .In) (.bool (decide (AV.tup l ∈ ks))) σ := fun A s ρ cx cy Q E R S r1 r2 h => by
  obtain ⟨a, rfl, e⟩ := Rep.ref_ r2
  obtain ⟨_, ea, xs, h1, h2, h3⟩ := S.obj hi
  rw [e] at ea; cases ea
  obtain ⟨o₁, hs⟩ := K.sys
  obtain ⟨t, vs, rfl, ht, r⟩ := Rep.tup_ r1
  refine wpAny_in_heap (knd := tkind G.prog G.w) (k := .tup l) (by have := R.u; show A.units + 1 + 20 < cLine; lia) ⟨(Rep.tup ht r).any (okKey_lt hk), hk⟩ (S.sys hs (List.mem_of_getElem? e)) h1 ?_
  · rw [atKey_mem, h2]; exact h _ _ ρ (S.with rfl rfl rfl) (Ext.refl _ _) (.bool _)
end
end Mine
end
section
open PySem PySem.W PyProof.Rows
set_option linter.unusedVariables false
set_option linter.unusedSimpArgs false
namespace Mine
section
variable {G : Glo} {env : Env} {d : Nat} {Γ : List (Str × AV)} {σ σ' σ₁ σ₂ σ₃ : List AObj}

noncomputable def Sub (G : Glo) (d : Nat) (σ : List AObj) (x y v : AV) : Prop :=
  ∀ (A : Around) (s : Shared) (ρ : List Addr) (cx cy : Value) (Q : Value → Shared → Prop) (E : Value → Shared → Prop), Room A d → StG G σ ρ s → Rep s.heap ρ cx x → Rep s.heap ρ cy y →
    (∀ cv s' ρ', StG G σ ρ' s' → Ext ρ ρ' s.heap s'.heap → Rep s'.heap ρ' cv v → Q cv s') →
    (∃ T id, s.TypeIs cx T ∧ typeLookup (.type T) "__getitem__" = pure (some (.builtin id))) ∧ wpAny (model G.prog G.w) A (getItem cx cy) Q E s

theorem EJ.sub {value slice : Expr} {pos : Pos} {x y v : AV} (h1 : EJ G env d Γ σ (eval value env) x σ₁) (h2 : EJ G env d Γ σ₁ (eval slice env) y σ₂) (h3 : Sub G d σ₂ x y v)
    (hs : ∀ o i, subscripted slice false o i = operate [o, i] (getItem o i) := by intro _ _; rfl) : EJ G env d Γ σ (eval (.Subscript value slice pos) env) v σ₂ := fun A s ρ Q E R S L h => by
  refine Subscript_ (h1 A s ρ _ E R S L fun ca s₁ ρ₁ S₁ x₁ r₁ => h2 A s₁ ρ₁ _ E R S₁ (L.keep S x₁) fun cb s₂ ρ₂ S₂ x₂ r₂ => ?_)
  obtain ⟨⟨T, id, hT, hl⟩, hw⟩ := h3 A s₂ ρ₂ ca cb Q E R S₂ (r₁.mono (S₁.tupKeep x₂.keep) x₂.pre) r₂ fun cv s₃ ρ₃ S₃ x₃ r₃ => h cv s₃ ρ₃ S₃ ((x₁.trans x₂).trans x₃) r₃
  exact tail_any hT hl hw (hs _ _)

theorem Sub.tup {l : List AV} {k : Int} {j : Nat} {v : AV} (hx : l[j]? = some v) (hj : seqIndex? k l.length = some j) (hlo : -(2 ^ 63) ≤ k := by decide) (hhi : k < 2 ^ 63 := by decide) : Sub G d σ (.tup l) (.int k) v := fun A s ρ cx cy Q E R S r1 r2 h => by
  (first | obtain ⟨_, rfl⟩ := Rep.int_ r2 | obtain ⟨_, rfl⟩ := Rep.str_ r2 | obtain rfl := Rep.bool_ r2 | obtain rfl := Rep.none_ r2 | obtain rfl := Rep.opq_ r2 | obtain ⟨_, rfl, _⟩ := Rep.ref_ r2 | cases r2)
  obtain ⟨a, vs, rfl, ht, r⟩ := Rep.tup_ r1
  obtain ⟨cv, hcv, rv⟩ := r.get hx
  exact ⟨⟨_, _, ht.typeIs, slot_tuple_getitem.lookup⟩, getItem_tuple ht hlo hhi (by simpa [r.length] using hj) (by simpa using hcv) (h cv s ρ S (Ext.refl _ _) rv)⟩
theorem Sub.list {i : Nat} {l : List AV} {k : Int} {v : AV} (hi : σ[i]? = some (AObj.list l)) (hx : l[k.toNat]? = some v) (h0 : 0 ≤ k := by decide) (hhi : k < 2 ^ 63 := by decide) : Sub G d σ (.ref i) (.int k) v := fun A s ρ cx cy Q E R S r1 r2 h => by
  (first | obtain ⟨_, rfl⟩ := Rep.int_ r2 | obtain ⟨_, rfl⟩ := Rep.str_ r2 | obtain rfl := Rep.bool_ r2 | obtain rfl := Rep.none_ r2 | obtain rfl := Rep.opq_ r2 | obtain ⟨_, rfl, _⟩ := Rep.ref_ r2 | cases r2)
  obtain ⟨a, rfl, e⟩ := Rep.ref_ r1
  obtain ⟨_, ea, vs, n, ho, r⟩ := S.obj hi
  rw [e] at ea; cases ea
  obtain ⟨cv, hcv, rv⟩ := r.get hx
  have hl : s.heap.IsList a vs.toArray := ⟨_, ho, rfl, n, rfl⟩
  exact ⟨⟨_, _, hl.typeIs, slot_list_getitem.lookup⟩, wpAny_getItem_list hl h0 hhi (by simpa using hcv) (h cv s ρ S (Ext.refl _ _) rv)⟩
theorem Sub.dict {i : Nat} {kvs : List (Str × AV)} {k : Str} {v : AV} (hi : σ[i]? = some (AObj.sdict kvs)) (hx : look kvs k = some v) : Sub G d σ (.ref i) (.str k) v := fun A s ρ cx cy Q E R S r1 r2 h => by
  (first | obtain ⟨_, rfl⟩ := Rep.int_ r2 | obtain ⟨_, rfl⟩ := Rep.str_ r2 | obtain rfl := Rep.bool_ r2 | obtain rfl := Rep.none_ r2 | obtain rfl := Rep.opq_ r2 | obtain ⟨_, rfl, _⟩ := Rep.ref_ r2 | cases r2)
  obtain ⟨a, cvs, rfl, e, h1, h2, h3⟩ := reads_sdict S hi r1
  rcases valueAt_look (k := k) h2 h3 with ⟨a1, a2⟩ | ⟨cv, v', a1, a2, rv⟩
  · rw [hx] at a2; cases a2
  · rw [hx] at a2; cases a2
    exact ⟨⟨_, _, h1.typeIs, slot_dict_getitem.lookup⟩, wpAny_getItem_of (isStrOf_self k _) h1.mapOf a1 (h cv _ ρ (S.with rfl rfl rfl) (Ext.refl _ _) rv)⟩

-- slices
/-- t[1:] -/
theorem EJ.tail {value : Expr} {k : Nat} {p1 p pos : Pos} {x : AV} {l : List AV} (h1 : EJ G env d Γ σ (eval value env) (.tup (x :: l)) σ₁) (hl : l.length ≤ 100000) :
    EJ G env d Γ σ (eval (.Subscript value (.Slice (some (.Constant (.int 1) k p1)) none none p) pos) env) (.tup l) σ₁ := fun A s ρ Q E R S L h => by
  refine Subscript_ (h1 A s ρ _ E R S L fun ca s₁ ρ₁ S₁ x₁ r₁ => ?_)
  refine wpAny_Slice ?_
  show wpAny _ A (eval (.Constant (.int 1) k p1) env) _ E s₁
  refine wpAny_Constant_int ?_
  show wpAny _ A (pure Value.none) (fun u s₂ => wpAny _ A (pure Value.none) _ E s₂) E _
  refine wpAny_pure (wpAny_pure ?_)
  obtain ⟨a, vs, rfl, ht, r⟩ := Rep.tup_ r₁
  generalize ho : ({ cls := .type "slice", data := .fields #[.int 1 s₁.toks, Value.none, Value.none] } : Obj) = osl
  have k1 : ∀ b o, s₁.heap.get? b = some o → (s₁.heap.push osl).get? b = some o := fun b o e => Heap.get?_push_of_some _ e
  have ht' : IsTup (s₁.heap.push osl) a vs.toArray := ht.push _
  have hsz := r.length
  have hsl : (s₁.heap.push osl).IsSliceOf s₁.heap.objs.size (.int ((1 : Nat) : Int) s₁.toks) .none .none := by subst ho; exact Heap.IsSliceOf.new ..
  refine tail_any (s := { s₁ with heap := s₁.heap.push osl, toks := s₁.toks + 1 }) ht'.typeIs slot_tuple_getitem.lookup (getItem_tuple_from (a := 1) (u := s₁.toks) ht' hsl (by decide) (by simp [hsz]) ?_ (by simp [hsz]; exact Nat.le_trans (Nat.add_le_add_right hl 1) (by decide))) rfl
  have k2 : ∀ b o, s₁.heap.get? b = some o → ((s₁.heap.push osl).push { cls := .type "tuple", data := .seq (vs.toArray.toList.drop 1).toArray }).get? b = some o := fun b o e => Heap.get?_push_of_some _ (k1 b o e)
  refine h _ _ ρ₁ (S₁.ext (s' := { s₁ with heap := (s₁.heap.push osl).push { cls := .type "tuple", data := .seq (vs.toArray.toList.drop 1).toArray }, toks := s₁.toks + 1 }) k2 rfl rfl) (x₁.trans (Ext.of_all k2)) (.tup (IsTup.new _ _) ?_)
  have := (r.drop 1).mono (S₁.tupKeep (KeepX.of_all k2)) (Pre.refl _)
  simpa using this

/-- the first sign of a text, as a text -/
noncomputable def hd1 (x : Str) : Str := ⟨(x.cps.toList.take 1).toArray⟩
theorem hd1_picked (x : Str) (t u : Tok) : (slicePicked x none (some (1, u)) none).filterMap (x.cps[·]?) = x.cps.toList.take 1 ∧ (slicePicked x none (some (1, u)) none).length = min 1 x.length := by
  obtain ⟨⟨l⟩⟩ := x
  cases l with
  | nil => exact ⟨rfl, rfl⟩
  | cons c l =>
    have e : slicePicked ⟨⟨c :: l⟩⟩ none (some (1, u)) none = [0] := by
      unfold slicePicked Builtin.Str.strSliceIndices
      simp only [Option.map_none, Option.map_some, Option.getD_none]
      have hn : (Str.length ⟨⟨c :: l⟩⟩ : Nat) = l.length + 1 := rfl
      rw [hn]
      simp only [Int.reduceLT, if_true, show ((1 : Int) > 0) = True from by simp]
      have : max 0 (min (1 : Int) ((l.length : Int) + 1)) = 1 := by lia
      simp [this]
      rfl
    rw [e]
    exact ⟨rfl, by simp [Str.length]⟩
theorem EJ.first {value : Expr} {k : Nat} {p1 p pos : Pos} {x : Str} (h1 : EJ G env d Γ σ (eval value env) (.str x) σ₁) (hx : x.length ≤ 100000) :
    EJ G env d Γ σ (eval (.Subscript value (.Slice none (some (.Constant (.int 1) k p1)) none p) pos) env) (.str (hd1 x)) σ₁ := fun A s ρ Q E R S L h => by
  refine Subscript_ (h1 A s ρ _ E R S L fun ca s₁ ρ₁ S₁ x₁ r₁ => ?_)
  refine wpAny_Slice ?_
  show wpAny _ A (pure Value.none) (fun l s₂ => wpAny _ A (eval (.Constant (.int 1) k p1) env) _ E s₂) E s₁
  refine wpAny_pure (wpAny_Constant_int ?_)
  show wpAny _ A (pure Value.none) _ E _
  refine wpAny_pure ?_
  obtain ⟨t, rfl⟩ := Rep.str_ r₁
  generalize ho : ({ cls := .type "slice", data := .fields #[Value.none, .int 1 s₁.toks, Value.none] } : Obj) = osl
  have k1 : ∀ b o, s₁.heap.get? b = some o → (s₁.heap.push osl).get? b = some o := fun b o e => Heap.get?_push_of_some _ e
  have hsl : (s₁.heap.push osl).IsSlice s₁.heap.objs.size none (some (1, s₁.toks)) none := by subst ho; exact ⟨_, Heap.get?_push_size _ rfl, rfl, rfl⟩
  refine tail_any (s := { s₁ with heap := s₁.heap.push osl, toks := s₁.toks + 1 }) (T := "str") rfl slot_str_getitem.lookup (wpAny_getItem_str_slice hsl rfl ?_) rfl
  obtain ⟨p1, p2⟩ := hd1_picked x t s₁.toks
  unfold sliceMade
  split
  · rename_i hc
    simp only [Bool.and_eq_true, beq_iff_eq] at hc
    have : hd1 x = x := by
      unfold hd1
      have hl : x.cps.toList.length ≤ 1 := by
        have := hc.2; rw [p2] at this
        have e : x.cps.toList.length = x.length := by simp [Str.length]
        lia
      rw [List.take_of_length_le hl]
    show Q (.str x t) _
    exact h _ _ ρ₁ (S₁.ext (s' := { s₁ with heap := s₁.heap.push osl, toks := s₁.toks + 1 }) k1 rfl rfl) (x₁.trans (Ext.of_all k1)) (by rw [this]; exact .str _ _)
  · show _ ∧ Q _ _
    refine ⟨?_, h _ _ ρ₁ (S₁.ext (s' := { s₁ with heap := s₁.heap.push osl, toks := s₁.toks + 1 + 1 }) k1 rfl rfl) (x₁.trans (Ext.of_all k1)) ?_⟩
    · show (List.toArray _).size ≤ sizeLine
      rw [p1]
      simp only [List.size_toArray, List.length_take]
      exact Nat.le_trans (Nat.min_le_left _ _) (by decide)
    · rw [p1]; exact .str _ _
end
end Mine
end
section
open PySem PySem.W PyProof.Rows
set_option linter.unusedVariables false
set_option linter.unusedSimpArgs false
namespace Mine
section
variable {G : Glo} {env : Env} {d : Nat} {Γ : List (Str × AV)} {σ σ' σ₁ σ₂ σ₃ : List AObj}

theorem list_at {s : Shared} {ρ : List Addr} {i : Nat} {l : List AV} {cv : Value} (S : StG G σ ρ s) (hi : σ[i]? = some (AObj.list l)) (r : Rep s.heap ρ cv (.ref i)) :
    ∃ a vs n, cv = .ref a ∧ ρ[i]? = some a ∧ s.heap.get? a = some { cls := .type "list", data := .seq vs.toArray n } ∧ RepL s.heap ρ vs l := by
  obtain ⟨a, rfl, e⟩ := Rep.ref_ r
  obtain ⟨_, ea, vs, n, eo, q⟩ := S.obj hi
  rw [e] at ea; cases ea
  exact ⟨a, vs, n, rfl, e, eo, q⟩

/-- a list's items are others now -/
theorem StG.setList {s : Shared} {ρ : List Addr} {i : Nat} {a : Addr} {vs ws : List Value} {n : Nat} {l : List AV} (S : StG G σ ρ s) (e : ρ[i]? = some a) (ho : s.heap.get? a = some { cls := .type "list", data := .seq vs.toArray n })
    (f : Array Value → Array Value) (hf : f vs.toArray = ws.toArray) (q : RepL s.heap ρ ws l) {tk : Nat} :
    StG G (σ.set i (AObj.list l)) ρ { s with heap := s.heap.update a (Obj.mapSeq f), toks := tk } ∧ Ext ρ ρ s.heap (s.heap.update a (Obj.mapSeq f)) ∧ TupKeep s.heap (s.heap.update a (Obj.mapSeq f)) := by
  have k : ∀ b o, b ≠ a → s.heap.get? b = some o → (s.heap.update a (Obj.mapSeq f)).get? b = some o := fun b o hb e => (Heap.get?_update_other _ _ (Ne.symm hb)).trans e
  have x : Ext ρ ρ s.heap (s.heap.update a (Obj.mapSeq f)) := Ext.upd (List.mem_of_getElem? e) k
  have tk' := S.tupKeep x.keep
  have ho' := Heap.get?_update_self (Obj.mapSeq f) ho rfl
  refine ⟨S.upd (s' := { s with heap := s.heap.update a (Obj.mapSeq f), toks := tk }) e k ⟨ws, (if (f vs.toArray).size == vs.toArray.size then n else n + 1), ?_, q.mono tk' (Pre.refl _)⟩ rfl rfl, x, tk'⟩
  rw [← hf]; exact ho'

noncomputable abbrev mcall (o : Expr) (name : Str) (apos pos : Pos) (args : List Expr) (env : Env) (pl : Sem Bool) : Sem Value := do
  let ov ← eval o env
  standAt apos.atName
  let (f, first) ← holding [ov] (getMethod ov name pl)
  callWith pos f first (backTo pos (starEach args env)) []

theorem EJ.append {o e : Expr} {apos pos : Pos} {pl : Sem Bool} {i : Nat} {l : List AV} {v : AV} (h1 : EJ G env d Γ σ (eval o env) (.ref i) σ₁) (h0 : ∃ m, σ₁[i]? = some (AObj.list m)) (h2 : EJ G env d Γ σ₁ (eval e env) v σ₂) (hi : σ₂[i]? = some (AObj.list l))
    (hl : l.length ≤ 100000) (hs : starEach [e] env = [(false, eval e env)] := by rfl) (he : eval (.Call (.Attribute o (Str.ofString "append") apos) [e] [] pos) env = mcall o (Str.ofString "append") apos pos [e] env pl := by rfl) :
    EJ G env d Γ σ (eval (.Call (.Attribute o (Str.ofString "append") apos) [e] [] pos) env) .none (σ₂.set i (AObj.list (l ++ [v]))) := fun A s ρ Q E R S L h => by
  refine MethodCall_ (h1 A s ρ _ E R S L fun co s₁ ρ₁ S₁ x₁ r₁ => ?_) he
  obtain ⟨m, hm⟩ := h0
  obtain ⟨a, vs, n, rfl, ea, ho, q⟩ := list_at S₁ hm r₁
  refine getMethod_list_of PySem.F.slot_list_append PySem.F.type_list_append (items := vs.toArray) ⟨_, ho, rfl, n, rfl⟩ ⟨_, ho, rfl⟩ ?_
  dsimp only
  rw [hs]
  refine P.append_list (x := eval e env) (h2 A s₁ ρ₁ _ E R S₁ (L.keep S x₁) fun cv s₂ ρ₂ S₂ x₂ r₂ => ?_)
  obtain ⟨_, vs', n', e', ea', ho', q'⟩ := list_at S₂ hi (r₁.mono (S₁.tupKeep x₂.keep) x₂.pre)
  cases e'
  have hl' := q'.length
  refine ⟨vs'.toArray, n', by simp [hl']; exact Nat.le_trans hl (by decide), ho', ?_⟩
  obtain ⟨S₃, x₃, _⟩ := StG.setList (ws := vs' ++ [cv]) (l := l ++ [v]) (tk := s₂.toks) S₂ ea' ho' (fun xs => xs.push cv) (by simp) (q'.append (.cons r₂ .nil))
  exact h _ _ ρ₂ S₃ ((x₁.trans x₂).trans x₃) .none

theorem EJ.pop {o : Expr} {apos pos : Pos} {pl : Sem Bool} {i : Nat} {l : List AV} {v : AV} (h1 : EJ G env d Γ σ (eval o env) (.ref i) σ₁) (hi : σ₁[i]? = some (AObj.list (l ++ [v])))
    (hl : l.length ≤ 100000) (he : eval (.Call (.Attribute o (Str.ofString "pop") apos) [] [] pos) env = mcall o (Str.ofString "pop") apos pos [] env pl := by rfl) :
    EJ G env d Γ σ (eval (.Call (.Attribute o (Str.ofString "pop") apos) [] [] pos) env) v (σ₁.set i (AObj.list l)) := fun A s ρ Q E R S L h => by
  refine MethodCall_ (h1 A s ρ _ E R S L fun co s₁ ρ₁ S₁ x₁ r₁ => ?_) he
  obtain ⟨a, vs, n, rfl, ea, ho, q⟩ := list_at S₁ hi r₁
  refine getMethod_list_of PySem.F.slot_list_pop PySem.F.type_list_pop (items := vs.toArray) ⟨_, ho, rfl, n, rfl⟩ ⟨_, ho, rfl⟩ ?_
  dsimp only
  have hl' := q.length
  simp only [List.length_append, List.length_cons, List.length_nil] at hl'
  obtain ⟨cv, hcv, rv⟩ := q.get (i := l.length) (x := v) (by simp)
  have hsz : vs.toArray.size - 1 = l.length := by simp [hl']
  refine P.pop_list ho (y := cv) (by rw [hsz]; simpa using hcv) ?_ (by simp [hl']; exact Nat.le_trans (Nat.add_le_add_right hl 1) (by decide))
  obtain ⟨S₃, x₃, tk⟩ := StG.setList (ws := vs.take l.length) (l := l) (tk := s₁.toks) S₁ ea ho (fun xs => xs.eraseIdxIfInBounds (vs.toArray.size - 1)) (by
    rw [hsz]
    have hlt : l.length < vs.toArray.size := by simp [hl']
    apply Array.toList_inj.mp
    rw [Array.eraseIdxIfInBounds, dif_pos hlt, Array.toList_eraseIdx]
    simp only [List.toList_toArray]
    have : vs = vs.take l.length ++ [cv] := by
      refine List.ext_getElem? fun j => ?_
      rcases Nat.lt_trichotomy j l.length with h | h | h
      · rw [List.getElem?_append_left (by rw [List.length_take]; lia), List.getElem?_take_of_lt h]
      · subst h; rw [hcv, List.getElem?_append_right (by simp [hl'])]; simp [hl']
      · rw [List.getElem?_eq_none (by lia), List.getElem?_eq_none (by simp; lia)]
    rw [List.eraseIdx_eq_take_drop_succ]
    rw [List.drop_of_length_le (by lia), List.append_nil]) (by have := q.take l.length; simpa using this)
  exact h _ _ ρ₁ S₃ (x₁.trans x₃) (rv.mono tk (Pre.refl _))

theorem EJ.extend {o e : Expr} {apos pos : Pos} {pl : Sem Bool} {i j : Nat} {l m : List AV} (h1 : EJ G env d Γ σ (eval o env) (.ref i) σ₁) (h0 : ∃ m, σ₁[i]? = some (AObj.list m)) (h2 : EJ G env d Γ σ₁ (eval e env) (.ref j) σ₂) (hi : σ₂[i]? = some (AObj.list l)) (hj : σ₂[j]? = some (AObj.list m))
    (hl : l.length + m.length ≤ 100000) (hs : starEach [e] env = [(false, eval e env)] := by rfl) (he : eval (.Call (.Attribute o (Str.ofString "extend") apos) [e] [] pos) env = mcall o (Str.ofString "extend") apos pos [e] env pl := by rfl) :
    EJ G env d Γ σ (eval (.Call (.Attribute o (Str.ofString "extend") apos) [e] [] pos) env) .none (σ₂.set i (AObj.list (l ++ m))) := fun A s ρ Q E R S L h => by
  refine MethodCall_ (h1 A s ρ _ E R S L fun co s₁ ρ₁ S₁ x₁ r₁ => ?_) he
  obtain ⟨m', hm⟩ := h0
  obtain ⟨a, vs, n, rfl, ea, ho, q⟩ := list_at S₁ hm r₁
  refine getMethod_list_of PySem.F.slot_list_extend PySem.F.type_list_extend (items := vs.toArray) ⟨_, ho, rfl, n, rfl⟩ ⟨_, ho, rfl⟩ ?_
  dsimp only
  rw [hs]
  refine P.extend_list (x := eval e env) (h2 A s₁ ρ₁ _ E R S₁ (L.keep S x₁) fun cv s₂ ρ₂ S₂ x₂ r₂ => ?_)
  obtain ⟨_, vs', n', e', ea', ho', q'⟩ := list_at S₂ hi (r₁.mono (S₁.tupKeep x₂.keep) x₂.pre)
  cases e'
  obtain ⟨b, ws, nb, rfl, eb, hob, qb⟩ := list_at S₂ hj r₂
  have hl' := q'.length
  have hm' := qb.length
  refine ⟨b, vs'.toArray, ws.toArray, n', nb, by simp [hl']; exact Nat.le_trans (Nat.le_trans (Nat.le_add_right _ _) hl) (by decide), by simp [hl', hm']; exact Nat.le_trans hl (by decide), ?_, rfl, ho', hob, ?_⟩
  · have : Builtin.List.listTooLong (vs'.toArray.size + ws.toArray.size) = false := by
      unfold Builtin.List.listTooLong
      simp only [List.size_toArray, hl', hm', decide_eq_false_iff_not]
      have : (100000 : Nat) < sizeLine := by decide
      lia
    rw [this]; simp
  obtain ⟨S₃, x₃, _⟩ := StG.setList (ws := vs' ++ ws) (l := l ++ m) (tk := s₂.toks) S₂ ea' ho' (fun xs => xs ++ ws.toArray) (by simp) (q'.append qb)
  exact h _ _ ρ₂ S₃ ((x₁.trans x₂).trans x₃) .none
end
end Mine
end
section
open PySem PySem.W PyProof.Rows
set_option linter.unusedVariables false
set_option linter.unusedSimpArgs false
namespace Mine

structure ExtS (env : Env) (ρ ρ' : List Addr) (h h' : Heap) : Prop where
  pre : Pre ρ ρ'
  new : ∀ a ∈ ρ', a ∈ ρ ∨ h.get? a = none
  keep : ∀ b o, b ∉ ρ → b ≠ env.locals → (∀ x, env.cells.lookup x ≠ some b) → h.get? b = some o → h'.get? b = some o
  there : ∀ b o, h.get? b = some o → ∃ o', h'.get? b = some o'

inductive FlowA where
  | next | brk | cont
  | ret (v : AV)
noncomputable def FRep (h : Heap) (ρ : List Addr) : Flow → FlowA → Prop
  | .next, .next => True
  | .brk, .brk => True
  | .cont, .cont => True
  | .ret c, .ret v => Rep h ρ c v
  | _, _ => False

section
variable {G : Glo} {env : Env} {d : Nat} {Γ Γ' Γ₁ Γ₂ : List (Str × AV)} {σ σ' σ₁ σ₂ σ₃ : List AObj} {ρ ρ' ρ₁ ρ₂ ρ₃ : List Addr} {s s' : Shared} {h h' h₁ h₂ h₃ : Heap}

theorem ExtS.refl : ExtS env ρ ρ h h := ⟨Pre.refl _, fun _ h => .inl h, fun _ _ _ _ _ e => e, fun _ o e => ⟨o, e⟩⟩
theorem ExtS.of (x : Ext ρ ρ' h s'.heap) (S : StG G σ' ρ' s') : ExtS env ρ ρ' h s'.heap := ⟨x.pre, x.new, fun b o hb _ _ e => x.keep b o hb e, fun b o e => by
  by_cases hb : b ∈ ρ
  · obtain ⟨i, ob, _, _, r⟩ := S.mem (x.pre.mem hb)
    obtain ⟨o', e', _⟩ := r.there
    exact ⟨o', e'⟩
  · exact ⟨o, x.keep b o hb e⟩⟩
theorem ExtS.trans (x : ExtS env ρ₁ ρ₂ h₁ h₂) (y : ExtS env ρ₂ ρ₃ h₂ h₃) : ExtS env ρ₁ ρ₃ h₁ h₃ := by
  refine ⟨x.pre.trans y.pre, fun a ha => ?_, fun b o hb hL hc e => ?_, fun b o e => ?_⟩
  · rcases y.new a ha with h | h
    · exact x.new a h
    · cases e : h₁.get? a with
      | none => exact .inr rfl
      | some o => obtain ⟨o', e'⟩ := x.there a o e; rw [h] at e'; cases e'
  · refine y.keep b o (fun hm => ?_) hL hc (x.keep b o hb hL hc e)
    rcases x.new b hm with h | h
    · exact hb h
    · rw [h] at e; cases e
  · obtain ⟨o', e'⟩ := x.there b o e; exact y.there b o' e'

noncomputable def SJ (G : Glo) (env : Env) (d : Nat) (Γ : List (Str × AV)) (σ : List AObj) (t : Sem Flow) (f : FlowA) (Γ' : List (Str × AV)) (σ' : List AObj) : Prop :=
  ∀ (A : Around) (s : Shared) (ρ : List Addr) (Q : Flow → Shared → Prop) (E : Value → Shared → Prop), Room A d → StG G σ ρ s → StL G env Γ ρ s.heap →
    (∀ fl s' ρ', StG G σ' ρ' s' → StL G env Γ' ρ' s'.heap → ExtS env ρ ρ' s.heap s'.heap → FRep s'.heap ρ' fl f → Q fl s') → wpAny (model G.prog G.w) A t Q E s

/-- a def of the text -/
structure Fn (G : Glo) (f : Str) (fa : Addr) (fd : FuncData) (names : List Str) (body : List Stmt) : Prop where
  name : G.mg f = some (.ref fa)
  at_ : ∃ o, G.h₀.get? fa = some o ∧ o.data = .func fd
  code : G.h₀.CodeRec fd.code fd.qualname
  body_ : fd.body = .stmts body
  glob : fd.globals = mainGlobals
  blt : fd.builtins = builtinsNs
  clos : fd.closure = []
  co : fd.scope.isCoroutine = false
  gen : fd.scope.isGenerator = false
  kind : fd.scope.kind = .function
  nofree : (fd.scope.names.all fun x => x.2 != .free) = true
  binds : ∀ cs : List Value, cs.length = names.length → bindArgs fd ⟨cs, []⟩ = pure (names.zip cs)
  kinds : (names.all fun x => fd.scope.names.lookup x == some .local || fd.scope.names.lookup x == some .cell) = true
  nodup : names.Nodup

noncomputable def CallJ (G : Glo) (d : Nat) (fa : Addr) (args : List AV) (σ : List AObj) (v : AV) (σ' : List AObj) : Prop :=
  ∀ (A : Around) (s : Shared) (ρ : List Addr) (cs : List Value) (R : Result → Shared → Prop), Room A d → StG G σ ρ s → RepL s.heap ρ cs args →
    (∀ cv s' ρ', StG G σ' ρ' s' → Ext ρ ρ' s.heap s'.heap → Rep s'.heap ρ' cv v → R (.ok (.ret cv)) s') → codeAny (model G.prog G.w) A (.call (.ref fa) ⟨cs, []⟩) R s

theorem bindL_skip {k : Str → Option NameKind} : ∀ {l : List (Str × Value)} {m : Str → Option Value} {x : Str}, (∀ y ∈ l, y.1 ≠ x) → bindL k l m x = m x
  | [], _, _, _ => rfl
  | (n, v) :: r, m, x, h => by
    rw [bindL, bindL_skip fun y hy => h y (.tail _ hy)]
    have hn : ¬ x = n := fun e => h _ (.head _) e.symm
    split <;> simp [hn]
theorem bindC_skip {k : Str → Option NameKind} : ∀ {l : List (Str × Value)} {m : Str → Option Value} {x : Str}, (∀ y ∈ l, y.1 ≠ x) → bindC k l m x = m x
  | [], _, _, _ => rfl
  | (n, v) :: r, m, x, h => by
    rw [bindC, bindC_skip fun y hy => h y (.tail _ hy)]
    have hn : ¬ x = n := fun e => h _ (.head _) e.symm
    split <;> simp [hn]
theorem zip_ne {names : List Str} {cs : List Value} {x : Str} (h : x ∉ names) : ∀ y ∈ names.zip cs, y.1 ≠ x := fun y hy e => h (e ▸ (List.of_mem_zip hy).1)
theorem bind_rep {k : Str → Option NameKind} {hh : Heap} {ρ : List Addr} : ∀ {names : List Str} {cs : List Value} {args : List AV} {m : Str → Option Value}, names.Nodup → RepL hh ρ cs args → ∀ {x : Str} {v : AV}, (names.zip args).lookup x = some v →
    (k x = some .local → ∃ cv, bindL k (names.zip cs) m x = some cv ∧ Rep hh ρ cv v) ∧ (k x ≠ some .local → ∃ cv, bindC k (names.zip cs) m x = some cv ∧ Rep hh ρ cv v)
  | [], _, _, _, _, _, _, _, h => by simp at h
  | n :: names, _, _, _, _, .nil, _, _, h => by simp at h
  | n :: names, _, _, m, hn, .cons (v := c) (vs := cs) (x := a) (l := args) r q, x, v, h => by
    rw [List.nodup_cons] at hn
    simp only [List.zip_cons_cons, List.lookup_cons] at h
    cases hx : x == n with
    | true =>
      rw [hx] at h
      simp only [Option.some.injEq] at h
      have e : x = n := by simpa using hx
      subst e; subst h
      simp only [List.zip_cons_cons]
      refine ⟨fun hk => ⟨c, ?_, r⟩, fun hk => ⟨c, ?_, r⟩⟩
      · rw [bindL, bindL_skip (zip_ne hn.1), if_pos hk]; simp
      · rw [bindC, bindC_skip (zip_ne hn.1), if_neg hk]; simp
    | false =>
      rw [hx] at h
      have ih := fun m => bind_rep (k := k) (m := m) hn.2 q h
      simp only [List.zip_cons_cons]
      exact ⟨fun hk => by rw [bindL]; exact (ih _).1 hk, fun hk => by rw [bindC]; exact (ih _).2 hk⟩

/-- the frame of a call -/
noncomputable abbrev callE (fd : FuncData) (L fa : Addr) : Env := newEnv fd.scope L fd.globals (cellsFrom (L + 1) fd.scope.names []) (fd.qualname ++ ".<locals>.") (some fa) fd.code none fd.builtins

theorem CallJ.mkAt (K : GloOK G) {f : Str} {fa : Addr} {fd : FuncData} {names : List Str} {body : List Stmt} (F : Fn G f fa fd names body) {args : List AV} {v : AV} {σf : List AObj} {Γf : List (Str × AV)} (hlen : args.length = names.length)
    {L : Addr} (hb : SJ G (callE fd L fa) d (names.zip args) σ (execs body (callE fd L fa)) (.ret v) Γf σf)
    (hcut : σ'.length ≤ σf.length ∧ σf.take σ'.length = σ' ∧ (∀ o ∈ σ', o.lt σ'.length = true) ∧ AV.lt σ'.length v = true ∧ σ.length ≤ σ'.length) :
    ∀ (A : Around) (s : Shared) (ρ : List Addr) (cs : List Value) (R : Result → Shared → Prop), L = s.heap.objs.size → Room A (d + 1) → StG G σ ρ s → RepL s.heap ρ cs args →
    (∀ cv s' ρ', StG G σ' ρ' s' → Ext ρ ρ' s.heap s'.heap → Rep s'.heap ρ' cv v → R (.ok (.ret cv)) s') → codeAny (model G.prog G.w) A (.call (.ref fa) ⟨cs, []⟩) R s := by
  intro A s ρ cs R hL Rm S ra h
  subst hL
  obtain ⟨o, ho, hd⟩ := F.at_
  refine codeAny_call_function (fd := fd) (body := body) Rm.lim (S.base _ _ ho) hd F.co F.gen F.body_ (F.code.keeps S.base) ?_
  rw [F.binds cs (by rw [ra.length, hlen]), F.clos]
  refine wpAny_pure ?_
  have hkind : ∀ x ∈ names.zip cs, fd.scope.names.lookup x.1 = some .local ∨ (fd.scope.names.lookup x.1 = some .cell ∧ ((cellsFrom (s.heap.objs.size + 1) fd.scope.names []).lookup x.1).isSome = true) := fun x hx => by
    have := List.all_eq_true.mp F.kinds x.1 (List.of_mem_zip hx).1
    rcases Bool.or_eq_true_iff.mp this with q | q
    · exact .inl (by simpa using q)
    · have q' : fd.scope.names.lookup x.1 = some .cell := by simpa using q
      exact .inr ⟨q', cellsFrom_some _ _ _ (.inl q')⟩
  refine wpAny_newFunctionEnv_cells F.kind hkind fun env he s' X => ?_
  have he' : env = callE fd s.heap.objs.size fa := he
  subst he'
  refine ⟨(K.lim.keeps S.base).keeps X.toInCall.keep, codeAny_func ?_⟩
  have kp := X.toInCall.keep
  obtain ⟨hh, tk, rfl, _⟩ := X.done
  have S' : StG G σ ρ { s with heap := hh, toks := tk } := S.ext (s' := { s with heap := hh, toks := tk }) kp rfl rfl
  have tkp := S.tupKeep (KeepX.of_all (ρ := ρ) kp)
  have ra' : RepL hh ρ cs args := ra.mono tkp (Pre.refl _)
  have hnone : ∀ a, s.heap.objs.size ≤ a → s.heap.get? a = none := fun a ha => Heap.get?_none_of_le ha
  have hcells : ∀ x c, (cellsFrom (s.heap.objs.size + 1) fd.scope.names []).lookup x = some c → s.heap.objs.size < c := fun x c hc => X.above x c (mem_of_lookup hc)
  have L' : StL G (callE fd s.heap.objs.size fa) (names.zip args) ρ hh := by
    refine ⟨F.kind, F.glob, F.blt, ⟨_, X.toInCall.ns, fun x v hk hv => ?_⟩, fun x c hc => ⟨_, X.cell x c hc, fun v hk hv => ?_⟩, fun x hk => ?_, fun hm => ?_, fun x c hc => ⟨fun hm => ?_, ?_⟩, ?_, fun x c hc => ?_, fun x y c hx hy => ?_⟩
    · exact (bind_rep F.nodup ra' hv).1 hk
    · exact (bind_rep F.nodup ra' hv).2 hk
    · rcases hk with hk | hk
      · exact Option.isSome_iff_exists.mp (cellsFrom_some _ _ _ (.inl hk))
      · exfalso
        have hm := mem_of_lookup hk
        have := List.all_eq_true.mp F.nofree _ hm
        simp at this
    · exact Nat.lt_irrefl _ (S.lt hm)
    · exact Nat.lt_irrefl _ (Nat.lt_trans (S.lt hm) (hcells x c hc))
    · exact Nat.ne_of_gt (hcells x c hc)
    · exact S.new (hnone _ (Nat.le_refl _))
    · exact S.new (hnone _ (Nat.le_of_lt (hcells x c hc)))
    · exact name_of_addr X.apart (mem_of_lookup hx) (mem_of_lookup hy)
  refine hb _ _ ρ _ _ (Rm.deeper _) S' L' fun fl s₂ ρ₂ S₂ L₂ x₂ r₂ => ?_
  cases fl with
  | ret cv =>
    obtain ⟨c1, c2, c3, c4, c5⟩ := hcut
    have S₃ := S₂.take σ'.length c1 (by rw [c2]; exact c3)
    rw [c2] at S₃
    have hl₂ := S₂.len
    have pre₃ : Pre ρ (ρ₂.take σ'.length) := fun i a e => by
      have hi : i < ρ.length := (List.getElem?_eq_some_iff.mp e).1
      rw [S.len] at hi
      rw [List.getElem?_take_of_lt (by lia)]
      exact x₂.pre i a e
    refine h cv s₂ _ S₃ ⟨pre₃, fun a ha => ?_, fun b o hb e => ?_⟩ (Rep.rest (n := σ'.length) (fun i a hi e => by rw [List.getElem?_take_of_lt hi]; exact e) r₂ c4)
    · rcases x₂.new a (List.mem_of_mem_take ha) with q | q
      · exact .inl q
      · by_cases hm : a ∈ ρ
        · exact .inl hm
        · cases e : s.heap.get? a with
          | none => exact .inr rfl
          | some o => have := kp a o e; rw [q] at this; cases this
    · refine x₂.keep b o hb (fun q => ?_) (fun x q => ?_) (kp b o e)
      · have q' : b = s.heap.objs.size := q
        rw [hnone b (Nat.le_of_eq q'.symm)] at e; cases e
      · rw [hnone b (Nat.le_of_lt (hcells x b q))] at e; cases e
  | next => exact r₂.elim
  | brk => exact r₂.elim
  | cont => exact r₂.elim

theorem CallJ.mk (K : GloOK G) {f : Str} {fa : Addr} {fd : FuncData} {names : List Str} {body : List Stmt} (F : Fn G f fa fd names body) {args : List AV} {v : AV} {σf : List AObj} {Γf : List (Str × AV)} (hlen : args.length = names.length)
    (hb : (∀ o ∈ σ, o.lt σ.length = true) → AV.lts σ.length args = true → ∀ L, SJ G (callE fd L fa) d (names.zip args) σ (execs body (callE fd L fa)) (.ret v) Γf σf)
    (hcut : (∀ o ∈ σ, o.lt σ.length = true) → AV.lts σ.length args = true → σ'.length ≤ σf.length ∧ σf.take σ'.length = σ' ∧ (∀ o ∈ σ', o.lt σ'.length = true) ∧ AV.lt σ'.length v = true ∧ σ.length ≤ σ'.length) : CallJ G (d + 1) fa args σ v σ' := by
  intro A s ρ cs R Rm S ra h
  have hcl := fun o ho => S.closed o ho
  have hac : AV.lts σ.length args = true := by rw [← S.len]; exact ra.refs
  exact CallJ.mkAt K F hlen (hb hcl hac s.heap.objs.size) (hcut hcl hac) A s ρ cs R rfl Rm S ra h

theorem CallJ.mkE (K : GloOK G) {f : Str} {fa : Addr} {fd : FuncData} {names : List Str} {body : List Stmt} (F : Fn G f fa fd names body) {args : List AV} {v : AV} (hlen : args.length = names.length)
    (hb : (∀ o ∈ σ, o.lt σ.length = true) → AV.lts σ.length args = true → ∀ L, ∃ Γf junk, SJ G (callE fd L fa) d (names.zip args) σ (execs body (callE fd L fa)) (.ret v) Γf (σ' ++ junk))
    (hcut : (∀ o ∈ σ, o.lt σ.length = true) → AV.lts σ.length args = true → (∀ o ∈ σ', o.lt σ'.length = true) ∧ AV.lt σ'.length v = true ∧ σ.length ≤ σ'.length) : CallJ G (d + 1) fa args σ v σ' := by
  intro A s ρ cs R Rm S ra h
  have hcl := fun o ho => S.closed o ho
  have hac : AV.lts σ.length args = true := by rw [← S.len]; exact ra.refs
  obtain ⟨Γf, junk, hj⟩ := hb hcl hac s.heap.objs.size
  obtain ⟨c1, c2, c3⟩ := hcut hcl hac
  refine CallJ.mkAt K F (σf := σ' ++ junk) (Γf := Γf) hlen (L := s.heap.objs.size) hj ⟨by simp, List.take_left' rfl, c1, c2, c3⟩ A s ρ cs R rfl Rm S ra h

theorem EJ.callF {f : Str} {fa : Addr} {fd : FuncData} {names : List Str} {body : List Stmt} (F : Fn G f fa fd names body) (K : GloOK G) {e : Expr} {es : List Expr} {p pos : Pos} {args : List AV} {v : AV}
    (h1 : EsJ G env d Γ σ (spliced (backTo pos (starEach (e :: es) env))) args σ₁) (h2 : CallJ G d fa args σ₁ v σ₂)
    (hx : env.kindOf f = some .globalImplicit := by rfl) (hd : (f == ("__debug__" : Str)) = false := by decide) (he : starEach (e :: es) env = (false, eval e env) :: starEach es env := by rfl) (hpl : (backTo pos (starEach es env)).any (·.1) = false := by rfl) :
    EJ G env d Γ σ (eval (.Call (.Name f p) (e :: es) [] pos) env) v σ₂ := fun A s ρ Q E R S L h => by
  obtain ⟨o, ho, hdt⟩ := F.at_
  refine Call_Name rfl (Calls.Name_function_global L.kind hx (Calls.loadGlobal_global (by rw [L.glob]; exact K.glob.keeps S.base) F.name ?_) hd)
  refine callWith_def (o := o) hdt (h1 A s ρ _ E R S L fun cvs s₁ ρ₁ S₁ x₁ r₁ => ⟨S₁.base _ _ ho, wpAny_call ?_⟩) he
  exact h2 A s₁ ρ₁ cvs _ R S₁ r₁ fun cv s₂ ρ₂ S₂ x₂ r₂ => h cv s₂ ρ₂ S₂ (x₁.trans x₂) r₂

theorem EJ.callB {f : Str} (K : GloOK G) {id : String} {e : Expr} {es : List Expr} {p pos : Pos} {args : List AV} {v : AV} (hm : G.mg f = none) (hbt : bootBuiltins f = some (.builtin id))
    (h1 : EsJ G env d Γ σ (spliced (backTo pos (starEach (e :: es) env))) args σ₁) (h2 : OJ G d σ₁ args (fun cs => call (.builtin id) cs) v σ₂)
    (hx : env.kindOf f = some .globalImplicit := by rfl) (hd : (f == ("__debug__" : Str)) = false := by decide) (hn : f ≠ "__name__" := by decide) (he : starEach (e :: es) env = (false, eval e env) :: starEach es env := by rfl) (hpl : (backTo pos (starEach es env)).any (·.1) = false := by rfl) :
    EJ G env d Γ σ (eval (.Call (.Name f p) (e :: es) [] pos) env) v σ₂ := fun A s ρ Q E R S L h => by
  refine Call_Name rfl (Calls.Name_function_global L.kind hx (Calls.loadGlobal_builtin (by rw [L.glob]; exact K.glob.keeps S.base) hm (by rw [L.blt]; exact K.blt.keeps S.base) ((K.boot f hn).trans hbt) ?_) hd)
  refine callWith_builtin1 (h1 A s ρ _ E R S L fun cvs s₁ ρ₁ S₁ x₁ r₁ => ?_) he hpl
  exact h2 A s₁ ρ₁ cvs _ E R S₁ r₁ fun cv s₂ ρ₂ S₂ x₂ r₂ => h cv s₂ ρ₂ S₂ (x₁.trans x₂) r₂
theorem EJ.callT {f : Str} (K : GloOK G) {T : String} {e : Expr} {es : List Expr} {p pos : Pos} {args : List AV} {v : AV} (hm : G.mg f = none) (hbt : bootBuiltins f = some (.type T))
    (h1 : EsJ G env d Γ σ (spliced (backTo pos (starEach (e :: es) env))) args σ₁) (h2 : OJ G d σ₁ args (fun cs => call (.type T) cs) v σ₂)
    (hx : env.kindOf f = some .globalImplicit := by rfl) (hd : (f == ("__debug__" : Str)) = false := by decide) (hn : f ≠ "__name__" := by decide) (he : starEach (e :: es) env = (false, eval e env) :: starEach es env := by rfl) (hpl : (backTo pos (starEach es env)).any (·.1) = false := by rfl) :
    EJ G env d Γ σ (eval (.Call (.Name f p) (e :: es) [] pos) env) v σ₂ := fun A s ρ Q E R S L h => by
  refine Call_Name rfl (Calls.Name_function_global L.kind hx (Calls.loadGlobal_builtin (by rw [L.glob]; exact K.glob.keeps S.base) hm (by rw [L.blt]; exact K.blt.keeps S.base) ((K.boot f hn).trans hbt) ?_) hd)
  refine PyProof.Rows.callWith_type1 (h1 A s ρ _ E R S L fun cvs s₁ ρ₁ S₁ x₁ r₁ => ?_) he hpl
  exact h2 A s₁ ρ₁ cvs _ E R S₁ r₁ fun cv s₂ ρ₂ S₂ x₂ r₂ => h cv s₂ ρ₂ S₂ (x₁.trans x₂) r₂
end
end Mine
end
section
open PySem PySem.W PyProof.Rows
set_option linter.unusedVariables false
set_option linter.unusedSimpArgs false
namespace Mine

noncomputable def upd : List (Str × AV) → Str → AV → List (Str × AV)
  | [], x, v => [(x, v)]
  | (y, u) :: r, x, v => if x == y then (x, v) :: r else (y, u) :: upd r x v

theorem upd_lookup {x y : Str} {v : AV} : ∀ {Γ : List (Str × AV)}, (upd Γ x v).lookup y = if y = x then some v else Γ.lookup y
  | [] => by
    simp only [upd, List.lookup_cons, List.lookup_nil]
    by_cases h : y = x
    · subst h; simp
    · have : (y == x) = false := by simpa using h
      rw [this, if_neg h]
  | (z, u) :: r => by
    have ih := upd_lookup (x := x) (y := y) (v := v) (Γ := r)
    by_cases hz : x = z
    · subst hz
      simp only [upd, beq_self_eq_true, if_true, List.lookup_cons]
      by_cases h : y = x
      · subst h; simp
      · have : (y == x) = false := by simpa using h
        simp [this, h]
    · have hz' : (x == z) = false := by simpa using hz
      simp only [upd, hz', Bool.false_eq_true, if_false, List.lookup_cons]
      by_cases h : y = z
      · subst h
        simp only [beq_self_eq_true]
        rw [if_neg (fun e => hz e.symm)]
      · have : (y == z) = false := by simpa using h
        rw [this]; exact ih

section
variable {G : Glo} {env : Env} {d : Nat} {Γ Γ' Γ₁ Γ₂ : List (Str × AV)} {σ σ' σ₁ σ₂ σ₃ : List AObj} {ρ ρ' ρ₁ ρ₂ ρ₃ : List Addr} {s s' : Shared} {h h' h₁ h₂ h₃ : Heap}

theorem StL.at (L : StL G env Γ ρ h) (hk : ∀ o, h.get? env.locals = some o → h'.get? env.locals = some o) (hc : ∀ x c o, env.cells.lookup x = some c → h.get? c = some o → h'.get? c = some o) (tk : TupKeep h h') : StL G env Γ ρ h' := by
  obtain ⟨m, hn, hm⟩ := L.ns
  refine ⟨L.kind, L.glob, L.blt, ⟨m, hn.at' hk, fun y v hk hv => ?_⟩, fun y c hcy => ?_, L.has, L.offL, L.offC, L.newL, L.newC, L.apart⟩
  · obtain ⟨cv, e, r⟩ := hm y v hk hv
    exact ⟨cv, e, r.mono tk (Pre.refl _)⟩
  · obtain ⟨ov, ⟨o, e, hd⟩, hh⟩ := L.cell y c hcy
    refine ⟨ov, ⟨o, hc y c o hcy e, hd⟩, fun v hk hv => ?_⟩
    obtain ⟨cv, e, r⟩ := hh v hk hv
    exact ⟨cv, e, r.mono tk (Pre.refl _)⟩

theorem StL.notTupL (L : StL G env Γ ρ h) {vs : Array Value} : ¬ IsTup h env.locals vs := by
  rintro ⟨o', ho', hc, n, hd'⟩
  obtain ⟨m, ⟨o, es, ep, ho, hd, _⟩, _⟩ := L.ns
  rw [ho] at ho'; cases ho'; rw [hd] at hd'; cases hd'
theorem StL.notTupC (L : StL G env Γ ρ h) {x : Str} {c : Addr} (hc : env.cells.lookup x = some c) {vs : Array Value} : ¬ IsTup h c vs := by
  rintro ⟨o', ho', _, n, hd'⟩
  obtain ⟨ov, ⟨o, ho, hd⟩, _⟩ := L.cell x c hc
  rw [ho] at ho'; cases ho'; rw [hd] at hd'; cases hd'
theorem ExtS.tup (x : ExtS env ρ ρ' h h') (hS : ∀ a vs, IsTup h a vs → a ∉ ρ) (L : StL G env Γ ρ h) : TupKeep h h' := fun a vs ht => by
  have h1 := hS a vs ht
  have h2 : a ≠ env.locals := fun e => L.notTupL (e ▸ ht)
  have h3 : ∀ x, env.cells.lookup x ≠ some a := fun x e => L.notTupC e ht
  obtain ⟨o, e, r⟩ := ht
  exact ⟨o, x.keep a o h1 h2 h3 e, r⟩

/-- what a store of a name changes -/
structure Stored (env : Env) (x : Str) (ρ : List Addr) (s s' : Shared) : Prop where
  keepL : env.kindOf x = some .local → ∀ b o, b ≠ env.locals → s.heap.get? b = some o → s'.heap.get? b = some o
  ext : ExtS env ρ ρ s.heap s'.heap
  keep : ∀ b o, b ≠ env.locals → (∀ y, env.cells.lookup y ≠ some b) → s.heap.get? b = some o → s'.heap.get? b = some o
  tup : TupKeep s.heap s'.heap

theorem Stored.of {x : Str} {a : Addr} (hxl : env.kindOf x = some .local → a = env.locals) (ha : a = env.locals ∨ ∃ y, env.cells.lookup y = some a) (k : ∀ b o, b ≠ a → s.heap.get? b = some o → s'.heap.get? b = some o) (ht : ∃ o, s'.heap.get? a = some o) (tk : TupKeep s.heap s'.heap) : Stored env x ρ s s' :=
  have k' : ∀ b o, b ≠ env.locals → (∀ y, env.cells.lookup y ≠ some b) → s.heap.get? b = some o → s'.heap.get? b = some o := fun b o hL hC e => k b o (fun q => by
    rcases ha with h | ⟨y, h⟩
    · exact hL (q.trans h)
    · exact hC y (q ▸ h)) e
  ⟨fun hx b o hb => k b o (fun e => hb (e.trans (hxl hx))), ⟨Pre.refl _, fun _ h => .inl h, fun b o _ => k' b o, fun b o e => by
    by_cases q : b = a
    · rw [q]; exact ht
    · exact ⟨o, k b o q e⟩⟩, k', tk⟩

theorem store {A : Around} {Q : Unit → Shared → Prop} {E : Value → Shared → Prop} {x : Str} {cv : Value} {v : AV} (S : StG G σ ρ s) (L : StL G env Γ ρ s.heap) (hx : env.kindOf x = some .local ∨ env.kindOf x = some .cell) (r : Rep s.heap ρ cv v)
    (h : ∀ s', StG G σ ρ s' → StL G env (upd Γ x v) ρ s'.heap → Stored env x ρ s s' → Q () s') : wpAny (model G.prog G.w) A (storeName env x cv) Q E s := by
  obtain ⟨m, hn, hm⟩ := L.ns
  by_cases hl : env.kindOf x = some .local
  · refine wpAny_storeName_local hl hn (fun h' hn' hs => ?_) (by rw [L.kind]; rfl)
    have tk : TupKeep s.heap h' := by
      obtain ⟨o, es, ep, ho, hd, _⟩ := hn
      exact rep_keeps ho hd hs
    refine h _ (S.off (s' := { s with heap := h', toks := s.toks + 1 }) (wr := [env.locals]) (fun b o hb e => hs.extBut b o (by simpa using hb) e) (fun b hb => ?_) rfl rfl) ⟨L.kind, L.glob, L.blt, ⟨_, hn', fun y u hk hv => ?_⟩, fun y c hc => ?_, L.has, L.offL, L.offC, L.newL, L.newC, L.apart⟩
      (Stored.of (fun _ => rfl) (.inl rfl) (fun b o hb e => hs.extBut b o hb e) (let ⟨o, _, _, e, _⟩ := hn'; ⟨o, e⟩) tk)
    · rw [List.mem_singleton.mp hb]; exact ⟨L.offL, L.newL, fun _ => L.notTupL⟩
    · rw [upd_lookup] at hv
      by_cases e : y = x
      · rw [if_pos e] at hv; cases hv
        exact ⟨cv, by simp [e], r.mono tk (Pre.refl _)⟩
      · rw [if_neg e] at hv
        obtain ⟨cu, e', r'⟩ := hm y u hk hv
        exact ⟨cu, by simp [e, e'], r'.mono tk (Pre.refl _)⟩
    · obtain ⟨ov, ⟨o, e, hd⟩, hh⟩ := L.cell y c hc
      refine ⟨ov, ⟨o, hs.extBut _ _ (L.offC y c hc).2 e, hd⟩, fun u hk hv => ?_⟩
      rw [upd_lookup, if_neg (fun e => by rw [e] at hk; exact hk hl)] at hv
      obtain ⟨cu, e', r'⟩ := hh u hk hv
      exact ⟨cu, e', r'.mono tk (Pre.refl _)⟩
  · have hc := hx.resolve_left hl
    obtain ⟨c, ec⟩ := L.has x (.inl hc)
    obtain ⟨ov, hcell, hh⟩ := L.cell x c ec
    refine wpAny_storeName_cell L.kind hc ec hcell fun h' hc' hs => ?_
    have tk : TupKeep s.heap h' := fun a vs ht => by
      have hne : a ≠ c := fun e => L.notTupC ec (e ▸ ht)
      obtain ⟨o, e, q⟩ := ht
      exact ⟨o, hs.extBut a o hne e, q⟩
    refine h _ (S.off (s' := { s with heap := h' }) (wr := [c]) (fun b o hb e => hs.extBut b o (by simpa using hb) e) (fun b hb => ?_) rfl rfl)
      ⟨L.kind, L.glob, L.blt, ⟨m, hn.at' fun o e => hs.extBut _ o (Ne.symm (L.offC x c ec).2) e, fun y u hk hv => ?_⟩, fun y c' hcy => ?_, L.has, L.offL, L.offC, L.newL, L.newC, L.apart⟩
      (Stored.of (fun e => absurd e hl) (.inr ⟨x, ec⟩) (fun b o hb e => hs.extBut b o hb e) (let ⟨o, e, _⟩ := hc'; ⟨o, e⟩) tk)
    · rw [List.mem_singleton.mp hb]; exact ⟨(L.offC x c ec).1, L.newC x c ec, fun _ => L.notTupC ec⟩
    · rw [upd_lookup, if_neg (fun e => by rw [e] at hk; exact hl hk)] at hv
      obtain ⟨cu, e', r'⟩ := hm y u hk hv
      exact ⟨cu, e', r'.mono tk (Pre.refl _)⟩
    · by_cases e : y = x
      · subst e
        rw [ec] at hcy; cases hcy
        refine ⟨some cv, hc', fun u hk hv => ?_⟩
        rw [upd_lookup, if_pos rfl] at hv; cases hv
        exact ⟨cv, rfl, r.mono tk (Pre.refl _)⟩
      · obtain ⟨ov', ⟨o, e', hd⟩, hh'⟩ := L.cell y c' hcy
        have hne : c' ≠ c := fun q => e (L.apart y x c (q ▸ hcy) ec)
        refine ⟨ov', ⟨o, hs.extBut _ _ hne e', hd⟩, fun u hk hv => ?_⟩
        rw [upd_lookup, if_neg e] at hv
        obtain ⟨cu, e', r'⟩ := hh' u hk hv
        exact ⟨cu, e', r'.mono tk (Pre.refl _)⟩

theorem SJ.weaken {t : Sem Flow} {f : FlowA} (h : SJ G env d Γ σ t f Γ₁ σ₁) (k : ∀ p ∈ Γ₂, Γ₁.lookup p.1 = some p.2) : SJ G env d Γ σ t f Γ₂ σ₁ := fun A s ρ Q E R S L hQ =>
  h A s ρ Q E R S L fun fl s' ρ' S' L' x r => hQ fl s' ρ' S' (L'.weaken fun y v hv => k (y, v) (mem_of_lookup hv)) x r
theorem SJ.from {t : Sem Flow} {f : FlowA} (h : SJ G env d Γ σ t f Γ₁ σ₁) (k : ∀ p ∈ Γ, Γ₂.lookup p.1 = some p.2) : SJ G env d Γ₂ σ t f Γ₁ σ₁ := fun A s ρ Q E R S L hQ =>
  h A s ρ Q E R S (L.weaken fun y v hv => k (y, v) (mem_of_lookup hv)) hQ
theorem EJ.from {t : Sem Value} {v : AV} (h : EJ G env d Γ σ t v σ₁) (k : ∀ p ∈ Γ, Γ₂.lookup p.1 = some p.2) : EJ G env d Γ₂ σ t v σ₁ := fun A s ρ Q E R S L hQ =>
  h A s ρ Q E R S (L.weaken fun y v hv => k (y, v) (mem_of_lookup hv)) hQ

theorem StL.cut (L : StL G env Γ ρ h) {n : Nat} (hl : ∀ p ∈ Γ, AV.lt n p.2 = true) : StL G env Γ (ρ.take n) h := by
  have p : ∀ (i : Nat) (a : Addr), i < n → ρ[i]? = some a → (ρ.take n)[i]? = some a := fun i a hi e => by rw [List.getElem?_take_of_lt hi]; exact e
  obtain ⟨m, hn, hm⟩ := L.ns
  refine ⟨L.kind, L.glob, L.blt, ⟨m, hn, fun y v hk hv => ?_⟩, fun y c hcy => ?_, L.has, fun hm => L.offL (List.mem_of_mem_take hm), fun x c hc => ⟨fun hm => (L.offC x c hc).1 (List.mem_of_mem_take hm), (L.offC x c hc).2⟩, L.newL, L.newC, L.apart⟩
  · obtain ⟨cv, e, r⟩ := hm y v hk hv
    exact ⟨cv, e, r.rest p (hl _ (mem_of_lookup hv))⟩
  · obtain ⟨ov, hc, hh⟩ := L.cell y c hcy
    refine ⟨ov, hc, fun v hk hv => ?_⟩
    obtain ⟨cv, e, r⟩ := hh v hk hv
    exact ⟨cv, e, r.rest p (hl _ (mem_of_lookup hv))⟩

/-- the objects made last are let go of -/
theorem SJ.cut {t : Sem Flow} {f : FlowA} {junk : List AObj} (h : SJ G env d Γ σ t f Γ₁ (σ₁ ++ junk)) (hle : σ.length ≤ σ₁.length) (hg : ∀ p ∈ Γ₁, AV.lt σ₁.length p.2 = true) (ho : ∀ o ∈ σ₁, o.lt σ₁.length = true)
    (hf : ∀ v, f = .ret v → AV.lt σ₁.length v = true) : SJ G env d Γ σ t f Γ₁ σ₁ := fun A s ρ Q E R S L hQ =>
  h A s ρ Q E R S L fun fl s' ρ' S' L' x r => by
    have S₃ := S'.take σ₁.length (by simp) (by simpa using ho)
    rw [List.take_left'  rfl] at S₃
    refine hQ fl s' _ S₃ (L'.cut hg) ⟨fun i a e => ?_, fun a ha => x.new a (List.mem_of_mem_take ha), fun b o hb => x.keep b o hb, x.there⟩ ?_
    · have hi : i < ρ.length := (List.getElem?_eq_some_iff.mp e).1
      rw [S.len] at hi
      rw [List.getElem?_take_of_lt (by lia)]
      exact x.pre i a e
    · cases fl <;> cases f <;> try exact r
      exact Rep.rest (n := σ₁.length) (fun i a hi e => by rw [List.getElem?_take_of_lt hi]; exact e) r (hf _ rfl)
theorem EJ.cut {t : Sem Value} {v : AV} {junk : List AObj} (h : EJ G env d Γ σ t v (σ₁ ++ junk)) (hle : σ.length ≤ σ₁.length) (ho : ∀ o ∈ σ₁, o.lt σ₁.length = true) (hf : AV.lt σ₁.length v = true) : EJ G env d Γ σ t v σ₁ := fun A s ρ Q E R S L hQ =>
  h A s ρ Q E R S L fun cv s' ρ' S' x r => by
    have S₃ := S'.take σ₁.length (by simp) (by simpa using ho)
    rw [List.take_left'  rfl] at S₃
    refine hQ cv s' _ S₃ ⟨fun i a e => ?_, fun a ha => x.new a (List.mem_of_mem_take ha), fun b o hb => x.keep b o hb⟩ (Rep.rest (n := σ₁.length) (fun i a hi e => by rw [List.getElem?_take_of_lt hi]; exact e) r hf)
    · have hi : i < ρ.length := (List.getElem?_eq_some_iff.mp e).1
      rw [S.len] at hi
      rw [List.getElem?_take_of_lt (by lia)]
      exact x.pre i a e

theorem SJ.nil : SJ G env d Γ σ (execs [] env) .next Γ σ := fun A s ρ Q E R S L h => wpAny_execs_nil (h .next s ρ S L ExtS.refl trivial)
theorem SJ.cons {st : Stmt} {rest : List Stmt} {f : FlowA} (h1 : SJ G env d Γ σ (exec st env) .next Γ₁ σ₁) (h2 : SJ G env d Γ₁ σ₁ (execs rest env) f Γ₂ σ₂) : SJ G env d Γ σ (execs (st :: rest) env) f Γ₂ σ₂ := fun A s ρ Q E R S L h =>
  wpAny_execs_cons (h1 A s ρ _ E R S L fun fl s₁ ρ₁ S₁ L₁ x₁ r₁ => by
    cases fl with
    | next => exact h2 A s₁ ρ₁ _ E R S₁ L₁ fun fl s₂ ρ₂ S₂ L₂ x₂ r₂ => h fl s₂ ρ₂ S₂ L₂ (x₁.trans x₂) r₂
    | _ => exact r₁.elim)
theorem SJ.stop {st : Stmt} {rest : List Stmt} {f : FlowA} (h1 : SJ G env d Γ σ (exec st env) f Γ₁ σ₁) (hf : f ≠ .next := by intro h; cases h) : SJ G env d Γ σ (execs (st :: rest) env) f Γ₁ σ₁ := fun A s ρ Q E R S L h =>
  wpAny_execs_cons (h1 A s ρ _ E R S L fun fl s₁ ρ₁ S₁ L₁ x₁ r₁ => by
    cases fl with
    | next => cases f <;> first | exact absurd rfl hf | exact r₁.elim
    | ret v => exact h _ s₁ ρ₁ S₁ L₁ x₁ r₁
    | brk => exact h _ s₁ ρ₁ S₁ L₁ x₁ r₁
    | cont => exact h _ s₁ ρ₁ S₁ L₁ x₁ r₁)
theorem SJ.last {st : Stmt} {f : FlowA} (h1 : SJ G env d Γ σ (exec st env) f Γ₁ σ₁) : SJ G env d Γ σ (execs [st] env) f Γ₁ σ₁ := fun A s ρ Q E R S L h =>
  wpAny_execs_cons (h1 A s ρ _ E R S L fun fl s₁ ρ₁ S₁ L₁ x₁ r₁ => by
    cases fl with
    | next => exact wpAny_execs_nil (h _ s₁ ρ₁ S₁ L₁ x₁ r₁)
    | ret v => exact h _ s₁ ρ₁ S₁ L₁ x₁ r₁
    | brk => exact h _ s₁ ρ₁ S₁ L₁ x₁ r₁
    | cont => exact h _ s₁ ρ₁ S₁ L₁ x₁ r₁)

theorem SJ.ret {e : Expr} {pos : Pos} {v : AV} (h1 : EJ G env d Γ σ (eval e env) v σ₁) : SJ G env d Γ σ (exec (.Return (some e) pos) env) (.ret v) Γ σ₁ := fun A s ρ Q E R S L h =>
  wpAny_Return_some (h1 A s ρ _ E R S L fun cv s₁ ρ₁ S₁ x₁ r₁ => h (.ret cv) s₁ ρ₁ S₁ (L.keep S x₁) (ExtS.of x₁ S₁) r₁)
theorem SJ.cont {pos : Pos} : SJ G env d Γ σ (exec (.Continue pos) env) .cont Γ σ := fun A s ρ Q E R S L h => wpAny_Continue (h .cont s ρ S L ExtS.refl trivial)
theorem SJ.assign {x : Str} {e : Expr} {pos' pos : Pos} {v : AV} (h1 : EJ G env d Γ σ (eval e env) v σ₁) (hx : env.kindOf x = some .local ∨ env.kindOf x = some .cell := by first | exact .inl rfl | exact .inr rfl)
    (hs : swapsWith e (some (.Name x pos')) pos.line env = pure false := by rfl) : SJ G env d Γ σ (exec (.Assign [.Name x pos'] e pos) env) .next (upd Γ x v) σ₁ := fun A s ρ Q E R S L h =>
  wpAny_Assign_Name (h1 A s ρ _ E R S L fun cv s₁ ρ₁ S₁ x₁ r₁ => store S₁ (L.keep S x₁) hx r₁ fun s₂ S₂ L₂ st => h .next s₂ ρ₁ S₂ L₂ ((ExtS.of x₁ S₁).trans st.ext) trivial) hs
theorem SJ.expr {e : Expr} {pos : Pos} {v : AV} (h1 : EJ G env d Γ σ (eval e env) v σ₁) (hi : interactive env = false := by rfl) (hs : swapsWith e none pos.line env = pure false := by rfl) : SJ G env d Γ σ (exec (.Expr e pos) env) .next Γ σ₁ := fun A s ρ Q E R S L h =>
  wpAny_Expr_any (h1 A s ρ _ E R S L fun cv s₁ ρ₁ S₁ x₁ r₁ => h .next s₁ ρ₁ S₁ (L.keep S x₁) (ExtS.of x₁ S₁) trivial) hi hs
theorem SJ.ite {t : Expr} {a b : List Stmt} {pos : Pos} {f : FlowA} {c : Bool} (h1 : TJ G env d Γ σ (isTrue t env (eval t env)) c σ₁) (h2 : c = true → SJ G env d Γ σ₁ (execs a env) f Γ₂ σ₂) (h3 : c = false → SJ G env d Γ σ₁ (execs b env) f Γ₂ σ₂) :
    SJ G env d Γ σ (exec (.If t a b pos) env) f Γ₂ σ₂ := fun A s ρ Q E R S L h =>
  wpAny_If (h1 A s ρ _ E R S L fun s₁ ρ₁ S₁ x₁ => by
    have go : ∀ t, SJ G env d Γ σ₁ t f Γ₂ σ₂ → wpAny (model G.prog G.w) A t Q E s₁ := fun t ht => ht A s₁ ρ₁ _ E R S₁ (L.keep S x₁) fun fl s₂ ρ₂ S₂ L₂ x₂ r₂ => h fl s₂ ρ₂ S₂ L₂ ((ExtS.of x₁ S₁).trans x₂) r₂
    cases c with
    | true => exact go _ (h2 rfl)
    | false => exact go _ (h3 rfl))
theorem SJ.ifT {t : Expr} {a b : List Stmt} {pos : Pos} {f : FlowA} (h1 : TJ G env d Γ σ (isTrue t env (eval t env)) true σ₁) (h2 : SJ G env d Γ σ₁ (execs a env) f Γ₂ σ₂) : SJ G env d Γ σ (exec (.If t a b pos) env) f Γ₂ σ₂ := SJ.ite h1 (fun _ => h2) (fun h => nomatch h)
theorem SJ.ifF {t : Expr} {a b : List Stmt} {pos : Pos} {f : FlowA} (h1 : TJ G env d Γ σ (isTrue t env (eval t env)) false σ₁) (h2 : SJ G env d Γ σ₁ (execs b env) f Γ₂ σ₂) : SJ G env d Γ σ (exec (.If t a b pos) env) f Γ₂ σ₂ := SJ.ite h1 (fun h => nomatch h) (fun _ => h2)

/-- a while loop, turn by turn -/
inductive WR (G : Glo) (env : Env) (d : Nat) (test : Expr) (body : List Stmt) : Nat → List (Str × AV) → List AObj → FlowA → List (Str × AV) → List AObj → Prop where
  | done {k : Nat} {Γ : List (Str × AV)} {σ σ₁ : List AObj} : TJ G env d Γ σ (isTrue test env (eval test env)) false σ₁ → WR G env d test body k Γ σ .next Γ σ₁
  | step {k : Nat} {Γ Γ₁ Γ₂ : List (Str × AV)} {σ σ₁ σ₂ σ₃ : List AObj} {f g : FlowA} : TJ G env d Γ σ (isTrue test env (eval test env)) true σ₁ → SJ G env d Γ σ₁ (execs body env) g Γ₁ σ₂ → g = .next ∨ g = .cont → WR G env d test body k Γ₁ σ₂ f Γ₂ σ₃ → WR G env d test body (k + 1) Γ σ f Γ₂ σ₃
  | back {k : Nat} {Γ Γ₁ : List (Str × AV)} {σ σ₁ σ₂ : List AObj} {v : AV} : TJ G env d Γ σ (isTrue test env (eval test env)) true σ₁ → SJ G env d Γ σ₁ (execs body env) (.ret v) Γ₁ σ₂ → WR G env d test body k Γ σ (.ret v) Γ₁ σ₂

theorem SJ.while {test : Expr} {body : List Stmt} {pos : Pos} {k : Nat} {f : FlowA} (h1 : WR G env d test body k Γ σ f Γ₁ σ₁) : SJ G env d Γ σ (exec (.While test body [] pos) env) f Γ₁ σ₁ := fun A s ρ Q E R S L hQ => by
  refine wpAny_While (codeAny_whileLoop (fun n s' => ∃ k ρ' Γ' σ', n = k + 1 ∧ WR G env d test body k Γ' σ' f Γ₁ σ₁ ∧ StG G σ' ρ' s' ∧ StL G env Γ' ρ' s'.heap ∧ ExtS env ρ ρ' s.heap s'.heap) ?_ (k + 1) ⟨k, ρ, Γ, σ, rfl, h1, S, L, ExtS.refl⟩)
  rintro n s' ⟨k, ρ', Γ', σ', rfl, hw, S', L', x'⟩
  cases hw with
  | done ht =>
    refine ht A s' ρ' _ _ R S' L' fun s₁ ρ₁ S₁ x₁ => ?_
    exact wpAny_execs_nil (hQ .next s₁ ρ₁ S₁ (L'.keep S' x₁) (x'.trans (ExtS.of x₁ S₁)) trivial)
  | step ht hb hg hr =>
    refine ht A s' ρ' _ _ R S' L' fun s₁ ρ₁ S₁ x₁ => ?_
    refine hb A s₁ ρ₁ _ _ R S₁ (L'.keep S' x₁) fun fl s₂ ρ₂ S₂ L₂ x₂ r₂ => ?_
    have go := (x'.trans (ExtS.of x₁ S₁)).trans x₂
    rcases hg with rfl | rfl <;> cases fl <;> first | exact r₂.elim | exact ⟨_, Nat.lt_succ_self _, _, ρ₂, _, _, rfl, hr, S₂, L₂, go⟩
  | back ht hb =>
    refine ht A s' ρ' _ _ R S' L' fun s₁ ρ₁ S₁ x₁ => ?_
    refine hb A s₁ ρ₁ _ _ R S₁ (L'.keep S' x₁) fun fl s₂ ρ₂ S₂ L₂ x₂ r₂ => ?_
    cases fl with
    | ret cv => exact hQ (.ret cv) s₂ ρ₂ S₂ L₂ ((x'.trans (ExtS.of x₁ S₁)).trans x₂) r₂
    | _ => exact r₂.elim
end
end Mine
end
section
open PySem PySem.W PyProof.Rows
set_option linter.unusedVariables false
set_option linter.unusedSimpArgs false
namespace Mine
section
variable {G : Glo} {env : Env} {d : Nat} {Γ Γ' Γ₁ Γ₂ : List (Str × AV)} {σ σ' σ₁ σ₂ σ₃ : List AObj} {ρ ρ' ρ₁ ρ₂ ρ₃ : List Addr} {s s' s₁ : Shared} {h h' h₁ h₂ h₃ : Heap}

/-- an iterator and what it reads -/
structure Iters (G : Glo) (A : Around) (I : Addr) (h₁ : Heap) (ρ₁ : List Addr) (fp wr : List Addr) (items : List AV) (St : Nat → Heap → Prop) : Prop where
  walks : ∃ P, Walks G.prog G.w A I fp wr items.length P St ∧ ∀ i v h ρ, P i v → i < items.length → TupKeep h₁ h → Pre ρ₁ ρ → ∃ x, items[i]? = some x ∧ Rep h ρ v x
  kinds : ∀ i h b, St i h → b ∈ fp → ∃ o, h.get? b = some o ∧ (∀ es ep, o.data ≠ .dict es ep) ∧ (∀ v, o.data ≠ .cell v) ∧ (b ∈ wr → o.cls ≠ .type "tuple")
  own : ∀ i s target v (Q : Unit → Shared → Prop) (E : Value → Shared → Prop), St i s.heap → Q () s → wpAny (model G.prog G.w) A (letOwnedTupleGo target (.ref I) v) Q E s

/-- the iterator's objects lie apart -/
structure Off (G : Glo) (fp wr : List Addr) (ρ : List Addr) : Prop where
  off : ∀ b ∈ fp, b ∉ ρ
  new : ∀ b ∈ wr, G.h₀.get? b = none

structure Moved (env : Env) (loc : Prop) (wr : List Addr) (s s' : Shared) : Prop where
  keep : ∀ b o, b ∉ wr → b ≠ env.locals → (∀ y, env.cells.lookup y ≠ some b) → s.heap.get? b = some o → s'.heap.get? b = some o
  keepL : loc → ∀ b o, b ∉ wr → b ≠ env.locals → s.heap.get? b = some o → s'.heap.get? b = some o
  tup : TupKeep s.heap s'.heap

/-- a turn: the next item is bound -/
structure Turn (G : Glo) (env : Env) (A : Around) (target : Expr) (I : Addr) (h₁ : Heap) (ρ₁ : List Addr) (fp wr : List Addr) {β : Type} (items : List β) (bind : β → List (Str × AV) → List (Str × AV)) (St : Nat → Heap → Prop) (loc : Prop) : Prop where
  sub : ∀ b ∈ wr, b ∈ fp
  frame : ∀ i h h', St i h → (∀ b ∈ fp, ∀ o, h.get? b = some o → h'.get? b = some o) → St i h'
  kinds : ∀ i h b, St i h → b ∈ fp → ∃ o, h.get? b = some o ∧ (∀ es ep, o.data ≠ .dict es ep) ∧ (∀ v, o.data ≠ .cell v) ∧ (b ∈ wr → o.cls ≠ .type "tuple")
  item : ∀ (i : Nat) (b : β) (s : Shared) (σ : List AObj) (ρ : List Addr) (Γ : List (Str × AV)) (Q : Shared → Prop) (E : Value → Shared → Prop), items[i]? = some b → St i s.heap → StG G σ ρ s → StL G env Γ ρ s.heap → TupKeep h₁ s.heap → Pre ρ₁ ρ → Off G fp wr ρ →
    (∀ s', StG G σ ρ s' → StL G env (bind b Γ) ρ s'.heap → St (i + 1) s'.heap → Moved env loc wr s s' → Q s') →
    wpAny (model G.prog G.w) A (pyNext (.ref I)) (fun r s₁ => match r with
      | none => False
      | some v => wpAny (model G.prog G.w) A (letOwnedTupleGo target (.ref I) v) (fun _ s₂ => wpAny (model G.prog G.w) A (assign target env v) (fun _ => Q) E s₂) E s₁) E s
  done : ∀ (s : Shared) (Q : Shared → Prop) (E : Value → Shared → Prop), St items.length s.heap → (∀ h' tk, (∀ b o, b ∉ wr → s.heap.get? b = some o → h'.get? b = some o) → Q { s with heap := h', toks := tk }) →
    wpAny (model G.prog G.w) A (pyNext (.ref I)) (fun r s₁ => r = none ∧ Q s₁) E s

theorem kinds_off (L : StL G env Γ ρ h) {b : Addr} (k : ∃ o, h.get? b = some o ∧ (∀ es ep, o.data ≠ .dict es ep) ∧ (∀ v, o.data ≠ .cell v)) : b ≠ env.locals ∧ ∀ y, env.cells.lookup y ≠ some b := by
  obtain ⟨o, e, k1, k2⟩ := k
  refine ⟨fun q => ?_, fun y q => ?_⟩
  · obtain ⟨m, ⟨o', es, ep, e', hd, _⟩, _⟩ := L.ns
    rw [← q, e] at e'; cases e'; exact k1 _ _ hd
  · obtain ⟨ov, ⟨o', e', hd⟩, _⟩ := L.cell y b q
    rw [e] at e'; cases e'; exact k2 _ hd

/-- a step that changes the iterator alone -/
theorem stepped {i : Nat} {St : Nat → Heap → Prop} {fp wr : List Addr} (kinds : ∀ b, b ∈ fp → ∃ o, s.heap.get? b = some o ∧ (∀ es ep, o.data ≠ .dict es ep) ∧ (∀ v, o.data ≠ .cell v) ∧ (b ∈ wr → o.cls ≠ .type "tuple")) (sub : ∀ b ∈ wr, b ∈ fp)
    (S : StG G σ ρ s) (L : StL G env Γ ρ s.heap) (O : Off G fp wr ρ) {h' : Heap} {tk : Nat} (hk : ∀ b o, b ∉ wr → s.heap.get? b = some o → h'.get? b = some o) :
    StG G σ ρ { s with heap := h', toks := tk } ∧ StL G env Γ ρ h' ∧ TupKeep s.heap h' := by
  have wrT : ∀ b ∈ wr, ∀ vs, ¬ IsTup s.heap b vs := fun b hb vs ⟨o', e', hc, _⟩ => by
    obtain ⟨o, e, _, _, k⟩ := kinds b (sub b hb)
    rw [e] at e'; cases e'; exact k hb hc
  have tk' : TupKeep s.heap h' := fun a vs ht => by
    have hn : a ∉ wr := fun hm => wrT a hm vs ht
    obtain ⟨o, e, r⟩ := ht
    exact ⟨o, hk a o hn e, r⟩
  refine ⟨S.off (s' := { s with heap := h', toks := tk }) hk (fun b hb => ⟨O.off b (sub b hb), O.new b hb, wrT b hb⟩) rfl rfl, L.at (fun o e => hk _ o (fun hm => ?_) e) (fun x c o hc e => hk _ o (fun hm => ?_) e) tk', tk'⟩
  · obtain ⟨o, e, k1, k2, _⟩ := kinds _ (sub _ hm)
    exact (kinds_off L ⟨o, e, k1, k2⟩).1 rfl
  · obtain ⟨o, e, k1, k2, _⟩ := kinds _ (sub _ hm)
    exact (kinds_off L ⟨o, e, k1, k2⟩).2 x hc

theorem Turn.name {A : Around} {x : Str} {px : Pos} {I : Addr} {fp wr : List Addr} {items : List AV} {St : Nat → Heap → Prop} (W : Iters G A I h₁ ρ₁ fp wr items St) (hx : env.kindOf x = some .local ∨ env.kindOf x = some .cell) :
    Turn G env A (.Name x px) I h₁ ρ₁ fp wr items (fun b Γ => upd Γ x b) St (env.kindOf x = some .local) := by
  obtain ⟨P, W', hP⟩ := W.walks
  refine ⟨W'.sub, W'.frame, W.kinds, fun i b s σ ρ Γ Q E hi st S L tk p O h => ?_, fun s Q E st h => W'.done s _ E st fun h' tk hk => ⟨rfl, h h' tk hk⟩⟩
  have hlt : i < items.length := (List.getElem?_eq_some_iff.mp hi).1
  refine W'.item i s _ E hlt st fun v h' tk' hv st' hk => ?_
  obtain ⟨S', L', tk''⟩ := stepped (St := St) (i := i) (fun b hb => W.kinds i s.heap b st hb) W'.sub S L O (tk := tk') hk
  obtain ⟨y, hy, r⟩ := hP i v h' ρ hv hlt (fun a vs ht => tk'' a vs (tk a vs ht)) p
  rw [hi] at hy; cases hy
  show wpAny _ A (pure ()) _ _ _
  refine wpAny_pure (wpAny_assign_Name (store S' L' hx r fun s₂ S₂ L₂ sd => h s₂ S₂ L₂ (W'.frame _ _ _ st' fun c hc o e => ?_) ⟨fun c o h1 h2 h3 e => sd.keep c o h2 h3 (hk c o h1 e), fun hl c o h1 h2 e => sd.keepL hl c o h2 (hk c o h1 e), fun a vs ht => sd.tup a vs (tk'' a vs ht)⟩))
  obtain ⟨o', e', k1, k2, _⟩ := W.kinds _ _ c st' hc
  obtain ⟨q1, q2⟩ := kinds_off L' ⟨o', e', k1, k2⟩
  exact sd.keep c o q1 q2 e

theorem assign_pair {A : Around} {x y : Str} {px py pt : Pos} {kt : Nat} {t : Addr} {cu cv : Value} {u v : AV} {Q : Unit → Shared → Prop} {E : Value → Shared → Prop} (hh : A.handled = none) (hx : env.kindOf x = some .local ∨ env.kindOf x = some .cell) (hy : env.kindOf y = some .local ∨ env.kindOf y = some .cell)
    (S : StG G σ ρ s) (L : StL G env Γ ρ s.heap) (ht : s.heap.IsTuple t #[cu, cv]) (ru : Rep s.heap ρ cu u) (rv : Rep s.heap ρ cv v)
    (h : ∀ s', StG G σ ρ s' → StL G env (upd (upd Γ x u) y v) ρ s'.heap → Moved env (env.kindOf x = some .local ∧ env.kindOf y = some .local) [] s s' → Q () s') :
    wpAny (model G.prog G.w) A (assign (.Tuple [.Name x px, .Name y py] kt pt) env (.ref t)) Q E s := by
  refine wpAny_assign_Tuple hh ht rfl rfl fun h' hx' => ?_
  have k : ∀ b o, s.heap.get? b = some o → h'.get? b = some o := fun b o e => hx' b o (Nat.ne_of_lt (Heap.lt_size e)) e
  have S' : StG G σ ρ { s with heap := h' } := S.ext (s' := { s with heap := h' }) k rfl rfl
  have tk := S.tupKeep (KeepX.of_all (ρ := ρ) k)
  have L' : StL G env Γ ρ h' := L.at (fun o e => k _ o e) (fun _ _ o _ e => k _ o e) tk
  show wpAny _ A (do holding [cv] (assign (.Name x px) env cu); assignInOrder [fun v => assign (.Name y py) env v] [cv]) _ _ _
  refine wpAny_bind (wpAny_holding (wpAny_assign_Name (store S' L' hx (ru.mono tk (Pre.refl _)) fun s₂ S₂ L₂ d₂ => ?_)))
  show wpAny _ A (do holding [] (assign (.Name y py) env cv); assignInOrder [] []) _ _ _
  refine wpAny_bind (wpAny_holding (wpAny_assign_Name (store S₂ L₂ hy ((rv.mono tk (Pre.refl _)).mono d₂.tup (Pre.refl _)) fun s₃ S₃ L₃ d₃ => wpAny_pure (h s₃ S₃ L₃ ?_))))
  exact ⟨fun b o _ h2 h3 e => d₃.keep b o h2 h3 (d₂.keep b o h2 h3 (k b o e)), fun hl b o _ h2 e => d₃.keepL hl.2 b o h2 (d₂.keepL hl.1 b o h2 (k b o e)), fun a vs ht => d₃.tup a vs (d₂.tup a vs (tk a vs ht))⟩

theorem Turn.pair {A : Around} {x y : Str} {px py pt : Pos} {kt : Nat} {I : Addr} {fp wr : List Addr} {items : List (AV × AV)} {St : Nat → Heap → Prop} (hh : A.handled = none) (W : Iters G A I h₁ ρ₁ fp wr (items.map fun p => .tup [p.1, p.2]) St)
    (hx : env.kindOf x = some .local ∨ env.kindOf x = some .cell) (hy : env.kindOf y = some .local ∨ env.kindOf y = some .cell) :
    Turn G env A (.Tuple [.Name x px, .Name y py] kt pt) I h₁ ρ₁ fp wr items (fun b Γ => upd (upd Γ x b.1) y b.2) St (env.kindOf x = some .local ∧ env.kindOf y = some .local) := by
  obtain ⟨P, W', hP⟩ := W.walks
  have hlen : (items.map fun p => AV.tup [p.1, p.2]).length = items.length := List.length_map _
  refine ⟨W'.sub, W'.frame, W.kinds, fun i b s σ ρ Γ Q E hi st S L tk p O h => ?_, fun s Q E st h => W'.done s _ E (by rw [hlen]; exact st) fun h' tk hk => ⟨rfl, h h' tk hk⟩⟩
  have hlt : i < items.length := (List.getElem?_eq_some_iff.mp hi).1
  refine W'.item i s _ E (by rw [hlen]; exact hlt) st fun v h' tk' hv st' hk => ?_
  obtain ⟨S', L', tk''⟩ := stepped (St := St) (i := i) (fun b hb => W.kinds i s.heap b st hb) W'.sub S L O (tk := tk') hk
  obtain ⟨z, hz, r⟩ := hP i v h' ρ hv (by rw [hlen]; exact hlt) (fun a vs ht => tk'' a vs (tk a vs ht)) p
  rw [List.getElem?_map, hi] at hz; cases hz
  refine W.own _ _ _ _ _ _ st' ?_
  obtain ⟨t, vs, rfl, ht, rl⟩ := Rep.tup_ r
  cases rl with
  | cons ru rl =>
  cases rl with
  | cons rv rl =>
  cases rl with
  | nil =>
  obtain ⟨o, e, hc, n, hd⟩ := ht
  refine assign_pair hh hx hy S' L' ⟨o, e, hc, n, hd⟩ ru rv fun s₂ S₂ L₂ mv => h s₂ S₂ L₂ (W'.frame _ _ _ st' fun c hc o e => ?_) ⟨fun c o h1 h2 h3 e => mv.keep c o (by simp) h2 h3 (hk c o h1 e), fun hl c o h1 h2 e => mv.keepL hl c o (by simp) h2 (hk c o h1 e), fun a vs ht => mv.tup a vs (tk'' a vs ht)⟩
  obtain ⟨o', e', k1, k2, _⟩ := W.kinds _ _ c st' hc
  obtain ⟨q1, q2⟩ := kinds_off L' ⟨o', e', k1, k2⟩
  exact mv.keep c o (by simp) q1 q2 e

theorem Iters.list {A : Around} {a I : Addr} {vs : List Value} {n : Nat} {items : List AV} (hh : A.handled = none) (hne : a ≠ I) (r : RepL h₁ ρ₁ vs items) :
    Iters G A I h₁ ρ₁ [I, a] [I] items (fun i h => h.IsListIter I a i ∧ h.IsList a vs.toArray) where
  walks := ⟨_, by have := Walks.list (prog := G.prog) (w := G.w) hh I a hne vs.toArray; rw [List.size_toArray, r.length] at this; exact this, fun i v h ρ hv hi tk p => by
    have hx : items[i]? = some items[i] := by simp [hi]
    obtain ⟨v', e, q⟩ := r.get hx
    have hv' : vs[i]? = some v := by simpa using hv
    rw [hv'] at e; cases e
    exact ⟨_, hx, q.mono tk p⟩⟩
  kinds := fun i h b st hb => by
    rcases List.mem_cons.mp hb with rfl | hb
    · obtain ⟨o, e, hc, hd⟩ := st.1
      exact ⟨o, e, (by rw [hd]; intro _ _ q; cases q), (by rw [hd]; intro _ q; cases q), fun _ => (by rw [hc]; decide)⟩
    · rw [List.mem_singleton.mp hb]
      obtain ⟨o, e, hc, n, hd⟩ := st.2
      exact ⟨o, e, (by rw [hd]; intro _ _ q; cases q), (by rw [hd]; intro _ q; cases q), fun _ => (by rw [hc]; decide)⟩
  own := fun i s target v Q E st h => by
    obtain ⟨o, ho, hc, hd⟩ := st.1
    unfold letOwnedTupleGo
    cases target <;> first
      | exact wpAny_pure h
      | (cases v <;> first
          | exact wpAny_pure h
          | (refine wpAny_bind (wpAny_load ho ?_)
             rw [hc, hd]
             exact wpAny_pure h))

theorem Iters.tuple {A : Around} {a I : Addr} {vs : List Value} {items : List AV} (hh : A.handled = none) (hne : a ≠ I) (r : RepL h₁ ρ₁ vs items) :
    Iters G A I h₁ ρ₁ [I, a] [I] items (fun i h => h.IsTupleIter I a i ∧ h.IsTuple a vs.toArray) where
  walks := ⟨_, by have := Walks.tuple (prog := G.prog) (w := G.w) hh I a hne vs.toArray; rw [List.size_toArray, r.length] at this; exact this, fun i v h ρ hv hi tk p => by
    have hx : items[i]? = some items[i] := by simp [hi]
    obtain ⟨v', e, q⟩ := r.get hx
    have hv' : vs[i]? = some v := by simpa using hv
    rw [hv'] at e; cases e
    exact ⟨_, hx, q.mono tk p⟩⟩
  kinds := fun i h b st hb => by
    rcases List.mem_cons.mp hb with rfl | hb
    · obtain ⟨o, e, hc, hd⟩ := st.1
      exact ⟨o, e, (by rw [hd]; intro _ _ q; cases q), (by rw [hd]; intro _ q; cases q), fun _ => (by rw [hc]; decide)⟩
    · rw [List.mem_singleton.mp hb]
      obtain ⟨o, e, hc, n, hd⟩ := st.2
      refine ⟨o, e, (by rw [hd]; intro _ _ q; cases q), (by rw [hd]; intro _ q; cases q), fun hm => ?_⟩
      exact absurd (List.mem_singleton.mp hm) hne
  own := fun i s target v Q E st h => letGo_tupleiter st.1 h

theorem Iters.range {A : Around} {I : Addr} {a : Int} {n : Nat} (hh : A.handled = none) :
    Iters G A I h₁ ρ₁ [I] [I] ((List.range n).map fun (i : Nat) => AV.int (a + (i : Int))) (fun i h => IsRangeIter h I (a + (i : Nat) * 1) ((n : Int) - (i : Nat)) 1) where
  walks := ⟨_, by have := Walks.range (prog := G.prog) (w := G.w) hh I a 1 n; simp only [List.length_map, List.length_range]; exact this, fun i v h ρ hv hi tk p => by
    obtain ⟨t, rfl⟩ := hv
    have hi' : i < n := by simpa using hi
    refine ⟨.int (a + i * 1), ?_, .int _ _⟩
    simp [hi']⟩
  kinds := fun i h b st hb => by
    rw [List.mem_singleton.mp hb]
    have e := st
    refine ⟨_, e, ?_, ?_, fun _ => ?_⟩
    · intro _ _ q; cases q
    · intro _ q; cases q
    · intro q; exact absurd (Value.type.inj q) (by decide)
  own := fun i s target v Q E st h => by
    unfold letOwnedTupleGo
    cases target <;> first
      | exact wpAny_pure h
      | (cases v <;> first
          | exact wpAny_pure h
          | (refine wpAny_bind (wpAny_load st ?_)
             exact wpAny_pure h))
end
end Mine
end
section
open PySem PySem.W PyProof.Rows
set_option linter.unusedVariables false
set_option linter.unusedSimpArgs false
namespace Mine
section
variable {G : Glo} {env : Env} {d : Nat} {Γ Γ' Γ₁ Γ₂ : List (Str × AV)} {σ σ' σ₁ σ₂ σ₃ : List AObj} {ρ ρ' ρ₁ ρ₂ ρ₃ : List Addr} {s s' s₁ : Shared} {h h' h₁ h₂ h₃ : Heap}

/-- a for loop, item by item -/
inductive FR (G : Glo) (env : Env) (d : Nat) (body : List Stmt) {β : Type} (bind : β → List (Str × AV) → List (Str × AV)) : List β → List (Str × AV) → List AObj → FlowA → List (Str × AV) → List AObj → Prop where
  | nil {Γ : List (Str × AV)} {σ : List AObj} : FR G env d body bind [] Γ σ .next Γ σ
  | step {b : β} {bs : List β} {Γ Γ₁ Γ₂ : List (Str × AV)} {σ σ₁ σ₂ : List AObj} {f g : FlowA} : SJ G env d (bind b Γ) σ (execs body env) g Γ₁ σ₁ → g = .next ∨ g = .cont → FR G env d body bind bs Γ₁ σ₁ f Γ₂ σ₂ → FR G env d body bind (b :: bs) Γ σ f Γ₂ σ₂
  | back {b : β} {bs : List β} {Γ Γ₁ : List (Str × AV)} {σ σ₁ : List AObj} {v : AV} : SJ G env d (bind b Γ) σ (execs body env) (.ret v) Γ₁ σ₁ → FR G env d body bind (b :: bs) Γ σ (.ret v) Γ₁ σ₁

/-- the base heap's objects stay, but for the ledger's and the frame's -/
structure ExtB (env : Env) (base : Heap) (ρ ρ' : List Addr) (h' : Heap) : Prop where
  pre : Pre ρ ρ'
  new : ∀ a ∈ ρ', a ∈ ρ ∨ base.get? a = none
  keep : ∀ b o, b ∉ ρ → b ≠ env.locals → (∀ x, env.cells.lookup x ≠ some b) → base.get? b = some o → h'.get? b = some o

theorem ExtB.toS (x : ExtB env s.heap ρ ρ' s'.heap) (S' : StG G σ' ρ' s') (L' : StL G env Γ' ρ' s'.heap) : ExtS env ρ ρ' s.heap s'.heap :=
  ⟨x.pre, x.new, x.keep, fun b o e => by
    by_cases hb : b ∈ ρ
    · obtain ⟨i, ob, _, _, r⟩ := S'.mem (x.pre.mem hb)
      obtain ⟨o', e', _⟩ := r.there
      exact ⟨o', e'⟩
    · by_cases hL : b = env.locals
      · obtain ⟨m, ⟨o', _, _, e', _⟩, _⟩ := L'.ns
        exact ⟨o', hL ▸ e'⟩
      · by_cases hc : ∃ y, env.cells.lookup y = some b
        · obtain ⟨y, hy⟩ := hc
          obtain ⟨ov, ⟨o', e', _⟩, _⟩ := L'.cell y b hy
          exact ⟨o', e'⟩
        · exact ⟨o, x.keep b o hb hL (fun y hy => hc ⟨y, hy⟩) e⟩⟩

theorem for_loop {β : Type} {A : Around} {target : Expr} {body : List Stmt} {I : Addr} {fp wr : List Addr} {items : List β} {bind : β → List (Str × AV) → List (Str × AV)} {St : Nat → Heap → Prop} {loc : Prop} {f : FlowA} {s₀ : Heap} {ρ₀ : List Addr} {R : Result → Shared → Prop}
    (T : Turn G env A target I s₁.heap ρ₁ fp wr items bind St loc) (Rm : Room A d) (S : StG G σ ρ₁ s₁) (L : StL G env Γ ρ₁ s₁.heap) (off : ∀ b ∈ fp, b ∉ ρ₁) (hw : ∀ b ∈ wr, s₀.get? b = none) (hb : ∀ b o, G.h₀.get? b = some o → s₀.get? b = some o) (x₀ : ExtB env s₀ ρ₀ ρ₁ s₁.heap) (st : St 0 s₁.heap)
    (F : FR G env d body bind items Γ σ f Γ₂ σ₂)
    (hQ : ∀ fl s' ρ', StG G σ₂ ρ' s' → StL G env Γ₂ ρ' s'.heap → ExtB env s₀ ρ₀ ρ' s'.heap → FRep s'.heap ρ' fl f → R (.ok fl) s') :
    codeAny (model G.prog G.w) A (.forLoop target (.ref I) body [] env) R s₁ := by
  have hnew : ∀ b ∈ wr, G.h₀.get? b = none := fun b hm => by
    cases e : G.h₀.get? b with
    | none => rfl
    | some o => have := hb b o e; rw [hw b hm] at this; cases this
  refine codeAny_forLoop_any (fun n s' => ∃ i ρ' Γ' σ', n + i = items.length ∧ FR G env d body bind (items.drop i) Γ' σ' f Γ₂ σ₂ ∧ StG G σ' ρ' s' ∧ StL G env Γ' ρ' s'.heap ∧ St i s'.heap ∧ (∀ b ∈ fp, b ∉ ρ') ∧ TupKeep s₁.heap s'.heap ∧ Pre ρ₁ ρ' ∧ ExtB env s₀ ρ₀ ρ' s'.heap) ?_ items.length
    ⟨0, ρ₁, Γ, σ, rfl, F, S, L, st, off, fun _ _ h => h, Pre.refl _, x₀⟩
  rintro n s' ⟨i, ρ', Γ', σ', hn, F', S', L', st', off', tk', p', x'⟩
  cases hd : items.drop i with
  | nil =>
    rw [hd] at F'
    cases F'
    have hi : i = items.length := by have := List.drop_eq_nil_iff.mp hd; lia
    subst hi
    refine wpAny_mono (T.done s' (fun s₂ => StG G σ₂ ρ' s₂ ∧ StL G env Γ₂ ρ' s₂.heap ∧ ExtB env s₀ ρ₀ ρ' s₂.heap) _ st' fun h' tk hkp => ?_) (fun r s₂ hr => ?_) fun _ _ e => e
    · obtain ⟨S₂, L₂, _⟩ := stepped (St := St) (i := items.length) (fun b hb => T.kinds _ _ b st' hb) T.sub S' L' ⟨off', hnew⟩ (tk := tk) hkp
      exact ⟨S₂, L₂, ⟨x'.pre, x'.new, fun b o h1 h2 h3 e => hkp b o (fun hm => by rw [hw b hm] at e; cases e) (x'.keep b o h1 h2 h3 e)⟩⟩
    · obtain ⟨rfl, S₂, L₂, x₂⟩ := hr
      exact wpAny_execs_nil (hQ .next s₂ ρ' S₂ L₂ x₂ trivial)
  | cons b bs =>
    rw [hd] at F'
    have hib : items[i]? = some b := by have := congrArg (·[0]?) hd; simpa using this
    have hbs : items.drop (i + 1) = bs := by rw [← List.drop_drop, hd]; rfl
    have hlt : i < items.length := (List.getElem?_eq_some_iff.mp hib).1
    refine wpAny_mono (T.item i b s' σ' ρ' Γ' (fun s₂ => wpAny (model G.prog G.w) A (execs body env) (fun fl0 s₃ => match fl0 with
            | .next | .cont => ∃ m, m < n ∧ ∃ i ρ' Γ' σ', m + i = items.length ∧ FR G env d body bind (items.drop i) Γ' σ' f Γ₂ σ₂ ∧ StG G σ' ρ' s₃ ∧ StL G env Γ' ρ' s₃.heap ∧ St i s₃.heap ∧ (∀ b ∈ fp, b ∉ ρ') ∧ TupKeep s₁.heap s₃.heap ∧ Pre ρ₁ ρ' ∧ ExtB env s₀ ρ₀ ρ' s₃.heap
            | .brk => R (.ok .next) s₃
            | .ret v => R (.ok (.ret v)) s₃) (notedBy (model G.prog G.w) A env fun e s' => R (.error e) s') s₂) (notedBy (model G.prog G.w) A env fun e s' => R (.error e) s') hib st' S' L' tk' p' ⟨off', hnew⟩ fun s₂ S₂ L₂ st₂ mv => ?_) (fun r s₂ hr => ?_) fun _ _ e => e
    · have x₂ : ExtB env s₀ ρ₀ ρ' s₂.heap := ⟨x'.pre, x'.new, fun b o h1 h2 h3 e => mv.keep b o (fun hm => by rw [hw b hm] at e; cases e) h2 h3 (x'.keep b o h1 h2 h3 e)⟩
      have next : ∀ {Γ₃ σ₃ s₃ ρ₃}, FR G env d body bind bs Γ₃ σ₃ f Γ₂ σ₂ → StG G σ₃ ρ₃ s₃ → StL G env Γ₃ ρ₃ s₃.heap → ExtS env ρ' ρ₃ s₂.heap s₃.heap →
          ∃ m, m < n ∧ ∃ i ρ' Γ' σ', m + i = items.length ∧ FR G env d body bind (items.drop i) Γ' σ' f Γ₂ σ₂ ∧ StG G σ' ρ' s₃ ∧ StL G env Γ' ρ' s₃.heap ∧ St i s₃.heap ∧ (∀ b ∈ fp, b ∉ ρ') ∧ TupKeep s₁.heap s₃.heap ∧ Pre ρ₁ ρ' ∧ ExtB env s₀ ρ₀ ρ' s₃.heap := by
        intro Γ₃ σ₃ s₃ ρ₃ F₃ S₃ L₃ x₃
        have tk₃ := x₃.tup (fun a vs ht => S₂.tup ht) L₂
        refine ⟨n - 1, by lia, i + 1, ρ₃, Γ₃, σ₃, by lia, hbs ▸ F₃, S₃, L₃, T.frame _ _ _ st₂ fun c hc o e => ?_, fun c hc hm => ?_, fun a vs ht => tk₃ a vs (mv.tup a vs (tk' a vs ht)), p'.trans x₃.pre, ⟨x₂.pre.trans x₃.pre, fun a ha => ?_, fun b o h1 h2 h3 e => ?_⟩⟩
        · obtain ⟨o', e', k1, k2, _⟩ := T.kinds _ _ c st₂ hc
          obtain ⟨q1, q2⟩ := kinds_off L₂ ⟨o', e', k1, k2⟩
          exact x₃.keep c o (off' c hc) q1 q2 e
        · rcases x₃.new c hm with q | q
          · exact off' c hc q
          · obtain ⟨o', e', _⟩ := T.kinds _ _ c st₂ hc
            rw [q] at e'; cases e'
        · rcases x₃.new a ha with q | q
          · exact x₂.new a q
          · by_cases hm : a ∈ ρ₀
            · exact .inl hm
            · cases e : s₀.get? a with
              | none => exact .inr rfl
              | some o =>
                exfalso
                by_cases hL : a = env.locals
                · exact L₃.offL (hL ▸ ha)
                · by_cases hc : ∃ y, env.cells.lookup y = some a
                  · obtain ⟨y, hy⟩ := hc; exact (L₃.offC y a hy).1 ha
                  · have := x₂.keep a o hm hL (fun y hy => hc ⟨y, hy⟩) e
                    rw [q] at this; cases this
        · by_cases hm : b ∈ ρ'
          · rcases x₂.new b hm with q | q
            · exact absurd q h1
            · rw [q] at e; cases e
          · exact x₃.keep b o hm h2 h3 (x₂.keep b o h1 h2 h3 e)
      cases F' with
      | step hb hg hr =>
        refine hb A s₂ ρ' _ _ Rm S₂ L₂ fun fl s₃ ρ₃ S₃ L₃ x₃ r₃ => ?_
        have := next hr S₃ L₃ x₃
        rcases hg with rfl | rfl <;> cases fl <;> first | exact r₃.elim | exact this
      | back hb =>
        refine hb A s₂ ρ' _ _ Rm S₂ L₂ fun fl s₃ ρ₃ S₃ L₃ x₃ r₃ => ?_
        cases fl with
        | ret cv =>
          refine hQ (.ret cv) s₃ ρ₃ S₃ L₃ ⟨x₂.pre.trans x₃.pre, fun a ha => ?_, fun b o h1 h2 h3 e => ?_⟩ r₃
          · rcases x₃.new a ha with q | q
            · exact x₂.new a q
            · by_cases hm : a ∈ ρ₀
              · exact .inl hm
              · cases e : s₀.get? a with
                | none => exact .inr rfl
                | some o =>
                  exfalso
                  by_cases hL : a = env.locals
                  · exact L₃.offL (hL ▸ ha)
                  · by_cases hc : ∃ y, env.cells.lookup y = some a
                    · obtain ⟨y, hy⟩ := hc; exact (L₃.offC y a hy).1 ha
                    · have := x₂.keep a o hm hL (fun y hy => hc ⟨y, hy⟩) e
                      rw [q] at this; cases this
          · by_cases hm : b ∈ ρ'
            · rcases x₂.new b hm with q | q
              · exact absurd q h1
              · rw [q] at e; cases e
            · exact x₃.keep b o hm h2 h3 (x₂.keep b o h1 h2 h3 e)
        | _ => exact r₃.elim
    · cases r with
      | none => exact hr.elim
      | some v => exact hr

/-- an iterable, evaluated and asked for its iterator -/
noncomputable def ItJ (G : Glo) (env : Env) (d : Nat) (Γ : List (Str × AV)) (σ : List AObj) (t : Sem Value) (items : List AV) (σ₁ : List AObj) : Prop :=
  ∀ (A : Around) (s : Shared) (ρ : List Addr) (Q : Value → Shared → Prop) (E : Value → Shared → Prop), Room A d → StG G σ ρ s → StL G env Γ ρ s.heap →
    (∀ I fp wr St s₁ ρ₁, Iters G A I s₁.heap ρ₁ fp wr items St → St 0 s₁.heap → StG G σ₁ ρ₁ s₁ → Ext ρ ρ₁ s.heap s₁.heap → (∀ b ∈ fp, b ∉ ρ₁) → (∀ b ∈ wr, s.heap.get? b = none) → Q (.ref I) s₁) →
    wpAny (model G.prog G.w) A t (fun x s₁ => wpAny (model G.prog G.w) A (pyIter x) Q E s₁) E s
noncomputable def ItT (G : Glo) (env : Env) (d : Nat) (Γ : List (Str × AV)) (σ : List AObj) (t : Sem Value) (target : Expr) {β : Type} (items : List β) (bind : β → List (Str × AV) → List (Str × AV)) (σ₁ : List AObj) : Prop :=
  ∀ (A : Around) (s : Shared) (ρ : List Addr) (Q : Value → Shared → Prop) (E : Value → Shared → Prop), Room A d → StG G σ ρ s → StL G env Γ ρ s.heap →
    (∀ I fp wr St loc s₁ ρ₁, Turn G env A target I s₁.heap ρ₁ fp wr items bind St loc → St 0 s₁.heap → StG G σ₁ ρ₁ s₁ → Ext ρ ρ₁ s.heap s₁.heap → (∀ b ∈ fp, b ∉ ρ₁) → (∀ b ∈ wr, s.heap.get? b = none) → Q (.ref I) s₁) →
    wpAny (model G.prog G.w) A t (fun x s₁ => wpAny (model G.prog G.w) A (pyIter x) Q E s₁) E s

theorem ItJ.name {t : Sem Value} {items : List AV} {x : Str} {px : Pos} (h : ItJ G env d Γ σ t items σ₁) (hx : env.kindOf x = some .local ∨ env.kindOf x = some .cell := by first | exact .inl rfl | exact .inr rfl) :
    ItT G env d Γ σ t (.Name x px) items (fun b Γ => upd Γ x b) σ₁ := fun A s ρ Q E R S L hQ =>
  h A s ρ Q E R S L fun I fp wr St s₁ ρ₁ W st S₁ x₁ off hw => hQ I fp wr St _ s₁ ρ₁ (Turn.name W hx) st S₁ x₁ off hw
theorem ItJ.pair {t : Sem Value} {items : List (AV × AV)} {x y : Str} {px py pt : Pos} {kt : Nat} (h : ItJ G env d Γ σ t (items.map fun p => .tup [p.1, p.2]) σ₁) (hx : env.kindOf x = some .local ∨ env.kindOf x = some .cell := by first | exact .inl rfl | exact .inr rfl)
    (hy : env.kindOf y = some .local ∨ env.kindOf y = some .cell := by first | exact .inl rfl | exact .inr rfl) :
    ItT G env d Γ σ t (.Tuple [.Name x px, .Name y py] kt pt) items (fun b Γ => upd (upd Γ x b.1) y b.2) σ₁ := fun A s ρ Q E R S L hQ =>
  h A s ρ Q E R S L fun I fp wr St s₁ ρ₁ W st S₁ x₁ off hw => hQ I fp wr St _ s₁ ρ₁ (Turn.pair R.handled W hx hy) st S₁ x₁ off hw

theorem SJ.for {β : Type} {target iter : Expr} {body : List Stmt} {pos : Pos} {items : List β} {bind : β → List (Str × AV) → List (Str × AV)} {f : FlowA} (h1 : ItT G env d Γ σ (eval iter env) target items bind σ₁) (h2 : FR G env d body bind items Γ σ₁ f Γ₂ σ₂)
    (hs : ∀ x, foldedSetIterable iter env x = pure x := by intro _; rfl) : SJ G env d Γ σ (exec (.For target iter body [] pos) env) f Γ₂ σ₂ := fun A s ρ Q E R S L hQ =>
  wpAny_For (h1 A s ρ _ E R S L fun I fp wr St loc s₁ ρ₁ T st S₁ x₁ off hw => for_loop T R S₁ (L.keep S x₁) off hw S.base ⟨x₁.pre, x₁.new, fun b o h1 _ _ e => x₁.keep b o h1 e⟩ st h2
    fun fl s' ρ' S' L' x' r => hQ fl s' ρ' S' L' (x'.toS S' L') r) hs

theorem get_push_ne {h : Heap} {o o' : Obj} {b : Addr} (e : h.get? b = some o) : (h.push o').get? b = some o := Heap.get?_push_of_some _ e

theorem ItJ.list {t : Sem Value} {items : List AV} (h1 : EJ G env d Γ σ t (.ref σ₁.length) (σ₁ ++ [AObj.list items])) (hl : AV.lts σ₁.length items = true) (hc : (∀ o ∈ σ, o.lt σ.length = true) → ∀ o ∈ σ₁, o.lt σ₁.length = true := by exact fun h => h) (hle : σ.length ≤ σ₁.length := by exact Nat.le_refl _) : ItJ G env d Γ σ t items σ₁ := fun A s ρ Q E R S L hQ => by
  refine h1 A s ρ _ E R S L fun cv s₁ ρ₁ S₁ x₁ r₁ => ?_
  obtain ⟨a, vs, n, rfl, ea, ho, q⟩ := list_at (l := items) S₁ (by simp) r₁
  have S₂ := S₁.drop (hc fun o ho => S.closed o ho)
  have p : ∀ (i : Nat) (a : Addr), i < σ₁.length → ρ₁[i]? = some a → (ρ₁.take σ₁.length)[i]? = some a := fun i a hi e => by rw [List.getElem?_take_of_lt hi]; exact e
  have q₂ : RepL s₁.heap (ρ₁.take σ₁.length) vs items := q.rest p hl
  refine wpAny_pyIter_list ⟨_, ho, rfl, n, rfl⟩ ?_
  have hne : a ≠ s₁.heap.objs.size := Nat.ne_of_lt (Heap.lt_size ho)
  have k : ∀ b o, s₁.heap.get? b = some o → (s₁.heap.push { cls := .type "list_iterator", data := .fields #[.ref a, .int 0 0] }).get? b = some o := fun b o e => get_push_ne e
  refine hQ _ [s₁.heap.objs.size, a] [s₁.heap.objs.size] _ _ (ρ₁.take σ₁.length) (Iters.list (n := 0) R.handled hne (q₂.mono (S₂.tupKeep (KeepX.of_all k)) (Pre.refl _))) ⟨⟨_, Heap.get?_push_size _ rfl, rfl, rfl⟩, ⟨_, get_push_ne ho, rfl, n, rfl⟩⟩
    (S₂.ext (s' := { s₁ with heap := _ }) k rfl rfl) ⟨fun i b e => ?_, fun b hb => x₁.new b (List.mem_of_mem_take hb), fun b o hb e => k b o (x₁.keep b o hb e)⟩ (fun b hb => ?_) (fun b hb => ?_)
  · have hi : i < ρ.length := (List.getElem?_eq_some_iff.mp e).1
    rw [S.len] at hi
    exact p i b (Nat.lt_of_lt_of_le hi hle) (x₁.pre i b e)
  · rcases List.mem_cons.mp hb with rfl | hb
    · intro hm; exact Nat.lt_irrefl _ (S₂.lt hm)
    · rw [List.mem_singleton.mp hb]
      intro hm
      obtain ⟨j, hj⟩ := List.mem_iff_getElem?.mp hm
      have hjl : j < σ₁.length := by
        have := (List.getElem?_eq_some_iff.mp hj).1
        rw [List.length_take] at this; lia
      rw [List.getElem?_take_of_lt hjl] at hj
      have := S₁.idx hj ea
      lia
  · rw [List.mem_singleton.mp hb]
    cases e : s.heap.get? s₁.heap.objs.size with
    | none => rfl
    | some o =>
      exfalso
      by_cases hm : s₁.heap.objs.size ∈ ρ
      · exact Nat.lt_irrefl _ (S₁.lt (x₁.pre.mem hm))
      · exact Nat.lt_irrefl _ (Heap.lt_size (x₁.keep _ o hm e))

theorem new_size (S₁ : StG G σ₁ ρ₁ s₁) (x₁ : Ext ρ ρ₁ s.heap s₁.heap) {b : Addr} (hb : s₁.heap.objs.size ≤ b) : s.heap.get? b = none := by
  cases e : s.heap.get? b with
  | none => rfl
  | some o =>
    exfalso
    by_cases hm : b ∈ ρ
    · exact Nat.lt_irrefl _ (Nat.lt_of_lt_of_le (S₁.lt (x₁.pre.mem hm)) hb)
    · exact Nat.lt_irrefl _ (Nat.lt_of_lt_of_le (Heap.lt_size (x₁.keep _ o hm e)) hb)

theorem ItJ.tuple {t : Sem Value} {items : List AV} (h1 : EJ G env d Γ σ t (.tup items) σ₁) : ItJ G env d Γ σ t items σ₁ := fun A s ρ Q E R S L hQ => by
  refine h1 A s ρ _ E R S L fun cv s₁ ρ₁ S₁ x₁ r₁ => ?_
  obtain ⟨a, vs, rfl, ht, q⟩ := Rep.tup_ r₁
  have ht' := ht
  obtain ⟨o, ho, hc, n, hd⟩ := ht
  refine wpAny_pyIter_tuple ⟨o, ho, hc, n, hd⟩ ?_
  have hne : a ≠ s₁.heap.objs.size := Nat.ne_of_lt (Heap.lt_size ho)
  have k : ∀ b o, s₁.heap.get? b = some o → (s₁.heap.push { cls := .type "tuple_iterator", data := .fields #[.ref a, .int 0 0] }).get? b = some o := fun b o e => get_push_ne e
  refine hQ _ [s₁.heap.objs.size, a] [s₁.heap.objs.size] _ _ ρ₁ (Iters.tuple R.handled hne (q.mono (S₁.tupKeep (KeepX.of_all k)) (Pre.refl _))) ⟨⟨_, Heap.get?_push_size _ rfl, rfl, rfl⟩, ⟨_, get_push_ne ho, hc, n, hd⟩⟩
    (S₁.ext (s' := { s₁ with heap := _ }) k rfl rfl) (x₁.trans (Ext.of_all k)) (fun b hb => ?_) (fun b hb => ?_)
  · rcases List.mem_cons.mp hb with rfl | hb
    · intro hm; exact Nat.lt_irrefl _ (S₁.lt hm)
    · rw [List.mem_singleton.mp hb]; exact S₁.tup ht'
  · rw [List.mem_singleton.mp hb]; exact new_size S₁ x₁ (Nat.le_refl _)
end
end Mine
end
section
open PySem PySem.W PyProof.Rows
set_option linter.unusedVariables false
set_option linter.unusedSimpArgs false
namespace Mine
section
variable {G : Glo} {env : Env} {d : Nat} {Γ Γ' Γ₁ Γ₂ : List (Str × AV)} {σ σ' σ₁ σ₂ σ₃ : List AObj} {ρ ρ' ρ₁ ρ₂ ρ₃ : List Addr} {s s' s₁ : Shared} {h h' h₁ h₂ h₃ : Heap}

noncomputable abbrev testsOf (ifs : List Expr) (env : Env) : Sem Bool := forIn ifs true fun c r => if r = true then do let ok ← isTrue c env (eval c env); pure (ForInStep.yield ok) else pure (ForInStep.yield r)

theorem compLoop_gen {prog : Program} {w : World} {A : Around} {s : Shared} {elt target iter : Expr} {ifs : List Expr} {scope : Scope} {pos : Pos} {it acc : Value} {env : Env} {R : Result → Shared → Prop} (I : Nat → Shared → Prop)
    (turn : ∀ n s, I n s → wpAny (model prog w) A (pyNext it) (fun r s₁ => match r with
      | none => R (.ok .next) s₁
      | some v => wpAny (model prog w) A (letOwnedTupleGo target it v) (fun _ s₁' => wpAny (model prog w) A (assign target env v) (fun _ s₂ =>
          wpAny (model prog w) A (testsOf ifs env) (fun ok s₃ =>
            if ok = true then wpAny (model prog w) A (eval elt env) (fun x s₄ =>
              wpAny (model prog w) A (call (.builtin "list.append") [acc, x]) (fun _ s₅ => ∃ m, m < n ∧ I m s₅) (notedBy (model prog w) A env fun e s' => R (.error e) s') s₄) (notedBy (model prog w) A env fun e s' => R (.error e) s') s₃
            else ∃ m, m < n ∧ I m s₃) (notedBy (model prog w) A env fun e s' => R (.error e) s') s₂) (notedBy (model prog w) A env fun e s' => R (.error e) s') s₁') (notedBy (model prog w) A env fun e s' => R (.error e) s') s₁) (notedBy (model prog w) A env fun e s' => R (.error e) s') s)
    (n : Nat) (h : I n s) : codeAny (model prog w) A (.compLoop (.ListComp elt [⟨target, iter, ifs, 0⟩] scope pos) 0 it acc env) R s := by
  refine codeAny_loop rfl I (fun n s hI => ?_) n h
  show wpAny _ A ((compTurn (.ListComp elt [⟨target, iter, ifs, 0⟩] scope pos) 0 it acc env).onRaise (fun x => do noteFrame x env; theTreesLotGoes x)) _ _ s
  refine wpAny_noted ?_
  rw [compTurn_list]
  refine wpAny_bind (wpAny_standAt (wpAny_bind (wpAny_mono (turn n s hI) (fun r s₁ h₁ => ?_) fun _ _ h' => h')))
  cases r with
  | none => exact wpAny_pure h₁
  | some v =>
    refine wpAny_bind (wpAny_mono h₁ (fun _ s₁' h₁' => ?_) fun _ _ h' => h')
    refine wpAny_bind (wpAny_mono h₁' (fun _ s₂ h₂ => wpAny_bind (wpAny_mono h₂ (fun ok s₃ h₃ => ?_) fun _ _ h' => h')) fun _ _ h' => h')
    cases ok with
    | false => exact wpAny_pure ⟨rfl, h₃⟩
    | true =>
      exact wpAny_bind (wpAny_bind (wpAny_mono h₃ (fun x s₄ h₄ => wpAny_bind (wpAny_mono h₄ (fun _ s₅ h₅ => wpAny_pure (wpAny_pure ⟨rfl, h₅⟩)) fun _ _ h' => h')) fun _ _ h' => h'))

noncomputable def TsJ (G : Glo) (env : Env) (d : Nat) (Γ : List (Str × AV)) (σ : List AObj) (ifs : List Expr) (b : Bool) : Prop :=
  ∀ (A : Around) (s : Shared) (ρ : List Addr) (Q : Bool → Shared → Prop) (E : Value → Shared → Prop), Room A d → StG G σ ρ s → StL G env Γ ρ s.heap →
    (∀ s' ρ', StG G σ ρ' s' → Ext ρ ρ' s.heap s'.heap → Q b s') → wpAny (model G.prog G.w) A (testsOf ifs env) Q E s
theorem TsJ.nil : TsJ G env d Γ σ [] true := fun A s ρ Q E R S L h => wpAny_tests_nil (h s ρ S (Ext.refl _ _))
theorem TsJ.one {c : Expr} {b : Bool} (h1 : TJ G env d Γ σ (isTrue c env (eval c env)) b σ) : TsJ G env d Γ σ [c] b := fun A s ρ Q E R S L h =>
  wpAny_tests_one (h1 A s ρ Q E R S L h)

/-- what a comprehension's own frame sees -/
structure CompOk (env : Env) (scope : Scope) (cl : List (Str × Addr)) (Γ Γc : List (Str × AV)) : Prop where
  clos : closureFor scope env = pure cl
  kind : scope.kind = .function
  nocell : (scope.names.all fun y => y.2 != .cell) = true
  names : ∀ x ∈ scope.names, x.2 = .local → scope.names.lookup x.1 = some .local
  cells : ∀ x c, cl.lookup x = some c → env.cells.lookup x = some c
  has : ∀ x, (compEnvC scope cl 0 env).kindOf x = some .cell ∨ (compEnvC scope cl 0 env).kindOf x = some .free → ∃ c, cl.lookup x = some c
  vals : ∀ p ∈ Γc, Γ.lookup p.1 = some p.2 ∧ env.kindOf p.1 ≠ some .local ∧ (compEnvC scope cl 0 env).kindOf p.1 ≠ some .local

theorem CompOk.frame {scope : Scope} {cl : List (Str × Addr)} {Γc : List (Str × AV)} {C : Addr} {m : Str → Option Value} (X : CompOk env scope cl Γ Γc) (L : StL G env Γ ρ h) (hn : h.Ns C m) (hC : C ∉ ρ) (hL : C ≠ env.locals) (hc : ∀ y, env.cells.lookup y ≠ some C) (h0 : G.h₀.get? C = none) :
    StL G (compEnvC scope cl C env) Γc ρ h := by
  refine ⟨X.kind, L.glob, L.blt, ⟨m, hn, fun y v hk hv => ?_⟩, fun y c hy => ?_, fun y hy => X.has y hy, hC, fun y c hy => ⟨(L.offC y c (X.cells y c hy)).1, fun e => hc y ((show c = C from e) ▸ X.cells y c hy)⟩, h0, fun y c hy => L.newC y c (X.cells y c hy), fun y z c hy hz => L.apart y z c (X.cells y c hy) (X.cells z c hz)⟩
  · exact absurd hk (X.vals _ (mem_of_lookup hv)).2.2
  · obtain ⟨ov, hcell, hh⟩ := L.cell y c (X.cells y c hy)
    refine ⟨ov, hcell, fun v hk hv => ?_⟩
    have q := X.vals _ (mem_of_lookup hv)
    exact hh v q.2.1 q.1

structure CInv (G : Glo) (env cenv : Env) (Γ Γc : List (Str × AV)) (σ : List AObj) (St : Nat → Heap → Prop) (fp wr : List Addr) (h₁ : Heap) (ρ₁ : List Addr) (s₀ : Heap) (ρ₀ : List Addr) (D : Addr) (outs : List AV) (i : Nat) (ρ' : List Addr) (s' : Shared) : Prop where
  S : StG G σ ρ' s'
  L : StL G env Γ ρ' s'.heap
  C : StL G cenv Γc ρ' s'.heap
  st : St i s'.heap
  off : ∀ b ∈ fp, b ∉ ρ'
  tk : TupKeep h₁ s'.heap
  p : Pre ρ₁ ρ'
  pre : Pre ρ₀ ρ'
  new : ∀ a ∈ ρ', a ∈ ρ₀ ∨ s₀.get? a = none
  keep : ∀ b o, b ∉ ρ₀ → s₀.get? b = some o → s'.heap.get? b = some o
  acc : ∃ ys, s'.heap.PlainList D ys ∧ RepL s'.heap ρ' ys.toList outs
  dn : D ∉ ρ'

/-- an iterable, in one state -/
noncomputable def ItAt (G : Glo) (env : Env) (σ : List AObj) (A : Around) (s : Shared) (ρ : List Addr) (t : Sem Value) (items : List AV) : Prop :=
  ∀ (Q : Value → Shared → Prop) (E : Value → Shared → Prop),
    (∀ I fp wr St s₁ ρ₁, Iters G A I s₁.heap ρ₁ fp wr items St → St 0 s₁.heap → StG G σ ρ₁ s₁ → Ext ρ ρ₁ s.heap s₁.heap → (∀ b ∈ fp, b ∉ ρ₁) → (∀ b ∈ wr, s.heap.get? b = none) → Q (.ref I) s₁) →
    wpAny (model G.prog G.w) A t (fun x s₁ => wpAny (model G.prog G.w) A (pyIter x) Q E s₁) E s

theorem StL.grow (L : StL G env Γ ρ h) {D : Addr} (h1 : D ≠ env.locals) (h2 : ∀ y, env.cells.lookup y ≠ some D) : StL G env Γ (ρ ++ [D]) h := by
  obtain ⟨m, hn, hm⟩ := L.ns
  refine ⟨L.kind, L.glob, L.blt, ⟨m, hn, fun y v hk hv => ?_⟩, fun y c hc => ?_, L.has, fun hm' => ?_, fun y c hc => ⟨fun hm' => ?_, (L.offC y c hc).2⟩, L.newL, L.newC, L.apart⟩
  · obtain ⟨cv, e, r⟩ := hm y v hk hv
    exact ⟨cv, e, r.mono (fun _ _ h => h) (Pre.append _ _)⟩
  · obtain ⟨ov, hcell, hh⟩ := L.cell y c hc
    refine ⟨ov, hcell, fun v hk hv => ?_⟩
    obtain ⟨cv, e, r⟩ := hh v hk hv
    exact ⟨cv, e, r.mono (fun _ _ h => h) (Pre.append _ _)⟩
  · rcases List.mem_append.mp hm' with q | q
    · exact L.offL q
    · exact h1 (List.mem_singleton.mp q).symm
  · rcases List.mem_append.mp hm' with q | q
    · exact (L.offC y c hc).1 q
    · exact h2 y (List.mem_singleton.mp q ▸ hc)

/-- the comprehension's frame at its end -/
structure CFr (G : Glo) (env : Env) (ρ' : List Addr) (h₀ h' : Heap) (C : Addr) : Prop where
  ns : ∃ m, h'.Ns C m
  off : C ∉ ρ'
  new0 : G.h₀.get? C = none
  new : h₀.get? C = none
  nL : C ≠ env.locals
  nc : ∀ y, env.cells.lookup y ≠ some C

noncomputable def TurnAt (G : Glo) (env : Env) (σ : List AObj) (A : Around) (s : Shared) (ρ : List Addr) (t : Sem Value) (scope : Scope) (cl : List (Str × Addr)) (target : Expr) {β : Type} (bs : List β) (bind : β → List (Str × AV) → List (Str × AV)) : Prop :=
  ∀ (Q : Value → Shared → Prop) (E : Value → Shared → Prop),
    (∀ I fp wr St s₁ ρ₁, (∀ C, ∃ loc, Turn G (compEnvC scope cl C env) A target I s₁.heap ρ₁ fp wr bs bind St loc ∧ loc) → (∀ i (s : Shared) (Q : Value → Shared → Prop) (E : Value → Shared → Prop), St i s.heap → Q (.ref I) s → wpAny (model G.prog G.w) A (pyIter (.ref I)) Q E s) →
      St 0 s₁.heap → StG G σ ρ₁ s₁ → Ext ρ ρ₁ s.heap s₁.heap → (∀ b ∈ fp, b ∉ ρ₁) → (∀ b ∈ wr, s.heap.get? b = none) → Q (.ref I) s₁) →
    wpAny (model G.prog G.w) A t (fun x s₁ => wpAny (model G.prog G.w) A (pyIter x) Q E s₁) E s
theorem TurnAt.of {A : Around} {β : Type} {t : Sem Value} {items : List AV} {target : Expr} {scope : Scope} {cl : List (Str × Addr)} {bs : List β} {bind : β → List (Str × AV) → List (Str × AV)} (hh : A.handled = none) (h1 : ItAt G env σ A s ρ t items)
    (hT : ∀ A I h₁ ρ₁ fp wr St C, A.handled = none → Iters G A I h₁ ρ₁ fp wr items St → ∃ loc, Turn G (compEnvC scope cl C env) A target I h₁ ρ₁ fp wr bs bind St loc ∧ loc) : TurnAt G env σ A s ρ t scope cl target bs bind := fun Q E h =>
  h1 Q E fun I fp wr St s₁ ρ₁ W st S₁ x₁ off hw => by
    obtain ⟨P, W', hP⟩ := W.walks
    exact h I fp wr St s₁ ρ₁ (fun C => hT A I s₁.heap ρ₁ fp wr St C hh W) (fun i s Q E st hq => W'.self i s Q E st hq) st S₁ x₁ off hw

theorem compGen {β : Type} {elt iter target : Expr} {ifs : List Expr} {scope : Scope} {cl : List (Str × Addr)} {pos pp : Pos} {bs : List β} {bind : β → List (Str × AV) → List (Str × AV)} {p : β → Bool} {F : β → AV} {Γc : List (Str × AV)}
    {A : Around} {s : Shared} {ρ : List Addr} {Q : Value → Shared → Prop} {E : Value → Shared → Prop} {use : Option (Value → Sem Unit)} (R : Room A d) (S : StG G σ ρ s) (L : StL G env Γ ρ s.heap)
    (h1 : TurnAt G env σ A s ρ (eval iter env) scope cl target bs bind) (X : CompOk env scope cl Γ Γc)
    (hb : ∀ b, ∀ q ∈ Γc, (bind b Γc).lookup q.1 = some q.2)
    (ht : ∀ b ∈ bs, ∀ C, TsJ G (compEnvC scope cl C env) d (bind b Γc) σ ifs (p b))
    (he : ∀ b ∈ bs, p b = true → ∀ C, EJ G (compEnvC scope cl C env) d (bind b Γc) σ (eval elt (compEnvC scope cl C env)) (F b) σ)
    (hl : bs.length ≤ 100000)
    (hQ : ∀ s' ρ' D C, StG G (σ ++ [AObj.list ((bs.filter p).map F)]) ρ' s' → StL G env Γ ρ' s'.heap → Ext ρ ρ' s.heap s'.heap → Rep s'.heap ρ' (.ref D) (.ref σ.length) → CFr G env ρ' s.heap s'.heap C → compPost (model G.prog G.w) A E use Q (.ref D) C (.ok .next) s')
    (hs : ∀ x, foldedSetIterable iter env x = pure x := by intro _; rfl) :
    wpAny (model G.prog G.w) A (comprehension (.ListComp elt [⟨target, iter, ifs, 0⟩] scope pos) scope env pp (newList []) false (eval iter env) use) Q E s := by
  refine wpAny_comprehension_free (use := use) rfl hs X.clos X.kind X.names (h1 _ E fun I fp wr St s₂ ρ₂ hTurn self st S₂ x₂ off hw => ?_)
  obtain ⟨loc0, T0, _⟩ := hTurn 0
  have L₂ := L.keep S x₂
  have hfp : ∀ b ∈ fp, b < s₂.heap.objs.size := fun b hb' => let ⟨o, e, _⟩ := T0.kinds 0 _ b st hb'; Heap.lt_size e
  refine wpAny_newObj_type (wpAny_newFunctionEnv (fun y hy => by simpa using List.all_eq_true.mp X.nocell y hy) (by intro y hy; simp at hy) (fun h₁ hns₁ hsb₁ => ?_) X.kind)
  dsimp only at hns₁ hsb₁ ⊢
  generalize hH2 : s₂.heap.push { cls := .type "list", dict := none, data := .seq ([] : List Value).toArray } = H2 at hns₁ hsb₁ ⊢
  have hC : H2.objs.size = s₂.heap.objs.size + 1 := by rw [← hH2, Heap.size_push]
  generalize hD : s₂.heap.objs.size = D at *
  generalize hCC : H2.objs.size = C at *
  have hDC : D ≠ C := by rw [hC]; exact Nat.ne_of_lt (Nat.lt_succ_self _)
  have below : ∀ b o, s₂.heap.get? b = some o → b ≠ D ∧ b ≠ C := fun b o e => by
    have := Heap.lt_size e
    rw [hD] at this
    exact ⟨Nat.ne_of_lt this, by rw [hC]; exact Nat.ne_of_lt (Nat.lt_succ_of_lt this)⟩
  have old : ∀ b o, s₂.heap.get? b = some o → h₁.get? b = some o := fun b o e => hsb₁.extBut b o (below b o e).2 (Heap.get?_push_of_some _ (hH2 ▸ Heap.get?_push_of_some _ e))
  have hacc : h₁.PlainList D #[] := ⟨_, hsb₁.extBut _ _ hDC (Heap.get?_push_of_some _ (hH2 ▸ hD ▸ Heap.get?_push_size _ rfl))⟩
  have none₂ : ∀ b, D ≤ b → s₂.heap.get? b = none := fun b hb' => by
    cases e : s₂.heap.get? b with
    | none => rfl
    | some o => have := Heap.lt_size e; rw [hD] at this; exact absurd this (Nat.not_lt.mpr hb')
  have hCle : D ≤ C := by rw [hC]; exact Nat.le_succ _
  have none₀ : ∀ b, D ≤ b → s.heap.get? b = none := fun b hb' => new_size S₂ x₂ (hD ▸ hb')
  have h0 : ∀ b, D ≤ b → G.h₀.get? b = none := fun b hb' => S₂.new (none₂ b hb')
  have ρlt : ∀ b ∈ ρ₂, b < D := fun b hb' => hD ▸ S₂.lt hb'
  have S₃ : ∀ tk, StG G σ ρ₂ { s₂ with heap := h₁, toks := tk } := fun tk => S₂.ext (s' := { s₂ with heap := h₁, toks := tk }) old rfl rfl
  have tk₁ := S₂.tupKeep (KeepX.of_all (ρ := ρ₂) old)
  have L₃ : StL G env Γ ρ₂ h₁ := L₂.at (fun o e => old _ o e) (fun _ _ o _ e => old _ o e) tk₁
  have cL : C ≠ env.locals := fun e => by
    obtain ⟨m, ⟨o, _, _, e', _⟩, _⟩ := L₂.ns
    exact (below _ o e').2 e.symm
  have cc : ∀ y, env.cells.lookup y ≠ some C := fun y e => by
    obtain ⟨ov, ⟨o, e', _⟩, _⟩ := L₂.cell y C e
    exact (below _ o e').2 rfl
  have dL : D ≠ env.locals := fun e => by
    obtain ⟨m, ⟨o, _, _, e', _⟩, _⟩ := L₂.ns
    exact (below _ o e').1 e.symm
  have dc : ∀ y, env.cells.lookup y ≠ some D := fun y e => by
    obtain ⟨ov, ⟨o, e', _⟩, _⟩ := L₂.cell y D e
    exact (below _ o e').1 rfl
  have C₃ : StL G (compEnvC scope cl C env) Γc ρ₂ h₁ := X.frame L₃ hns₁ (fun hm => absurd (ρlt C hm) (Nat.not_lt.mpr hCle)) cL cc (h0 C hCle)
  have st₁ : St 0 h₁ := T0.frame _ _ _ st fun b _ o e => old b o e
  obtain ⟨loc, T, hloc⟩ := hTurn C
  have hnew : ∀ b ∈ wr, G.h₀.get? b = none := fun b hm => by
    cases e : G.h₀.get? b with
    | none => rfl
    | some o => have := S.base b o e; rw [hw b hm] at this; cases this
  have Df : D ∉ fp := fun hm => by exact Nat.lt_irrefl _ (hfp _ hm)
  have Cf : C ∉ fp := fun hm => by exact absurd (hfp _ hm) (Nat.not_lt.mpr hCle)
  have loop : ∀ s₃ : Shared, (∃ tk, s₃ = { s₂ with heap := h₁, toks := tk }) →
      codeAny (model G.prog G.w) A (.compLoop (.ListComp elt [⟨target, iter, ifs, 0⟩] scope pos) 0 (.ref I) (.ref D) (compEnvC scope cl C env)) (compPost (model G.prog G.w) A E use Q (.ref D) C) s₃ := by
    rintro s₃ ⟨tk, rfl⟩
    refine compLoop_gen (fun n s' => ∃ i ρ', n + i = bs.length ∧ CInv G env (compEnvC scope cl C env) Γ Γc σ St fp wr s₂.heap ρ₂ s.heap ρ D (((bs.take i).filter p).map F) i ρ' s') ?_ bs.length
      ⟨0, ρ₂, rfl, S₃ tk, L₃, C₃, st₁, off, tk₁, Pre.refl _, x₂.pre, x₂.new, fun b o hb' e => old b o (x₂.keep b o hb' e), ⟨#[], hacc, .nil⟩, fun hm => Nat.lt_irrefl _ (ρlt D hm)⟩
    rintro n s' ⟨i, ρ', hn, V⟩
    by_cases hi : i < bs.length
    · have hib : bs[i]? = some bs[i] := by simp [hi]
      have hmem : bs[i] ∈ bs := List.getElem_mem hi
      refine wpAny_mono (T.item i bs[i] s' σ ρ' Γc (fun s₃ => wpAny (model G.prog G.w) A (testsOf ifs (compEnvC scope cl C env)) (fun ok s₄ =>
            if ok = true then wpAny (model G.prog G.w) A (eval elt (compEnvC scope cl C env)) (fun x s₅ =>
              wpAny (model G.prog G.w) A (call (.builtin "list.append") [.ref D, x]) (fun _ s₆ => ∃ m, m < n ∧ ∃ i ρ', m + i = bs.length ∧ CInv G env (compEnvC scope cl C env) Γ Γc σ St fp wr s₂.heap ρ₂ s.heap ρ D (((bs.take i).filter p).map F) i ρ' s₆) (notedBy (model G.prog G.w) A (compEnvC scope cl C env) fun e s' => compPost (model G.prog G.w) A E use Q (.ref D) C (.error e) s') s₅) (notedBy (model G.prog G.w) A (compEnvC scope cl C env) fun e s' => compPost (model G.prog G.w) A E use Q (.ref D) C (.error e) s') s₄
            else ∃ m, m < n ∧ ∃ i ρ', m + i = bs.length ∧ CInv G env (compEnvC scope cl C env) Γ Γc σ St fp wr s₂.heap ρ₂ s.heap ρ D (((bs.take i).filter p).map F) i ρ' s₄) (notedBy (model G.prog G.w) A (compEnvC scope cl C env) fun e s' => compPost (model G.prog G.w) A E use Q (.ref D) C (.error e) s') s₃) _ hib V.st V.S V.C V.tk V.p ⟨V.off, hnew⟩ fun s₃ S₄ C₄ st₄ mv => ?_) (fun r s₄ hr => ?_) fun _ _ e => e
      · have kL := mv.keepL hloc
        have Dw : D ∉ wr := fun hm => Df (T.sub _ hm)
        -- what stays after a step that keeps all but the ledger
        have L₄ : StL G env Γ ρ' s₃.heap := by
          refine V.L.at (fun o e => kL _ o (fun hm => ?_) (Ne.symm cL) e) (fun y c o hc e => kL _ o (fun hm => ?_) (fun e => cc y ((show c = C from e) ▸ hc)) e) mv.tup
          · obtain ⟨o', e', k1, k2, _⟩ := T.kinds _ _ _ V.st (T.sub _ hm)
            exact (kinds_off V.L ⟨o', e', k1, k2⟩).1 rfl
          · obtain ⟨o', e', k1, k2, _⟩ := T.kinds _ _ _ V.st (T.sub _ hm)
            exact (kinds_off V.L ⟨o', e', k1, k2⟩).2 y hc
        have C₅ : StL G (compEnvC scope cl C env) Γc ρ' s₃.heap := C₄.weaken fun y v hv => hb bs[i] (y, v) (mem_of_lookup hv)
        obtain ⟨ys, hpl, hr⟩ := V.acc
        have V₄ : CInv G env (compEnvC scope cl C env) Γ Γc σ St fp wr s₂.heap ρ₂ s.heap ρ D (((bs.take i).filter p).map F) (i + 1) ρ' s₃ :=
          ⟨S₄, L₄, C₅, st₄, V.off, fun a vs ht => mv.tup a vs (V.tk a vs ht), V.p, V.pre, V.new, fun b o h1 e => kL b o (fun hm => by rw [hw b hm] at e; cases e) (fun q => by rw [show b = C from q, none₀ C hCle] at e; cases e) (V.keep b o h1 e),
            ⟨ys, hpl.at fun o e => kL D o Dw hDC e, hr.mono mv.tup (Pre.refl _)⟩, V.dn⟩
        -- a step of the ledger keeps it all
        have more : ∀ {s₅ ρ₅ s₄ ρ₄}, CInv G env (compEnvC scope cl C env) Γ Γc σ St fp wr s₂.heap ρ₂ s.heap ρ D (((bs.take i).filter p).map F) (i + 1) ρ₄ s₄ → StG G σ ρ₅ s₅ → Ext ρ₄ ρ₅ s₄.heap s₅.heap →
            CInv G env (compEnvC scope cl C env) Γ Γc σ St fp wr s₂.heap ρ₂ s.heap ρ D (((bs.take i).filter p).map F) (i + 1) ρ₅ s₅ := by
          intro s₅ ρ₅ s₄ ρ₄ V S₅ x₅
          have tk₅ := V.S.tupKeep x₅.keep
          obtain ⟨ys, hpl, hr⟩ := V.acc
          refine ⟨S₅, V.L.keep V.S x₅, V.C.keep V.S x₅, T.frame _ _ _ V.st fun c hc o e => x₅.keep c o (V.off c hc) e, fun c hc hm => ?_, fun a vs ht => tk₅ a vs (V.tk a vs ht), V.p.trans x₅.pre, V.pre.trans x₅.pre, fun a ha => ?_, fun b o h1 e => ?_, ⟨ys, hpl.at fun o e => x₅.keep D o V.dn e, hr.mono tk₅ x₅.pre⟩, fun hm => ?_⟩
          · rcases x₅.new c hm with q | q
            · exact V.off c hc q
            · obtain ⟨o', e', _⟩ := T.kinds _ _ c V.st hc
              rw [q] at e'; cases e'
          · rcases x₅.new a ha with q | q
            · exact V.new a q
            · by_cases hm : a ∈ ρ
              · exact .inl hm
              · cases e : s.heap.get? a with
                | none => exact .inr rfl
                | some o => have := V.keep a o hm e; rw [q] at this; cases this
          · by_cases hm : b ∈ ρ₄
            · rcases V.new b hm with q | q
              · exact absurd q h1
              · rw [q] at e; cases e
            · exact x₅.keep b o hm (V.keep b o h1 e)
          · rcases x₅.new D hm with q | q
            · exact V.dn q
            · obtain ⟨n, e⟩ := hpl
              rw [q] at e; cases e
        refine ht bs[i] hmem C A s₃ ρ' _ _ R S₄ C₄ fun s₄ ρ₄ S₅ x₅ => ?_
        have V₅ := more V₄ S₅ x₅
        have htake : bs.take (i + 1) = bs.take i ++ [bs[i]] := by rw [List.take_add_one, hib]; rfl
        cases hp : p bs[i] with
        | false =>
          first | refine PySem.wpAny_ite_false rfl ?_ | simp only [Bool.false_eq_true, if_false]
          refine ⟨n - 1, by lia, i + 1, ρ₄, by lia, ?_⟩
          rw [htake, List.filter_append]
          simp only [List.filter_cons, hp, Bool.false_eq_true, if_false, List.filter_nil, List.append_nil]
          exact V₅
        | true =>
          first | refine PySem.wpAny_ite_true rfl ?_ | simp only [if_true]
          refine he bs[i] hmem hp C A s₄ ρ₄ _ _ R S₅ (C₄.keep S₄ x₅) fun cv s₅ ρ₅ S₆ x₆ r₆ => ?_
          have V₆ := more V₅ S₆ x₆
          obtain ⟨ys, hpl, hr⟩ := V₆.acc
          have hlen := hr.length
          refine wpAny_list_append_plain hpl (fun h₇ hpl' hs₇ => ?_) ?_
          · have k₇ : ∀ b o, b ∉ [D] → s₅.heap.get? b = some o → h₇.get? b = some o := fun b o hb' e => hs₇.extBut b o (by simpa using hb') e
            have notT : ∀ vs, ¬ IsTup s₅.heap D vs := fun vs ⟨o, e, hc, _⟩ => by obtain ⟨n, e'⟩ := hpl; rw [e] at e'; cases e'; exact absurd (Value.type.inj hc) (by decide)
            have tk₇ : TupKeep s₅.heap h₇ := fun a vs hta => by
              have hne : a ≠ D := fun e => notT vs (e ▸ hta)
              obtain ⟨o, e, q⟩ := hta
              exact ⟨o, k₇ a o (by simpa using hne) e, q⟩
            refine ⟨n - 1, by lia, i + 1, ρ₅, by lia, ?_⟩
            rw [htake, List.filter_append]
            simp only [List.filter_cons, hp, if_true, List.filter_nil, List.map_append, List.map_cons, List.map_nil]
            refine ⟨V₆.S.off (s' := { s₅ with heap := h₇ }) k₇ (fun b hb' => by rw [List.mem_singleton.mp hb']; exact ⟨V₆.dn, h0 D (Nat.le_refl _), notT⟩) rfl rfl, V₆.L.at (fun o e => k₇ _ o (by simpa using Ne.symm dL) e) (fun y c o hc e => k₇ _ o (by simp; exact fun e => dc y (e ▸ hc)) e) tk₇,
              V₆.C.at (fun o e => k₇ _ o (by simpa [compEnvC] using Ne.symm hDC) e) (fun y c o hc e => k₇ _ o (by simp; exact fun e => dc y (e ▸ X.cells y c hc)) e) tk₇,
              T.frame _ _ _ V₆.st fun c hc o e => k₇ c o (by simp; exact fun e => Df (e ▸ hc)) e, V₆.off, fun a vs hta => tk₇ a vs (V₆.tk a vs hta), V₆.p, V₆.pre, V₆.new, fun b o h1 e => k₇ b o (by simp; exact fun q => by rw [q, none₀ D (Nat.le_refl _)] at e; cases e) (V₆.keep b o h1 e),
              ⟨ys.push cv, hpl', ?_⟩, V₆.dn⟩
            rw [Array.toList_push]
            exact (hr.mono tk₇ (Pre.refl _)).append (.cons (r₆.mono tk₇ (Pre.refl _)) .nil)
          · have h1 : ys.size = (((bs.take i).filter p).map F).length := by rw [← hlen]; simp
            rw [h1, List.length_map]
            refine Nat.le_trans (List.length_filter_le _ _) (Nat.le_trans ?_ (show 100000 ≤ sizeLine by decide))
            rw [List.length_take]; lia
      · cases r with
        | none => exact hr.elim
        | some v => exact hr
    · have hi' : i = bs.length := by lia
      subst hi'
      refine wpAny_mono (T.done s' (fun s₄ => ∃ h₅ tk₅, s₄ = { s' with heap := h₅, toks := tk₅ } ∧ ∀ b o, b ∉ wr → s'.heap.get? b = some o → h₅.get? b = some o) _ V.st fun h₅ tk₅ hk => ⟨h₅, tk₅, rfl, hk⟩) (fun r s₄ hr => ?_) fun _ _ e => e
      obtain ⟨rfl, h₅, tk₅, rfl, hk⟩ := hr
      obtain ⟨S₅, L₅, t₅⟩ := stepped (St := St) (i := bs.length) (fun b hb => T.kinds _ _ b V.st hb) T.sub V.S V.L ⟨V.off, hnew⟩ (tk := tk₅) hk
      obtain ⟨_, C₅, _⟩ := stepped (St := St) (i := bs.length) (fun b hb => T.kinds _ _ b V.st hb) T.sub V.S V.C ⟨V.off, hnew⟩ (tk := tk₅) hk
      obtain ⟨ys, hpl, hr⟩ := V.acc
      obtain ⟨m', hm', _⟩ := C₅.ns
      obtain ⟨cn, eD⟩ := hpl
      have Dw : D ∉ wr := fun hm => Df (T.sub _ hm)
      have eD₆ : h₅.get? D = some { cls := .type "list", data := .seq ys cn } := hk D _ Dw eD
      have rl : RepL h₅ ρ' ys.toList ((bs.filter p).map F) := by
        have := hr.mono t₅ (Pre.refl _)
        rwa [List.take_length] at this
      have lenσ : ρ'.length = σ.length := V.S.len
      have S₆ : StG G (σ ++ [AObj.list ((bs.filter p).map F)]) (ρ' ++ [D]) { s' with heap := h₅, toks := tk₅ } := by
        refine ⟨S₅.base, fun a ha => ?_, ?_, by simp [lenσ], fun j a o hj ho => ?_, S₅.gens, S₅.os⟩
        · rcases List.mem_append.mp ha with q | q
          · exact S₅.fresh a q
          · rw [List.mem_singleton.mp q]; exact h0 D (Nat.le_refl _)
        · refine List.nodup_append.mpr ⟨S₅.nodup, by simp, fun a ha b hb' => ?_⟩
          rw [List.mem_singleton.mp hb']; rintro rfl; exact V.dn ha
        · by_cases hj' : j < σ.length
          · rw [List.getElem?_append_left (by lia)] at hj
            rw [List.getElem?_append_left hj'] at ho
            exact (S₅.objs j a o hj ho).mono (fun _ e => e) (fun _ _ h => h) (Pre.append _ _)
          · have hj2 : j = σ.length := by
              have := (List.getElem?_eq_some_iff.mp ho).1
              simp at this; lia
            subst hj2
            rw [← lenσ] at hj
            simp at hj ho
            subst hj; subst ho
            exact ⟨ys.toList, cn, by simpa using eD₆, rl.mono (fun _ _ h => h) (Pre.append _ _)⟩
      refine hQ _ (ρ' ++ [D]) D C S₆ (L₅.grow dL dc) ⟨V.pre.trans (Pre.append _ _), fun a ha => ?_, fun b o h1 e => hk b o (fun hm => by rw [hw b hm] at e; cases e) (V.keep b o h1 e)⟩ (.ref (by rw [← lenσ]; simp))
        ⟨⟨m', hm'⟩, fun hm => ?_, h0 C hCle, none₀ C hCle, cL, cc⟩
      · rcases List.mem_append.mp ha with q | q
        · exact V.new a q
        · rw [List.mem_singleton.mp q]; exact .inr (none₀ D (Nat.le_refl _))
      · rcases List.mem_append.mp hm with q | q
        · exact C₅.offL q
        · exact hDC (List.mem_singleton.mp q).symm
  exact codeAny_compStart_list (loop _ ⟨_, rfl⟩) (self 0 _ _ _ st₁ (loop _ ⟨_, rfl⟩))


theorem CFr.gone {A : Around} {h₀ : Heap} (K : CFr G env ρ h₀ s.heap C) (S : StG G σ ρ s) {h' : Heap} (hs : Heap.SameBut C s.heap h') : StG G σ ρ { s with heap := h' } ∧ (∀ b o, b ≠ C → s.heap.get? b = some o → h'.get? b = some o) ∧ TupKeep s.heap h' := by
  obtain ⟨m, o, es, n, e, hd, _⟩ := K.ns
  have k : ∀ b o, b ∉ [C] → s.heap.get? b = some o → h'.get? b = some o := fun b o hb' e => hs.extBut b o (by simpa using hb') e
  have nt : ∀ vs, ¬ IsTup s.heap C vs := fun vs ⟨o', e', hc, n', hd'⟩ => by rw [e] at e'; cases e'; rw [hd] at hd'; cases hd'
  refine ⟨S.off (s' := { s with heap := h' }) k (fun b hb' => by rw [List.mem_singleton.mp hb']; exact ⟨K.off, K.new0, nt⟩) rfl rfl, fun b o hb e => hs.extBut b o hb e, fun a vs hta => ?_⟩
  have hne : a ≠ C := fun e => nt vs (by subst e; exact hta)
  obtain ⟨o, e, q⟩ := hta
  exact ⟨o, hs.extBut a o hne e, q⟩

theorem compAt {β : Type} {elt iter target : Expr} {ifs : List Expr} {scope : Scope} {cl : List (Str × Addr)} {pos : Pos} {items : List AV} {bs : List β} {bind : β → List (Str × AV) → List (Str × AV)} {p : β → Bool} {F : β → AV} {Γc : List (Str × AV)}
    {A : Around} {s : Shared} {ρ : List Addr} {Q : Value → Shared → Prop} {E : Value → Shared → Prop} (R : Room A d) (S : StG G σ ρ s) (L : StL G env Γ ρ s.heap)
    (h1 : ItAt G env σ A s ρ (eval iter env) items) (X : CompOk env scope cl Γ Γc)
    (hT : ∀ A I h₁ ρ₁ fp wr St C, A.handled = none → Iters G A I h₁ ρ₁ fp wr items St → ∃ loc, Turn G (compEnvC scope cl C env) A target I h₁ ρ₁ fp wr bs bind St loc ∧ loc)
    (hb : ∀ b, ∀ q ∈ Γc, (bind b Γc).lookup q.1 = some q.2)
    (ht : ∀ b ∈ bs, ∀ C, TsJ G (compEnvC scope cl C env) d (bind b Γc) σ ifs (p b))
    (he : ∀ b ∈ bs, p b = true → ∀ C, EJ G (compEnvC scope cl C env) d (bind b Γc) σ (eval elt (compEnvC scope cl C env)) (F b) σ)
    (hl : bs.length ≤ 100000)
    (hQ : ∀ cv s' ρ', StG G (σ ++ [AObj.list ((bs.filter p).map F)]) ρ' s' → Ext ρ ρ' s.heap s'.heap → Rep s'.heap ρ' cv (.ref σ.length) → Q cv s')
    (hs : ∀ x, foldedSetIterable iter env x = pure x := by intro _; rfl) :
    wpAny (model G.prog G.w) A (eval (.ListComp elt [⟨target, iter, ifs, 0⟩] scope pos) env) Q E s := by
  rw [eval_ListComp]
  refine compGen (use := none) R S L (TurnAt.of R.handled h1 hT) X hb ht he hl (fun s' ρ' D C S' L' x' r' K => ?_) hs
  obtain ⟨m, hm⟩ := K.ns
  refine ⟨m, hm, fun h₆ hs₆ => ?_⟩
  obtain ⟨S₆, k₆, _⟩ := K.gone (A := A) S' hs₆
  obtain ⟨_, q, e⟩ := r'.ref_
  exact hQ _ _ ρ' S₆ ⟨x'.pre, x'.new, fun b o h1 e => k₆ b o (fun q => by rw [q, K.new] at e; cases e) (x'.keep b o h1 e)⟩ (q ▸ .ref e)

theorem EJ.comp {β : Type} {elt iter target : Expr} {ifs : List Expr} {scope : Scope} {cl : List (Str × Addr)} {pos : Pos} {items : List AV} {bs : List β} {bind : β → List (Str × AV) → List (Str × AV)} {p : β → Bool} {F : β → AV} {Γc : List (Str × AV)}
    (h1 : ItJ G env d Γ σ (eval iter env) items σ) (X : CompOk env scope cl Γ Γc)
    (hT : ∀ A I h₁ ρ₁ fp wr St C, A.handled = none → Iters G A I h₁ ρ₁ fp wr items St → ∃ loc, Turn G (compEnvC scope cl C env) A target I h₁ ρ₁ fp wr bs bind St loc ∧ loc)
    (hb : ∀ b, ∀ q ∈ Γc, (bind b Γc).lookup q.1 = some q.2)
    (ht : ∀ b ∈ bs, ∀ C, TsJ G (compEnvC scope cl C env) d (bind b Γc) σ ifs (p b))
    (he : ∀ b ∈ bs, p b = true → ∀ C, EJ G (compEnvC scope cl C env) d (bind b Γc) σ (eval elt (compEnvC scope cl C env)) (F b) σ)
    (hl : bs.length ≤ 100000)
    (hs : ∀ x, foldedSetIterable iter env x = pure x := by intro _; rfl) :
    EJ G env d Γ σ (eval (.ListComp elt [⟨target, iter, ifs, 0⟩] scope pos) env) (.ref σ.length) (σ ++ [AObj.list ((bs.filter p).map F)]) := fun A s ρ Q E R S L hQ =>
  compAt R S L (fun Q E h => h1 A s ρ Q E R S L h) X hT hb ht he hl hQ hs
end
end Mine
end
section
open PySem PySem.W PyProof.Rows
set_option linter.unusedVariables false
set_option linter.unusedSimpArgs false
namespace Mine

noncomputable def leS (x y : Str) : Bool := !decide (y.cps.toList < x.cps.toList)
noncomputable def insS (x : Str) : List Str → List Str
  | [] => [x]
  | y :: r => if leS x y then x :: y :: r else y :: insS x r
noncomputable def sortS : List Str → List Str
  | [] => []
  | x :: r => insS x (sortS r)
theorem leS_iff {x y : Str} : leS x y = true ↔ ¬ (y.cps.toList < x.cps.toList) := by simp [leS]
theorem leS_trans {x y z : Str} (h : leS x y = true) (k : leS y z = true) : leS x z = true := by
  rw [leS_iff] at *
  exact List.not_lt.mpr (List.le_trans (List.not_lt.mp h) (List.not_lt.mp k))
theorem leS_anti {x y : Str} (h : leS x y = true) (k : leS y x = true) : x = y := by
  rw [leS_iff] at *
  have := List.le_antisymm (List.not_lt.mp h) (List.not_lt.mp k)
  cases x; cases y
  simp only [Str.mk.injEq]
  exact Array.toList_inj.mp this
theorem leS_total {x y : Str} (h : leS x y = false) : leS y x = true := by
  rw [leS_iff]
  have h' : y.cps.toList < x.cps.toList := by simpa [leS] using h
  exact List.not_lt.mpr (List.le_of_lt h')
theorem insS_perm (x : Str) : ∀ l : List Str, (insS x l).Perm (x :: l)
  | [] => List.Perm.refl _
  | y :: r => by
    rw [insS]
    split
    · exact List.Perm.refl _
    · exact ((insS_perm x r).cons y).trans (List.Perm.swap x y r)
theorem sortS_perm : ∀ l : List Str, (sortS l).Perm l
  | [] => List.Perm.refl _
  | x :: r => (insS_perm x _).trans ((sortS_perm r).cons x)
theorem insS_sorted (x : Str) : ∀ l : List Str, l.Pairwise (fun a b => leS a b = true) → (insS x l).Pairwise (fun a b => leS a b = true)
  | [], _ => by simp [insS]
  | y :: r, h => by
    rw [insS]
    have h' := List.pairwise_cons.mp h
    split
    · rename_i hxy
      refine List.pairwise_cons.mpr ⟨fun z hz => ?_, h⟩
      rcases List.mem_cons.mp hz with rfl | hz
      · exact hxy
      · exact leS_trans hxy (h'.1 z hz)
    · rename_i hxy
      have hxy' : leS x y = false := by simpa using hxy
      refine List.pairwise_cons.mpr ⟨fun z hz => ?_, insS_sorted x r h'.2⟩
      rcases List.mem_cons.mp ((insS_perm x r).mem_iff.mp hz) with rfl | hz
      · exact leS_total hxy'
      · exact h'.1 z hz
theorem sortS_sorted : ∀ l : List Str, (sortS l).Pairwise (fun a b => leS a b = true)
  | [] => List.Pairwise.nil
  | x :: r => insS_sorted x _ (sortS_sorted r)
theorem rising_pw : ∀ (p : Str) (l : List Str), risingS p l = true → (p :: l).Pairwise (fun a b => leS a b = true)
  | p, [], _ => by simp
  | p, x :: r, h => by
    rw [risingS, Bool.and_eq_true, PyProof.Rows.ltCps_eq] at h
    have ih := rising_pw x r h.2
    refine List.pairwise_cons.mpr ⟨fun z hz => ?_, ih⟩
    have hpx : leS p x = true := h.1
    rcases List.mem_cons.mp hz with rfl | hz
    · exact hpx
    · exact leS_trans hpx ((List.pairwise_cons.mp ih).1 z hz)
theorem sortedS_pw : ∀ (l : List Str), sortedS l = true → l.Pairwise (fun a b => leS a b = true)
  | [], _ => List.Pairwise.nil
  | x :: r, h => rising_pw x r h
theorem sortS_only {l ss : List Str} (hp : l.Perm ss) (hs : sortedS l = true) : l = sortS ss :=
  List.Perm.eq_of_pairwise (fun a b _ _ h k => leS_anti h k) (sortedS_pw l hs) (sortS_sorted ss) (hp.trans (sortS_perm ss).symm)

section
variable {G : Glo} {env : Env} {d : Nat} {Γ Γ' Γ₁ Γ₂ : List (Str × AV)} {σ σ' σ₁ σ₂ σ₃ : List AObj} {ρ ρ' ρ₁ ρ₂ ρ₃ : List Addr} {s s' s₁ : Shared} {h h' h₁ h₂ h₃ : Heap}

theorem RepL.one {v : List Value} {x : AV} (r : RepL h ρ v [x]) : ∃ c, v = [c] ∧ Rep h ρ c x := by
  cases r with
  | cons r q => cases q with
    | nil => exact ⟨_, rfl, r⟩
theorem RepL.two {v : List Value} {x y : AV} (r : RepL h ρ v [x, y]) : ∃ c e, v = [c, e] ∧ Rep h ρ c x ∧ Rep h ρ e y := by
  cases r with
  | cons r q =>
    obtain ⟨e, rfl, q'⟩ := RepL.one q
    exact ⟨_, _, rfl, r, q'⟩

theorem strsAre_rep {l : List Str} : ∀ {vs : List Value}, RepL h ρ vs (l.map .str) → StrsAre vs l := by
  induction l with
  | nil => intro vs r; cases r; exact .nil
  | cons x l ih =>
    intro vs r
    cases r with
    | cons r q => cases r with
      | str => exact .cons _ _ (ih q)
theorem rep_strsAre {l : List Str} : ∀ {vs : List Value}, StrsAre vs l → RepL h ρ vs (l.map .str) := by
  induction l with
  | nil => intro vs r; cases r; exact .nil
  | cons x l ih => intro vs r; cases r with | cons _ _ r => exact .cons (.str _ _) (ih r)

theorem OJ.lenT {l : List AV} (hl : l.length ≤ 100000) : OJ G d σ [.tup l] (fun cs => call (.builtin "len") cs) (.int l.length) σ := fun A s ρ cs Q E R S ra h => by
  obtain ⟨c, rfl, r⟩ := ra.one
  obtain ⟨_, _, rfl, ht, q⟩ := Rep.tup_ r
  have e := q.length
  refine len_tuple ht (by simp [e]; lia) ?_
  simp only [List.size_toArray, e]
  exact h _ _ ρ (S.with rfl rfl rfl) (Ext.refl _ _) (.int _ _)
theorem OJ.lenL {i : Nat} {l : List AV} (hi : σ[i]? = some (AObj.list l)) (hl : l.length ≤ 100000) : OJ G d σ [.ref i] (fun cs => call (.builtin "len") cs) (.int l.length) σ := fun A s ρ cs Q E R S ra h => by
  obtain ⟨c, rfl, r⟩ := ra.one
  obtain ⟨a, vs, n, rfl, ea, ho, q⟩ := list_at S hi r
  have e := q.length
  refine len_list ⟨_, ho, rfl, n, rfl⟩ (by simp [e]; lia) ?_
  simp only [List.size_toArray, e]
  exact h _ _ ρ (S.with rfl rfl rfl) (Ext.refl _ _) (.int _ _)

theorem OJ.intI {i : Int} : OJ G d σ [.int i] (fun cs => call (.type "int") cs) (.int i) σ := fun A s ρ cs Q E R S ra h => by
  obtain ⟨c, rfl, r⟩ := ra.one
  obtain ⟨_, rfl⟩ := Rep.int_ r
  exact PySem.call_int_int (h _ _ ρ S (Ext.refl _ _) (.int _ _))
theorem OJ.intB {b : Bool} : OJ G d σ [.bool b] (fun cs => call (.type "int") cs) (.int (if b then 1 else 0)) σ := fun A s ρ cs Q E R S ra h => by
  obtain ⟨c, rfl, r⟩ := ra.one
  obtain rfl := Rep.bool_ r
  exact PySem.call_int_bool (h _ _ ρ (S.with rfl rfl rfl) (Ext.refl _ _) (.int _ _))
theorem OJ.strI {i : Int} (hi : i.natAbs.log2 < 1920) : OJ G d σ [.int i] (fun cs => call (.type "str") cs) (.str (Str.ofString (toString i))) σ := fun A s ρ cs Q E R S ra h => by
  obtain ⟨c, rfl, r⟩ := ra.one
  obtain ⟨_, rfl⟩ := Rep.int_ r
  exact PySem.P.str_of_int hi (h _ _ ρ (S.with rfl rfl rfl) (Ext.refl _ _) (.str _ _))
theorem OJ.minI {a b : Int} : OJ G d σ [.int a, .int b] (fun cs => call (.builtin "min") cs) (.int (if b < a then b else a)) σ := fun A s ρ cs Q E R S ra h => by
  obtain ⟨c, e, rfl, r, q⟩ := ra.two
  obtain ⟨_, rfl⟩ := Rep.int_ r
  cases q with
    | int =>
      refine min_two_ints R.handled fun h' tk k => ?_
      have S' := S.ext (s' := { s with heap := h', toks := tk }) k rfl rfl
      by_cases hab : b < a
      · rw [if_pos hab] at *; exact h _ _ ρ S' (Ext.of_all k) (by first | exact .int _ _)
      · rw [if_neg hab] at *; exact h _ _ ρ S' (Ext.of_all k) (by first | exact .int _ _)

/-- a list made new at the heap's end -/
theorem StG.pushList (S : StG G σ ρ s) {a : Addr} {vs : List Value} {l : List AV} {n : Nat} {h' : Heap} {tk : Nat} (ha : s.heap.get? a = none) (k : ∀ b o, s.heap.get? b = some o → h'.get? b = some o)
    (ho : h'.get? a = some { cls := .type "list", data := .seq vs.toArray n }) (q : RepL h' ρ vs l) :
    StG G (σ ++ [AObj.list l]) (ρ ++ [a]) { s with heap := h', toks := tk } ∧ Ext ρ (ρ ++ [a]) s.heap h' ∧ Rep h' (ρ ++ [a]) (.ref a) (.ref σ.length) :=
  ⟨S.push (s' := { s with heap := h', toks := tk }) ha k ⟨vs, n, ho, q.mono (fun _ _ h => h) (Pre.append _ _)⟩ rfl rfl, Ext.push ha k, .ref (by rw [← S.len]; simp)⟩

theorem OJ.sorted {i : Nat} {l : List Str} (hi : σ[i]? = some (AObj.list (l.map .str))) (hl : l.length < 64) : OJ G d σ [.ref i] (fun cs => call (.builtin "sorted") cs) (.ref σ.length) (σ ++ [AObj.list ((sortS l).map .str)]) := fun A s ρ cs Q E R S ra h => by
  obtain ⟨c, rfl, r⟩ := ra.one
  obtain ⟨a, vs, n, rfl, ea, ho, q⟩ := list_at S hi r
  refine sorted_strs ⟨_, ho, rfl, n, rfl⟩ (strsAre_rep q) (by rw [q.length]; simpa using hl) fun out ss' h1 h2 h3 => ?_
  have e := sortS_only h2 h3
  subst e
  obtain ⟨n', ho'⟩ := sortedAll_at s.heap vs out
  obtain ⟨S', x', r'⟩ := S.pushList (tk := s.toks) (a := s.heap.objs.size + 1) (vs := out.toList) (l := (sortS l).map .str) (by
    cases e : s.heap.get? (s.heap.objs.size + 1) with
    | none => rfl
    | some o => exact absurd (Heap.lt_size e) (Nat.not_lt.mpr (Nat.le_succ _))) (fun b o e => sortedAll_old e) (by simpa [seqObj] using ho') (rep_strsAre h1)
  exact h _ _ _ S' x' r'

theorem OJ.tupleL {i : Nat} {l : List AV} (hi : σ[i]? = some (AObj.list l)) (hl : l.length ≤ 100000) : OJ G d σ [.ref i] (fun cs => call (.type "tuple") cs) (.tup l) σ := fun A s ρ cs Q E R S ra h => by
  obtain ⟨c, rfl, r⟩ := ra.one
  obtain ⟨a, vs, n, rfl, ea, ho, q⟩ := list_at S hi r
  refine PySem.call_tuple_list ⟨_, ho, rfl, n, rfl⟩ (fun h' k => ?_) (by simp [q.length]; exact Nat.le_trans hl (by decide))
  have k' : ∀ b o, s.heap.get? b = some o → (h'.push { cls := .type "tuple", data := .seq vs.toArray }).get? b = some o := fun b o e => get_push_ne (k b o e)
  exact h _ _ ρ (S.ext (s' := { s with heap := _ }) k' rfl rfl) (Ext.of_all k') (.tup ⟨_, Heap.get?_push_size _ rfl, rfl, _, rfl⟩ (q.mono (S.tupKeep (KeepX.of_all k')) (Pre.refl _)))

noncomputable def maxI : List Int → Int
  | [] => 0
  | [x] => x
  | x :: r => if maxI r < x then x else maxI r

theorem sumWalk {ns : List Int} : ∀ j, j ≤ ns.length → preSum (fun i => ns.getD i 0) j = (ns.take j).sum
  | 0, _ => by simp [preSum]
  | j + 1, hj => by
    rw [preSum, sumWalk j (by lia), List.take_add_one]
    have : ns[j]? = some ns[j] := by simp
    rw [this]
    simp only [Option.toList_some, List.sum_append, List.sum_cons, List.sum_nil, List.getD_eq_getElem?_getD, this, Option.getD_some, Int.add_zero]

theorem sum_bound {ns : List Int} (hb : ∀ x ∈ ns, 0 ≤ x ∧ x ≤ 100000) : ∀ j, j ≤ ns.length → 0 ≤ (ns.take j).sum ∧ (ns.take j).sum ≤ 100000 * j := by
  intro j
  induction j with
  | zero => intro _; simp
  | succ j ih =>
    intro hj
    have h1 := ih (by lia)
    have e : ns[j]? = some ns[j] := by simp [hj]
    have h2 := hb ns[j] (List.getElem_mem _)
    rw [List.take_add_one, e]
    simp only [Option.toList_some, List.sum_append, List.sum_cons, List.sum_nil]
    lia

theorem OJ.sumI {i : Nat} {ns : List Int} (hi : σ[i]? = some (AObj.list (ns.map .int))) (hb : ∀ x ∈ ns, 0 ≤ x ∧ x ≤ 100000) (hl : ns.length ≤ 100000) : OJ G d σ [.ref i] (fun cs => call (.builtin "sum") cs) (.int ns.sum) σ := fun A s ρ cs Q E R S ra h => by
  obtain ⟨c, rfl, r⟩ := ra.one
  obtain ⟨a, vs, n, rfl, ea, ho, q⟩ := list_at S hi r
  have hl' : vs.length = ns.length := by rw [q.length]; simp
  have bound := sum_bound hb
  refine call_sum_walk (wpAny_pyIter_list ⟨_, ho, rfl, n, rfl⟩ ⟨s.heap.objs.size, [s.heap.objs.size, a], [s.heap.objs.size], vs.toArray.size, _, _, fun i => ns.getD i 0, rfl, Walks.list (A := A.in1) R.handled _ a (Nat.ne_of_lt (Heap.lt_size ho)) vs.toArray, ⟨⟨_, Heap.get?_push_size _ rfl, rfl, rfl⟩, ⟨_, get_push_ne ho, rfl, n, rfl⟩⟩, fun b hb => ?_, fun j v hv => ?_, fun j hj => ?_, fun h' tk t' hk => ?_⟩)
  · rw [Heap.size_push]
    rcases List.mem_cons.mp hb with rfl | hb
    · exact Nat.lt_succ_self _
    · rw [List.mem_singleton.mp hb]; exact Nat.lt_succ_of_lt (Heap.lt_size ho)
  · have hv' : vs[j]? = some v := by simpa using hv
    have hj : j < ns.length := by rw [← hl']; exact (List.getElem?_eq_some_iff.mp hv').1
    obtain ⟨v', e', r'⟩ := q.get (i := j) (x := .int ns[j]) (by simp [hj])
    rw [hv'] at e'; cases e'
    obtain ⟨t0, rfl⟩ := Rep.int_ r'
    exact ⟨t0, by simp [hj]⟩
  · have hj' : j < ns.length := by simpa [hl'] using hj
    have h1 := hb ns[j] (List.getElem_mem _)
    have h2 := bound (j + 1) hj'
    rw [sumWalk (j + 1) hj']
    have e : ns.getD j 0 = ns[j] := by simp [hj']
    dsimp only
    rw [e]
    refine ⟨⟨by lia, by lia⟩, ⟨by lia, ?_⟩⟩
    have : (100000 : Int) * ((j + 1 : Nat) : Int) ≤ 100000 * 100000 := by
      have : ((j + 1 : Nat) : Int) ≤ 100000 := by lia
      lia
    lia
  · have e : preSum (fun i => ns.getD i 0) vs.toArray.size = ns.sum := by
      rw [List.size_toArray, hl', sumWalk _ (Nat.le_refl _), List.take_length]
    rw [e]
    have k' : ∀ b o, s.heap.get? b = some o → h'.get? b = some o := fun b o e => hk b o (fun hm => by
      rw [List.mem_singleton.mp hm] at e; exact Nat.lt_irrefl _ (Heap.lt_size e)) (get_push_ne e)
    exact h _ _ ρ (S.ext (s' := { s with heap := h', toks := tk }) k' rfl rfl) (Ext.of_all k') (.int _ _)
end
end Mine
end
section
open PySem PySem.W PyProof.Rows
set_option linter.unusedVariables false
set_option linter.unusedSimpArgs false
namespace Mine
section
variable {G : Glo} {env : Env} {d : Nat} {Γ Γ' Γ₁ Γ₂ : List (Str × AV)} {σ σ' σ₁ σ₂ σ₃ : List AObj} {ρ ρ' ρ₁ ρ₂ ρ₃ : List Addr} {s s' s₁ : Shared} {h h' h₁ h₂ h₃ : Heap}

theorem maxI_spec : ∀ (ns : List Int), ns ≠ [] → maxI ns ∈ ns ∧ ∀ a ∈ ns, a ≤ maxI ns
  | [], h => absurd rfl h
  | [x], _ => by simp [maxI]
  | x :: y :: r, _ => by
    obtain ⟨h1, h2⟩ := maxI_spec (y :: r) (by simp)
    rw [maxI]
    · split
      · rename_i hlt
        refine ⟨by simp, fun a ha => ?_⟩
        rcases List.mem_cons.mp ha with rfl | ha
        · exact Int.le_refl _
        · exact Int.le_of_lt (Int.lt_of_le_of_lt (h2 a ha) hlt)
      · rename_i hlt
        refine ⟨List.mem_cons_of_mem _ h1, fun a ha => ?_⟩
        rcases List.mem_cons.mp ha with rfl | ha
        · exact Int.not_lt.mp hlt
        · exact h2 a ha
    · intro q; cases q

theorem intsAre_rep {l : List Int} : ∀ {vs : List Value}, RepL h ρ vs (l.map .int) → IntsAre vs l := by
  induction l with
  | nil => intro vs r; cases r; exact .nil
  | cons x l ih =>
    intro vs r
    cases r with
    | cons r q => cases r with
      | int => exact .cons _ _ (ih q)

theorem OJ.maxI {i : Nat} {ns : List Int} (hi : σ[i]? = some (AObj.list (ns.map .int))) (hne : ns ≠ []) : OJ G d σ [.ref i] (fun cs => call (.builtin "max") cs) (.int (maxI ns)) σ := fun A s ρ cs Q E R S ra h => by
  obtain ⟨c, rfl, r⟩ := ra.one
  obtain ⟨a, vs, n, rfl, ea, ho, q⟩ := list_at S hi r
  have hI := intsAre_rep q
  have hl : s.heap.IsList a vs.toArray := ⟨_, ho, rfl, n, rfl⟩
  obtain ⟨xs, e⟩ := hI.allInts.items
  have hns : ns = xs.toList.map (·.1) := by
    rw [← hI.numsOf, ← nums_intItems, ← e]
  have hsz : 0 < xs.size := by
    have h3 : 0 < ns.length := List.length_pos_iff.mpr hne
    rw [hns, List.length_map, Array.length_toList] at h3; exact h3
  rw [e] at hl
  refine max_intList R.handled hl hsz fun v h' tk hv hk => ?_
  obtain ⟨t, rfl⟩ := intItems_at hv
  obtain ⟨h1, h2⟩ := argBest_gt (numAt xs) (xs.size - 1)
  have g1 : numAt xs (argBest (fun i j => decide (numAt xs i > numAt xs j)) (xs.size - 1)) ∈ ns := by
    rw [hns, numAt_eq]; exact getD_mem (by rw [List.length_map, Array.length_toList]; lia)
  have g2 : ∀ a ∈ ns, a ≤ numAt xs (argBest (fun i j => decide (numAt xs i > numAt xs j)) (xs.size - 1)) := fun a ha => by
    rw [hns] at ha
    obtain ⟨j, hj, rfl⟩ := mem_getD ha
    rw [List.length_map, Array.length_toList] at hj
    rw [← numAt_eq]; exact h2 j (by lia)
  obtain ⟨m1, m2⟩ := maxI_spec ns hne
  have hm : numAt xs (argBest (fun i j => decide (numAt xs i > numAt xs j)) (xs.size - 1)) = Mine.maxI ns := Int.le_antisymm (m2 _ g1) (g2 _ m1)
  rw [hm]
  exact h _ _ ρ (S.ext (s' := { s with heap := h', toks := tk }) hk rfl rfl) (Ext.of_all hk) (.int _ _)

theorem keys_rep {kvs : List (Str × Value)} {acc : Array Value} {n : Nat} (hn : n = kvs.length) (hi : ItemsOf (fun i v => ∃ k x, kvs[i]? = some (k, x) ∧ (strKind G.prog G.w).is k v = true) acc n) : RepL h ρ acc.toList ((kvs.map (·.1)).map .str) := by
  subst hn
  obtain ⟨h1, h2⟩ := hi
  have go : ∀ (l : List Value) (ks : List (Str × Value)), l.length = ks.length → (∀ (j : Nat) (v : Value), l[j]? = some v → ∃ k x, ks[j]? = some (k, x) ∧ (strKind G.prog G.w).is k v = true) → RepL h ρ l ((ks.map (·.1)).map .str) := by
    intro l
    induction l with
    | nil => intro ks hl _; cases ks with | nil => exact .nil | cons => simp at hl
    | cons v l ih =>
      intro ks hl hv
      cases ks with
      | nil => simp at hl
      | cons kx ks =>
        obtain ⟨k, x, e, hk⟩ := hv 0 v rfl
        simp only [List.getElem?_cons_zero, Option.some.injEq] at e
        subst e
        have hk' : v.isStrOf k = true := hk
        refine .cons ?_ (ih ks (by simpa using hl) fun j v h => by simpa using hv (j + 1) v (by simpa using h))
        cases v <;> simp [Value.isStrOf] at hk'
        subst hk'
        exact .str _ _
  exact go acc.toList kvs (by simpa using h1) fun j v e => h2 j v (by rw [← Array.getElem?_toList]; exact e)

theorem OJ.listD (K : GloOK G) {i : Nat} {kvs : List (Str × AV)} (hi : σ[i]? = some (AObj.sdict kvs)) (hl : kvs.length ≤ 100000) : OJ G d σ [.ref i] (fun cs => call (.type "list") cs) (.ref σ.length) (σ ++ [AObj.list ((kvs.map (·.1)).map .str)]) := fun A s ρ cs Q E R S ra h => by
  obtain ⟨c, rfl, r⟩ := ra.one
  obtain ⟨a, cvs, rfl, e, h1, h2, h3⟩ := reads_sdict S hi r
  obtain ⟨ep, hat⟩ := h1.dictAt
  obtain ⟨o₁, ho₁⟩ := K.sys
  have hlen : cvs.length = kvs.length := by have := congrArg List.length h2; simpa using this
  refine kdl_call (kdl_dict (knd := strKind G.prog G.w) (kvs := cvs) (ep := ep) (S.sys ho₁ (List.mem_of_getElem? e))) R.handled hat (by rw [hlen]; exact Nat.le_trans hl (by decide)) fun h' tk acc' c' hk hD hacc => ?_
  obtain ⟨S', x', r'⟩ := S.pushList (tk := tk) (a := s.heap.objs.size) (vs := acc'.toList) (l := (kvs.map (·.1)).map .str) (n := c') (get_size_none _) hk (by simpa using hD) (h2 ▸ keys_rep rfl hacc)
  exact h _ _ _ S' x' r'

theorem OJ.sortedD (K : GloOK G) {i : Nat} {kvs : List (Str × AV)} (hi : σ[i]? = some (AObj.sdict kvs)) (hl : kvs.length < 64) : OJ G d σ [.ref i] (fun cs => call (.builtin "sorted") cs) (.ref σ.length) (σ ++ [AObj.list ((sortS (kvs.map (·.1))).map .str)]) := fun A s ρ cs Q E R S ra h => by
  obtain ⟨c, rfl, r⟩ := ra.one
  obtain ⟨a, cvs, rfl, e, h1, h2, h3⟩ := reads_sdict S hi r
  obtain ⟨ep, hat⟩ := h1.dictAt
  obtain ⟨o₁, ho₁⟩ := K.sys
  have hlen : cvs.length = kvs.length := by have := congrArg List.length h2; simpa using this
  refine Calls.call_function_entry kind_sorted plain_sorted entry_sorted (args_sorted1 _) ?_
  unfold Builtin.«sorted»
  refine wpAny_bind (m := checkCount "sorted" 1 1 _) (wpAny_pure ?_)
  refine wpAny_bind (kdu_collect (A := A.in1) (kdl_dict (knd := strKind G.prog G.w) (kvs := cvs) (ep := ep) (S.sys ho₁ (List.mem_of_getElem? e))) R.handled hat (by rw [hlen]; exact Nat.le_trans (Nat.le_of_lt hl) (by decide)) fun h' tk acc hk hacc => ?_)
  have rk : RepL h' ρ acc.toList ((kvs.map (·.1)).map .str) := h2 ▸ keys_rep rfl hacc
  have hS := strsAre_rep rk
  have hal : acc.toList.length = kvs.length := by rw [rk.length]; simp
  refine wpAny_bind (wpAny_newList ?_ (by rw [hal]; exact Nat.le_trans (Nat.le_of_lt hl) (by decide)))
  have hoL : (h'.push { cls := .type "list", data := .seq acc.toList.toArray }).get? h'.objs.size = some (seqObj "list" acc.toList.toArray 0) := Heap.get?_push_size _ rfl
  refine wpAny_bind (wpAny_holding (wpAny_call_entry slot_list_sort ⟨_, hoL, rfl⟩ entry_list_sort (list_sort_treeK strKind_oneLt hoL hS.keysOf (fun v₁ v₂ rest e => keyKind_strs (by rw [← e]; exact hS)) (by rw [hal]; exact hl) fun st' a1 a2 => ⟨_, rfl, ?_⟩) (args_list_sort _)))
  obtain ⟨ss', g1, g2, g3⟩ := sorted_out_str hS a1 a2
  have e := sortS_only g2 g3
  subst e
  obtain ⟨n', ho'⟩ := sortedHeap_at (out := (arrOf st').map (·.2)) hoL
  have k' : ∀ b o, s.heap.get? b = some o → (sortedHeap (h'.push { cls := .type "list", data := .seq acc.toList.toArray }) h'.objs.size acc.toList ((arrOf st').map (·.2))).get? b = some o := fun b o e => by
    have hb := Heap.lt_size (hk b o e)
    rw [sortedHeap_old (Nat.ne_of_lt hb) (by rw [Heap.size_push]; exact Nat.lt_succ_of_lt hb)]
    exact get_push_ne (hk b o e)
  obtain ⟨S', x', r'⟩ := S.pushList (tk := tk) (a := h'.objs.size) (vs := ((arrOf st').map (·.2)).toList) (l := (sortS (kvs.map (·.1))).map .str) (by
    cases e : s.heap.get? h'.objs.size with
    | none => rfl
    | some o => exact absurd (Heap.lt_size (hk _ _ e)) (Nat.lt_irrefl _)) k' (by rw [Array.toArray_toList]; exact ho') (rep_strsAre g1)
  exact wpAny_pure ⟨_, rfl, h _ _ _ S' x' r'⟩

theorem callT_raw {A : Around} {Q : Value → Shared → Prop} {E : Value → Shared → Prop} {f : Str} (K : GloOK G) {T : String} {e : Expr} {es : List Expr} {p pos : Pos} (R : Room A d) (S : StG G σ ρ s) (L : StL G env Γ ρ s.heap) (hm : G.mg f = none) (hbt : bootBuiltins f = some (.type T))
    (h1 : wpAny (model G.prog G.w) A (spliced (backTo pos (starEach (e :: es) env))) (fun vs s₁ => wpAny (model G.prog G.w) A (call (.type T) vs) Q E s₁) E s)
    (hx : env.kindOf f = some .globalImplicit := by rfl) (hd : (f == ("__debug__" : Str)) = false := by decide) (hn : f ≠ "__name__" := by decide) (he : starEach (e :: es) env = (false, eval e env) :: starEach es env := by rfl) (hpl : (backTo pos (starEach es env)).any (·.1) = false := by rfl) :
    wpAny (model G.prog G.w) A (eval (.Call (.Name f p) (e :: es) [] pos) env) Q E s := by
  refine Call_Name rfl (Calls.Name_function_global L.kind hx (Calls.loadGlobal_builtin (by rw [L.glob]; exact K.glob.keeps S.base) hm (by rw [L.blt]; exact K.blt.keeps S.base) ((K.boot f hn).trans hbt) ?_) hd)
  exact PyProof.Rows.callWith_type1 h1 he hpl

theorem small_up {a b : Int} (h : a ≤ b) (ha : -1000 ≤ a) (hb : b ≤ 1000) : Builtin.Range.small a b 1 = true ∧ Builtin.Range.rangeSize a b 1 = b - a := by
  refine ⟨small_one (by lia) (by lia) (by lia) (by lia), ?_⟩
  unfold Builtin.Range.rangeSize
  rw [if_pos (by decide)]
  split <;> lia

theorem ItJ.range2 (K : GloOK G) {e₁ e₂ : Expr} {p pos : Pos} {a b : Int} {n : Nat} (hm : G.mg "range" = none)
    (h1 : EsJ G env d Γ σ (spliced (backTo pos (starEach [e₁, e₂] env))) [.int a, .int b] σ) (hn : b - a = n) (ha : -1000 ≤ a) (hb : b ≤ 1000) (hx : env.kindOf "range" = some .globalImplicit := by rfl)
    (he : starEach [e₁, e₂] env = (false, eval e₁ env) :: starEach [e₂] env := by rfl) (hpl : (backTo pos (starEach [e₂] env)).any (·.1) = false := by rfl) :
    ItJ G env d Γ σ (eval (.Call (.Name "range" p) [e₁, e₂] [] pos) env) ((List.range n).map fun (i : Nat) => AV.int (a + (i : Int))) σ := fun A s ρ Q E R S L hQ => by
  refine callT_raw K R S L hm rfl (h1 A s ρ _ E R S L fun cvs s₁ ρ₁ S₁ x₁ r₁ => ?_) hx (by decide) (by decide) he hpl
  obtain ⟨c, c', rfl, r, r'⟩ := r₁.two
  obtain ⟨t, rfl⟩ := Rep.int_ r
  obtain ⟨u, rfl⟩ := Rep.int_ r'
  refine call_range_2 ?_
  obtain ⟨g1, g2⟩ := small_up (a := a) (b := b) (by lia) ha hb
  refine wpAny_pyIter_range (Heap.get?_push_size _ rfl) g1 ?_
  have k : ∀ b' o, s₁.heap.get? b' = some o → ((s₁.heap.push { cls := .type "range", data := .fields #[.int a t, .int b u, .int 1 s₁.toks] }).push { cls := .type "range_iterator", data := .fields #[rawInt a, rawInt (Builtin.Range.rangeSize a b 1), rawInt 1] }).get? b' = some o := fun b' o e => get_push_ne (get_push_ne e)
  refine hQ _ [_] [_] _ _ ρ₁ (Iters.range (a := a) (n := n) R.handled) ?_ (S₁.ext (s' := { s₁ with heap := _, toks := s₁.toks + 1 }) k rfl rfl) (x₁.trans (Ext.of_all k)) (fun b' hb' => ?_) (fun b' hb' => ?_)
  · refine (Heap.get?_push_size _ rfl).trans ?_
    rw [g2, hn]; simp
  · rw [List.mem_singleton.mp hb']; intro hm; have := S₁.lt hm; rw [Heap.size_push] at this; exact absurd this (Nat.not_lt.mpr (Nat.le_succ _))
  · rw [List.mem_singleton.mp hb']; exact new_size S₁ x₁ (by rw [Heap.size_push]; exact Nat.le_succ _)

theorem ItJ.range1 (K : GloOK G) {e₁ : Expr} {p pos : Pos} {n : Nat} (hm : G.mg "range" = none)
    (h1 : EsJ G env d Γ σ (spliced (backTo pos (starEach [e₁] env))) [.int n] σ) (hb : n ≤ 1000) (hx : env.kindOf "range" = some .globalImplicit := by rfl)
    (he : starEach [e₁] env = (false, eval e₁ env) :: starEach [] env := by rfl) (hpl : (backTo pos (starEach [] env)).any (·.1) = false := by rfl) :
    ItJ G env d Γ σ (eval (.Call (.Name "range" p) [e₁] [] pos) env) ((List.range n).map fun (i : Nat) => AV.int (0 + (i : Int))) σ := fun A s ρ Q E R S L hQ => by
  refine callT_raw K R S L hm rfl (h1 A s ρ _ E R S L fun cvs s₁ ρ₁ S₁ x₁ r₁ => ?_) hx (by decide) (by decide) he hpl
  obtain ⟨c, rfl, r⟩ := r₁.one
  obtain ⟨t, rfl⟩ := Rep.int_ r
  refine call_range_1 ?_
  obtain ⟨g1, g2⟩ := small_up (a := 0) (b := n) (by lia) (by lia) (by lia)
  refine wpAny_pyIter_range (Heap.get?_push_size _ rfl) g1 ?_
  have k : ∀ b' o, s₁.heap.get? b' = some o → ((s₁.heap.push { cls := .type "range", data := .fields #[.int 0 s₁.toks, .int n t, .int 1 (s₁.toks + 1)] }).push { cls := .type "range_iterator", data := .fields #[rawInt 0, rawInt (Builtin.Range.rangeSize 0 n 1), rawInt 1] }).get? b' = some o := fun b' o e => get_push_ne (get_push_ne e)
  refine hQ _ [_] [_] _ _ ρ₁ (Iters.range (a := 0) (n := n) R.handled) ?_ (S₁.ext (s' := { s₁ with heap := _, toks := s₁.toks + 1 + 1 }) k rfl rfl) (x₁.trans (Ext.of_all k)) (fun b' hb' => ?_) (fun b' hb' => ?_)
  · refine (Heap.get?_push_size _ rfl).trans ?_
    rw [g2]; simp
  · rw [List.mem_singleton.mp hb']; intro hm; have := S₁.lt hm; rw [Heap.size_push] at this; exact absurd this (Nat.not_lt.mpr (Nat.le_succ _))
  · rw [List.mem_singleton.mp hb']; exact new_size S₁ x₁ (by rw [Heap.size_push]; exact Nat.le_succ _)

end
end Mine
end
section
open PySem PySem.W PyProof.Rows
open AutoSeq1 (wpAny_loadPart')
set_option linter.unusedVariables false
set_option linter.unusedSimpArgs false
namespace Mine
section
variable {G : Glo} {env : Env} {d : Nat} {Γ Γ' Γ₁ Γ₂ : List (Str × AV)} {σ σ' σ₁ σ₂ σ₃ : List AObj} {ρ ρ' ρ₁ ρ₂ ρ₃ : List Addr} {s s' s₁ : Shared} {h h' h₁ h₂ h₃ : Heap}

-- enumerate over a tuple
theorem nextOf_tuple_item {A : Around} {E : Value → Shared → Prop} {it t : Addr} {i : Nat} {items} {x : Value} {Q : Value → Shared → Prop} (hit : s.heap.IsTupleIter it t i)
    (ht : s.heap.IsTuple t items) (hx : items[i]? = some x)
    (hQ : ∀ h', h'.IsTupleIter it t (i + 1) → Heap.SameBut it s.heap h' → Q x { s with heap := h' }) :
    wpAny (model G.prog G.w) A (Builtin.SmallTypes.nextOf (.ref it)) Q E s := by
  obtain ⟨o, ho, hc, hd⟩ := id hit
  obtain ⟨ol, hol, _, nl, hdl⟩ := ht
  unfold Builtin.SmallTypes.nextOf
  refine wpAny_bind (wpAny_callSpecial?_slot (name := Str.ofString "__next__") hit.typeIs F.slot_tuple_iterator_next
    (wpAny_call_entry F.slot_tuple_iterator_next hit.typeIs F.entry_tuple_iterator_next ?_ (F.args_tuple_iterator_next_1 _)))
  show wpAny _ _ (field (.ref it) 0 >>= _) _ _ s
  refine wpAny_bind (wpAny_field ho hd (x := .ref t) rfl ?_)
  show wpAny _ _ (if (Value.ref t == Value.none) = true then _ else _) _ _ s
  rw [if_neg (show ¬ ((Value.ref t == Value.none) = true) from Bool.false_ne_true)]
  show wpAny _ _ (field (.ref it) 1 >>= _) _ _ s
  refine wpAny_bind (wpAny_field ho hd (x := .int i 0) rfl ?_)
  show wpAny _ _ (seqItems? (.ref t) >>= _) _ _ s
  refine wpAny_bind (wpAny_seqItems hol hdl ?_)
  simp only [Int.toNat_natCast, hx]
  refine wpAny_bind (wpAny_setField ho hd (by simp) (wpAny_pure ⟨x, rfl, wpAny_pure (hQ _ ?_ (Heap.SameBut.update ..))⟩))
  exact ⟨_, Heap.get?_update_self _ ho (Obj.isFreed_of_fields (Obj.data_mapFields hd _)), (Obj.cls_mapFields ..).trans hc, by
    rw [Obj.data_mapFields hd]; simp [rawInt]⟩

theorem nextOf_tuple_end {A : Around} {E : Value → Shared → Prop} {it t : Addr} {i : Nat} {items} {Q : Value → Shared → Prop} (hh : A.handled = none)
    (hit : s.heap.IsTupleIter it t i) (ht : s.heap.IsTuple t items) (hx : items[i]? = none)
    (hE : ∀ h' e, Heap.ExtBut it s.heap h' → (∃ o, h'.get? e = some o ∧ o.cls = .type "StopIteration") → E (.ref e) { s with heap := h' }) :
    wpAny (model G.prog G.w) A (Builtin.SmallTypes.nextOf (.ref it)) Q E s := by
  obtain ⟨o, ho, hc, hd⟩ := id hit
  obtain ⟨ol, hol, _, nl, hdl⟩ := ht
  unfold Builtin.SmallTypes.nextOf
  refine wpAny_bind (wpAny_callSpecial?_slot (name := Str.ofString "__next__") hit.typeIs F.slot_tuple_iterator_next
    (wpAny_call_entry F.slot_tuple_iterator_next hit.typeIs F.entry_tuple_iterator_next ?_ (F.args_tuple_iterator_next_1 _)))
  show wpAny _ _ (field (.ref it) 0 >>= _) _ _ s
  refine wpAny_bind (wpAny_field ho hd (x := .ref t) rfl ?_)
  show wpAny _ _ (if (Value.ref t == Value.none) = true then _ else _) _ _ s
  rw [if_neg (show ¬ ((Value.ref t == Value.none) = true) from Bool.false_ne_true)]
  show wpAny _ _ (field (.ref it) 1 >>= _) _ _ s
  refine wpAny_bind (wpAny_field ho hd (x := .int i 0) rfl ?_)
  show wpAny _ _ (seqItems? (.ref t) >>= _) _ _ s
  refine wpAny_bind (wpAny_seqItems hol hdl ?_)
  simp only [Int.toNat_natCast, hx]
  refine wpAny_bind (wpAny_rule (wpAny_bind (wpAny_setField ho hd (by simp) ?_)))
  show wpAny _ _ (newExc (.type "StopIteration") [] >>= _) _ _ _
  refine wpAny_bind ?_
  simp only [newExc, newTuple]
  refine wpAny_bind (wpAny_newObj_type ?_ (by size_fits))
  refine wpAny_bind (m := firstArgMember _ _) (wpAny_of_eq (a := Value.none) (by first | rfl | (simp only [firstArgMember]; rfl)) ?_)
  refine wpAny_newObj_type ?_ (by size_fits)
  simp only [raiseNew]
  refine wpAny_bind (wpAny_handled ?_)
  first | rw [show A.in1.handled = none from hh] | rw [hh]
  refine wpAny_bind (wpAny_pure (wpAny_throw ?_))
  exact hE _ _ (((Heap.SameBut.update ..).extBut.push _).push _) ⟨_, Heap.get?_push_size _ rfl, rfl⟩

theorem drawsTuple {A : Around} (hh : A.handled = none) (it l : Addr) (hne : l ≠ it) (items : Array Value) :
    Draws G.prog G.w A it [it, l] items.size (fun i v => items[i]? = some v) (fun i h => h.IsTupleIter it l i ∧ h.IsTuple l items) where
  live := fun _ _ st => let ⟨o, ho, _⟩ := st.1; ⟨o, ho⟩
  frame := fun _ _ _ st hk => ⟨st.1.at fun o e => hk it (by simp) o e, st.2.at fun o e => hk l (by simp) o e⟩
  item := fun i s Q E hi st hQ => by
    refine nextOf_tuple_item st.1 st.2 (x := items[i]) (by simp [hi]) fun h' hit' hs' => ?_
    exact hQ _ h' s.toks (by simp [hi]) ⟨hit', st.2.extBut hs'.extBut hne⟩ hs'
  done := fun s Q E st hE => nextOf_tuple_end hh st.1 st.2 (by simp) hE

set_option maxRecDepth 100000 in
theorem meets_enumerate_newT (l : Addr) (items : Array Value) (n : Nat) (dct : Option Addr) (sl : Array (Option Value)) :
    Meets (Builtin.«enumerate.__new__» ⟨[.type "enumerate", .ref l], []⟩) (fun _ R s => s.heap.get? l = some { cls := .type "tuple", dict := dct, data := .seq items n, slots := sl } ∧
      R (.ok (.ret (.ref (s.heap.push { cls := .type "tuple_iterator", data := .fields #[.ref l, .int 0 0] }).objs.size)))
        { s with heap := (s.heap.push { cls := .type "tuple_iterator", data := .fields #[.ref l, .int 0 0] }).push { cls := .type "enumerate", data := .fields #[.none, .bool false, .ref s.heap.objs.size, rawInt 0, .none, .none] } }) :=
  .of_wp fun prog w A R s h => by
    obtain ⟨hp, g, d, tk, os⟩ := s; obtain ⟨hl, h⟩ := h
    have hsub := sub_enumerate
    have hL : Heap.IsTuple (Shared.heap ⟨hp, g, d, tk, os⟩) l items := ⟨_, hl, rfl, n, rfl⟩
    wp_delta
    (with_reducible refine PySem.wpAny_bind ?_)
    wp_delta
    (with_reducible refine PySem.wpAny_bind ?_)
    wp_delta
    (with_reducible refine PySem.wpAny_pure ?_)
    ((with_reducible apply PySem.wpAny_ite_false); focus (rfl; done))
    (with_reducible refine PySem.wpAny_bind ?_)
    (with_reducible refine PySem.wpAny_of_eq (by assumption) ?_)
    ((with_reducible apply PySem.wpAny_ite_false); focus (rfl; done))
    (with_reducible refine PySem.wpAny_pure ?_)
    ((with_reducible apply PySem.wpAny_ite_true); focus (rfl; done))
    (with_reducible refine PySem.wpAny_bind ?_)
    wp_delta
    (with_reducible refine PySem.wpAny_bind ?_)
    refine wpAny_stack_any fun st => wpAny_pure ?_
    generalize PySem.Builtin.SmallTypes.calledThroughType.match_1 _ _ _ _ = b
    cases b
    · ((with_reducible apply PySem.wpAny_ite_false); focus (rfl; done))
      (with_reducible refine PySem.wpAny_bind ?_)
      wp_delta
      ((with_reducible apply PySem.wpAny_ite_false); focus (rfl; done))
      wp_delta
      ((with_reducible apply PySem.wpAny_ite_false); focus (rfl; done))
      wp_delta
      (with_reducible refine PySem.wpAny_pure ?_)
      wp_delta
      (with_reducible refine PySem.wpAny_bind ?_)
      (with_reducible apply wpAny_pyIter_tuple hL)
      (with_reducible refine PySem.wpAny_bind ?_)
      wp_delta
      wp_delta
      ((with_reducible apply PySem.wpAny_ite_false); focus (rfl; done))
      wp_delta
      wp_delta
      (with_reducible refine PySem.wpAny_bind ?_)
      (with_reducible refine PySem.wpAny_alloc' ?_)
      (with_reducible refine PySem.wpAny_pure ?_)
      wp_delta
      (with_reducible refine PySem.wpAny_pure ?_)
      exact ⟨_, rfl, h⟩
    · ((with_reducible apply PySem.wpAny_ite_true); focus (rfl; done))
      (with_reducible refine PySem.wpAny_bind ?_)
      wp_delta
      (with_reducible refine PySem.wpAny_pure ?_)
      (with_reducible refine PySem.wpAny_bind ?_)
      (with_reducible apply wpAny_pyIter_tuple hL)
      (with_reducible refine PySem.wpAny_bind ?_)
      wp_delta
      wp_delta
      ((with_reducible apply PySem.wpAny_ite_false); focus (rfl; done))
      wp_delta
      wp_delta
      (with_reducible refine PySem.wpAny_bind ?_)
      (with_reducible refine PySem.wpAny_alloc' ?_)
      (with_reducible refine PySem.wpAny_pure ?_)
      wp_delta
      (with_reducible refine PySem.wpAny_pure ?_)
      exact ⟨_, rfl, h⟩

theorem call_enumerate_tuple {A : Around} {E : Value → Shared → Prop} {l : Addr} {items : Array Value} {Q : Value → Shared → Prop} (hL : IsTup s.heap l items)
    (h : ∀ h', IsEnum h' (s.heap.objs.size + 1) s.heap.objs.size 0 .none → h'.IsTupleIter s.heap.objs.size l 0 → h'.objs.size = s.heap.objs.size + 2 →
      (∀ b o, s.heap.get? b = some o → h'.get? b = some o) → Q (.ref (s.heap.objs.size + 1)) { s with heap := h' }) :
    wpAny (model G.prog G.w) A (call (.type "enumerate") [.ref l]) Q E s := by
  obtain ⟨⟨c, dct, dt, sl⟩, hl, hc, n, hd⟩ := hL
  replace hc : c = .type "tuple" := hc
  replace hd : dt = .seq items n := hd
  subst hc hd
  refine callType_new F.called_enumerate (by decide) (F.typeCall_enumerate_1 _) (F.newCall_enumerate_1 _) (fun obj => F.args_object_init_2 obj _) F.entry_enumerate_new
    (meets_enumerate_newT l items n dct sl) ⟨hl, ?_⟩
  have hz : (s.heap.push { cls := .type "tuple_iterator", data := .fields #[.ref l, .int 0 0] }).objs.size = s.heap.objs.size + 1 := Heap.size_push ..
  show _ ∧ _
  rw [hz]
  have he : IsEnum ((s.heap.push { cls := .type "tuple_iterator", data := .fields #[.ref l, .int 0 0] }).push
      { cls := .type "enumerate", data := .fields #[.none, .bool false, .ref s.heap.objs.size, rawInt 0, .none, .none] }) (s.heap.objs.size + 1) s.heap.objs.size 0 .none := by
    have := Heap.get?_push_size (s.heap.push { cls := .type "tuple_iterator", data := .fields #[.ref l, .int 0 0] })
      (o := { cls := .type "enumerate", data := .fields #[.none, .bool false, .ref s.heap.objs.size, rawInt 0, .none, .none] }) rfl
    rw [hz] at this; exact this
  refine ⟨⟨_, he, rfl⟩, h _ he ⟨_, Heap.get?_push_of_some _ (Heap.get?_push_size _ rfl), rfl, rfl⟩ (by rw [Heap.size_push, hz]) fun b o x => Heap.get?_push_of_some _ (Heap.get?_push_of_some _ x)⟩

/-- pairs that the iterator owns -/
theorem Turn.pairU {A : Around} {x y : Str} {px py pt : Pos} {kt : Nat} {I : Addr} {fp wr : List Addr} {items : List (AV × AV)} {Pt : Nat → Array Value → Prop} {St : Nat → Heap → Prop} {Mid : Nat → Addr → Heap → Prop} (hh : A.handled = none)
    (W : WalksU G.prog G.w A I fp wr items.length Pt St Mid) (kinds : ∀ i h b, St i h → b ∈ fp → ∃ o, h.get? b = some o ∧ (∀ es ep, o.data ≠ .dict es ep) ∧ (∀ v, o.data ≠ .cell v) ∧ (b ∈ wr → o.cls ≠ .type "tuple"))
    (midkinds : ∀ i T h b, Mid i T h → b ∈ wr → ∃ o, h.get? b = some o ∧ o.cls ≠ .type "tuple" ∧ (∀ es ep, o.data ≠ .dict es ep) ∧ (∀ v, o.data ≠ .cell v))
    (hP : ∀ i vals h ρ, Pt i vals → i < items.length → TupKeep h₁ h → Pre ρ₁ ρ → ∃ p cu cv, items[i]? = some p ∧ vals = #[cu, cv] ∧ Rep h ρ cu p.1 ∧ Rep h ρ cv p.2)
    (hx : env.kindOf x = some .local ∨ env.kindOf x = some .cell) (hy : env.kindOf y = some .local ∨ env.kindOf y = some .cell) :
    Turn G env A (.Tuple [.Name x px, .Name y py] kt pt) I h₁ ρ₁ fp wr items (fun b Γ => upd (upd Γ x b.1) y b.2) St (env.kindOf x = some .local ∧ env.kindOf y = some .local) := by
  refine ⟨W.sub, W.frame, kinds, fun i b s σ ρ Γ Q E hi st S L tk p O h => ?_, fun s Q E st h => W.done s _ E st fun h' tk hk => ⟨rfl, h h' tk hk⟩⟩
  have hlt : i < items.length := (List.getElem?_eq_some_iff.mp hi).1
  refine W.item i s _ E hlt st fun T vals h' tk' hv hT hmid hk => ?_
  obtain ⟨S', L', tk''⟩ := stepped (St := St) (i := i) (fun b hb => kinds i s.heap b st hb) W.sub S L O (tk := tk') hk
  dsimp only
  refine W.go _ _ _ i T _ _ _ hmid fun h'' st' hk' => ?_
  have S'' : StG G σ ρ { s with heap := h'', toks := tk' } ∧ StL G env Γ ρ h'' ∧ TupKeep h' h'' := by
    have := stepped (s := { s with heap := h', toks := tk' }) (fp := wr) (wr := wr) (St := St) (i := i) (tk := tk') (h' := h'') (fun b hb => ?_) (fun _ h => h) S' L' ⟨fun b hb => O.off b (W.sub b hb), O.new⟩ hk'
    · exact this
    · obtain ⟨o, e, k1, k2, k3⟩ := midkinds i T h' b hmid hb
      exact ⟨o, e, k2, k3, fun _ => k1⟩
  obtain ⟨S'', L'', tk3⟩ := S''
  obtain ⟨q, cu, cv, hq, rfl, ru, rv⟩ := hP i vals h'' ρ hv hlt (fun a vs ht => tk3 a vs (tk'' a vs (tk a vs ht))) p
  rw [hi] at hq; cases hq
  have hT' : h''.IsTuple T #[cu, cv] := hT.at fun o e => hk' T o (W.apart _ _ _ hmid) e
  refine assign_pair hh hx hy S'' L'' hT' ru rv fun s₂ S₂ L₂ mv => h s₂ S₂ L₂ (W.frame _ _ _ st' fun c hc o e => ?_) ⟨fun c o h1 h2 h3 e => mv.keep c o (by simp) h2 h3 (hk' c o h1 (hk c o h1 e)), fun hl c o h1 h2 e => mv.keepL hl c o (by simp) h2 (hk' c o h1 (hk c o h1 e)), fun a vs ht => mv.tup a vs (tk3 a vs (tk'' a vs ht))⟩
  obtain ⟨o', e', k1, k2, _⟩ := kinds _ _ c st' hc
  obtain ⟨q1, q2⟩ := kinds_off L'' ⟨o', e', k1, k2⟩
  exact mv.keep c o (by simp) q1 q2 e

noncomputable def enumAV (l : List AV) : List (AV × AV) := l.zipIdx.map fun p => (.int (p.2 : Int), p.1)
theorem enumAV_get {l : List AV} {i : Nat} {x : AV} (h : l[i]? = some x) : (enumAV l)[i]? = some (.int (i : Int), x) := by
  simp [enumAV, List.getElem?_map, List.getElem?_zipIdx, h]
theorem enumAV_length (l : List AV) : (enumAV l).length = l.length := by simp [enumAV]

theorem ItT.enum (K : GloOK G) {e₁ : Expr} {p pos : Pos} {l : List AV} {x y : Str} {px py pt : Pos} {kt : Nat} (hm : G.mg "enumerate" = none)
    (h1 : EsJ G env d Γ σ (spliced (backTo pos (starEach [e₁] env))) [.tup l] σ) (hx : env.kindOf x = some .local ∨ env.kindOf x = some .cell := by first | exact .inl rfl | exact .inr rfl)
    (hy : env.kindOf y = some .local ∨ env.kindOf y = some .cell := by first | exact .inl rfl | exact .inr rfl) (hn : env.kindOf "enumerate" = some .globalImplicit := by rfl)
    (he : starEach [e₁] env = (false, eval e₁ env) :: starEach [] env := by rfl) (hpl : (backTo pos (starEach [] env)).any (·.1) = false := by rfl) :
    ItT G env d Γ σ (eval (.Call (.Name "enumerate" p) [e₁] [] pos) env) (.Tuple [.Name x px, .Name y py] kt pt) (enumAV l) (fun b Γ => upd (upd Γ x b.1) y b.2) σ := fun A s ρ Q E R S L hQ => by
  refine callT_raw K R S L hm rfl (h1 A s ρ _ E R S L fun cvs s₁ ρ₁ S₁ x₁ r₁ => ?_) hn (by decide) (by decide) he hpl
  obtain ⟨c, rfl, r⟩ := r₁.one
  obtain ⟨t, vs, rfl, ht, rl⟩ := Rep.tup_ r
  refine call_enumerate_tuple ht fun h' he' hit hsz k => ?_
  refine wpAny_pyIter_enum he' ?_
  obtain ⟨ot, hot, hct, nt, hdt⟩ := ht
  have htl : t < s₁.heap.objs.size := Heap.lt_size hot
  have S' := S₁.ext (s' := { s₁ with heap := h' }) k rfl rfl
  have D := drawsTuple (G := G) (A := A.in1) R.handled s₁.heap.objs.size t (Nat.ne_of_lt htl) vs.toArray
  have W := WalksT.toU (WalksT.enumerateD D (s₁.heap.objs.size + 1) (Nat.ne_of_gt (Nat.lt_succ_self _)) (by simp only [List.mem_cons, List.not_mem_nil, or_false, not_or]; exact ⟨Nat.ne_of_gt (Nat.lt_succ_self _), Nat.ne_of_gt (Nat.lt_succ_of_lt htl)⟩) (by simp))
  have tkp := S₁.tupKeep (KeepX.of_all (ρ := ρ₁) k)
  have hlen : vs.toArray.size = (enumAV l).length := by rw [enumAV_length, List.size_toArray, rl.length]
  rw [hlen] at W
  have kd : ∀ (i : Nat) (h : Heap) (b : Addr), ((∃ old, IsEnum h (s₁.heap.objs.size + 1) s₁.heap.objs.size i old) ∧ h.IsTupleIter s₁.heap.objs.size t i ∧ h.IsTuple t vs.toArray) → b ∈ [s₁.heap.objs.size + 1, s₁.heap.objs.size, t] →
      ∃ o, h.get? b = some o ∧ (∀ es ep, o.data ≠ .dict es ep) ∧ (∀ v, o.data ≠ .cell v) ∧ (b ∈ [s₁.heap.objs.size + 1, s₁.heap.objs.size] → o.cls ≠ .type "tuple") := by
    rintro i h b ⟨⟨old, e1⟩, ⟨o2, e2, c2, d2⟩, ⟨o3, e3, c3, n3, d3⟩⟩ hb
    rcases List.mem_cons.mp hb with rfl | hb
    · exact ⟨_, e1, (by intro _ _ q; cases q), (by intro _ q; cases q), fun _ q => absurd (Value.type.inj q) (by decide)⟩
    · rcases List.mem_cons.mp hb with rfl | hb
      · exact ⟨_, e2, (by rw [d2]; intro _ _ q; cases q), (by rw [d2]; intro _ q; cases q), fun _ q => by rw [c2] at q; exact absurd (Value.type.inj q) (by decide)⟩
      · rw [List.mem_singleton.mp hb]
        exact ⟨_, e3, (by rw [d3]; intro _ _ q; cases q), (by rw [d3]; intro _ q; cases q), fun hm => by
          rcases List.mem_cons.mp hm with q | hm
          · exact absurd (q ▸ htl) (Nat.not_lt.mpr (Nat.le_succ _))
          · exact absurd ((List.mem_singleton.mp hm) ▸ htl) (Nat.lt_irrefl _)⟩
  refine hQ _ _ _ _ _ _ ρ₁ (Turn.pairU (h₁ := h') (ρ₁ := ρ₁) R.handled W (fun i h b st hb => kd i h b st hb) (fun i T h b hmid hb => ?_) (fun i vals h ρ' hv hi tk p => ?_) hx hy) ⟨⟨_, he'⟩, hit, ⟨ot, k _ _ hot, hct, nt, hdt⟩⟩ S' (x₁.trans (Ext.of_all k)) (fun b hb => ?_) (fun b hb => ?_)
  · obtain ⟨⟨xo, e1⟩, ⟨⟨o2, e2, c2, d2⟩, _⟩, _⟩ := hmid
    rcases List.mem_cons.mp hb with rfl | hb
    · exact ⟨_, e1, (fun q => absurd (Value.type.inj q) (by decide)), (by intro _ _ q; cases q), (by intro _ q; cases q)⟩
    · rw [List.mem_singleton.mp hb]
      exact ⟨_, e2, (fun q => by rw [c2] at q; exact absurd (Value.type.inj q) (by decide)), (by rw [d2]; intro _ _ q; cases q), (by rw [d2]; intro _ q; cases q)⟩
  · obtain ⟨t', xv, hxv, rfl⟩ := hv
    have hi' : i < l.length := by rw [enumAV_length] at hi; exact hi
    have hxl : l[i]? = some l[i] := by simp [hi']
    obtain ⟨v', e', r'⟩ := rl.get hxl
    have hv' : vs[i]? = some xv := by simpa using hxv
    rw [hv'] at e'; cases e'
    exact ⟨_, _, _, enumAV_get hxl, rfl, .int _ _, (r'.mono tkp (Pre.refl _)).mono tk p⟩
  · rcases List.mem_cons.mp hb with rfl | hb
    · intro hm; exact absurd (S₁.lt hm) (Nat.not_lt.mpr (Nat.le_succ _))
    · rcases List.mem_cons.mp hb with rfl | hb
      · intro hm; exact absurd (S₁.lt hm) (Nat.lt_irrefl _)
      · rw [List.mem_singleton.mp hb]; exact S₁.tup ⟨ot, hot, hct, nt, hdt⟩
  · rcases List.mem_cons.mp hb with rfl | hb
    · exact new_size S₁ x₁ (Nat.le_succ _)
    · rw [List.mem_singleton.mp hb]; exact new_size S₁ x₁ (Nat.le_refl _)
end
end Mine
end
section
open PySem PySem.W PyProof.Rows
set_option linter.unusedVariables false
set_option linter.unusedSimpArgs false
namespace Mine
section
variable {G : Glo} {env : Env} {d : Nat} {Γ Γ' Γ₁ Γ₂ : List (Str × AV)} {σ σ' σ₁ σ₂ σ₃ σ₄ : List AObj} {ρ ρ' ρ₁ ρ₂ ρ₃ : List Addr} {s s' s₁ : Shared} {h h' h₁ h₂ h₃ : Heap}

noncomputable def SetJ (G : Glo) (d : Nat) (σ : List AObj) (x y v : AV) (σ' : List AObj) : Prop :=
  ∀ (A : Around) (s : Shared) (ρ : List Addr) (cx cy cv : Value) (Q : Unit → Shared → Prop) (E : Value → Shared → Prop), Room A d → StG G σ ρ s → Rep s.heap ρ cx x → Rep s.heap ρ cy y → Rep s.heap ρ cv v →
    (∀ s', StG G σ' ρ s' → Ext ρ ρ s.heap s'.heap → Q () s') → wpAny (model G.prog G.w) A (setItem cx cy cv) Q E s

theorem SJ.setSub {o i e : Expr} {pos' pos : Pos} {x y v : AV} (h1 : EJ G env d Γ σ (eval e env) v σ₁) (h2 : EJ G env d Γ σ₁ (eval o env) x σ₂) (h3 : EJ G env d Γ σ₂ (eval i env) y σ₃) (h4 : SetJ G d σ₃ x y v σ₄)
    (hs : swapsWith e (some (.Subscript o i pos')) pos.line env = pure false := by rfl) : SJ G env d Γ σ (exec (.Assign [.Subscript o i pos'] e pos) env) .next Γ σ₄ := fun A s ρ Q E R S L h =>
  wpAny_Assign_Subscript (h1 A s ρ _ E R S L fun cv s₁ ρ₁ S₁ x₁ r₁ => h2 A s₁ ρ₁ _ E R S₁ (L.keep S x₁) fun cx s₂ ρ₂ S₂ x₂ r₂ => h3 A s₂ ρ₂ _ E R S₂ ((L.keep S x₁).keep S₁ x₂) fun cy s₃ ρ₃ S₃ x₃ r₃ => by
    have L₃ := ((L.keep S x₁).keep S₁ x₂).keep S₂ x₃
    refine h4 A s₃ ρ₃ cx cy cv _ E R S₃ (r₂.mono (S₂.tupKeep x₃.keep) x₃.pre) r₃ ((r₁.mono (S₁.tupKeep x₂.keep) x₂.pre).mono (S₂.tupKeep x₃.keep) x₃.pre) fun s₄ S₄ x₄ => ?_
    exact h .next s₄ ρ₃ S₄ (L₃.keep S₃ x₄) (ExtS.of (((x₁.trans x₂).trans x₃).trans x₄) S₄) trivial) hs

noncomputable def put (kvs : List (Str × AV)) (k : Str) (v : AV) : List (Str × AV) :=
  if kvs.any (fun kv => decide (kv.1 = k)) then kvs.map (fun kv => if kv.1 = k then (kv.1, v) else kv) else kvs ++ [(k, v)]

theorem map_put {k : Str} {cv : Value} {v : AV} (r : Rep h ρ cv v) : ∀ {cvs : List (Str × Value)} {kvs : List (Str × AV)}, cvs.map (·.1) = kvs.map (·.1) → RepL h ρ (cvs.map (·.2)) (kvs.map (·.2)) →
    (cvs.map fun kv => if kv.1 = k then (kv.1, cv) else kv).map (·.1) = (kvs.map fun kv => if kv.1 = k then (kv.1, v) else kv).map (·.1) ∧ RepL h ρ ((cvs.map fun kv => if kv.1 = k then (kv.1, cv) else kv).map (·.2)) ((kvs.map fun kv => if kv.1 = k then (kv.1, v) else kv).map (·.2))
  | [], [], _, _ => ⟨rfl, .nil⟩
  | [], _ :: _, h1, _ => by simp at h1
  | _ :: _, [], h1, _ => by simp at h1
  | (a, cu) :: cvs, (b, u) :: kvs, h1, h2 => by
    simp only [List.map_cons, List.cons.injEq] at h1
    obtain ⟨rfl, h1⟩ := h1
    simp only [List.map_cons] at h2
    cases h2 with
    | cons r2 q2 =>
      obtain ⟨g1, g2⟩ := map_put r h1 q2
      simp only [List.map_cons]
      by_cases e : a = k
      · simp only [e, if_true]
        exact ⟨by rw [g1], .cons r g2⟩
      · simp only [e, if_false]
        exact ⟨by rw [g1], .cons r2 g2⟩

theorem stored_put {k : Str} {cv : Value} {v : AV} (r : Rep h ρ cv v) {cvs : List (Str × Value)} {kvs : List (Str × AV)} (h1 : cvs.map (·.1) = kvs.map (·.1)) (h2 : RepL h ρ (cvs.map (·.2)) (kvs.map (·.2))) :
    (stored cvs k cv).map (·.1) = (put kvs k v).map (·.1) ∧ RepL h ρ ((stored cvs k cv).map (·.2)) ((put kvs k v).map (·.2)) := by
  have hany : cvs.any (fun kv => decide (kv.1 = k)) = kvs.any (fun kv => decide (kv.1 = k)) := by
    have e1 : cvs.any (fun kv => decide (kv.1 = k)) = (cvs.map (·.1)).any (fun x => decide (x = k)) := by rw [List.any_map]; rfl
    have e2 : kvs.any (fun kv => decide (kv.1 = k)) = (kvs.map (·.1)).any (fun x => decide (x = k)) := by rw [List.any_map]; rfl
    rw [e1, e2, h1]
  unfold stored put
  rw [hany]
  split
  · exact map_put r h1 h2
  · exact ⟨by simp [h1], by simp only [List.map_append, List.map_cons, List.map_nil]; exact h2.append (.cons r .nil)⟩

theorem SetJ.dict (K : GloOK G) {i : Nat} {kvs : List (Str × AV)} {k : Str} {v : AV} (hi : σ[i]? = some (AObj.sdict kvs)) (hl : kvs.length ≤ 100000) : SetJ G d σ (.ref i) (.str k) v (σ.set i (AObj.sdict (put kvs k v))) := fun A s ρ cx cy cv Q E R S r1 r2 r3 h => by
  (first | obtain ⟨_, rfl⟩ := Rep.int_ r2 | obtain ⟨_, rfl⟩ := Rep.str_ r2 | obtain rfl := Rep.bool_ r2 | obtain rfl := Rep.none_ r2 | obtain rfl := Rep.opq_ r2 | obtain ⟨_, rfl, _⟩ := Rep.ref_ r2 | cases r2)
  obtain ⟨a, cvs, rfl, e, h1, h2, h3⟩ := reads_sdict S hi r1
  have hlen : cvs.length = kvs.length := by have := congrArg List.length h2; simpa using this
  refine wpAny_setItem_pairs (isStrOf_self k _) h1 (fun h' hd hs => ?_) (by rw [hlen]; exact Nat.le_trans hl (by decide))
  have tk : TupKeep s.heap h' := by
    obtain ⟨o, es, ep, ho, _, hd', _⟩ := h1
    exact rep_keeps ho hd' hs
  obtain ⟨g1, g2⟩ := stored_put (r3.mono tk (Pre.refl _)) h2 (h3.mono tk (Pre.refl _))
  refine h _ (S.upd (s' := { s with heap := h', toks := s.toks + 1 }) e (fun b o hb e => (hs.2 b hb).trans e) ⟨_, hd, g1, g2⟩ rfl rfl) (Ext.upd (List.mem_of_getElem? e) fun b o hb e => (hs.2 b hb).trans e)

theorem SetJ.list {i : Nat} {l : List AV} {k : Int} {v : AV} (hi : σ[i]? = some (AObj.list l)) (h0 : 0 ≤ k := by decide) (hfit : k < 2 ^ 63 := by decide) (hn : k < l.length) : SetJ G d σ (.ref i) (.int k) v (σ.set i (AObj.list (l.set k.toNat v))) := fun A s ρ cx cy cv Q E R S r1 r2 r3 h => by
  (first | obtain ⟨_, rfl⟩ := Rep.int_ r2 | obtain ⟨_, rfl⟩ := Rep.str_ r2 | obtain rfl := Rep.bool_ r2 | obtain rfl := Rep.none_ r2 | obtain rfl := Rep.opq_ r2 | obtain ⟨_, rfl, _⟩ := Rep.ref_ r2 | cases r2)
  obtain ⟨a, vs, n, rfl, ea, ho, q⟩ := list_at S hi r1
  have hl : s.heap.IsList a vs.toArray := ⟨_, ho, rfl, n, rfl⟩
  have hlen := q.length
  unfold setItem
  try with_reducible refine wpAny_holding ?_
  first | refine wpAny_bind (wpAny_pure ?_) | skip
  refine wpAny_bind (wpAny_sequenceKey hl.typeIs (by decide) ?_)
  refine wpAny_bind (wpAny_callSpecial?_slot (name := Str.ofString "__setitem__") hl.typeIs slot_list_setitem
    (wpAny_call_entry slot_list_setitem hl.typeIs entry_list_setitem ?_ (args_list_setitem _ _ _)))
  show wpAny _ _ (Builtin.List.listSubscript? (.int k _) >>= _) _ _ s
  refine wpAny_bind (wpAny_listSubscript_int (fitsIndex_of h0 hfit) ?_)
  clear hfit
  obtain ⟨j, rfl⟩ := Int.eq_ofNat_of_zero_le h0
  have hj : j < vs.toArray.size := by rw [List.size_toArray, hlen]; lia
  have hx' : vs.toArray[j]? = some vs.toArray[j] := Array.getElem?_eq_getElem hj
  show wpAny _ _ ((seqItemAt a j >>= fun r => pure (r.map (j, ·))) >>= _) _ _ s
  refine wpAny_bind (wpAny_bind (wpAny_seqItemAt ho rfl (wpAny_pure ?_)))
  rw [hx']
  show wpAny _ _ (setSeqItemAt a j cv >>= _) _ _ s
  obtain ⟨S₃, x₃, _⟩ := StG.setList (ws := vs.set j cv) (l := l.set j v) (tk := s.toks) S ea ho (fun xs => xs.setIfInBounds j cv) (by simp) (q.set r3 j)
  have fin := h { s with heap := s.heap.update a (Obj.mapSeq (·.setIfInBounds j cv)) } S₃ x₃
  refine wpAny_bind (wpAny_setSeqItemAt ho rfl ?_)
  first
    | exact wpAny_bind (wpAny_pure (wpAny_pure ⟨.none, rfl, wpAny_pure fin⟩))
    | exact wpAny_pure ⟨.none, rfl, wpAny_pure fin⟩

theorem SetJ.tdict (K : GloOK G) {i : Nat} {ks l : List AV} (hi : σ[i]? = some (AObj.tdict ks)) (hk : okKey 8 (.tup l) = true) (hl : ks.length ≤ 100000) : SetJ G d σ (.ref i) (.tup l) (.bool true) (σ.set i (AObj.tdict (if AV.tup l ∈ ks then ks else ks ++ [.tup l]))) := fun A s ρ cx cy cv Q E R S r1 r2 r3 h => by
  (first | obtain ⟨_, rfl⟩ := Rep.int_ r3 | obtain ⟨_, rfl⟩ := Rep.str_ r3 | obtain rfl := Rep.bool_ r3 | obtain rfl := Rep.none_ r3 | obtain rfl := Rep.opq_ r3 | obtain ⟨_, rfl, _⟩ := Rep.ref_ r3 | cases r3)
  obtain ⟨a, rfl, e⟩ := Rep.ref_ r1
  obtain ⟨_, ea, xs, h1, h2, h3⟩ := S.obj hi
  rw [e] at ea; cases ea
  obtain ⟨t, vs, rfl, ht, rl⟩ := Rep.tup_ r2
  have hxl : xs.length = ks.length := by rw [← h2]; simp
  have rk : Rep s.heap [] (.ref t) (.tup l) := (Rep.tup ht rl).any (okKey_lt hk)
  refine wpAny_setItem_heap (knd := tkind G.prog G.w) (k := .tup l) (a := t) ?_ ⟨rk, hk⟩ h1 (fun h' hd hs => ?_) (by rw [hxl]; exact Nat.le_trans hl (by decide))
  · have := R.u
    show A.units + 1 + 20 < cLine
    lia
  · have tk : TupKeep s.heap h' := by
      obtain ⟨o, es, ep, ho, _, hd', _⟩ := h1
      exact rep_keeps ho hd' hs
    refine h _ (S.upd (s' := { s with heap := h', toks := _ }) e (fun b o hb e => (hs.2 b hb).trans e) ⟨_, hd, ?_, ?_⟩ rfl rfl) (Ext.upd (List.mem_of_getElem? e) fun b o hb e => (hs.2 b hb).trans e)
    · unfold storedH
      rw [atKey_mem, h2]
      by_cases hm : AV.tup l ∈ ks
      · simp only [hm, decide_true, if_true]
        rw [List.map_map, ← h2]
        refine List.map_congr_left fun x hx => ?_
        simp only [Function.comp, putAt]
        split <;> rfl
      · simp only [hm, decide_false, Bool.false_eq_true, if_false, List.map_append, h2, List.map_cons, List.map_nil]
    · intro x hx
      unfold storedH at hx
      split at hx
      · obtain ⟨y, hy, rfl⟩ := List.mem_map.mp hx
        simp only [putAt]
        split
        · rfl
        · exact h3 y hy
      · rcases List.mem_append.mp hx with q | q
        · exact h3 x q
        · rw [List.mem_singleton.mp q]

theorem EJ.dict0S {pos : Pos} : EJ G env d Γ σ (eval (.Dict [] [] pos) env) (.ref σ.length) (σ ++ [AObj.sdict []]) := fun A s ρ Q E R S L h => by
  refine wpAny_Dict_empty ?_
  have ha := get_size_none s.heap
  have k : ∀ b o, s.heap.get? b = some o → (s.heap.push { cls := .type "dict", data := .dict #[] }).get? b = some o := fun b o e => get_push_ne e
  exact h _ _ (ρ ++ [s.heap.objs.size]) (S.push (s' := { s with heap := _ }) ha k ⟨[], Heap.DictOf.new _, rfl, .nil⟩ rfl rfl) (Ext.push ha k) (.ref (by rw [← S.len]; simp))
theorem EJ.dict0T {pos : Pos} : EJ G env d Γ σ (eval (.Dict [] [] pos) env) (.ref σ.length) (σ ++ [AObj.tdict []]) := fun A s ρ Q E R S L h => by
  refine wpAny_Dict_empty ?_
  have ha := get_size_none s.heap
  have k : ∀ b o, s.heap.get? b = some o → (s.heap.push { cls := .type "dict", data := .dict #[] }).get? b = some o := fun b o e => get_push_ne e
  exact h _ _ (ρ ++ [s.heap.objs.size]) (S.push (s' := { s with heap := _ }) ha k ⟨[], Heap.DictOfH.new _, rfl, fun _ h => nomatch h⟩ rfl rfl) (Ext.push ha k) (.ref (by rw [← S.len]; simp))

theorem EJ.get (K : GloOK G) {o e₁ e₂ : Expr} {apos pos : Pos} {pl : Sem Bool} {i : Nat} {kvs : List (Str × AV)} {k : Str} {v : AV} (h1 : EJ G env d Γ σ (eval o env) (.ref i) σ) (h2 : EJ G env d Γ σ (eval e₁ env) (.str k) σ) (h3 : EJ G env d Γ σ (eval e₂ env) v σ) (hi : σ[i]? = some (AObj.sdict kvs))
    (hs : starEach [e₁, e₂] env = [(false, eval e₁ env), (false, eval e₂ env)] := by rfl) (he : eval (.Call (.Attribute o (Str.ofString "get") apos) [e₁, e₂] [] pos) env = mcall o (Str.ofString "get") apos pos [e₁, e₂] env pl := by rfl) :
    EJ G env d Γ σ (eval (.Call (.Attribute o (Str.ofString "get") apos) [e₁, e₂] [] pos) env) ((look kvs k).getD v) σ := fun A s ρ Q E R S L h => by
  refine MethodCall_ (h1 A s ρ _ E R S L fun co s₁ ρ₁ S₁ x₁ r₁ => ?_) he
  obtain ⟨a, cvs, rfl, ea, g1, g2, g3⟩ := reads_sdict S₁ hi r₁
  obtain ⟨o₁, ho₁⟩ := K.sys
  have hnd : ∀ b, Value.ref a = .ref b → ∃ ob, s₁.heap.get? b = some ob ∧ ob.dict = none := fun b hb => by
    cases hb
    obtain ⟨ob, es, ep, hob, hex, _⟩ := g1
    exact ⟨ob, hob, hex.2.1⟩
  refine getMethod_builtin g1.typeIs PySem.F.plainAttrs_dict PySem.F.slot_dict_get PySem.F.type_dict_get hnd ?_
  dsimp only
  rw [hs]
  refine wpAny_dict_get2 (knd := strKind G.prog G.w) (S₁.sys ho₁ (List.mem_of_getElem? ea)) (h2 A s₁ ρ₁ _ E R S₁ (L.keep S x₁) fun ck s₂ ρ₂ S₂ x₂ r₂ => h3 A s₂ ρ₂ _ E R S₂ ((L.keep S x₁).keep S₁ x₂) fun cv s₃ ρ₃ S₃ x₃ r₃ => ?_)
  (first | obtain ⟨_, rfl⟩ := Rep.int_ r₂ | obtain ⟨_, rfl⟩ := Rep.str_ r₂ | obtain rfl := Rep.bool_ r₂ | obtain rfl := Rep.none_ r₂ | obtain rfl := Rep.opq_ r₂ | obtain ⟨_, rfl, _⟩ := Rep.ref_ r₂ | cases r₂)
  obtain ⟨a', cvs', e', ea', g1', g2', g3'⟩ := reads_sdict S₃ hi ((r₁.mono (S₁.tupKeep x₂.keep) x₂.pre).mono (S₂.tupKeep x₃.keep) x₃.pre)
  cases e'
  refine ⟨k, _, isStrOf_self k _, g1'.mapOf, ?_⟩
  have S₄ := S₃.with (s' := { s₃ with toks := s₃.toks + 1 }) rfl rfl rfl
  rcases valueAt_look (k := k) g2' g3' with ⟨a1, a2⟩ | ⟨cv', v', a1, a2, rv⟩
  · rw [a1]
    exact h _ _ ρ₃ S₄ ((x₁.trans x₂).trans x₃) (by rw [a2]; exact r₃)
  · rw [a1]
    exact h _ _ ρ₃ S₄ ((x₁.trans x₂).trans x₃) (by rw [a2]; exact rv)
end
end Mine
end
section
open PySem PySem.W PyProof.Rows
set_option linter.unusedVariables false
set_option linter.unusedSimpArgs false
namespace Mine
section
variable {G : Glo} {env : Env} {d : Nat} {Γ Γ' Γ₁ Γ₂ : List (Str × AV)} {σ σ' σ₁ σ₂ σ₃ σ₄ : List AObj} {ρ ρ' ρ₁ ρ₂ ρ₃ : List Addr} {s s' s₁ : Shared} {h h' h₁ h₂ h₃ : Heap}

theorem Moved.toS {loc : Prop} (m : Moved env loc [] s s') (S' : StG G σ ρ s') (L' : StL G env Γ ρ s'.heap) : ExtS env ρ ρ s.heap s'.heap :=
  ExtB.toS ⟨Pre.refl _, fun _ h => .inl h, fun b o _ h2 h3 e => m.keep b o (by simp) h2 h3 e⟩ S' L'

theorem assign_three {A : Around} {x y z : Str} {px py pz pt : Pos} {kt : Nat} {t : Addr} {cu cv cw : Value} {u v w : AV} {Q : Unit → Shared → Prop} {E : Value → Shared → Prop} (hh : A.handled = none) (hx : env.kindOf x = some .local ∨ env.kindOf x = some .cell) (hy : env.kindOf y = some .local ∨ env.kindOf y = some .cell) (hz : env.kindOf z = some .local ∨ env.kindOf z = some .cell)
    (S : StG G σ ρ s) (L : StL G env Γ ρ s.heap) (ht : s.heap.IsTuple t #[cu, cv, cw]) (ru : Rep s.heap ρ cu u) (rv : Rep s.heap ρ cv v) (rw' : Rep s.heap ρ cw w)
    (h : ∀ s', StG G σ ρ s' → StL G env (upd (upd (upd Γ x u) y v) z w) ρ s'.heap → ExtS env ρ ρ s.heap s'.heap → Q () s') :
    wpAny (model G.prog G.w) A (assign (.Tuple [.Name x px, .Name y py, .Name z pz] kt pt) env (.ref t)) Q E s := by
  refine wpAny_assign_Tuple hh ht rfl rfl fun h' hx' => ?_
  have k : ∀ b o, s.heap.get? b = some o → h'.get? b = some o := fun b o e => hx' b o (Nat.ne_of_lt (Heap.lt_size e)) e
  have S' : StG G σ ρ { s with heap := h' } := S.ext (s' := { s with heap := h' }) k rfl rfl
  have tk := S.tupKeep (KeepX.of_all (ρ := ρ) k)
  have L' : StL G env Γ ρ h' := L.at (fun o e => k _ o e) (fun _ _ o _ e => k _ o e) tk
  show wpAny _ A (do holding [cv, cw] (assign (.Name x px) env cu); assignInOrder [fun v => assign (.Name y py) env v, fun v => assign (.Name z pz) env v] [cv, cw]) _ _ _
  refine wpAny_bind (wpAny_holding (wpAny_assign_Name (store S' L' hx (ru.mono tk (Pre.refl _)) fun s₂ S₂ L₂ d₂ => ?_)))
  show wpAny _ A (do holding [cw] (assign (.Name y py) env cv); assignInOrder [fun v => assign (.Name z pz) env v] [cw]) _ _ _
  refine wpAny_bind (wpAny_holding (wpAny_assign_Name (store S₂ L₂ hy ((rv.mono tk (Pre.refl _)).mono d₂.tup (Pre.refl _)) fun s₃ S₃ L₃ d₃ => ?_)))
  show wpAny _ A (do holding [] (assign (.Name z pz) env cw); assignInOrder [] []) _ _ _
  refine wpAny_bind (wpAny_holding (wpAny_assign_Name (store S₃ L₃ hz (((rw'.mono tk (Pre.refl _)).mono d₂.tup (Pre.refl _)).mono d₃.tup (Pre.refl _)) fun s₄ S₄ L₄ d₄ => wpAny_pure (h s₄ S₄ L₄ ?_))))
  exact (((ExtS.of (Ext.of_all k) S').trans d₂.ext).trans d₃.ext).trans d₄.ext

theorem SJ.unpack2 {x y : Str} {px py pt pos : Pos} {kt : Nat} {e : Expr} {u v : AV} (h1 : EJ G env d Γ σ (eval e env) (.tup [u, v]) σ₁) (hx : env.kindOf x = some .local ∨ env.kindOf x = some .cell := by first | exact .inl rfl | exact .inr rfl) (hy : env.kindOf y = some .local ∨ env.kindOf y = some .cell := by first | exact .inl rfl | exact .inr rfl)
    (hs : swapsWithSole [.Tuple [.Name x px, .Name y py] kt pt] e pos.line env = pure false := by rfl) (hw : swappedStores [.Tuple [.Name x px, .Name y py] kt pt] e env = pure none := by rfl) :
    SJ G env d Γ σ (exec (.Assign [.Tuple [.Name x px, .Name y py] kt pt] e pos) env) .next (upd (upd Γ x u) y v) σ₁ := fun A s ρ Q E R S L h =>
  wpAny_Assign_stores (h1 A s ρ _ E R S L fun c s₁ ρ₁ S₁ x₁ r₁ => by
    obtain ⟨t, vs, rfl, ht, rl⟩ := Rep.tup_ r₁
    obtain ⟨cu, cv, rfl, ru, rv⟩ := rl.two
    show wpAny _ A (PySem.assign (.Tuple [.Name x px, .Name y py] kt pt) env (.ref t)) _ _ _
    obtain ⟨o, e, hc, n, hd⟩ := ht
    exact assign_pair R.handled hx hy S₁ (L.keep S x₁) ⟨o, e, hc, n, hd⟩ ru rv fun s₂ S₂ L₂ mv => h .next s₂ ρ₁ S₂ L₂ ((ExtS.of x₁ S₁).trans (mv.toS S₂ L₂)) trivial) hs hw

theorem RepL.three {v : List Value} {x y z : AV} (r : RepL h ρ v [x, y, z]) : ∃ c e f, v = [c, e, f] ∧ Rep h ρ c x ∧ Rep h ρ e y ∧ Rep h ρ f z := by
  cases r with
  | cons r q =>
    obtain ⟨e, f, rfl, q', q''⟩ := RepL.two q
    exact ⟨_, _, _, rfl, r, q', q''⟩

theorem SJ.unpack3 {x y z : Str} {px py pz pt pos : Pos} {kt : Nat} {e : Expr} {u v w : AV} (h1 : EJ G env d Γ σ (eval e env) (.tup [u, v, w]) σ₁) (hx : env.kindOf x = some .local ∨ env.kindOf x = some .cell := by first | exact .inl rfl | exact .inr rfl) (hy : env.kindOf y = some .local ∨ env.kindOf y = some .cell := by first | exact .inl rfl | exact .inr rfl)
    (hz : env.kindOf z = some .local ∨ env.kindOf z = some .cell := by first | exact .inl rfl | exact .inr rfl)
    (hs : swapsWithSole [.Tuple [.Name x px, .Name y py, .Name z pz] kt pt] e pos.line env = pure false := by rfl) (hw : swappedStores [.Tuple [.Name x px, .Name y py, .Name z pz] kt pt] e env = pure none := by rfl) :
    SJ G env d Γ σ (exec (.Assign [.Tuple [.Name x px, .Name y py, .Name z pz] kt pt] e pos) env) .next (upd (upd (upd Γ x u) y v) z w) σ₁ := fun A s ρ Q E R S L h =>
  wpAny_Assign_stores (h1 A s ρ _ E R S L fun c s₁ ρ₁ S₁ x₁ r₁ => by
    obtain ⟨t, vs, rfl, ht, rl⟩ := Rep.tup_ r₁
    obtain ⟨cu, cv, cw, rfl, ru, rv, rw'⟩ := rl.three
    show wpAny _ A (PySem.assign (.Tuple [.Name x px, .Name y py, .Name z pz] kt pt) env (.ref t)) _ _ _
    obtain ⟨o, e, hc, n, hd⟩ := ht
    exact assign_three R.handled hx hy hz S₁ (L.keep S x₁) ⟨o, e, hc, n, hd⟩ ru rv rw' fun s₂ S₂ L₂ x₂ => h .next s₂ ρ₁ S₂ L₂ ((ExtS.of x₁ S₁).trans x₂) trivial) hs hw

theorem SJ.swap2 {x y : Str} {px py pt pos : Pos} {kt : Nat} {e : Expr} {u v : AV} (h1 : EJ G env d Γ σ (eval e env) (.tup [u, v]) σ₁) (hx : env.kindOf x = some .local := by rfl) (hy : env.kindOf y = some .local := by rfl)
    (hs : swapsWithSole [.Tuple [.Name x px, .Name y py] kt pt] e pos.line env = pure false := by rfl) (hw : swappedStores [.Tuple [.Name x px, .Name y py] kt pt] e env = pure (some [x, y]) := by rfl) :
    SJ G env d Γ σ (exec (.Assign [.Tuple [.Name x px, .Name y py] kt pt] e pos) env) .next (upd (upd Γ y v) x u) σ₁ := fun A s ρ Q E R S L h => by
  rw [exec_Assign_arm]
  refine wpAny_bind (wpAny_standAt ?_)
  rw [hs]
  refine wpAny_bind (wpAny_pure ?_)
  rw [if_neg (by decide)]
  refine wpAny_bind (h1 A s ρ _ E R S L fun c s₁ ρ₁ S₁ x₁ r₁ => ?_)
  rw [hw]
  refine wpAny_bind (wpAny_pure ?_)
  obtain ⟨t, vs, rfl, ht, rl⟩ := Rep.tup_ r₁
  obtain ⟨cu, cv, rfl, ru, rv⟩ := rl.two
  obtain ⟨o, e, hc, n, hd⟩ := ht
  have L₁ := L.keep S x₁
  unfold assignStores
  refine wpAny_bind (wpAny_rule (wpAny_bind (wpAny_unpackItems_tuple (items := #[cu, cv]) R.handled ⟨o, e, hc, n, hd⟩ fun h' hx' => ?_)))
  have k : ∀ b o, s₁.heap.get? b = some o → h'.get? b = some o := fun b o e => hx' b o (Nat.ne_of_lt (Heap.lt_size e)) e
  have S' : StG G σ₁ ρ₁ { s₁ with heap := h' } := S₁.ext (s' := { s₁ with heap := h' }) k rfl rfl
  have tk := S₁.tupKeep (KeepX.of_all (ρ := ρ₁) k)
  have L' : StL G env Γ ρ₁ h' := L₁.at (fun o e => k _ o e) (fun _ _ o _ e => k _ o e) tk
  show wpAny _ A (do assignInOrder [fun v => bindName env y v, fun v => bindName env x v] [cv, cu]; pure Flow.next) _ _ _
  refine wpAny_bind ?_
  show wpAny _ A (do holding [cu] (bindName env y cv); assignInOrder [fun v => bindName env x v] [cu]) _ _ _
  refine wpAny_bind (wpAny_holding (wpAny_bindName (store S' L' (.inl hy) (rv.mono tk (Pre.refl _)) fun s₂ S₂ L₂ d₂ => ?_)))
  show wpAny _ A (do holding [] (bindName env x cu); assignInOrder [] []) _ _ _
  refine wpAny_bind (wpAny_holding (wpAny_bindName (store S₂ L₂ (.inl hx) ((ru.mono tk (Pre.refl _)).mono d₂.tup (Pre.refl _)) fun s₃ S₃ L₃ d₃ => wpAny_pure (wpAny_pure (h .next s₃ ρ₁ S₃ L₃ ?_ trivial)))))
  exact (((ExtS.of x₁ S₁).trans (ExtS.of (Ext.of_all k) S')).trans d₂.ext).trans d₃.ext

theorem SJ.swap3 {x y z : Str} {px py pz pt pos : Pos} {kt : Nat} {e : Expr} {u v w : AV} (h1 : EJ G env d Γ σ (eval e env) (.tup [u, v, w]) σ₁) (hx : env.kindOf x = some .local := by rfl) (hy : env.kindOf y = some .local := by rfl) (hz : env.kindOf z = some .local := by rfl)
    (hs : swapsWithSole [.Tuple [.Name x px, .Name y py, .Name z pz] kt pt] e pos.line env = pure false := by rfl) (hw : swappedStores [.Tuple [.Name x px, .Name y py, .Name z pz] kt pt] e env = pure (some [x, y, z]) := by rfl) :
    SJ G env d Γ σ (exec (.Assign [.Tuple [.Name x px, .Name y py, .Name z pz] kt pt] e pos) env) .next (upd (upd (upd Γ z w) y v) x u) σ₁ := fun A s ρ Q E R S L h => by
  rw [exec_Assign_arm]
  refine wpAny_bind (wpAny_standAt ?_)
  rw [hs]
  refine wpAny_bind (wpAny_pure ?_)
  rw [if_neg (by decide)]
  refine wpAny_bind (h1 A s ρ _ E R S L fun c s₁ ρ₁ S₁ x₁ r₁ => ?_)
  rw [hw]
  refine wpAny_bind (wpAny_pure ?_)
  obtain ⟨t, vs, rfl, ht, rl⟩ := Rep.tup_ r₁
  obtain ⟨cu, cv, cw, rfl, ru, rv, rw'⟩ := rl.three
  obtain ⟨o, e, hc, n, hd⟩ := ht
  have L₁ := L.keep S x₁
  unfold assignStores
  refine wpAny_bind (wpAny_rule (wpAny_bind (wpAny_unpackItems_tuple (items := #[cu, cv, cw]) R.handled ⟨o, e, hc, n, hd⟩ fun h' hx' => ?_)))
  have k : ∀ b o, s₁.heap.get? b = some o → h'.get? b = some o := fun b o e => hx' b o (Nat.ne_of_lt (Heap.lt_size e)) e
  have S' : StG G σ₁ ρ₁ { s₁ with heap := h' } := S₁.ext (s' := { s₁ with heap := h' }) k rfl rfl
  have tk := S₁.tupKeep (KeepX.of_all (ρ := ρ₁) k)
  have L' : StL G env Γ ρ₁ h' := L₁.at (fun o e => k _ o e) (fun _ _ o _ e => k _ o e) tk
  show wpAny _ A (do assignInOrder [fun v => bindName env z v, fun v => bindName env y v, fun v => bindName env x v] [cw, cv, cu]; pure Flow.next) _ _ _
  refine wpAny_bind ?_
  show wpAny _ A (do holding [cv, cu] (bindName env z cw); assignInOrder [fun v => bindName env y v, fun v => bindName env x v] [cv, cu]) _ _ _
  refine wpAny_bind (wpAny_holding (wpAny_bindName (store S' L' (.inl hz) (rw'.mono tk (Pre.refl _)) fun s₂ S₂ L₂ d₂ => ?_)))
  show wpAny _ A (do holding [cu] (bindName env y cv); assignInOrder [fun v => bindName env x v] [cu]) _ _ _
  refine wpAny_bind (wpAny_holding (wpAny_bindName (store S₂ L₂ (.inl hy) ((rv.mono tk (Pre.refl _)).mono d₂.tup (Pre.refl _)) fun s₃ S₃ L₃ d₃ => ?_)))
  show wpAny _ A (do holding [] (bindName env x cu); assignInOrder [] []) _ _ _
  refine wpAny_bind (wpAny_holding (wpAny_bindName (store S₃ L₃ (.inl hx) (((ru.mono tk (Pre.refl _)).mono d₂.tup (Pre.refl _)).mono d₃.tup (Pre.refl _)) fun s₄ S₄ L₄ d₄ => wpAny_pure (wpAny_pure (h .next s₄ ρ₁ S₄ L₄ ?_ trivial)))))
  exact ((((ExtS.of x₁ S₁).trans (ExtS.of (Ext.of_all k) S')).trans d₂.ext).trans d₃.ext).trans d₄.ext
end
end Mine
end
section
open PySem PySem.W PyProof.Rows
set_option linter.unusedVariables false
set_option linter.unusedSimpArgs false
namespace Mine
section
variable {G : Glo} {env : Env} {d : Nat} {Γ Γ' Γ₁ Γ₂ : List (Str × AV)} {σ σ' σ₁ σ₂ σ₃ σ₄ : List AObj} {ρ ρ' ρ₁ ρ₂ ρ₃ : List Addr} {s s' s₁ : Shared} {h h' h₁ h₂ h₃ : Heap}

theorem CompOk.of {scope : Scope} {cl : List (Str × Addr)} {Γc : List (Str × AV)} (clos : closureFor scope env = pure cl) (kind : scope.kind = .function) (nocell : (scope.names.all fun y => y.2 != .cell) = true)
    (names : (scope.names.all fun y => y.2 != .local || scope.names.lookup y.1 == some .local) = true) (cells : ∀ p ∈ cl, env.cells.lookup p.1 = some p.2)
    (has : ((relabel scope env).names.all fun y => (y.2 != .cell && y.2 != .free) || (cl.lookup y.1).isSome) = true)
    (vals : ∀ p ∈ Γc, Γ.lookup p.1 = some p.2 ∧ (env.kindOf p.1 == some .local) = false ∧ ((relabel scope env).names.lookup p.1 == some .local) = false) : CompOk env scope cl Γ Γc := by
  refine ⟨clos, kind, nocell, fun x hx hl => ?_, fun x c hc => cells _ (mem_of_lookup hc), fun x hx => ?_, fun p hp => ?_⟩
  · have := List.all_eq_true.mp names x hx
    simpa [hl] using this
  · have hx' : (relabel scope env).names.lookup x = some .cell ∨ (relabel scope env).names.lookup x = some .free := hx
    have key : ∀ k, (relabel scope env).names.lookup x = some k → k = .cell ∨ k = .free → ∃ c, cl.lookup x = some c := fun k hk hkk => by
      have := List.all_eq_true.mp has _ (mem_of_lookup hk)
      rcases hkk with rfl | rfl <;> simpa [Option.isSome_iff_exists] using this
    rcases hx' with hx' | hx'
    · exact key _ hx' (.inl rfl)
    · exact key _ hx' (.inr rfl)
  · obtain ⟨h1, h2, h3⟩ := vals p hp
    exact ⟨h1, by simpa using h2, by simpa [compEnvC, Env.kindOf] using h3⟩

theorem Turns.name {x : Str} {px : Pos} {items : List AV} {scope : Scope} {cl : List (Str × Addr)} (hx : ∀ C, (compEnvC scope cl C env).kindOf x = some .local := by intro C; rfl) :
    ∀ A I h₁ ρ₁ fp wr St C, A.handled = none → Iters G A I h₁ ρ₁ fp wr items St → ∃ loc, Turn G (compEnvC scope cl C env) A (.Name x px) I h₁ ρ₁ fp wr items (fun b Γ => upd Γ x b) St loc ∧ loc := fun A I h₁ ρ₁ fp wr St C hh W =>
  ⟨_, Turn.name W (.inl (hx C)), hx C⟩
theorem Turns.pair {x y : Str} {px py pt : Pos} {kt : Nat} {items : List (AV × AV)} {scope : Scope} {cl : List (Str × Addr)} (hx : ∀ C, (compEnvC scope cl C env).kindOf x = some .local := by intro C; rfl) (hy : ∀ C, (compEnvC scope cl C env).kindOf y = some .local := by intro C; rfl) :
    ∀ A I h₁ ρ₁ fp wr St C, A.handled = none → Iters G A I h₁ ρ₁ fp wr (items.map fun p => .tup [p.1, p.2]) St → ∃ loc, Turn G (compEnvC scope cl C env) A (.Tuple [.Name x px, .Name y py] kt pt) I h₁ ρ₁ fp wr items (fun b Γ => upd (upd Γ x b.1) y b.2) St loc ∧ loc := fun A I h₁ ρ₁ fp wr St C hh W =>
  ⟨_, Turn.pair hh W (.inl (hx C)) (.inl (hy C)), hx C, hy C⟩

theorem Turn.map {β γ : Type} {A : Around} {target : Expr} {I : Addr} {fp wr : List Addr} {items : List γ} {g : γ → β} {bind : β → List (Str × AV) → List (Str × AV)} {St : Nat → Heap → Prop} {loc : Prop} (T : Turn G env A target I h₁ ρ₁ fp wr (items.map g) bind St loc) :
    Turn G env A target I h₁ ρ₁ fp wr items (fun b => bind (g b)) St loc :=
  ⟨T.sub, T.frame, T.kinds, fun i b s σ ρ Γ Q E hi => T.item i (g b) s σ ρ Γ Q E (by rw [List.getElem?_map, hi]; rfl), fun s Q E st => T.done s Q E (by rw [List.length_map]; exact st)⟩
theorem Turns.nameOf {γ : Type} (g : γ → AV) {x : Str} {px : Pos} {items : List γ} {scope : Scope} {cl : List (Str × Addr)} (hx : ∀ C, (compEnvC scope cl C env).kindOf x = some .local := by intro C; rfl) :
    ∀ A I h₁ ρ₁ fp wr St C, A.handled = none → Iters G A I h₁ ρ₁ fp wr (items.map g) St → ∃ loc, Turn G (compEnvC scope cl C env) A (.Name x px) I h₁ ρ₁ fp wr items (fun b Γ => upd Γ x (g b)) St loc ∧ loc := fun A I h₁ ρ₁ fp wr St C hh W =>
  ⟨_, Turn.map (Turn.name W (.inl (hx C))), hx C⟩
theorem Turns.pairOf {γ : Type} (g : γ → AV × AV) {x y : Str} {px py pt : Pos} {kt : Nat} {items : List γ} {scope : Scope} {cl : List (Str × Addr)} (hx : ∀ C, (compEnvC scope cl C env).kindOf x = some .local := by intro C; rfl) (hy : ∀ C, (compEnvC scope cl C env).kindOf y = some .local := by intro C; rfl) :
    ∀ A I h₁ ρ₁ fp wr St C, A.handled = none → Iters G A I h₁ ρ₁ fp wr ((items.map g).map fun p => .tup [p.1, p.2]) St → ∃ loc, Turn G (compEnvC scope cl C env) A (.Tuple [.Name x px, .Name y py] kt pt) I h₁ ρ₁ fp wr items (fun b Γ => upd (upd Γ x (g b).1) y (g b).2) St loc ∧ loc := fun A I h₁ ρ₁ fp wr St C hh W =>
  ⟨_, Turn.map (Turn.pair hh W (.inl (hx C)) (.inl (hy C))), hx C, hy C⟩
theorem EJ.var {x : Str} {pos : Pos} {v : AV} (hv : Γ.lookup x = some v := by rfl) (hk : env.kindOf x = some .local ∨ env.kindOf x = some .cell := by first | exact .inl rfl | exact .inr rfl) (hd : (x == ("__debug__" : Str)) = false := by decide) : EJ G env d Γ σ (eval (.Name x pos) env) v σ := by
  rcases hk with hk | hk
  · exact EJ.loc hv hk hd
  · exact EJ.cell hv hk hd
theorem TJ.is {t : Sem Bool} {b c : Bool} (h : TJ G env d Γ σ t b σ₁) (e : b = c) : TJ G env d Γ σ t c σ₁ := e ▸ h
theorem EJ.is {t : Sem Value} {b c : AV} (h : EJ G env d Γ σ t b σ₁) (e : b = c) : EJ G env d Γ σ t c σ₁ := e ▸ h
theorem EJ.st {t : Sem Value} {v : AV} (h : EJ G env d Γ σ t v σ₁) (e : σ₁ = σ₂) : EJ G env d Γ σ t v σ₂ := e ▸ h
theorem SJ.st {t : Sem Flow} {f : FlowA} (h : SJ G env d Γ σ t f Γ₁ σ₁) (e : σ₁ = σ₂) : SJ G env d Γ σ t f Γ₁ σ₂ := e ▸ h

noncomputable def enumFrom (k : Nat) : List AV → List (AV × AV)
  | [] => []
  | x :: r => (.int (k : Int), x) :: enumFrom (k + 1) r
theorem enum_from (l : List AV) : enumAV l = enumFrom 0 l := by
  have go : ∀ (l : List AV) (k : Nat), (l.zipIdx k).map (fun p => (AV.int (p.2 : Int), p.1)) = enumFrom k l := by
    intro l
    induction l with
    | nil => intro k; rfl
    | cons x r ih => intro k; rw [List.zipIdx_cons, List.map_cons, ih, enumFrom]
  exact go l 0
end
end Mine
end
section
open PySem PySem.W PyProof.Rows
set_option linter.unusedVariables false
set_option linter.unusedSimpArgs false
namespace Mine
section
variable {G : Glo} {env : Env} {d : Nat} {Γ Γ' Γ₁ Γ₂ : List (Str × AV)} {σ σ' σ₁ σ₂ σ₃ σ₄ : List AObj} {ρ ρ' ρ₁ ρ₂ ρ₃ : List Addr} {s s' s₁ : Shared} {h h' h₁ h₂ h₃ : Heap}

/-- comes back with v; the ledger ends as σ', and what was made beside it -/
noncomputable def SJE (G : Glo) (env : Env) (d : Nat) (Γ : List (Str × AV)) (σ : List AObj) (t : Sem Flow) (v : AV) (σ' : List AObj) : Prop := ∃ Γf junk, SJ G env d Γ σ t (.ret v) Γf (σ' ++ junk)
theorem SJE.cons {st : Stmt} {rest : List Stmt} {v : AV} (h1 : SJ G env d Γ σ (exec st env) .next Γ₁ σ₁) (h2 : SJE G env d Γ₁ σ₁ (execs rest env) v σ') : SJE G env d Γ σ (execs (st :: rest) env) v σ' := by
  obtain ⟨Γf, junk, h⟩ := h2
  exact ⟨Γf, junk, SJ.cons h1 h⟩
theorem SJE.stop {st : Stmt} {rest : List Stmt} {v : AV} (h1 : SJE G env d Γ σ (exec st env) v σ') : SJE G env d Γ σ (execs (st :: rest) env) v σ' := by
  obtain ⟨Γf, junk, h⟩ := h1
  exact ⟨Γf, junk, SJ.stop h⟩
theorem SJE.of {t : Sem Flow} {v : AV} {junk : List AObj} (h1 : SJ G env d Γ σ t (.ret v) Γ₁ σ₁) (e : σ₁ = σ' ++ junk) : SJE G env d Γ σ t v σ' := ⟨Γ₁, junk, e ▸ h1⟩
theorem SJE.while {test : Expr} {body : List Stmt} {pos : Pos} {k : Nat} {v : AV} (h1 : ∃ Γ₁ junk, WR G env d test body k Γ σ (.ret v) Γ₁ (σ' ++ junk)) : SJE G env d Γ σ (exec (.While test body [] pos) env) v σ' := by
  obtain ⟨Γ₁, junk, h⟩ := h1
  exact ⟨Γ₁, junk, SJ.while h⟩
theorem SJE.whileNext {test : Expr} {body rest : List Stmt} {pos : Pos} {k : Nat} {v : AV} {P : List (Str × AV) → List AObj → Prop} (h1 : ∃ Γ₁ σ₁, P Γ₁ σ₁ ∧ WR G env d test body k Γ σ .next Γ₁ σ₁) (h2 : ∀ Γ₁ σ₁, P Γ₁ σ₁ → SJE G env d Γ₁ σ₁ (execs rest env) v σ') :
    SJE G env d Γ σ (execs (.While test body [] pos :: rest) env) v σ' := by
  obtain ⟨Γ₁, σ₁, hp, h⟩ := h1
  obtain ⟨Γf, junk, h'⟩ := h2 Γ₁ σ₁ hp
  exact ⟨Γf, junk, SJ.cons (SJ.while h) h'⟩
theorem SJE.whileB {test : Expr} {body rest : List Stmt} {pos : Pos} {k : Nat} {b : Bool} (h1 : ∃ Γ₁ junk, WR G env d test body k Γ σ (if b then .ret (.bool true) else .next) Γ₁ (σ' ++ junk)) (h2 : ∀ Γ₁ junk, SJE G env d Γ₁ (σ' ++ junk) (execs rest env) (.bool false) σ') :
    SJE G env d Γ σ (execs (.While test body [] pos :: rest) env) (.bool b) σ' := by
  obtain ⟨Γ₁, junk, h⟩ := h1
  cases b with
  | true => exact ⟨Γ₁, junk, SJ.stop (SJ.while h)⟩
  | false =>
    obtain ⟨Γf, junk', h'⟩ := h2 Γ₁ junk
    exact ⟨Γf, junk', SJ.cons (SJ.while h) h'⟩
theorem SJE.for {β : Type} {target iter : Expr} {body : List Stmt} {pos : Pos} {items : List β} {bind : β → List (Str × AV) → List (Str × AV)} {v : AV} (h1 : ItT G env d Γ σ (eval iter env) target items bind σ₁) (h2 : ∃ Γ₁ junk, FR G env d body bind items Γ σ₁ (.ret v) Γ₁ (σ' ++ junk))
    (hs : ∀ x, foldedSetIterable iter env x = pure x := by intro _; rfl) : SJE G env d Γ σ (exec (.For target iter body [] pos) env) v σ' := by
  obtain ⟨Γ₁, junk, h⟩ := h2
  exact ⟨Γ₁, junk, SJ.for h1 h hs⟩

theorem SetJ.st {x y v : AV} (h : SetJ G d σ x y v σ₁) (e : σ₁ = σ₂) : SetJ G d σ x y v σ₂ := e ▸ h

noncomputable def dedupS : List Str → List Str
  | [] => []
  | x :: r => if x ∈ r then dedupS r else x :: dedupS r

end
end Mine
end
section
open PySem PySem.W PyProof.Rows
set_option linter.unusedVariables false
set_option linter.unusedSimpArgs false
namespace Mine
theorem execs_append (env : Env) : ∀ (a b : List Stmt), execs (a ++ b) env = (execs a env >>= fun f => match f with | .next => execs b env | f => pure f)
  | [], b => by
    show execs b env = ((pure Flow.next : Sem Flow) >>= _)
    rw [pure_bind]
  | st :: a, b => by
    rw [List.cons_append, execs_cons, execs_cons, bind_assoc]
    refine congrArg _ (funext fun f => ?_)
    cases f with
    | next => exact execs_append env a b
    | _ => rw [pure_bind]
section
variable {G : Glo} {env : Env} {d : Nat} {Γ Γ' Γ₁ Γ₂ : List (Str × AV)} {σ σ' σ₁ σ₂ σ₃ σ₄ : List AObj} {ρ ρ' ρ₁ ρ₂ ρ₃ : List Addr} {s s' s₁ : Shared} {h h' h₁ h₂ h₃ : Heap}

theorem EJ.compLast {β : Type} {elt target : Expr} {x : Str} {px : Pos} {ifs : List Expr} {scope : Scope} {cl : List (Str × Addr)} {pos : Pos} {items : List AV} {bs : List β} {bind : β → List (Str × AV) → List (Str × AV)} {p : β → Bool} {F : β → AV} {Γc : List (Str × AV)}
    (hv : Γ.lookup x = some (.ref σ.length)) (hk : env.kindOf x = some .local) (hd : (x == ("__debug__" : Str)) = false) (hΓ : ∀ q ∈ Γ', Γ.lookup q.1 = some q.2 ∧ AV.lt σ.length q.2 = true) (hσ : ∀ o ∈ σ, o.lt σ.length = true) (hi : AV.lts σ.length items = true) (X : CompOk env scope cl Γ' Γc)
    (hT : ∀ A I h₁ ρ₁ fp wr St C, A.handled = none → Iters G A I h₁ ρ₁ fp wr items St → ∃ loc, Turn G (compEnvC scope cl C env) A target I h₁ ρ₁ fp wr bs bind St loc ∧ loc)
    (hb : ∀ b, ∀ q ∈ Γc, (bind b Γc).lookup q.1 = some q.2)
    (ht : ∀ b ∈ bs, ∀ C, TsJ G (compEnvC scope cl C env) d (bind b Γc) σ ifs (p b))
    (he : ∀ b ∈ bs, p b = true → ∀ C, EJ G (compEnvC scope cl C env) d (bind b Γc) σ (eval elt (compEnvC scope cl C env)) (F b) σ)
    (hl : bs.length ≤ 100000) (ho : AV.lts σ.length ((bs.filter p).map F) = true)
    (hs : ∀ v, foldedSetIterable (.Name x px) env v = pure v := by intro _; rfl) :
    EJ G env d Γ (σ ++ [AObj.list items]) (eval (.ListComp elt [⟨target, .Name x px, ifs, 0⟩] scope pos) env) (.ref (σ.length + 1)) (σ ++ [AObj.list items] ++ [AObj.list ((bs.filter p).map F)]) := fun A s ρ Q E R S L hQ => by
  obtain ⟨a, ea, vs, n, hob, q⟩ := S.obj (i := σ.length) (o := AObj.list items) (by simp)
  have S₂ := S.drop hσ
  have L₂ : StL G env Γ' (ρ.take σ.length) s.heap := (L.weaken fun y v h => (hΓ (y, v) (mem_of_lookup h)).1).cut fun p hp => (hΓ p hp).2
  have hlen : ρ.length = σ.length + 1 := by rw [S.len]; simp
  have pt : ∀ (i : Nat) (b : Addr), i < σ.length → ρ[i]? = some b → (ρ.take σ.length)[i]? = some b := fun i b hi e => by rw [List.getElem?_take_of_lt hi]; exact e
  have tp : ∀ (i : Nat) (b : Addr), (ρ.take σ.length)[i]? = some b → i < σ.length ∧ ρ[i]? = some b := fun i b e => by
    have hlt : i < σ.length := by
      have := (List.getElem?_eq_some_iff.mp e).1
      rw [List.length_take] at this; lia
    rw [List.getElem?_take_of_lt hlt] at e
    exact ⟨hlt, e⟩
  have an : a ∉ ρ.take σ.length := fun hm => by
    obtain ⟨j, hj⟩ := List.mem_iff_getElem?.mp hm
    obtain ⟨hjl, hj⟩ := tp j a hj
    have := S.idx hj ea
    lia
  have q₂ : RepL s.heap (ρ.take σ.length) vs items := q.rest pt hi
  obtain ⟨m, hn, hm⟩ := L.ns
  obtain ⟨cv, hcv, rcv⟩ := hm x _ hk hv
  have hcva : cv = .ref a := by
    obtain ⟨_, rfl, e⟩ := Rep.ref_ rcv
    rw [ea] at e; cases e; rfl
  subst hcva
  refine compAt R S₂ L₂ (fun Q E h => ?_) X hT hb ht he hl (fun cv s' ρ' S' x' r' => ?_) hs
  · refine wpAny_Name (wpAny_loadName_local L.kind hk hn hcv ?_) hd
    refine wpAny_pyIter_list ⟨_, hob, rfl, n, rfl⟩ ?_
    have hne : a ≠ s.heap.objs.size := Nat.ne_of_lt (Heap.lt_size hob)
    have k : ∀ b o, s.heap.get? b = some o → (s.heap.push { cls := .type "list_iterator", data := .fields #[.ref a, .int 0 0] }).get? b = some o := fun b o e => get_push_ne e
    refine h _ [s.heap.objs.size, a] [s.heap.objs.size] _ _ (ρ.take σ.length) (Iters.list (n := 0) R.handled hne (q₂.mono (S₂.tupKeep (KeepX.of_all k)) (Pre.refl _))) ⟨⟨_, Heap.get?_push_size _ rfl, rfl, rfl⟩, ⟨_, get_push_ne hob, rfl, n, rfl⟩⟩
      (S₂.ext (s' := { s with heap := _ }) k rfl rfl) (Ext.of_all k) (fun b hb => ?_) (fun b hb => ?_)
    · rcases List.mem_cons.mp hb with rfl | hb
      · intro hm; exact Nat.lt_irrefl _ (S₂.lt hm)
      · rw [List.mem_singleton.mp hb]; exact an
    · rw [List.mem_singleton.mp hb]; exact get_size_none _
  · have len' : ρ'.length = σ.length + 1 := by rw [S'.len]; simp
    have hD : ∃ D, ρ'[σ.length]? = some D := ⟨ρ'[σ.length]'(by lia), by simp⟩
    obtain ⟨D, hD⟩ := hD
    have oa : s'.heap.get? a = some { cls := .type "list", data := .seq vs.toArray n } := x'.keep a _ an hob
    have pre' : ∀ (i : Nat) (b : Addr), i < σ.length → ρ[i]? = some b → ρ'[i]? = some b := fun i b hi e => x'.pre i b (pt i b hi e)
    have back : ∀ (i : Nat) (b : Addr), i < σ.length → ρ'[i]? = some b → ρ[i]? = some b := fun i b hi e => by
      have hlt : i < ρ.length := by lia
      have e2 : ρ[i]? = some ρ[i] := by simp [hlt]
      have e3 := pre' i _ hi e2
      rw [e] at e3
      rw [e2]; exact e3.symm
    have Da : D ≠ a := by
      rintro rfl
      have hm : D ∈ ρ' := List.mem_of_getElem? hD
      rcases x'.new D hm with hh | hh
      · exact an hh
      · rw [hob] at hh; cases hh
    have Dρ : D ∉ ρ.take σ.length := fun hm => by
      obtain ⟨j, hj⟩ := List.mem_iff_getElem?.mp hm
      obtain ⟨hjl, hj⟩ := tp j D hj
      have := S'.idx (pre' j D hjl hj) hD
      lia
    have Dnone : s.heap.get? D = none := (x'.new D (List.mem_of_getElem? hD)).resolve_left Dρ
    have Dn : D ∉ ρ := fun hm => by
      obtain ⟨i, o, e1, e2, r⟩ := S.mem hm
      obtain ⟨ob, e, _⟩ := r.there
      rw [Dnone] at e; cases e
    have rest : ∀ (i : Nat) (b : Addr), i < σ.length → ρ'[i]? = some b → (ρ ++ [D])[i]? = some b := fun i b hi e => by
      rw [List.getElem?_append_left (by lia)]; exact back i b hi e
    have tk := S₂.tupKeep x'.keep
    refine hQ cv s' (ρ ++ [D]) ⟨S'.base, fun b hb => ?_, ?_, by simp [hlen], fun j b o hj hoj => ?_, S'.gens, S'.os⟩ ⟨Pre.append _ _, fun b hb => ?_, fun b o hb e => x'.keep b o (fun hm => hb (List.mem_of_mem_take hm)) e⟩ ?_
    · rcases List.mem_append.mp hb with hb | hb
      · exact S.fresh b hb
      · rw [List.mem_singleton.mp hb]; exact S'.fresh D (List.mem_of_getElem? hD)
    · refine List.nodup_append.mpr ⟨S.nodup, by simp, fun b hb c hc => ?_⟩
      rw [List.mem_singleton.mp hc]; rintro rfl; exact Dn hb
    · by_cases h1 : j < σ.length
      · rw [List.getElem?_append_left (by lia)] at hj
        rw [List.getElem?_append_left (by simp; lia), List.getElem?_append_left h1] at hoj
        have r := S'.objs j b o (pre' j b h1 hj) (by rw [List.getElem?_append_left h1]; exact hoj)
        exact r.rest rest (hσ o (List.mem_of_getElem? hoj))
      · by_cases h2 : j = σ.length
        · subst h2
          rw [List.getElem?_append_left (by lia), ea] at hj
          cases hj
          rw [List.getElem?_append_left (by simp)] at hoj
          simp at hoj
          subst hoj
          exact ⟨vs, n, oa, ((q₂.mono tk x'.pre).rest (n := σ.length) rest hi)⟩
        · have h3 : j = σ.length + 1 := by
            have := (List.getElem?_eq_some_iff.mp hoj).1
            simp at this; lia
          subst h3
          have e1 : (ρ ++ [D])[σ.length + 1]? = some D := by rw [← hlen]; simp
          rw [e1] at hj; cases hj
          simp at hoj
          subst hoj
          have r := S'.objs σ.length D (AObj.list ((bs.filter p).map F)) hD (by simp)
          exact r.rest rest ho
    · rcases List.mem_append.mp hb with hb | hb
      · exact .inl hb
      · rw [List.mem_singleton.mp hb]; exact .inr Dnone
    · cases r' with
      | ref e =>
        rw [hD] at e; cases e
        exact .ref (by rw [← hlen]; simp)
theorem SJ.append {a b : List Stmt} {f : FlowA} (h1 : SJ G env d Γ σ (execs a env) .next Γ₁ σ₁) (h2 : SJ G env d Γ₁ σ₁ (execs b env) f Γ₂ σ₂) : SJ G env d Γ σ (execs (a ++ b) env) f Γ₂ σ₂ := fun A s ρ Q E R S L h => by
  rw [execs_append]
  refine wpAny_bind (h1 A s ρ _ E R S L fun fl s₁ ρ₁ S₁ L₁ x₁ r₁ => ?_)
  cases fl with
  | next => exact h2 A s₁ ρ₁ _ E R S₁ L₁ fun fl s₂ ρ₂ S₂ L₂ x₂ r₂ => h fl s₂ ρ₂ S₂ L₂ (x₁.trans x₂) r₂
  | _ => exact r₁.elim

theorem AObj.lt_mono {n m : Nat} (h : n ≤ m) {o : AObj} (ho : o.lt n = true) : o.lt m = true := by
  cases o with
  | list l => exact AV.lts_mono h ho
  | sdict l => exact AV.lts_mono h ho
  | tdict l => simp only [AObj.lt] at ho ⊢
end
end Mine
end
section
open PySem PySem.W PyProof.Rows
set_option linter.unusedVariables false
set_option linter.unusedSimpArgs false
namespace Mine
section
variable {G : Glo} {env : Env} {d : Nat} {Γ Γ' Γ₁ Γ₂ : List (Str × AV)} {σ σ' σ₁ σ₂ σ₃ σ₄ : List AObj} {ρ ρ' ρ₁ ρ₂ ρ₃ : List Addr} {s s' s₁ : Shared} {h h' h₁ h₂ h₃ : Heap}

theorem EJ.upto {value e : Expr} {p pos : Pos} {i : Nat} {l : List AV} {b : Nat} (h1 : EJ G env d Γ σ (eval value env) (.ref i) σ₁) (h0 : ∃ m, σ₁[i]? = some (AObj.list m)) (h2 : EJ G env d Γ σ₁ (eval e env) (.int b) σ₂) (hi : σ₂[i]? = some (AObj.list l)) (hl : l.length ≤ 100000) :
    EJ G env d Γ σ (eval (.Subscript value (.Slice none (some e) none p) pos) env) (.ref σ₂.length) (σ₂ ++ [AObj.list (l.take b)]) := fun A s ρ Q E R S L h => by
  refine Subscript_ (h1 A s ρ _ E R S L fun ca s₁ ρ₁ S₁ x₁ r₁ => ?_)
  refine wpAny_Slice ?_
  show wpAny _ A (pure Value.none) (fun l s₂ => wpAny _ A (eval e env) _ E s₂) E s₁
  refine wpAny_pure (h2 A s₁ ρ₁ _ E R S₁ (L.keep S x₁) fun ce s₂ ρ₂ S₂ x₂ r₂ => ?_)
  show wpAny _ A (pure Value.none) _ E _
  refine wpAny_pure ?_
  obtain ⟨u, rfl⟩ := Rep.int_ r₂
  obtain ⟨a, vs, n, rfl, ea, ho', q⟩ := list_at S₂ hi (r₁.mono (S₁.tupKeep x₂.keep) x₂.pre)
  generalize ho : ({ cls := .type "slice", data := .fields #[Value.none, .int (b : Int) u, Value.none] } : Obj) = osl
  have k1 : ∀ b o, s₂.heap.get? b = some o → (s₂.heap.push osl).get? b = some o := fun b o e => get_push_ne e
  have hsl : (s₂.heap.push osl).IsSliceOf s₂.heap.objs.size .none (.int (b : Int) u) .none := by subst ho; exact Heap.IsSliceOf.new ..
  have hL : (s₂.heap.push osl).IsList a vs.toArray := ⟨_, k1 _ _ ho', rfl, n, rfl⟩
  refine tail_any (s := { s₂ with heap := s₂.heap.push osl }) hL.typeIs slot_list_getitem.lookup (wpAny_getItem_list_slice hL hsl .none (.int _ _) .none (by simp) ?_ (by simp [q.length]; exact Nat.le_trans hl (by decide))) rfl
  rw [slicePick_upto']
  have k2 : ∀ c o, s₂.heap.get? c = some o → ((s₂.heap.push osl).push { cls := .type "list", data := .seq (vs.toArray.toList.take b).toArray }).get? c = some o := fun c o e => get_push_ne (k1 c o e)
  obtain ⟨S', x', r'⟩ := S₂.pushList (tk := s₂.toks) (a := (s₂.heap.push osl).objs.size) (vs := vs.take b) (l := l.take b) (n := 0) (by
    cases e : s₂.heap.get? (s₂.heap.push osl).objs.size with
    | none => rfl
    | some o => exact absurd (Heap.lt_size (k1 _ _ e)) (Nat.lt_irrefl _)) k2 (Heap.get?_push_size _ rfl) ((q.take b).mono (S₂.tupKeep (KeepX.of_all k2)) (Pre.refl _))
  exact h _ _ _ S' ((x₁.trans x₂).trans x') r'

theorem EJ.rev {value e : Expr} {p pos : Pos} {i : Nat} {l : List AV} (h1 : EJ G env d Γ σ (eval value env) (.ref i) σ₁) (h0 : ∃ m, σ₁[i]? = some (AObj.list m)) (h2 : EJ G env d Γ σ₁ (eval e env) (.int (-1)) σ₂) (hi : σ₂[i]? = some (AObj.list l)) (hl : l.length ≤ 100000) :
    EJ G env d Γ σ (eval (.Subscript value (.Slice none none (some e) p) pos) env) (.ref σ₂.length) (σ₂ ++ [AObj.list l.reverse]) := fun A s ρ Q E R S L h => by
  refine Subscript_ (h1 A s ρ _ E R S L fun ca s₁ ρ₁ S₁ x₁ r₁ => ?_)
  refine wpAny_Slice ?_
  show wpAny _ A (pure Value.none) (fun l s₂ => wpAny _ A (pure Value.none) (fun l s₂ => wpAny _ A (eval e env) _ E s₂) E s₂) E s₁
  refine wpAny_pure (wpAny_pure (h2 A s₁ ρ₁ _ E R S₁ (L.keep S x₁) fun ce s₂ ρ₂ S₂ x₂ r₂ => ?_))
  obtain ⟨u, rfl⟩ := Rep.int_ r₂
  obtain ⟨a, vs, n, rfl, ea, ho', q⟩ := list_at S₂ hi (r₁.mono (S₁.tupKeep x₂.keep) x₂.pre)
  generalize ho : ({ cls := .type "slice", data := .fields #[Value.none, Value.none, .int (-1) u] } : Obj) = osl
  have k1 : ∀ b o, s₂.heap.get? b = some o → (s₂.heap.push osl).get? b = some o := fun b o e => get_push_ne e
  have hsl : (s₂.heap.push osl).IsSliceOf s₂.heap.objs.size .none .none (.int (-1) u) := by subst ho; exact Heap.IsSliceOf.new ..
  have hL : (s₂.heap.push osl).IsList a vs.toArray := ⟨_, k1 _ _ ho', rfl, n, rfl⟩
  refine tail_any (s := { s₂ with heap := s₂.heap.push osl }) hL.typeIs slot_list_getitem.lookup (wpAny_getItem_list_slice hL hsl .none .none (.int _ _) (by decide) ?_ (by simp [q.length]; exact Nat.le_trans hl (by decide))) rfl
  rw [PySem.W.krv_pick]
  have k2 : ∀ c o, s₂.heap.get? c = some o → ((s₂.heap.push osl).push { cls := .type "list", data := .seq (vs.toArray.toList.reverse).toArray }).get? c = some o := fun c o e => get_push_ne (k1 c o e)
  obtain ⟨S', x', r'⟩ := S₂.pushList (tk := s₂.toks) (a := (s₂.heap.push osl).objs.size) (vs := vs.reverse) (l := l.reverse) (n := 0) (by
    cases e : s₂.heap.get? (s₂.heap.push osl).objs.size with
    | none => rfl
    | some o => exact absurd (Heap.lt_size (k1 _ _ e)) (Nat.lt_irrefl _)) k2 (Heap.get?_push_size _ rfl) (q.reverse.mono (S₂.tupKeep (KeepX.of_all k2)) (Pre.refl _))
  exact h _ _ _ S' ((x₁.trans x₂).trans x') r'
end
end Mine
end
section
open PySem PySem.W PyProof.Rows
open AutoSeq1 (wpAny_loadPart')
set_option linter.unusedVariables false
set_option linter.unusedSimpArgs false
namespace Mine
theorem noFill_tuple_mul : fillsNumberSlot (.type "tuple") "mul" = pure false :=
  PySem.fillsNumberSlot_seq (id := "tuple.__mul__") (r := some (.builtin "tuple.__rmul__")) F.slot_tuple_mul.lookup (by decide +kernel) F.slot_tuple_rmul.lookup (by decide +kernel)
theorem repeat_tuple : seqRepeat? (.type "tuple") = pure (some (.builtin "tuple.__mul__")) := by
  unfold seqRepeat?
  rw [PySem.seqSlot_of (T := "tuple") (name := "__mul__") (id := "tuple.__mul__") F.slot_tuple_mul.lookup (by decide +kernel), PySem.seqSlot_of (T := "tuple") (name := "__rmul__") (id := "tuple.__rmul__") F.slot_tuple_rmul.lookup (by decide +kernel)]
  rfl
set_option maxRecDepth 100000 in
theorem rmul_tuple (a : Int) (t : Tok) (l : Addr) (items : Array Value) (n : Nat) (d : Option Addr) (sl : Array (Option Value)) :
    Meets (Builtin.«int.__rmul__» ⟨[.int a t, .ref l], []⟩) (fun _ R s => s.heap.get? l = some { cls := .type "tuple", dict := d, data := .seq items n, slots := sl } ∧ R (.ok (.ret Value.notImplemented)) s) :=
  .of_wp fun prog w A R s h => by obtain ⟨hp, g, d, tk, os⟩ := s; obtain ⟨hl, h⟩ := h; wp_walk; exact ⟨_, rfl, h⟩
set_option maxRecDepth 100000 in
theorem mul_tuple1 (l : Addr) (items : Array Value) (n : Nat) (d : Option Addr) (sl : Array (Option Value)) (u : Tok) :
    Meets (Builtin.«tuple.__mul__» ⟨[.ref l, .int 1 u], []⟩) (fun _ R s => s.heap.get? l = some { cls := .type "tuple", dict := d, data := .seq items n, slots := sl } ∧ R (.ok (.ret (Value.ref l))) s) :=
  .of_wp fun prog w A R s h => by
    obtain ⟨hp, g, d, tk, os⟩ := s; obtain ⟨hl, h⟩ := h
    wp_walk
    exact ⟨_, rfl, h⟩
set_option maxRecDepth 100000 in
theorem mul_tuple0 (l : Addr) (items : Array Value) (n : Nat) (d : Option Addr) (sl : Array (Option Value)) (u : Tok) (hne : items.isEmpty = false) :
    Meets (Builtin.«tuple.__mul__» ⟨[.ref l, .int 0 u], []⟩) (fun _ R s => s.heap.get? l = some { cls := .type "tuple", dict := d, data := .seq items n, slots := sl } ∧ R (.ok (.ret (Value.ref s.heap.objs.size))) { s with heap := s.heap.push { cls := .type "tuple", data := .seq #[] } }) :=
  .of_wp fun prog w A R s h => by
    obtain ⟨hp, g, d, tk, os⟩ := s; obtain ⟨hl, h⟩ := h
    wp_walk
    exact ⟨_, rfl, h⟩

section
variable {G : Glo} {env : Env} {d : Nat} {Γ Γ' Γ₁ Γ₂ : List (Str × AV)} {σ σ' σ₁ σ₂ σ₃ σ₄ : List AObj} {ρ ρ' ρ₁ ρ₂ ρ₃ : List Addr} {s s' s₁ : Shared} {h h' h₁ h₂ h₃ : Heap}
theorem O2.mulT {l : List AV} {b : Bool} (hne : l ≠ []) : O2 G d σ (.tup l) (.int (if b then 1 else 0)) (binaryOp .Mult) (.tup (if b then l else [])) σ := fun A s ρ cx cy Q E R S r1 r2 h => by
  obtain ⟨t, vs, rfl, ht, r⟩ := Rep.tup_ r1
  have ht0 := ht
  obtain ⟨⟨cls, dd, data, sl⟩, ho, hc, n, hd⟩ := ht
  simp only at hc hd
  subst hc hd
  have hvs : vs.toArray.isEmpty = false := by
    have := r.length
    cases vs with
    | nil => exact absurd (List.length_eq_zero_iff.mp this.symm) hne
    | cons => rfl
  cases b with
  | true =>
    obtain ⟨u, rfl⟩ := Rep.int_ r2
    refine wpAny_binaryOp_repeat_ref (T := "tuple") (U := "int") (by decide) ⟨_, ho, rfl⟩ (fun s' => typeIs_int s' 1 u) noFill_tuple_mul F.fills_int_mul F.slot_int_rmul repeat_tuple F.slot_int_index.lookup
      (call_meets F.slot_int_rmul (typeIs_int s 1 u) F.entry_int_rmul (F.args_int_rmul_2 _ _) (rmul_tuple 1 u t vs.toArray n dd sl)
        ⟨ho, rfl, ⟨_, ho, rfl⟩, call_meets F.slot_tuple_mul ⟨_, ho, rfl⟩ F.entry_tuple_mul (F.args_tuple_mul_2 _ _) (mul_tuple1 t vs.toArray n dd sl u) ⟨ho, ?_⟩⟩)
    exact h _ _ ρ (S.with rfl rfl rfl) (Ext.refl _ _) (.tup ht0 r)
  | false =>
    obtain ⟨u, rfl⟩ := Rep.int_ r2
    refine wpAny_binaryOp_repeat_ref (T := "tuple") (U := "int") (by decide) ⟨_, ho, rfl⟩ (fun s' => typeIs_int s' 0 u) noFill_tuple_mul F.fills_int_mul F.slot_int_rmul repeat_tuple F.slot_int_index.lookup
      (call_meets F.slot_int_rmul (typeIs_int s 0 u) F.entry_int_rmul (F.args_int_rmul_2 _ _) (rmul_tuple 0 u t vs.toArray n dd sl)
        ⟨ho, rfl, ⟨_, ho, rfl⟩, call_meets F.slot_tuple_mul ⟨_, ho, rfl⟩ F.entry_tuple_mul (F.args_tuple_mul_2 _ _) (mul_tuple0 t vs.toArray n dd sl u hvs) ⟨ho, ?_⟩⟩)
    have k : ∀ b o, s.heap.get? b = some o → (s.heap.push { cls := .type "tuple", data := .seq #[] }).get? b = some o := fun b o e => get_push_ne e
    exact h _ _ ρ (S.ext (s' := { s with heap := s.heap.push { cls := .type "tuple", data := .seq #[] } }) k rfl rfl) (Ext.of_all k) (.tup (IsTup.new _ _) .nil)

theorem EJ.negI {e : Expr} {pos : Pos} {i : Int} (h1 : EJ G env d Γ σ (eval e env) (.int i) σ₁) : EJ G env d Γ σ (eval (.UnaryOp .USub e pos) env) (.int (-i)) σ₁ := fun A s ρ Q E R S L h =>
  PyProof.Rows.UnaryOp_ (h1 A s ρ _ E R S L fun c s₁ ρ₁ S₁ x₁ r₁ => by
    obtain ⟨t, rfl⟩ := Rep.int_ r₁
    exact PySem.P.neg_int (h _ _ ρ₁ (S₁.with (s' := { s₁ with toks := s₁.toks + 1 }) rfl rfl rfl) x₁ (.int _ _)))
theorem Sub.listNeg {i : Nat} {l : List AV} {k : Int} {v : AV} (hi : σ[i]? = some (AObj.list l)) (hx : l[(k + l.length).toNat]? = some v) (h0 : k < 0 := by decide) (h1 : -(l.length : Int) ≤ k) (hhi : -(2 ^ 63) ≤ k := by decide) : Sub G d σ (.ref i) (.int k) v := fun A s ρ cx cy Q E R S r1 r2 h => by
  (first | obtain ⟨_, rfl⟩ := Rep.int_ r2 | obtain ⟨_, rfl⟩ := Rep.str_ r2 | obtain rfl := Rep.bool_ r2 | obtain rfl := Rep.none_ r2 | obtain rfl := Rep.opq_ r2 | obtain ⟨_, rfl, _⟩ := Rep.ref_ r2 | cases r2)
  obtain ⟨a, vs, n, rfl, ea, ho, q⟩ := list_at S hi r1
  obtain ⟨cv, hcv, rv⟩ := q.get hx
  have hl : s.heap.IsList a vs.toArray := ⟨_, ho, rfl, n, rfl⟩
  have hlen := q.length
  exact ⟨⟨_, _, hl.typeIs, slot_list_getitem.lookup⟩, wpAny_getItem_list_neg hl h0 (by simp [hlen]; exact h1) hhi (by simpa [hlen] using hcv) (h cv s ρ S (Ext.refl _ _) rv)⟩
end
end Mine
end
section
open PySem PySem.W PyProof.Rows
open AutoSeq1 (wpAny_loadPart')
set_option linter.unusedVariables false
set_option linter.unusedSimpArgs false
set_option maxRecDepth 100000
namespace Mine

noncomputable abbrev ti (l : Addr) : Obj := { cls := .type "tuple_iterator", data := .fields #[.ref l, .int 0 0] }
noncomputable abbrev zt2 (h : Heap) (l1 l2 : Addr) : Heap := (h.push (ti l1)).push (ti l2)
noncomputable abbrev zt4 (h : Heap) (l1 l2 : Addr) : Heap := ((zt2 h l1 l2).push { cls := .type "tuple", data := .seq #[.ref h.objs.size, .ref (h.push (ti l1)).objs.size] }).push { cls := .type "tuple", data := .seq #[.none, .none] }
noncomputable abbrev zt5 (h : Heap) (l1 l2 : Addr) : Heap := (zt4 h l1 l2).push { cls := .type "zip", data := .fields #[.none, .bool false, .bool false, .ref (zt2 h l1 l2).objs.size, .ref ((zt2 h l1 l2).push { cls := .type "tuple", data := .seq #[.ref h.objs.size, .ref (h.push (ti l1)).objs.size] }).objs.size] }

theorem zipT_new (l1 l2 : Addr) (xs ys : Array Value) :
    Meets (Builtin.«zip.__new__» ⟨[.type "zip", .ref l1, .ref l2], []⟩) (fun _ R s => s.heap.IsTuple l1 xs ∧ s.heap.IsTuple l2 ys ∧
      R (.ok (.ret (.ref (zt4 s.heap l1 l2).objs.size))) { s with heap := zt5 s.heap l1 l2 }) :=
  .of_wp fun prog w A R s h => by
    obtain ⟨hp, g, d, tk, os⟩ := s; obtain ⟨hl1, hl2, h⟩ := h
    have hsub := sub_zip
    have hL1 : Heap.IsTuple (Shared.heap ⟨hp, g, d, tk, os⟩) l1 xs := hl1
    have hL2 : Heap.IsTuple (Shared.heap ⟨hp.push { cls := .type "tuple_iterator", data := .fields #[.ref l1, .int 0 0] }, g, d, tk, os⟩) l2 ys := by
      obtain ⟨o, e, r⟩ := hl2; exact ⟨o, Heap.get?_push_of_some _ e, r⟩
    wp_delta
    (with_reducible refine PySem.wpAny_bind ?_)
    wp_delta
    (with_reducible refine PySem.wpAny_bind ?_)
    wp_delta
    (with_reducible refine PySem.wpAny_pure ?_)
    ((with_reducible apply PySem.wpAny_ite_false); focus (rfl; done))
    (with_reducible refine PySem.wpAny_bind ?_)
    (with_reducible refine PySem.wpAny_of_eq (by assumption) ?_)
    ((with_reducible apply PySem.wpAny_ite_false); focus (rfl; done))
    (with_reducible refine PySem.wpAny_pure ?_)
    ((with_reducible apply PySem.wpAny_ite_false); focus (rfl; done))
    (with_reducible refine PySem.wpAny_bind ?_)
    wp_delta
    (with_reducible refine PySem.wpAny_bind ?_)
    wp_delta
    wp_delta
    wp_delta
    wp_delta
    (with_reducible refine PySem.wpAny_bind ?_)
    (with_reducible refine PySem.wpAny_bind ?_)
    (with_reducible refine PySem.wpAny_holding ?_)
    (with_reducible apply wpAny_pyIter_tuple hL1)
    (with_reducible refine PySem.wpAny_pure ?_)
    wp_delta
    wp_delta
    (with_reducible refine PySem.wpAny_bind ?_)
    (with_reducible refine PySem.wpAny_bind ?_)
    (with_reducible refine PySem.wpAny_holding ?_)
    (with_reducible apply wpAny_pyIter_tuple hL2)
    (with_reducible refine PySem.wpAny_pure ?_)
    wp_delta
    wp_delta
    (with_reducible refine PySem.wpAny_pure ?_)
    (with_reducible refine PySem.wpAny_pure ?_)
    (with_reducible refine PySem.wpAny_bind ?_)
    wp_delta
    wp_delta
    ((with_reducible apply PySem.wpAny_ite_false); focus (rfl; done))
    wp_delta
    wp_delta
    (with_reducible refine PySem.wpAny_bind ?_)
    (with_reducible refine PySem.wpAny_alloc' ?_)
    (with_reducible refine PySem.wpAny_pure ?_)
    (with_reducible refine PySem.wpAny_bind ?_)
    wp_delta
    wp_delta
    ((with_reducible apply PySem.wpAny_ite_false); focus (rfl; done))
    wp_delta
    wp_delta
    (with_reducible refine PySem.wpAny_bind ?_)
    (with_reducible refine PySem.wpAny_alloc' ?_)
    (with_reducible refine PySem.wpAny_pure ?_)
    (with_reducible refine PySem.wpAny_bind ?_)
    wp_delta
    wp_delta
    ((with_reducible apply PySem.wpAny_ite_false); focus (rfl; done))
    wp_delta
    wp_delta
    (with_reducible refine PySem.wpAny_bind ?_)
    (with_reducible refine PySem.wpAny_alloc' ?_)
    (with_reducible refine PySem.wpAny_pure ?_)
    wp_delta
    (with_reducible refine PySem.wpAny_pure ?_)
    exact ⟨_, rfl, h⟩

/-- a zip of two tuples, at its k-th turn -/
structure ZS (z TI TO i1 i2 l1 l2 : Addr) (xs ys : Array Value) (k : Nat) (f0 f1 : Value) (h : Heap) : Prop where
  z : h.get? z = some { cls := .type "zip", dict := none, data := .fields #[f0, f1, .bool false, .ref TI, .ref TO], slots := #[] }
  ti : IsPair h TI (.ref i1) (.ref i2)
  to : ∃ a b, IsPair h TO a b
  it1 : h.IsTupleIter i1 l1 k
  it2 : h.IsTupleIter i2 l2 k
  l1 : h.IsTuple l1 xs
  l2 : h.IsTuple l2 ys

section
variable {G : Glo} {A : Around} {E : Value → Shared → Prop} {s : Shared}
theorem call_zipT {l1 l2 : Addr} {xs ys : Array Value} {Q : Value → Shared → Prop} (hl1 : s.heap.IsTuple l1 xs) (hl2 : s.heap.IsTuple l2 ys)
    (h : ∀ h', ZS (s.heap.objs.size + 4) (s.heap.objs.size + 2) (s.heap.objs.size + 3) s.heap.objs.size (s.heap.objs.size + 1) l1 l2 xs ys 0 .none (.bool false) h' → h'.objs.size = s.heap.objs.size + 5 →
      (∀ c o, s.heap.get? c = some o → h'.get? c = some o) → Q (.ref (s.heap.objs.size + 4)) { s with heap := h' }) :
    wpAny (model G.prog G.w) A (call (.type "zip") [.ref l1, .ref l2]) Q E s := by
  refine callType_new F.called_zip (by decide) (F.typeCall_zip_2 _ _) (F.newCall_zip_2 _ _) (fun obj => F.args_object_init_3 obj _ _) F.entry_zip_new
    (zipT_new l1 l2 xs ys) ⟨hl1, hl2, ?_⟩
  have z1 : (s.heap.push (ti l1)).objs.size = s.heap.objs.size + 1 := Heap.size_push ..
  have z2 : (zt2 s.heap l1 l2).objs.size = s.heap.objs.size + 2 := by rw [Heap.size_push, z1]
  have z3 : ((zt2 s.heap l1 l2).push { cls := .type "tuple", data := .seq #[.ref s.heap.objs.size, .ref (s.heap.push (ti l1)).objs.size] }).objs.size = s.heap.objs.size + 3 := by rw [Heap.size_push, z2]
  have z4 : (zt4 s.heap l1 l2).objs.size = s.heap.objs.size + 4 := by rw [Heap.size_push, z3]
  have z5 : (zt5 s.heap l1 l2).objs.size = s.heap.objs.size + 5 := by rw [Heap.size_push, z4]
  have k : ∀ c o, s.heap.get? c = some o → (zt5 s.heap l1 l2).get? c = some o := fun c o e => get_push_ne (get_push_ne (get_push_ne (get_push_ne (get_push_ne e))))
  have g5 : (zt5 s.heap l1 l2).get? (zt4 s.heap l1 l2).objs.size = some _ := Heap.get?_push_size _ rfl
  have g4 : (zt5 s.heap l1 l2).get? ((zt2 s.heap l1 l2).push { cls := .type "tuple", data := .seq #[.ref s.heap.objs.size, .ref (s.heap.push (ti l1)).objs.size] }).objs.size = some _ := get_push_ne (Heap.get?_push_size _ rfl)
  have g3 : (zt5 s.heap l1 l2).get? (zt2 s.heap l1 l2).objs.size = some _ := get_push_ne (get_push_ne (Heap.get?_push_size _ rfl))
  have g2 : (zt5 s.heap l1 l2).get? (s.heap.push (ti l1)).objs.size = some _ := get_push_ne (get_push_ne (get_push_ne (Heap.get?_push_size _ rfl)))
  have g1 : (zt5 s.heap l1 l2).get? s.heap.objs.size = some _ := get_push_ne (get_push_ne (get_push_ne (get_push_ne (Heap.get?_push_size _ rfl))))
  show _ ∧ _
  rw [z2, z3, z4] at g5
  rw [z1, z2] at g3
  rw [z3] at g4
  rw [z1] at g2
  rw [z4]
  refine ⟨⟨_, g5, rfl⟩, h _ ⟨g5, g3, ⟨_, _, g4⟩, ⟨_, g1, rfl, rfl⟩, ⟨_, g2, rfl, rfl⟩, hl1.at fun o e => k _ o e, hl2.at fun o e => k _ o e⟩ z5 k⟩

theorem zipT_free {z TI TO i1 i2 l1 l2 : Addr} {k : Nat} {xs ys : Array Value} {x y : Value} {Q : Value → Shared → Prop} (D : ZipApart z TI TO i1 i2 l1 l2) (Z : ZS z TI TO i1 i2 l1 l2 xs ys k .none (.bool false) s.heap) (hx : xs[k]? = some x) (hy : ys[k]? = some y)
    (hQ : ∀ h', ZS z TI TO i1 i2 l1 l2 xs ys (k + 1) (rawInt s.heap.objs.size) (.bool false) h' → IsPair h' s.heap.objs.size x y → h'.objs.size = s.heap.objs.size + 1 →
      (∀ c o, c ≠ z → c ≠ TO → c ≠ i1 → c ≠ i2 → s.heap.get? c = some o → h'.get? c = some o) → Q (.ref s.heap.objs.size) { s with heap := h' }) :
    wpAny (model G.prog G.w) A (Builtin.«zip.__next__» ⟨[.ref z], []⟩) (fun fin s' => ∃ v, fin = .done (.ret v) ∧ Q v s') E s := by
  obtain ⟨hz, hTI, ⟨a, b, hTO⟩, h1, h2, hl1, hl2⟩ := Z
  show wpAny _ _ (field (.ref z) 2 >>= _) _ _ _
  refine wpAny_bind (wpAny_field hz rfl (x := .bool false) rfl ?_)
  show wpAny _ _ (field (.ref z) 3 >>= _) _ _ _
  refine wpAny_bind (wpAny_field hz rfl (x := .ref TI) rfl (wpAny_bind (wpAny_seqItems hTI rfl ?_)))
  show wpAny _ _ (Builtin.SmallTypes.ownedTupleIsFree (.ref z) >>= _) _ _ _
  refine wpAny_bind ?_
  unfold Builtin.SmallTypes.ownedTupleIsFree
  refine wpAny_bind (wpAny_field hz rfl (x := .none) rfl (wpAny_pure ?_))
  first | refine PySem.wpAny_ite_true rfl ?_ | simp only [if_true]
  refine wpAny_bind (wpAny_rule (wpAny_bind (wpAny_field hz rfl (x := .ref TO) rfl (wpAny_bind (wpAny_setField_rec hz (by simp) fun g₁ hz₁ s₁ => ?_)))))
  replace hz₁ : IsZip g₁ z TI TO .ellipsis := hz₁
  refine wpAny_bind ?_
  simp only [List.zipIdx_cons, List.zipIdx_nil, List.forIn_cons, List.forIn_nil]
  refine wpAny_bind (wpAny_bind (wpAny_onRaise ?_))
  show wpAny _ _ (Builtin.SmallTypes.nextOf (.ref i1) >>= _) _ _ _
  refine wpAny_bind (nextOf_tuple_item (h1.extBut s₁.extBut D.i1z) (hl1.extBut s₁.extBut D.l1z) hx fun g₂ j₂ s₂ => wpAny_pure ?_)
  have p₂ : IsPair g₂ TO a b := s₂.extBut _ _ D.TOi1 (s₁.extBut _ _ D.TOz hTO)
  refine wpAny_bind (wpAny_seqItems p₂ rfl (wpAny_bind (wpAny_updateSeq_pair p₂ fun g₃ p₃ s₃ => wpAny_bind (wpAny_letGo (wpAny_pure ?_)))))
  replace p₃ : IsPair g₃ TO x b := p₃
  refine wpAny_bind (wpAny_bind (wpAny_onRaise ?_))
  show wpAny _ _ (Builtin.SmallTypes.nextOf (.ref i2) >>= _) _ _ _
  refine wpAny_bind (nextOf_tuple_item (((h2.extBut s₁.extBut D.i2z).extBut s₂.extBut D.i12.symm).extBut s₃.extBut D.TOi2.symm) (((hl2.extBut s₁.extBut D.l2z).extBut s₂.extBut D.l2i1).extBut s₃.extBut D.l2TO) hy fun g₄ j₄ s₄ => wpAny_pure ?_)
  have p₄ : IsPair g₄ TO x b := s₄.extBut _ _ D.TOi2 p₃
  refine wpAny_bind (wpAny_seqItems p₄ rfl (wpAny_bind (wpAny_updateSeq_pair p₄ fun g₅ p₅ s₅ => wpAny_bind (wpAny_letGo (wpAny_pure (wpAny_pure ?_))))))
  replace p₅ : IsPair g₅ TO x y := p₅
  refine wpAny_bind (wpAny_seqItems p₅ rfl (wpAny_bind (wpAny_newTuple ?_)))
  have hsz : g₅.objs.size = s.heap.objs.size := by rw [s₅.1, s₄.1, s₃.1, s₂.1, s₁.1]
  have z₅ : IsZip g₅ z TI TO .ellipsis := s₅.extBut _ _ D.TOz.symm (s₄.extBut _ _ D.i2z.symm (s₃.extBut _ _ D.TOz.symm (s₂.extBut _ _ D.i1z.symm hz₁)))
  have k₅ : ∀ c o, c ≠ z → c ≠ TO → c ≠ i1 → c ≠ i2 → s.heap.get? c = some o → g₅.get? c = some o := fun c o c1 c2 c3 c4 e =>
    s₅.extBut _ _ c2 (s₄.extBut _ _ c4 (s₃.extBut _ _ c2 (s₂.extBut _ _ c3 (s₁.extBut _ _ c1 e))))
  have e1 : g₅.IsTupleIter i1 l1 (k + 1) := ((j₂.extBut s₃.extBut D.TOi1.symm).extBut s₄.extBut D.i12).extBut s₅.extBut D.TOi1.symm
  have e2 : g₅.IsTupleIter i2 l2 (k + 1) := j₄.extBut s₅.extBut D.TOi2.symm
  have zlt : z < g₅.objs.size := Heap.lt_size z₅
  show wpAny _ _ (Builtin.SmallTypes.ownedTupleHandOut (.ref z) (.ref g₅.objs.size) >>= _) _ _ _
  refine wpAny_bind ?_
  unfold Builtin.SmallTypes.ownedTupleHandOut
  have z₆ : IsZip (g₅.push { cls := .type "tuple", data := .seq #[x, y] }) z TI TO .ellipsis := get_push_ne z₅
  refine wpAny_bind (wpAny_setField_rec z₆ (by simp) fun g₇ z₇ s₇ => ?_)
  replace z₇ : IsZip g₇ z TI TO (rawInt g₅.objs.size) := z₇
  refine wpAny_setField_rec z₇ (by simp) fun g₈ z₈ s₈ => ?_
  replace z₈ : IsZip g₈ z TI TO (rawInt g₅.objs.size) := z₈
  have up : ∀ c o, c ≠ z → g₅.get? c = some o → g₈.get? c = some o := fun c o c1 e => s₈.extBut _ _ c1 (s₇.extBut _ _ c1 (get_push_ne e))
  have T₈ : IsPair g₈ g₅.objs.size x y := s₈.extBut _ _ (Nat.ne_of_gt zlt) (s₇.extBut _ _ (Nat.ne_of_gt zlt) (Heap.get?_push_size _ rfl))
  have sz8 : g₈.objs.size = g₅.objs.size + 1 := by rw [s₈.1, s₇.1, Heap.size_push]
  rw [hsz] at z₈ T₈ sz8
  refine wpAny_pure ⟨_, rfl, ?_⟩
  show Q (.ref g₅.objs.size) _
  rw [hsz]
  have kk : ∀ c o, c ≠ z → c ≠ TO → c ≠ i1 → c ≠ i2 → s.heap.get? c = some o → g₈.get? c = some o := fun c o c1 c2 c3 c4 e => up c o c1 (k₅ c o c1 c2 c3 c4 e)
  exact hQ g₈ ⟨z₈, kk _ _ D.TIz D.TITO D.TIi1 D.TIi2 hTI, ⟨x, y, up _ _ D.TOz p₅⟩, e1.at fun o e => up _ o D.i1z e, e2.at fun o e => up _ o D.i2z e, hl1.at fun o e => kk _ o D.l1z D.l1TO D.l1i1 D.l1i2 e, hl2.at fun o e => kk _ o D.l2z D.l2TO D.l2i1 D.l2i2 e⟩ T₈ sz8 kk

theorem wpAny_alive {a : Addr} {Q : Option Obj → Shared → Prop} (h : Q (s.heap.get? a) s) : wpAny (model G.prog G.w) A (loadIfAlive a) Q E s := fun Γ p _ => by
  unfold loadIfAlive
  rw [Sem.wp_loadIfAlive]
  exact h

theorem zipT_busy {z TI TO i1 i2 l1 l2 T : Addr} {k : Nat} {xs ys : Array Value} {x y : Value} {f1 : Bool} {Q : Value → Shared → Prop} (D : ZipApart z TI TO i1 i2 l1 l2) (Z : ZS z TI TO i1 i2 l1 l2 xs ys k (rawInt T) (.bool f1) s.heap) (hT : ∃ o, s.heap.get? T = some o) (hx : xs[k]? = some x) (hy : ys[k]? = some y)
    (hQ : ∀ h', ZS z TI TO i1 i2 l1 l2 xs ys (k + 1) (rawInt T) (.bool true) h' → IsPair h' s.heap.objs.size x y → h'.objs.size = s.heap.objs.size + 1 →
      (∀ c o, c ≠ z → c ≠ i1 → c ≠ i2 → s.heap.get? c = some o → h'.get? c = some o) → Q (.ref s.heap.objs.size) { s with heap := h' }) :
    wpAny (model G.prog G.w) A (Builtin.«zip.__next__» ⟨[.ref z], []⟩) (fun fin s' => ∃ v, fin = .done (.ret v) ∧ Q v s') E s := by
  obtain ⟨hz, hTI, ⟨a, b, hTO⟩, h1, h2, hl1, hl2⟩ := Z
  obtain ⟨oT, hT⟩ := hT
  show wpAny _ _ (field (.ref z) 2 >>= _) _ _ _
  refine wpAny_bind (wpAny_field hz rfl (x := .bool false) rfl ?_)
  show wpAny _ _ (field (.ref z) 3 >>= _) _ _ _
  refine wpAny_bind (wpAny_field hz rfl (x := .ref TI) rfl (wpAny_bind (wpAny_seqItems hTI rfl ?_)))
  show wpAny _ _ (Builtin.SmallTypes.ownedTupleIsFree (.ref z) >>= _) _ _ _
  refine wpAny_bind (wpAny_mono (Q := fun b s' => b = false ∧ ∃ g₁, s' = { s with heap := g₁ } ∧ g₁.get? z = some { cls := .type "zip", dict := none, data := .fields #[rawInt T, .bool true, .bool false, .ref TI, .ref TO], slots := #[] } ∧ Heap.SameBut z s.heap g₁) ?_ (fun b s' hb => ?_) fun _ _ e => e)
  · unfold Builtin.SmallTypes.ownedTupleIsFree
    refine wpAny_bind (wpAny_field hz rfl (x := rawInt T) rfl ?_)
    show wpAny _ _ (loadIfAlive T >>= _) _ _ _
    refine wpAny_bind (wpAny_alive ?_)
    rw [hT]
    cases f1 with
    | true =>
      refine wpAny_bind (wpAny_field hz rfl (x := .bool true) rfl ?_)
      exact wpAny_pure ⟨rfl, s.heap, rfl, hz, ⟨rfl, fun _ _ => rfl⟩⟩
    | false =>
      refine wpAny_bind (wpAny_field hz rfl (x := .bool false) rfl ?_)
      exact wpAny_bind (wpAny_setField_rec hz (by simp) fun g₁ hz₁ s₁ => wpAny_pure ⟨rfl, g₁, rfl, hz₁, s₁⟩)
  · obtain ⟨rfl, g₁, rfl, z₁, s₁⟩ := hb
    first | refine PySem.wpAny_ite_false rfl ?_ | simp only [Bool.false_eq_true, if_false]
    refine wpAny_bind ?_
    simp only [List.forIn_toArray, List.forIn_cons, List.forIn_nil]
    refine wpAny_bind (wpAny_bind (wpAny_holding ?_))
    show wpAny _ _ (Builtin.SmallTypes.nextOf (.ref i1) >>= _) _ _ _
    refine wpAny_bind (nextOf_tuple_item (h1.extBut s₁.extBut D.i1z) (hl1.extBut s₁.extBut D.l1z) hx fun g₂ j₂ s₂ => wpAny_pure (wpAny_pure ?_))
    refine wpAny_bind (wpAny_bind (wpAny_holding ?_))
    show wpAny _ _ (Builtin.SmallTypes.nextOf (.ref i2) >>= _) _ _ _
    refine wpAny_bind (nextOf_tuple_item ((h2.extBut s₁.extBut D.i2z).extBut s₂.extBut D.i12.symm) ((hl2.extBut s₁.extBut D.l2z).extBut s₂.extBut D.l2i1) hy fun g₃ j₃ s₃ => wpAny_pure (wpAny_pure (wpAny_pure ?_)))
    refine wpAny_bind (wpAny_newTuple ?_ (by show 2 ≤ sizeLine; decide))
    have hsz : g₃.objs.size = s.heap.objs.size := by rw [s₃.1, s₂.1, s₁.1]
    have up : ∀ c o, g₃.get? c = some o → (g₃.push { cls := .type "tuple", data := .seq #[x, y] }).get? c = some o := fun c o e => get_push_ne e
    have kk : ∀ c o, c ≠ z → c ≠ i1 → c ≠ i2 → s.heap.get? c = some o → (g₃.push { cls := .type "tuple", data := .seq #[x, y] }).get? c = some o := fun c o c1 c2 c3 e => up c o (s₃.extBut _ _ c3 (s₂.extBut _ _ c2 (s₁.extBut _ _ c1 e)))
    refine wpAny_pure ⟨_, rfl, ?_⟩
    show Q (.ref g₃.objs.size) { s with heap := g₃.push { cls := .type "tuple", data := .seq #[x, y] } }
    rw [hsz]
    exact hQ _ ⟨up _ _ (s₃.extBut _ _ D.i2z.symm (s₂.extBut _ _ D.i1z.symm z₁)), kk _ _ D.TIz D.TIi1 D.TIi2 hTI, ⟨a, b, kk _ _ D.TOz D.TOi1 D.TOi2 hTO⟩, (j₂.extBut s₃.extBut D.i12).at fun o e => up _ o e, j₃.at fun o e => up _ o e, hl1.at fun o e => kk _ o D.l1z D.l1i1 D.l1i2 e, hl2.at fun o e => kk _ o D.l2z D.l2i1 D.l2i2 e⟩
      (by rw [← hsz]; exact Heap.get?_push_size _ rfl) (by rw [Heap.size_push, hsz]) kk

theorem zipT_endF {z TI TO i1 i2 l1 l2 : Addr} {k : Nat} {xs ys : Array Value} {Q : Fin → Shared → Prop} (hh : A.handled = none) (D : ZipApart z TI TO i1 i2 l1 l2) (Z : ZS z TI TO i1 i2 l1 l2 xs ys k .none (.bool false) s.heap) (hx : xs[k]? = none)
    (hE : ∀ h' e, (∀ c o, c ≠ z → c ≠ TO → c ≠ i1 → c ≠ i2 → s.heap.get? c = some o → h'.get? c = some o) → (∃ o, h'.get? e = some o ∧ o.cls = .type "StopIteration") → E (.ref e) { s with heap := h' }) :
    wpAny (model G.prog G.w) A (Builtin.«zip.__next__» ⟨[.ref z], []⟩) Q E s := by
  obtain ⟨hz, hTI, ⟨a, b, hTO⟩, h1, h2, hl1, hl2⟩ := Z
  show wpAny _ _ (field (.ref z) 2 >>= _) _ _ _
  refine wpAny_bind (wpAny_field hz rfl (x := .bool false) rfl ?_)
  show wpAny _ _ (field (.ref z) 3 >>= _) _ _ _
  refine wpAny_bind (wpAny_field hz rfl (x := .ref TI) rfl (wpAny_bind (wpAny_seqItems hTI rfl ?_)))
  show wpAny _ _ (Builtin.SmallTypes.ownedTupleIsFree (.ref z) >>= _) _ _ _
  refine wpAny_bind ?_
  unfold Builtin.SmallTypes.ownedTupleIsFree
  refine wpAny_bind (wpAny_field hz rfl (x := .none) rfl (wpAny_pure ?_))
  first | refine PySem.wpAny_ite_true rfl ?_ | simp only [if_true]
  refine wpAny_bind (wpAny_rule (wpAny_bind (wpAny_field hz rfl (x := .ref TO) rfl (wpAny_bind (wpAny_setField_rec hz (by simp) fun g₁ hz₁ s₁ => ?_)))))
  replace hz₁ : IsZip g₁ z TI TO .ellipsis := hz₁
  refine wpAny_bind ?_
  simp only [List.zipIdx_cons, List.zipIdx_nil, List.forIn_cons, List.forIn_nil]
  refine wpAny_bind (wpAny_bind (wpAny_onRaise ?_))
  show wpAny _ _ (Builtin.SmallTypes.nextOf (.ref i1) >>= _) _ _ _
  refine wpAny_bind (nextOf_tuple_end hh (h1.extBut s₁.extBut D.i1z) (hl1.extBut s₁.extBut D.l1z) hx fun g₂ e s₂ he => ?_)
  obtain ⟨oe, hoe, hce⟩ := he
  have hz₂ : IsZip g₂ z TI TO .ellipsis := s₂ _ _ D.i1z.symm hz₁
  have hez : e ≠ z := fun x => by subst x; rw [hz₂] at hoe; cases hoe; simp at hce
  refine wpAny_setField_rec hz₂ (by simp) fun g₃ _ s₃ => hE g₃ e (fun c o c1 _ c3 _ x => s₃.extBut _ _ c1 (s₂ _ _ c3 (s₁.extBut _ _ c1 x))) ⟨oe, s₃.extBut _ _ hez hoe, hce⟩

theorem zipT_endB {z TI TO i1 i2 l1 l2 T : Addr} {k : Nat} {xs ys : Array Value} {f1 : Bool} {Q : Fin → Shared → Prop} (hh : A.handled = none) (D : ZipApart z TI TO i1 i2 l1 l2) (Z : ZS z TI TO i1 i2 l1 l2 xs ys k (rawInt T) (.bool f1) s.heap) (hT : ∃ o, s.heap.get? T = some o) (hx : xs[k]? = none)
    (hE : ∀ h' e, (∀ c o, c ≠ z → c ≠ TO → c ≠ i1 → c ≠ i2 → s.heap.get? c = some o → h'.get? c = some o) → (∃ o, h'.get? e = some o ∧ o.cls = .type "StopIteration") → E (.ref e) { s with heap := h' }) :
    wpAny (model G.prog G.w) A (Builtin.«zip.__next__» ⟨[.ref z], []⟩) Q E s := by
  obtain ⟨hz, hTI, ⟨a, b, hTO⟩, h1, h2, hl1, hl2⟩ := Z
  obtain ⟨oT, hT⟩ := hT
  show wpAny _ _ (field (.ref z) 2 >>= _) _ _ _
  refine wpAny_bind (wpAny_field hz rfl (x := .bool false) rfl ?_)
  show wpAny _ _ (field (.ref z) 3 >>= _) _ _ _
  refine wpAny_bind (wpAny_field hz rfl (x := .ref TI) rfl (wpAny_bind (wpAny_seqItems hTI rfl ?_)))
  show wpAny _ _ (Builtin.SmallTypes.ownedTupleIsFree (.ref z) >>= _) _ _ _
  refine wpAny_bind (wpAny_mono (Q := fun b s' => b = false ∧ ∃ g₁, s' = { s with heap := g₁ } ∧ Heap.SameBut z s.heap g₁) ?_ (fun b s' hb => ?_) fun _ _ e => e)
  · unfold Builtin.SmallTypes.ownedTupleIsFree
    refine wpAny_bind (wpAny_field hz rfl (x := rawInt T) rfl ?_)
    show wpAny _ _ (loadIfAlive T >>= _) _ _ _
    refine wpAny_bind (wpAny_alive ?_)
    rw [hT]
    cases f1 with
    | true =>
      refine wpAny_bind (wpAny_field hz rfl (x := .bool true) rfl ?_)
      exact wpAny_pure ⟨rfl, s.heap, rfl, ⟨rfl, fun _ _ => rfl⟩⟩
    | false =>
      refine wpAny_bind (wpAny_field hz rfl (x := .bool false) rfl ?_)
      exact wpAny_bind (wpAny_setField_rec hz (by simp) fun g₁ hz₁ s₁ => wpAny_pure ⟨rfl, g₁, rfl, s₁⟩)
  · obtain ⟨rfl, g₁, rfl, s₁⟩ := hb
    first | refine PySem.wpAny_ite_false rfl ?_ | simp only [Bool.false_eq_true, if_false]
    refine wpAny_bind ?_
    simp only [List.forIn_toArray, List.forIn_cons, List.forIn_nil]
    refine wpAny_bind (wpAny_bind (wpAny_holding ?_))
    show wpAny _ _ (Builtin.SmallTypes.nextOf (.ref i1) >>= _) _ _ _
    refine wpAny_bind (nextOf_tuple_end hh (h1.extBut s₁.extBut D.i1z) (hl1.extBut s₁.extBut D.l1z) hx fun g₂ e s₂ he => ?_)
    exact hE g₂ e (fun c o c1 _ c3 _ x => s₂ _ _ c3 (s₁.extBut _ _ c1 x)) he

theorem ZS.typeIs {z TI TO i1 i2 l1 l2 : Addr} {k : Nat} {xs ys : Array Value} {f0 f1 : Value} (Z : ZS z TI TO i1 i2 l1 l2 xs ys k f0 f1 s.heap) : s.TypeIs (.ref z) "zip" := ⟨_, Z.z, rfl⟩
theorem next_free {z TI TO i1 i2 l1 l2 : Addr} {k : Nat} {xs ys : Array Value} {x y : Value} {Q : Option Value → Shared → Prop} (D : ZipApart z TI TO i1 i2 l1 l2) (Z : ZS z TI TO i1 i2 l1 l2 xs ys k .none (.bool false) s.heap) (hx : xs[k]? = some x) (hy : ys[k]? = some y)
    (hQ : ∀ h', ZS z TI TO i1 i2 l1 l2 xs ys (k + 1) (rawInt s.heap.objs.size) (.bool false) h' → IsPair h' s.heap.objs.size x y → h'.objs.size = s.heap.objs.size + 1 →
      (∀ c o, c ≠ z → c ≠ TO → c ≠ i1 → c ≠ i2 → s.heap.get? c = some o → h'.get? c = some o) → Q (some (.ref s.heap.objs.size)) { s with heap := h' }) : wpAny (model G.prog G.w) A (pyNext (.ref z)) Q E s := by
  unfold pyNext
  exact wpAny_bind (wpAny_attempt (wpAny_callSpecial?_slot (name := Str.ofString "__next__") Z.typeIs F.slot_zip_next (wpAny_call_entry F.slot_zip_next Z.typeIs F.entry_zip_next
    (zipT_free D Z hx hy fun h' a1 a2 a3 a4 => wpAny_pure (hQ h' a1 a2 a3 a4)) (F.args_zip_next_1 _))))
theorem next_busy {z TI TO i1 i2 l1 l2 T : Addr} {k : Nat} {xs ys : Array Value} {x y : Value} {f1 : Bool} {Q : Option Value → Shared → Prop} (D : ZipApart z TI TO i1 i2 l1 l2) (Z : ZS z TI TO i1 i2 l1 l2 xs ys k (rawInt T) (.bool f1) s.heap) (hT : ∃ o, s.heap.get? T = some o) (hx : xs[k]? = some x) (hy : ys[k]? = some y)
    (hQ : ∀ h', ZS z TI TO i1 i2 l1 l2 xs ys (k + 1) (rawInt T) (.bool true) h' → IsPair h' s.heap.objs.size x y → h'.objs.size = s.heap.objs.size + 1 →
      (∀ c o, c ≠ z → c ≠ i1 → c ≠ i2 → s.heap.get? c = some o → h'.get? c = some o) → Q (some (.ref s.heap.objs.size)) { s with heap := h' }) : wpAny (model G.prog G.w) A (pyNext (.ref z)) Q E s := by
  unfold pyNext
  exact wpAny_bind (wpAny_attempt (wpAny_callSpecial?_slot (name := Str.ofString "__next__") Z.typeIs F.slot_zip_next (wpAny_call_entry F.slot_zip_next Z.typeIs F.entry_zip_next
    (zipT_busy D Z hT hx hy fun h' a1 a2 a3 a4 => wpAny_pure (hQ h' a1 a2 a3 a4)) (F.args_zip_next_1 _))))
theorem next_end {z TI TO i1 i2 l1 l2 : Addr} {k : Nat} {xs ys : Array Value} {f0 : Value} {f1 : Bool} {Q : Option Value → Shared → Prop} (hh : A.handled = none) (D : ZipApart z TI TO i1 i2 l1 l2) (Z : ZS z TI TO i1 i2 l1 l2 xs ys k f0 (.bool f1) s.heap) (hf : (f0 = .none ∧ f1 = false) ∨ ∃ T : Addr, f0 = rawInt T ∧ ∃ o, s.heap.get? T = some o) (hx : xs[k]? = none)
    (hQ : ∀ h', (∀ c o, c ≠ z → c ≠ TO → c ≠ i1 → c ≠ i2 → s.heap.get? c = some o → h'.get? c = some o) → Q none { s with heap := h' }) : wpAny (model G.prog G.w) A (pyNext (.ref z)) Q E s := by
  unfold pyNext
  rcases hf with ⟨rfl, rfl⟩ | ⟨T, rfl, hT⟩
  · refine wpAny_bind (wpAny_attempt (wpAny_callSpecial?_slot (name := Str.ofString "__next__") Z.typeIs F.slot_zip_next (wpAny_call_entry F.slot_zip_next Z.typeIs F.entry_zip_next (zipT_endF hh D Z hx fun h' e hk he => ?_) (F.args_zip_next_1 _))))
    obtain ⟨o, ho, hc⟩ := he
    refine wpAny_bind (wpAny_isInstance (T := "StopIteration") (b := true) ⟨o, ho, hc⟩ isSubtype_stop ?_)
    exact wpAny_pure (hQ _ hk)
  · refine wpAny_bind (wpAny_attempt (wpAny_callSpecial?_slot (name := Str.ofString "__next__") Z.typeIs F.slot_zip_next (wpAny_call_entry F.slot_zip_next Z.typeIs F.entry_zip_next (zipT_endB hh D Z hT hx fun h' e hk he => ?_) (F.args_zip_next_1 _))))
    obtain ⟨o, ho, hc⟩ := he
    refine wpAny_bind (wpAny_isInstance (T := "StopIteration") (b := true) ⟨o, ho, hc⟩ isSubtype_stop ?_)
    exact wpAny_pure (hQ _ hk)

theorem add_ne {N i j : Nat} (h : i ≠ j) : N + i ≠ N + j := fun e => h (Nat.add_left_cancel e)
theorem lt_ne_add {N l : Nat} (h : l < N) (i : Nat) : l ≠ N + i := Nat.ne_of_lt (Nat.lt_of_lt_of_le h (Nat.le_add_right _ _))
theorem zipApart_new {N l1 l2 : Nat} (h1 : l1 < N) (h2 : l2 < N) : ZipApart (N + 4) (N + 2) (N + 3) N (N + 1) l1 l2 :=
  ⟨add_ne (by decide), add_ne (by decide), add_ne (i := 0) (by decide), add_ne (by decide), add_ne (by decide), add_ne (j := 0) (by decide), add_ne (by decide), add_ne (j := 0) (by decide), add_ne (by decide), add_ne (i := 0) (by decide),
    lt_ne_add h1 4, lt_ne_add h1 3, lt_ne_add h1 0, lt_ne_add h1 1, lt_ne_add h2 4, lt_ne_add h2 3, lt_ne_add h2 0, lt_ne_add h2 1⟩

theorem zip_off {N l1 l2 a : Nat} (h : a < N) (h1 : a ≠ l1) (h2 : a ≠ l2) : a ∉ [N + 4, N + 2, N + 3, N, N + 1, l1, l2] := by
  simp only [List.mem_cons, List.not_mem_nil, or_false, not_or]
  exact ⟨lt_ne_add h 4, lt_ne_add h 2, lt_ne_add h 3, lt_ne_add h 0, lt_ne_add h 1, h1, h2⟩
theorem zip_off2 {N a c : Nat} (h : c < N) (h1 : c ≠ a) : c ∉ [N + 4, N + 3, N, N + 1, a] := by
  simp only [List.mem_cons, List.not_mem_nil, or_false, not_or]
  exact ⟨lt_ne_add h 4, lt_ne_add h 3, lt_ne_add h 0, lt_ne_add h 1, h1⟩

/-- the zip, as a walk that keeps what it hands out -/
noncomputable def ZSt (z TI TO i1 i2 l1 l2 : Addr) (xs ys : Array Value) (k : Nat) (h : Heap) : Prop :=
  ∃ f0 f1, ZS z TI TO i1 i2 l1 l2 xs ys k f0 (.bool f1) h ∧ ((f0 = .none ∧ f1 = false) ∨ ∃ T : Addr, f0 = rawInt T ∧ T ∉ [z, TO, i1, i2] ∧ ∃ o, h.get? T = some o)
end
end Mine
end
section
open PySem PySem.W PyProof.Rows
set_option linter.unusedVariables false
set_option linter.unusedSimpArgs false
namespace Mine
section
variable {G : Glo} {env : Env} {d : Nat} {Γ Γ' Γ₁ Γ₂ : List (Str × AV)} {σ σ' σ₁ σ₂ σ₃ σ₄ : List AObj} {ρ ρ' ρ₁ ρ₂ ρ₃ : List Addr} {s s' s₁ : Shared} {h h' h₁ h₂ h₃ : Heap}

theorem EJ.dict2 {c1 c2 : Nat} {p1 p2 pos : Pos} {k1 k2 : Str} {e1 e2 : Expr} {v1 v2 : AV} (h1 : EJ G env d Γ (σ ++ [AObj.sdict []]) (eval e1 env) v1 σ₁) (h2 : EJ G env d Γ σ₁ (eval e2 env) v2 σ₂) (hi : σ₂[σ.length]? = some (AObj.sdict [])) (hne : k1 ≠ k2) :
    EJ G env d Γ σ (eval (.Dict [some (.Constant (.str k1) c1 p1), some (.Constant (.str k2) c2 p2)] [e1, e2] pos) env) (.ref σ.length) (σ₂.set σ.length (AObj.sdict [(k1, v1), (k2, v2)])) := fun A s ρ Q E R S L h => by
  refine wpAny_Dict_walk (knd := strKind G.prog G.w) rfl rfl (by simp) (Nat.le_of_ble_eq_true rfl) ?_
  have ha := get_size_none s.heap
  have k : ∀ b o, s.heap.get? b = some o → (s.heap.push { cls := .type "dict", data := .dict #[] }).get? b = some o := fun b o e => get_push_ne e
  have S₀ : StG G (σ ++ [AObj.sdict []]) (ρ ++ [s.heap.objs.size]) { s with heap := s.heap.push { cls := .type "dict", data := .dict #[] } } := S.push (s' := { s with heap := _ }) ha k ⟨[], Heap.DictOf.new _, rfl, .nil⟩ rfl rfl
  have x₀ : Ext ρ (ρ ++ [s.heap.objs.size]) s.heap (s.heap.push { cls := .type "dict", data := .dict #[] }) := Ext.push ha k
  have L₀ := L.keep (s' := { s with heap := s.heap.push { cls := .type "dict", data := .dict #[] } }) S x₀
  refine pairTrees_cons_walk ?_
  refine EJ.cStr (d := d) A { s with heap := s.heap.push { cls := .type "dict", data := .dict #[] } } _ _ E R S₀ L₀ fun cka sa ρa Sa xa ra => ?_
  refine h1 A sa ρa _ E R Sa (L₀.keep S₀ xa) fun cv1 s₁ ρ₁ S₁ x₁ r₁ => ?_
  have L₁ := (L₀.keep S₀ xa).keep Sa x₁
  refine pairTrees_cons_walk ?_
  refine EJ.cStr (d := d) A s₁ _ _ E R S₁ L₁ fun ckb sb ρb Sb xb rb => ?_
  refine h2 A sb ρb _ E R Sb (L₁.keep S₁ xb) fun cv2 s₂ ρ₂ S₂ x₂ r₂ => ?_
  refine pairTrees_nil_walk ?_
  obtain ⟨ta, rfl⟩ := Rep.str_ ra
  obtain ⟨tb, rfl⟩ := Rep.str_ rb
  have xx : Ext (ρ ++ [s.heap.objs.size]) ρ₂ (s.heap.push { cls := .type "dict", data := .dict #[] }) s₂.heap := ((xa.trans x₁).trans xb).trans x₂
  have eD : ρ₂[σ.length]? = some s.heap.objs.size := xx.pre σ.length _ (by rw [← S.len]; simp)
  obtain ⟨a, cvs, e', ea, g1, g2, g3⟩ := reads_sdict S₂ hi (.ref eD)
  cases e'
  have hnil : cvs = [] := by cases cvs with | nil => rfl | cons => simp at g2
  subst hnil
  have r1' : Rep s₂.heap ρ₂ cv1 v1 := (r₁.mono (S₁.tupKeep xb.keep) xb.pre).mono (Sb.tupKeep x₂.keep) x₂.pre
  refine ⟨[(k1, cv1), (k2, cv2)], ⟨isStrOf_self k1 _, rfl, isStrOf_self k2 _, rfl, trivial⟩, g1, fun h' hd hs => ?_⟩
  have tk : TupKeep s₂.heap h' := by
    obtain ⟨o, es, ep, ho, _, hd', _⟩ := g1
    exact rep_keeps ho hd' hs
  have em : merged [] [(k1, cv1), (k2, cv2)] = [(k1, cv1), (k2, cv2)] := by
    simp [merged, stored, hne]
  rw [em] at hd
  refine h _ _ ρ₂ (S₂.upd (s' := { s₂ with heap := h', toks := _ }) eD (fun b o hb e => (hs.2 b hb).trans e) ⟨_, hd, rfl, .cons (r1'.mono tk (Pre.refl _)) (.cons (r₂.mono tk (Pre.refl _)) .nil)⟩ rfl rfl) ((x₀.trans xx).trans (Ext.upd (List.mem_of_getElem? eD) fun b o hb e => (hs.2 b hb).trans e)) (.ref eD)

theorem rep_intsAre {l : List Int} : ∀ {vs : List Value}, IntsAre vs l → RepL h ρ vs (l.map .int) := by
  induction l with
  | nil => intro vs r; cases r; exact .nil
  | cons x l ih => intro vs r; cases r with | cons _ _ r => exact .cons (.int _ _) (ih r)

theorem EJ.uptoBase {value e : Expr} {p pos : Pos} {a : Addr} {vs : List Value} {ns : List Int} {b : Nat} (hL : G.h₀.IsList a vs.toArray) (hI : IntsAre vs ns) (hn : ns.length ≤ 100000) (h1 : EJ G env d Γ σ (eval value env) (.opq a) σ₁) (h2 : EJ G env d Γ σ₁ (eval e env) (.int b) σ₂) :
    EJ G env d Γ σ (eval (.Subscript value (.Slice none (some e) none p) pos) env) (.ref σ₂.length) (σ₂ ++ [AObj.list ((ns.take b).map .int)]) := fun A s ρ Q E R S L h => by
  refine Subscript_ (h1 A s ρ _ E R S L fun ca s₁ ρ₁ S₁ x₁ r₁ => ?_)
  refine wpAny_Slice ?_
  show wpAny _ A (pure Value.none) (fun l s₂ => wpAny _ A (eval e env) _ E s₂) E s₁
  refine wpAny_pure (h2 A s₁ ρ₁ _ E R S₁ (L.keep S x₁) fun ce s₂ ρ₂ S₂ x₂ r₂ => ?_)
  show wpAny _ A (pure Value.none) _ E _
  refine wpAny_pure ?_
  obtain ⟨u, rfl⟩ := Rep.int_ r₂
  obtain rfl := Rep.opq_ r₁
  generalize ho : ({ cls := .type "slice", data := .fields #[Value.none, .int (b : Int) u, Value.none] } : Obj) = osl
  have k1 : ∀ b o, s₂.heap.get? b = some o → (s₂.heap.push osl).get? b = some o := fun b o e => get_push_ne e
  have hsl : (s₂.heap.push osl).IsSliceOf s₂.heap.objs.size .none (.int (b : Int) u) .none := by subst ho; exact Heap.IsSliceOf.new ..
  have hL' : (s₂.heap.push osl).IsList a vs.toArray := hL.at fun o e => k1 _ _ (S₂.base _ _ e)
  have r : RepL s₂.heap ρ₂ vs (ns.map .int) := rep_intsAre hI
  have hlen := r.length
  refine tail_any (s := { s₂ with heap := s₂.heap.push osl }) hL'.typeIs slot_list_getitem.lookup (wpAny_getItem_list_slice hL' hsl .none (.int _ _) .none (by simp) ?_ (by rw [List.size_toArray, hlen, List.length_map]; exact Nat.le_trans hn (by decide))) rfl
  rw [slicePick_upto']
  have k2 : ∀ c o, s₂.heap.get? c = some o → ((s₂.heap.push osl).push { cls := .type "list", data := .seq (vs.toArray.toList.take b).toArray }).get? c = some o := fun c o e => get_push_ne (k1 c o e)
  obtain ⟨S', x', r'⟩ := S₂.pushList (tk := s₂.toks) (a := (s₂.heap.push osl).objs.size) (vs := vs.take b) (l := (ns.take b).map .int) (n := 0) (by
    cases e : s₂.heap.get? (s₂.heap.push osl).objs.size with
    | none => rfl
    | some o => exact absurd (Heap.lt_size (k1 _ _ e)) (Nat.lt_irrefl _)) k2 (Heap.get?_push_size _ rfl) (by rw [List.map_take]; exact (r.take b).mono (S₂.tupKeep (KeepX.of_all k2)) (Pre.refl _))
  exact h _ _ _ S' ((x₁.trans x₂).trans x') r'
end
end Mine
end
section
open PySem PySem.W PyProof.Rows
set_option linter.unusedVariables false
set_option linter.unusedSimpArgs false
set_option maxRecDepth 100000
namespace Mine
theorem zip_nolen : typeLookup (.type "zip") "__len__" = pure none := by rw [typeLookup_type, builtinLookup_eq_fast]; kernel_rfl
theorem zip_nohint : typeLookup (.type "zip") "__length_hint__" = pure none := by rw [typeLookup_type, builtinLookup_eq_fast]; kernel_rfl
section
variable {G : Glo} {A : Around} {E : Value → Shared → Prop} {s : Shared}
theorem zip_hint {z : Addr} {Q : Bool → Shared → Prop} (hT : s.TypeIs (.ref z) "zip") (h : Q true s) : wpAny (model G.prog G.w) A (Builtin.List.listLengthHint (.ref z)) Q E s := by
  unfold Builtin.List.listLengthHint
  refine wpAny_bind (wpAny_specialOf hT zip_nolen ?_)
  refine wpAny_ite_split (fun hab => absurd hab (by decide)) (fun _ => ?_)
  refine wpAny_ite_split (fun hab => absurd hab (by decide +kernel)) (fun _ => ?_)
  refine wpAny_bind (wpAny_specialOf hT zip_nohint ?_)
  exact wpAny_pure h

/-- the zip, as the list that takes its pairs sees it -/
noncomputable def ZE (z TI TO i1 i2 l1 l2 S : Addr) (xs ys : Array Value) (k : Nat) (h : Heap) : Prop :=
  ∃ f0 f1, ZS z TI TO i1 i2 l1 l2 xs ys k f0 (.bool f1) h ∧ ((f0 = .none ∧ f1 = false) ∨ ∃ T : Addr, f0 = rawInt T ∧ T ∉ [z, TO, i1, i2, S] ∧ ∃ o, h.get? T = some o)

theorem ZE.next {z TI TO i1 i2 l1 l2 S : Addr} {xs ys : Array Value} {k : Nat} {x y : Value} {Q : Option Value → Shared → Prop} (D : ZipApart z TI TO i1 i2 l1 l2) (hS : S < s.heap.objs.size) (Z : ZE z TI TO i1 i2 l1 l2 S xs ys k s.heap) (hx : xs[k]? = some x) (hy : ys[k]? = some y)
    (hQ : ∀ h', ZE z TI TO i1 i2 l1 l2 S xs ys (k + 1) h' → IsPair h' s.heap.objs.size x y → h'.objs.size = s.heap.objs.size + 1 → (∀ b o, b ∉ [z, TO, i1, i2] → s.heap.get? b = some o → h'.get? b = some o) → Q (some (.ref s.heap.objs.size)) { s with heap := h' }) :
    wpAny (model G.prog G.w) A (pyNext (.ref z)) Q E s := by
  obtain ⟨f0, f1, Z, hf⟩ := Z
  have lt : ∀ {b : Addr} {o : Obj}, s.heap.get? b = some o → s.heap.objs.size ≠ b := fun e => Nat.ne_of_gt (Heap.lt_size e)
  rcases hf with ⟨rfl, rfl⟩ | ⟨T, rfl, hT, oT, eT⟩
  · refine next_free D Z hx hy fun h' Z' p sz kp => hQ h' ⟨_, _, Z', .inr ⟨_, rfl, ?_, _, p⟩⟩ p sz fun b o hb e => ?_
    · obtain ⟨a, b, hTO⟩ := Z.to
      obtain ⟨_, e1, _⟩ := Z.it1
      obtain ⟨_, e2, _⟩ := Z.it2
      simp only [List.mem_cons, List.not_mem_nil, or_false, not_or]
      exact ⟨lt Z.z, lt hTO, lt e1, lt e2, Nat.ne_of_gt hS⟩
    · simp only [List.mem_cons, List.not_mem_nil, or_false, not_or] at hb
      exact kp b o hb.1 hb.2.1 hb.2.2.1 hb.2.2.2 e
  · simp only [List.mem_cons, List.not_mem_nil, or_false, not_or] at hT
    refine next_busy D Z ⟨oT, eT⟩ hx hy fun h' Z' p sz kp => hQ h' ⟨_, _, Z', .inr ⟨T, rfl, ?_, oT, kp T oT hT.1 hT.2.2.1 hT.2.2.2.1 eT⟩⟩ p sz fun b o hb e => ?_
    · simp only [List.mem_cons, List.not_mem_nil, or_false, not_or]; exact hT
    · simp only [List.mem_cons, List.not_mem_nil, or_false, not_or] at hb
      exact kp b o hb.1 hb.2.2.1 hb.2.2.2 e
theorem ZE.done {z TI TO i1 i2 l1 l2 S : Addr} {xs ys : Array Value} {k : Nat} {Q : Option Value → Shared → Prop} (hh : A.handled = none) (D : ZipApart z TI TO i1 i2 l1 l2) (Z : ZE z TI TO i1 i2 l1 l2 S xs ys k s.heap) (hx : xs[k]? = none)
    (hQ : ∀ h', (∀ b o, b ∉ [z, TO, i1, i2] → s.heap.get? b = some o → h'.get? b = some o) → Q none { s with heap := h' }) : wpAny (model G.prog G.w) A (pyNext (.ref z)) Q E s := by
  obtain ⟨f0, f1, Z, hf⟩ := Z
  refine next_end hh D Z ?_ hx fun h' kp => hQ h' fun b o hb e => ?_
  · rcases hf with hf | ⟨T, h1, _, h2⟩
    · exact .inl hf
    · exact .inr ⟨T, h1, h2⟩
  · simp only [List.mem_cons, List.not_mem_nil, or_false, not_or] at hb
    exact kp b o hb.1 hb.2.1 hb.2.2.1 hb.2.2.2 e
theorem ZE.frame {z TI TO i1 i2 l1 l2 S : Addr} {xs ys : Array Value} {k : Nat} {h h' : Heap} (Z : ZE z TI TO i1 i2 l1 l2 S xs ys k h) (hS : S ∉ [z, TI, TO, i1, i2, l1, l2]) (hk : ∀ b o, b ≠ S → h.get? b = some o → h'.get? b = some o) : ZE z TI TO i1 i2 l1 l2 S xs ys k h' := by
  obtain ⟨f0, f1, ⟨hz, hTI, ⟨a, b, hTO⟩, h1, h2, hl1, hl2⟩, hf⟩ := Z
  simp only [List.mem_cons, List.not_mem_nil, or_false, not_or] at hS
  obtain ⟨n1, n2, n3, n4, n5, n6, n7⟩ := hS
  refine ⟨f0, f1, ⟨hk _ _ (Ne.symm n1) hz, hk _ _ (Ne.symm n2) hTI, ⟨a, b, hk _ _ (Ne.symm n3) hTO⟩, h1.at fun o e => hk _ o (Ne.symm n4) e, h2.at fun o e => hk _ o (Ne.symm n5) e, hl1.at fun o e => hk _ o (Ne.symm n6) e, hl2.at fun o e => hk _ o (Ne.symm n7) e⟩, ?_⟩
  rcases hf with hf | ⟨T, e1, e2, o, e3⟩
  · exact .inl hf
  · refine .inr ⟨T, e1, e2, o, hk T o (fun q => ?_) e3⟩
    simp only [List.mem_cons, List.not_mem_nil, or_false, not_or] at e2
    exact e2.2.2.2.2 q
end
end Mine
end
section
open PySem PySem.W PyProof.Rows
set_option linter.unusedVariables false
set_option linter.unusedSimpArgs false
set_option maxRecDepth 100000
namespace Mine
section
variable {G : Glo} {A : Around} {E : Value → Shared → Prop} {s : Shared}

/-- the pairs handed out so far -/
noncomputable def Pairs (W : List Addr) (xs ys : Array Value) (as : List Addr) (h : Heap) : Prop :=
  ∀ (j : Nat) (a : Addr), as[j]? = some a → a ∉ W ∧ ∃ x y, xs[j]? = some x ∧ ys[j]? = some y ∧ IsPair h a x y

theorem zip_loop {z TI TO i1 i2 l1 l2 S : Addr} {xs ys : Array Value} {R : Result → Shared → Prop} (hh : A.handled = none) (D : ZipApart z TI TO i1 i2 l1 l2) (hS : S ∉ [z, TI, TO, i1, i2, l1, l2]) (hn : xs.size = ys.size) {acc₀ : List Value} (hm : acc₀.length + xs.size ≤ 100000) (res : Value) {h₁ : Heap}
    (hR : ∀ h' acc c as, (∀ b o, b ∉ [z, TO, i1, i2, S] → h₁.get? b = some o → h'.get? b = some o) → h'.get? S = some { cls := .type "list", dict := none, data := .seq acc c, slots := #[] } → as.length = xs.size →
      acc.toList = acc₀ ++ as.map Value.ref → Pairs [z, TO, i1, i2, S] xs ys as h' → R (.ok (.ret res)) { s with heap := h' }) :
    ∀ (k i : Nat) (h : Heap) (c : Nat) (acc : Array Value) (as : List Addr), xs.size - i = k → i ≤ xs.size → ZE z TI TO i1 i2 l1 l2 S xs ys i h → (∀ b o, b ∉ [z, TO, i1, i2, S] → h₁.get? b = some o → h.get? b = some o) →
      h.get? S = some { cls := .type "list", dict := none, data := .seq acc c, slots := #[] } → as.length = i → acc.toList = acc₀ ++ as.map Value.ref → Pairs [z, TO, i1, i2, S] xs ys as h →
      codeAny (model G.prog G.w) A (.builtin "list.extend.loop" ⟨[.ref S, .ref z, res], []⟩) R { s with heap := h } := by
  have hS4 : S ∉ [z, TO, i1, i2] := by simp only [List.mem_cons, List.not_mem_nil, or_false, not_or] at hS ⊢; exact ⟨hS.1, hS.2.2.1, hS.2.2.2.1, hS.2.2.2.2.1⟩
  have sub : ∀ b : Addr, b ∉ [z, TO, i1, i2, S] → b ∉ [z, TO, i1, i2] := fun b hb => by
    simp only [List.mem_cons, List.not_mem_nil, or_false, not_or] at hb ⊢; exact ⟨hb.1, hb.2.1, hb.2.2.1, hb.2.2.2.1⟩
  have subS : ∀ b : Addr, b ∉ [z, TO, i1, i2, S] → b ≠ S := fun b hb => by
    simp only [List.mem_cons, List.not_mem_nil, or_false, not_or] at hb; exact hb.2.2.2.2
  intro k
  induction k with
  | zero =>
    intro i h c acc as hk hi Z hkeep hSo hal hacc hP
    have hin : i = xs.size := by lia
    refine codeAny_builtin PySem.F.entry_extend_loop ?_
    rw [Around.under_plainId PySem.F.plain_extend_loop _]
    show wpAny _ A.in1 (pyNext (.ref z) >>= _) _ _ _
    refine wpAny_bind (ZE.done (s := { s with heap := h }) (A := A.in1) hh D Z (by rw [hin]; simp) fun h' he => ?_)
    refine wpAny_pure (hR h' acc c as (fun b o hb e => he b o (sub b hb) (hkeep b o hb e)) (he S _ hS4 hSo) (by lia) hacc fun j a hj => ?_)
    obtain ⟨ha, x, y, e1, e2, e3⟩ := hP j a hj
    exact ⟨ha, x, y, e1, e2, he a _ (sub a ha) e3⟩
  | succ k ih =>
    intro i h c acc as hk hi Z hkeep hSo hal hacc hP
    have hlt : i < xs.size := by lia
    have hlt' : i < ys.size := by lia
    have hsz : acc.size = acc₀.length + i := by rw [← Array.length_toList, hacc, List.length_append, List.length_map, hal]
    have big : (100000 : Nat) < sizeLine := by decide
    refine codeAny_builtin PySem.F.entry_extend_loop ?_
    rw [Around.under_plainId PySem.F.plain_extend_loop _]
    show wpAny _ A.in1 (pyNext (.ref z) >>= _) _ _ _
    refine wpAny_bind (ZE.next (s := { s with heap := h }) (A := A.in1) D (Heap.lt_size hSo) Z (Array.getElem?_eq_getElem hlt) (Array.getElem?_eq_getElem hlt') fun h' Z' p sz kp => ?_)
    dsimp only at p sz kp ⊢
    have hS' := kp S _ hS4 hSo
    have up : ∀ b o, b ≠ S → h'.get? b = some o → (h'.update S (Obj.mapSeq (·.push (Value.ref h.objs.size)))).get? b = some o := fun b o hb e => (Heap.get?_update_other _ _ (Ne.symm hb)).trans e
    have nS : h.objs.size ∉ [z, TO, i1, i2, S] := by
      obtain ⟨f0, f1, Z, _⟩ := Z
      obtain ⟨a, b, hTO⟩ := Z.to
      obtain ⟨_, e1, _⟩ := Z.it1
      obtain ⟨_, e2, _⟩ := Z.it2
      have lt : ∀ {b : Addr} {o : Obj}, h.get? b = some o → h.objs.size ≠ b := fun e => Nat.ne_of_gt (Heap.lt_size e)
      simp only [List.mem_cons, List.not_mem_nil, or_false, not_or]
      exact ⟨lt Z.z, lt hTO, lt e1, lt e2, lt hSo⟩
    show wpAny _ A.in1 (updateSeq S (·.push (Value.ref h.objs.size)) >>= _) _ _ _
    refine wpAny_bind ?_
    refine wpAny_updateSeq hS' rfl (wpAny_pure ⟨plainId_quiet PySem.F.plain_extend_loop _, ih (i + 1) _ _ (acc.push (Value.ref h.objs.size)) (as ++ [h.objs.size]) (by lia) hlt (Z'.frame hS fun b o hb e => up b o hb e)
      (fun b o hb e => up b o (subS b hb) (kp b o (sub b hb) (hkeep b o hb e))) (Heap.get?_update_self _ hS' rfl) (by rw [List.length_append, hal]; rfl) (by rw [Array.toList_push, hacc, List.map_append, List.append_assoc]; rfl) ?_⟩) (by rw [hsz]; lia) (by show (acc.push (Value.ref h.objs.size)).size ≤ sizeLine + 1; rw [Array.size_push, hsz]; lia)
    intro j b hj
    rcases Nat.lt_trichotomy j as.length with h1 | h1 | h1
    · rw [List.getElem?_append_left h1] at hj
      obtain ⟨ha, x, y, e1, e2, e3⟩ := hP j b hj
      exact ⟨ha, x, y, e1, e2, up b _ (subS b ha) (kp b _ (sub b ha) e3)⟩
    · subst h1
      have hb : h.objs.size = b := by simpa using hj
      subst hb
      exact ⟨nS, _, _, by rw [hal]; exact Array.getElem?_eq_getElem hlt, by rw [hal]; exact Array.getElem?_eq_getElem hlt', up _ _ (subS _ nS) p⟩
    · have hnone : (as ++ [h.objs.size])[j]? = none := List.getElem?_eq_none (by rw [List.length_append, List.length_singleton]; lia)
      rw [hnone] at hj; cases hj

theorem zip_extend {z TI TO i1 i2 l1 l2 S : Addr} {xs ys : Array Value} {R : Result → Shared → Prop} (hh : A.handled = none) (D : ZipApart z TI TO i1 i2 l1 l2) (hS : S ∉ [z, TI, TO, i1, i2, l1, l2]) (hn : xs.size = ys.size) {acc₀ : List Value} {c₀ : Nat} (hm : acc₀.length + xs.size ≤ 100000) (res : Value)
    (Z : ZS z TI TO i1 i2 l1 l2 xs ys 0 .none (.bool false) s.heap) (hSo : s.heap.get? S = some { cls := .type "list", dict := none, data := .seq acc₀.toArray c₀, slots := #[] })
    (hR : ∀ h' acc c as, (∀ b o, b ∉ [z, TO, i1, i2, S] → s.heap.get? b = some o → h'.get? b = some o) → h'.get? S = some { cls := .type "list", dict := none, data := .seq acc c, slots := #[] } → as.length = xs.size →
      acc.toList = acc₀ ++ as.map Value.ref → Pairs [z, TO, i1, i2, S] xs ys as h' → R (.ok (.ret res)) { s with heap := h' }) :
    wpAny (model G.prog G.w) A.in1 (Builtin.List.listExtendWith (.ref S) (.ref z) res)
      (fun fin s' => match fin with | .done f => R (.ok f) s' | .again c' => c'.quiet = true ∧ codeAny (model G.prog G.w) A c' R s') (fun e s' => R (.error e) s') s := by
  have hSz : S ≠ z := fun e => hS (by rw [e]; exact List.mem_cons_self)
  have big : (100000 : Nat) < sizeLine := by decide
  unfold Builtin.List.listExtendWith
  refine wpAny_bind (wpAny_typeOf (T := "zip") Z.typeIs ?_)
  have h1 : Builtin.List.listSameRef (.ref S) (.ref z) = false := by simp [Builtin.List.listSameRef, hSz]
  have h2 : (Value.type "zip" == Value.type "list") = false := by decide
  have h3 : (Value.type "zip" == Value.type "tuple") = false := by decide
  simp only [h1, h2, h3, Bool.or_false, Bool.false_eq_true, if_false]
  refine wpAny_bind (wpAny_pyIter_zip Z.z ?_)
  refine wpAny_bind (wpAny_holding (zip_hint Z.typeIs ?_))
  refine wpAny_ite_split (fun _ => ?_) (fun hab => by simp at hab)
  refine wpAny_bind (wpAny_rule ?_)
  refine wpAny_bind ?_
  show wpAny _ _ (updateSeq S (·.push .none) >>= fun _ => updateSeq S (·.pop)) _ _ _
  refine wpAny_bind (wpAny_updateSeq hSo rfl ?_ (by simp; lia) (by simp; lia))
  have hS₂ := Heap.get?_update_self (Obj.mapSeq (·.push Value.none)) hSo rfl
  refine wpAny_updateSeq hS₂ rfl ?_ (by simp; lia) (by simp; lia)
  have hS₃ := Heap.get?_update_self (Obj.mapSeq (·.pop)) hS₂ rfl
  have kp : ∀ b o, b ≠ S → s.heap.get? b = some o → ((s.heap.update S (Obj.mapSeq (·.push Value.none))).update S (Obj.mapSeq (·.pop))).get? b = some o := fun b o hb e => (Heap.get?_update_other _ _ (Ne.symm hb)).trans ((Heap.get?_update_other _ _ (Ne.symm hb)).trans e)
  refine wpAny_pure ⟨plainId_quiet PySem.F.plain_extend_loop _, ?_⟩
  refine zip_loop (h₁ := s.heap) (acc₀ := acc₀) hh D hS hn hm res hR xs.size 0 _ _ _ [] (Nat.sub_zero _) (Nat.zero_le _) (ZE.frame (h := s.heap) ⟨.none, false, Z, .inl ⟨rfl, rfl⟩⟩ hS kp) (fun b o hb e => kp b o (fun e => hb (by rw [e]; simp)) e) hS₃ rfl (by simp) (fun j a hj => by simp at hj)
end
end Mine
end
section
open PySem PySem.W PyProof.Rows
set_option linter.unusedVariables false
set_option linter.unusedSimpArgs false
set_option maxRecDepth 100000
namespace Mine
theorem RepL.pairs {h : Heap} {ρ : List Addr} : ∀ {as : List Addr} {xs ys : List Value} {l m : List AV}, RepL h ρ xs l → RepL h ρ ys m → as.length = xs.length → xs.length = ys.length →
    (∀ (j : Nat) (a : Addr), as[j]? = some a → ∃ x y, xs[j]? = some x ∧ ys[j]? = some y ∧ IsPair h a x y) → RepL h ρ (as.map Value.ref) ((l.zip m).map fun q => .tup [q.1, q.2]) := by
  intro as
  induction as with
  | nil =>
    intro xs ys l m r q e1 e2 hp
    cases r with
    | nil => exact .nil
    | cons => cases e1
  | cons a as ih =>
    intro xs ys l m r q e1 e2 hp
    cases r with
    | nil => cases e1
    | cons rx q1 =>
      cases q with
      | nil => cases e2
      | cons ry q2 =>
        obtain ⟨x', y', h1, h2, h3⟩ := hp 0 a rfl
        cases h1; cases h2
        exact .cons (.tup ⟨_, h3, rfl, 0, rfl⟩ (.cons rx (.cons ry .nil))) (ih q1 q2 (Nat.succ.inj e1) (Nat.succ.inj e2) fun j b hj => hp (j + 1) b hj)
section
variable {G : Glo} {env : Env} {d : Nat} {Γ : List (Str × AV)} {σ σ₁ σ₂ : List AObj}
theorem EJ.extendZip (K : GloOK G) {o e₁ e₂ : Expr} {apos pos p zpos : Pos} {pl : Sem Bool} {i : Nat} {acc l m : List AV} (hm : G.mg "zip" = none) (h1 : EJ G env d Γ σ (eval o env) (.ref i) σ) (h2 : EJ G env d Γ σ (eval e₁ env) (.tup l) σ) (h3 : EJ G env d Γ σ (eval e₂ env) (.tup m) σ)
    (hi : σ[i]? = some (AObj.list acc)) (hl : acc.length + l.length ≤ 100000) (hlm : l.length = m.length) (hx : env.kindOf "zip" = some .globalImplicit := by rfl) (he : starEach [e₁, e₂] env = (false, eval e₁ env) :: starEach [e₂] env := by rfl) (hpl : (backTo zpos (starEach [e₂] env)).any (·.1) = false := by rfl)
    (he2 : starEach [e₂] env = (false, eval e₂ env) :: starEach [] env := by rfl) (hs : starEach [.Call (.Name "zip" p) [e₁, e₂] [] zpos] env = [(false, eval (.Call (.Name "zip" p) [e₁, e₂] [] zpos) env)] := by rfl)
    (hc : eval (.Call (.Attribute o (Str.ofString "extend") apos) [.Call (.Name "zip" p) [e₁, e₂] [] zpos] [] pos) env = mcall o (Str.ofString "extend") apos pos [.Call (.Name "zip" p) [e₁, e₂] [] zpos] env pl := by rfl) :
    EJ G env d Γ σ (eval (.Call (.Attribute o (Str.ofString "extend") apos) [.Call (.Name "zip" p) [e₁, e₂] [] zpos] [] pos) env) .none (σ.set i (AObj.list (acc ++ (l.zip m).map fun q => .tup [q.1, q.2]))) := fun A s ρ Q E R S L h => by
  refine MethodCall_ (h1 A s ρ _ E R S L fun co s₁ ρ₁ S₁ x₁ r₁ => ?_) hc
  obtain ⟨a, vs, n, rfl, ea, ho, q⟩ := list_at S₁ hi r₁
  refine getMethod_list_of PySem.F.slot_list_extend PySem.F.type_list_extend (items := vs.toArray) ⟨_, ho, rfl, n, rfl⟩ ⟨_, ho, rfl⟩ ?_
  dsimp only
  rw [hs]
  refine Calls.callWith_builtin rfl (Calls.evalArgs_plain (Calls.spliced_cons ?_))
  refine callT_raw K R S₁ (L.keep S x₁) hm rfl ?_ hx (by decide) (by decide) he hpl
  refine (EsJ.cons h2 (EsJ.cons h3 EsJ.nil he2) he) A s₁ ρ₁ _ E R S₁ (L.keep S x₁) fun cvs s₂ ρ₂ S₂ x₂ r₂ => ?_
  obtain ⟨c, c', rfl, r, r'⟩ := r₂.two
  obtain ⟨b, xs, rfl, hb, rx⟩ := Rep.tup_ r
  obtain ⟨b', ys, rfl, hb', ry⟩ := Rep.tup_ r'
  have ea₂ := x₂.pre _ _ ea
  obtain ⟨_, vs', n', e', ea', ho', q'⟩ := list_at S₂ hi (.ref ea₂)
  cases e'
  have hl' := q'.length
  have lx := rx.length
  have ly := ry.length
  refine call_zipT hb hb' fun h' Z sz kp => ?_
  refine Calls.spliced_nil ?_
  have lt : ∀ {b : Addr} {o : Obj}, s₂.heap.get? b = some o → b < s₂.heap.objs.size := fun e => Heap.lt_size e
  have hbl : b < s₂.heap.objs.size := by obtain ⟨o, e, _⟩ := hb; exact lt e
  have hbl' : b' < s₂.heap.objs.size := by obtain ⟨o, e, _⟩ := hb'; exact lt e
  have hal : a < s₂.heap.objs.size := lt ho'
  have hab : a ≠ b := fun e => S₂.tup hb (e ▸ List.mem_of_getElem? ea')
  have hab' : a ≠ b' := fun e => S₂.tup hb' (e ▸ List.mem_of_getElem? ea')
  generalize hN : s₂.heap.objs.size = N at *
  have D : ZipApart (N + 4) (N + 2) (N + 3) N (N + 1) b b' := zipApart_new hbl hbl'
  refine wpAny_call (codeAny_call_builtin PySem.F.slot_list_extend.plain PySem.F.entry_list_extend (PySem.F.slot_list_extend.check _ _ _ _ _ _ _ _ ⟨_, kp _ _ ho', rfl⟩ (PySem.F.args_list_extend_2 _ _) ?_))
  show wpAny _ _ (Builtin.List.listExtendWith (.ref a) (.ref (N + 4)) .none) _ _ _
  refine zip_extend (s := { s₂ with heap := h' }) (R := wants Q E) (acc₀ := vs') R.handled D ?_ (by simp [lx, ly, hlm]) (by simp [lx, hl']; exact hl) .none Z (kp _ _ ho') fun h'' ac cc as k2 hS'' hal2 hacc hP => ?_
  · exact zip_off hal hab hab'
  · have k : ∀ b o, b ≠ a → s₂.heap.get? b = some o → h''.get? b = some o := fun c o hc e => by
      exact k2 c o (zip_off2 (lt e) hc) (kp c o e)
    have x₃ : Ext ρ₂ ρ₂ s₂.heap h'' := Ext.upd (List.mem_of_getElem? ea') k
    have tk := S₂.tupKeep x₃.keep
    have rz : RepL h'' ρ₂ (as.map Value.ref) ((l.zip m).map fun q => .tup [q.1, q.2]) := RepL.pairs (rx.mono tk (Pre.refl _)) (ry.mono tk (Pre.refl _)) (by simpa using hal2) (by rw [lx, ly, hlm]) fun j b hj => by
      obtain ⟨_, x, y, e1, e2, e3⟩ := hP j b hj
      exact ⟨x, y, by simpa using e1, by simpa using e2, e3⟩
    have S₃ := S₂.upd (s' := { s₂ with heap := h'' }) (o := AObj.list (acc ++ (l.zip m).map fun q => .tup [q.1, q.2])) ea' k ⟨vs' ++ as.map Value.ref, cc, by rw [hS'', ← hacc], (q'.mono tk (Pre.refl _)).append rz⟩ rfl rfl
    exact h _ _ ρ₂ S₃ ((x₁.trans x₂).trans x₃) .none
end
end Mine
end
section
open PySem PySem.W PyProof.Rows
set_option linter.unusedVariables false
set_option linter.unusedSimpArgs false
set_option maxRecDepth 100000
namespace Mine
theorem orStandIn_led (t : SetTable) (n : Nat) : (t.orStandIn n).led = t.led ∧ (t.plain = false → (t.orStandIn n).plain = false) := by
  unfold SetTable.orStandIn
  split
  · exact ⟨rfl, id⟩
  · exact ⟨rfl, fun _ => rfl⟩
theorem layNew_led (t : SetTable) (es : Array (Int × Value)) (h : Int) (x : Value) : (layNew t es h x).2.1.led = t.led ∧ (t.plain = false → (layNew t es h x).2.1.plain = false) := by
  unfold layNew
  split
  · rename_i slot wd _
    have := orStandIn_led (t.put slot).1 (SetTable.insertAt es (t.put slot).2 (h, x)).size
    exact this
  · exact ⟨rfl, fun _ => rfl⟩
theorem relayAll_led (t : SetTable) (es : Array (Int × Value)) (n : Nat) : (relayAll t es n).2.1.led = t.led ∧ (t.plain = false → (relayAll t es n).2.1.plain = false) := by
  unfold relayAll
  split
  · rename_i t' order ht
    dsimp only
    split
    · unfold SetTable.relaid SetTable.laid at ht
      simp only [Option.bind_eq_bind, Option.bind_eq_some_iff, Option.pure_def, Option.some.injEq, Prod.mk.injEq] at ht
      obtain ⟨_, _, rfl, _⟩ := ht
      exact ⟨rfl, id⟩
    · exact ⟨rfl, fun _ => rfl⟩
  · exact ⟨rfl, fun _ => rfl⟩
end Mine
end
section
open PySem PySem.W PyProof.Rows
set_option linter.unusedVariables false
set_option linter.unusedSimpArgs false
set_option maxRecDepth 100000
namespace Mine
noncomputable def keyS (e : Int × Value) : Str := match e.2 with | .str x _ => x | _ => ⟨#[]⟩
/-- a set of strs -/
noncomputable def SetAt (G : Glo) (bt : Bool) (h : Heap) (a : Addr) (ks : List Str) : Prop :=
  ∃ es ep t, h.get? a = some { cls := .type "set", dict := none, data := .set es ep t, slots := #[] } ∧ ElemsOf (PySem.strKind G.prog G.w) es.toList ∧ es.size < scanBound ∧ t.fits es.size = true ∧ t.led = !bt ∧ (t.plain = false ∨ es.size = 0) ∧ (es.toList.map keyS).Perm ks
theorem isStrOf_str {k : Str} {v : Value} : Value.isStrOf k v = true ↔ ∃ t, v = .str k t := ⟨Value.isStrOf_shape, fun ⟨t, e⟩ => by subst e; simp [Value.isStrOf]⟩
section
variable {G : Glo} {A : Around} {E : Value → Shared → Prop} {s : Shared} {bt : Bool}
theorem elem_key {es : List (Int × Value)} (h : ElemsOf (PySem.strKind G.prog G.w) es) {e : Int × Value} (he : e ∈ es) : ∃ t, e.2 = .str (keyS e) t := by
  obtain ⟨⟨k, hk, _⟩, _⟩ := h e he
  obtain ⟨t, e'⟩ := Value.isStrOf_shape hk
  exact ⟨t, by unfold keyS; rw [e']⟩
theorem find_none {es : List (Int × Value)} (h : ElemsOf (PySem.strKind G.prog G.w) es) {ks : List Str} (p : (es.map keyS).Perm ks) {k : Str} : es.findIdx? (fun e => (PySem.strKind G.prog G.w).is k e.2) = none ↔ k ∉ ks := by
  rw [List.findIdx?_eq_none_iff]
  constructor
  · intro hn hk
    obtain ⟨e, he, rfl⟩ := List.mem_map.mp (p.mem_iff.mpr hk)
    obtain ⟨t, ht⟩ := elem_key h he
    have := hn e he
    rw [ht] at this
    simp [PySem.strKind, Value.isStrOf] at this
  · intro hk e he
    obtain ⟨t, ht⟩ := elem_key h he
    rw [ht]
    by_cases hq : Value.isStrOf k (.str (keyS e) t) = true
    · obtain ⟨u, hu⟩ := Value.isStrOf_shape hq
      cases hu
      exact absurd (p.mem_iff.mp (List.mem_map.mpr ⟨e, he, rfl⟩)) hk
    · simpa [PySem.strKind] using hq

theorem addTailS {g : Bool → Sem Unit} (hg : ∀ (b : Bool) (s₁ : Shared) (Q' : Unit → Shared → Prop), Q' () s₁ → wpAny (model G.prog G.w) A (g b) Q' E s₁)
    {a : Addr} {es : Array (Int × Value)} {ep : Nat} {t : SetTable} (ho : s.heap.get? a = some { cls := .type "set", dict := none, data := .set es ep t, slots := #[] })
    {es1 : Array (Int × Value)} {t2 : SetTable} {ks : List Str} (hel1 : ElemsOf (PySem.strKind G.prog G.w) es1.toList) (hp1 : (es1.toList.map keyS).Perm ks)
    (hb1 : es1.size < scanBound) (hf2 : t2.fits es1.size = true) (hl2 : t2.led = !bt) (hpl2 : t2.plain = false) {wasDummy : Bool} {R : Option Bool → Shared → Prop}
    (h : ∀ h', Heap.SameBut a s.heap h' → SetAt G bt h' a ks → R (some true) { s with heap := h' }) :
    wpAny (model G.prog G.w) A (do
        storeSet a es1 t2
        if (!wasDummy && t2.tooFull) = true then do
            g (relayAll t2 es1 (SetTable.grown es1.size)).2.2
            storeSet a (relayAll t2 es1 (SetTable.grown es1.size)).1 (relayAll t2 es1 (SetTable.grown es1.size)).2.1
            pure (some true)
          else pure (some true)) R E s := by
  refine wpAny_bind (wpAny_storeSet_of ho rfl ?_ (fits_of_scanBound hb1))
  have ho1 : (s.heap.update a (Obj.putSet es1 t2)).get? a = some { cls := .type "set", dict := none, data := .set es1 (ep + 1) t2, slots := #[] } := by
    have := Heap.get?_update_self (Obj.putSet es1 t2) ho (by rw [putSet_of es1 t2 rfl]; rfl)
    rw [putSet_of es1 t2 rfl] at this; exact this
  have hsb1 := Heap.SameBut.update s.heap a (Obj.putSet es1 t2)
  split
  · have hp := relayAll_perm t2 es1 (SetTable.grown es1.size)
    have hfr := relayAll_fits t2 es1 (SetTable.grown es1.size)
    obtain ⟨hlr, hpr⟩ := relayAll_led t2 es1 (SetTable.grown es1.size)
    generalize hRl : relayAll t2 es1 (SetTable.grown es1.size) = Rl at hp hfr hlr hpr ⊢
    obtain ⟨es2, t3, gave2⟩ := Rl
    dsimp only at hp hfr hlr hpr ⊢
    have hsz : es2.size = es1.size := by rw [← Array.length_toList, hp.length_eq, Array.length_toList]
    have hb2 : es2.size < scanBound := by rw [hsz]; exact hb1
    refine wpAny_bind (hg _ _ _ ?_)
    refine wpAny_bind (wpAny_storeSet_of ho1 rfl ?_ (fits_of_scanBound hb2))
    have ho2 : ((s.heap.update a (Obj.putSet es1 t2)).update a (Obj.putSet es2 t3)).get? a = some { cls := .type "set", dict := none, data := .set es2 (ep + 1 + 1) t3, slots := #[] } := by
      have := Heap.get?_update_self (Obj.putSet es2 t3) ho1 (by rw [putSet_of es2 t3 rfl]; rfl)
      rw [putSet_of es2 t3 rfl] at this; exact this
    exact wpAny_pure (h _ (hsb1.trans (Heap.SameBut.update _ a _)) ⟨es2, _, t3, ho2, hel1.perm hp, hb2, hfr, hlr.trans hl2, .inl (hpr hpl2), (hp.map _).trans hp1⟩)
  · exact wpAny_pure (h _ hsb1 ⟨es1, _, t2, ho1, hel1, hb1, hf2, hl2, .inl hpl2, hp1⟩)

theorem setAddS {a : Addr} {ks : List Str} {k : Str} {tk : Tok} {Q : Bool → Shared → Prop} (hS : SetAt G bt s.heap a ks) (hroom : ks.length + 1 < scanBound)
    (h : ∀ h', Heap.SameBut a s.heap h' → SetAt G bt h' a (if k ∈ ks then ks else ks ++ [k]) → Q (!decide (k ∈ ks)) { s with heap := h' }) :
    wpAny (model G.prog G.w) A (setAddHashed a (.str k tk) (hashStr G.w k)) Q E s := by
  obtain ⟨es, ep, t, ho, hel, hb, hf, hled, hpl, hp⟩ := hS
  have hkey : (PySem.strKind G.prog G.w).is k (.str k tk) = true := isStrOf_str.mpr ⟨tk, rfl⟩
  have hsc : (Value.str k tk).scannable = true := rfl
  have hn : es.size = ks.length := by rw [← hp.length_eq, List.length_map, Array.length_toList]
  have hb1 : es.size + 1 < scanBound := by rw [hn]; exact hroom
  show wpAny _ A (setAddHashed a (.str k tk) ((PySem.strKind G.prog G.w).hash k)) Q E s
  unfold setAddHashed setAddHashedIn
  refine wpAny_holding (wpAny_bind (wpAny_setState_of ho rfl hf ?_))
  dsimp only
  rw [byScan_of hsc hb hel]
  simp only [↓reduceIte]
  unfold setAddByScan
  refine wpAny_bind ?_
  refine wpAny_bind (wpAny_rule ?_)
  refine wpAny_bind (wpAny_setScan_of hkey ho rfl hf hel ?_)
  cases hr : List.findIdx? (fun e => (PySem.strKind G.prog G.w).is k e.2) es.toList with
  | some j =>
    dsimp only
    have hk : k ∈ ks := by
      by_cases hk : k ∈ ks
      · exact hk
      · rw [(find_none hel hp).mpr hk] at hr; cases hr
    refine wpAny_pure (wpAny_pure ?_)
    have e : s = { s with heap := s.heap } := by cases s; rfl
    have := h s.heap (Heap.SameBut.refl a s.heap) ⟨es, ep, t, ho, hel, hb, hf, hled, hpl, by rw [if_pos hk]; exact hp⟩
    rw [decide_eq_true hk] at this; rw [e]; exact this
  | none =>
    dsimp only
    have hk : k ∉ ks := (find_none hel hp).mp hr
    have hgw : ∀ (b : Bool) {s₁ : Shared} {Q' : Unit → Shared → Prop}, Q' () s₁ → wpAny (model G.prog G.w) A (match b with | true => rule "set.scan.the-table-gave-way" | false => pure ()) Q' E s₁ :=
      fun b s₁ Q' hq => by cases b <;> first | exact wpAny_pure hq | exact wpAny_rule hq
    have hperm := layNew_perm t es ((PySem.strKind G.prog G.w).hash k) (.str k tk)
    have hfits := layNew_fits t es ((PySem.strKind G.prog G.w).hash k) (.str k tk)
    obtain ⟨hlr, hpr⟩ := layNew_led t es ((PySem.strKind G.prog G.w).hash k) (.str k tk)
    generalize hL : layNew t es ((PySem.strKind G.prog G.w).hash k) (.str k tk) = L at hperm hfits hlr hpr ⊢
    obtain ⟨es1, t1, wasDummy, gave⟩ := L
    dsimp only at hperm hfits hlr hpr ⊢
    rw [Array.toList_push] at hperm
    have hel1 : ElemsOf (PySem.strKind G.prog G.w) es1.toList := (hel.push hkey hsc).perm hperm
    have hp1 : (es1.toList.map keyS).Perm (ks ++ [k]) := (hperm.map keyS).trans (by rw [List.map_append]; exact hp.append (List.Perm.refl _))
    have hb1' : es1.size < scanBound := by rw [← Array.length_toList, hperm.length_eq, List.length_append, Array.length_toList]; simpa using hb1
    refine wpAny_bind (hgw _ ?_)
    have hend : ∀ h', Heap.SameBut a s.heap h' → SetAt G bt h' a (ks ++ [k]) → Q true { s with heap := h' } := by
      intro h' hsb hS'; have := h h' hsb (by rw [if_neg hk]; exact hS'); rw [decide_eq_false hk] at this; exact this
    split
    · refine wpAny_bind ?_
      rw [hashByValue_scannable 8 hsc]
      refine wpAny_pure ?_
      refine addTailS (bt := bt) ?_ ho hel1 hp1 hb1' ?_ ?_ ?_ ?_
      · intro b s₁ Q' hq; cases b <;> first | exact wpAny_pure hq | exact wpAny_rule hq
      · exact SetTable.fits_plain_off hfits
      · exact hlr.trans hled
      · rfl
      · intro h' hsb hS'; dsimp only; exact wpAny_pure (hend h' hsb hS')
    · rename_i hnp
      refine wpAny_bind (wpAny_pure ?_)
      simp only [↓reduceIte]
      refine addTailS (bt := bt) ?_ ho hel1 hp1 hb1' hfits (hlr.trans hled) (by simpa using hnp) ?_
      · intro b s₁ Q' hq; cases b <;> first | exact wpAny_pure hq | exact wpAny_rule hq
      · intro h' hsb hS'; dsimp only; exact wpAny_pure (hend h' hsb hS')
end
end Mine
end
section
open PySem PySem.W PyProof.Rows
set_option linter.unusedVariables false
set_option linter.unusedSimpArgs false
set_option maxRecDepth 100000
namespace Mine
/-- whether the order of a set is told by the world's text -/
noncomputable def byT (G : Glo) : Bool := G.w.params.followText "set-order"
noncomputable def addOne (ks : List Str) (k : Str) : List Str := if k ∈ ks then ks else ks ++ [k]
theorem addOne_len (ks : List Str) (k : Str) : (addOne ks k).length ≤ ks.length + 1 := by unfold addOne; split <;> simp
noncomputable abbrev setO (G : Glo) : Obj := { cls := .type "set", dict := none, data := .set #[] 0 (.fresh 0 0 (!byT G)) }
section
variable {G : Glo} {A : Around} {E : Value → Shared → Prop} {s : Shared}

theorem SetAt.fresh {h : Heap} {a : Addr} (e : h.get? a = some (setO G)) : SetAt G (byT G) h a [] :=
  ⟨#[], 0, _, e, fun x hx => by simp at hx, by decide, by rfl, rfl, .inr rfl, List.Perm.refl _⟩
theorem SetAt.at {h h' : Heap} {a : Addr} {bt : Bool} {ks : List Str} (S : SetAt G bt h a ks) (k : ∀ o, h.get? a = some o → h'.get? a = some o) : SetAt G bt h' a ks := by
  obtain ⟨es, ep, t, e, r⟩ := S
  exact ⟨es, ep, t, k _ e, r⟩

theorem set_loop {R : Result → Shared → Prop} {I : Addr} {fp wr : List Addr} {n : Nat} {St : Nat → Heap → Prop} {l : List Str} (W : Walks G.prog G.w A.in1 I fp wr n (fun i v => ∃ x t, l[i]? = some x ∧ v = .str x t) St) (hn : n = l.length) (S : Addr) (hSf : S ∉ fp) (hb : l.length + 1 < scanBound) {h₁ : Heap}
    (hR : ∀ h' tk, (∀ b o, b ∉ S :: wr → h₁.get? b = some o → h'.get? b = some o) → SetAt G (byT G) h' S (l.foldl addOne []) → R (.ok (.ret .none)) { s with heap := h', toks := tk }) :
    ∀ (k i : Nat) (h : Heap) (tk : Nat), n - i = k → i ≤ n → St i h → (∀ b o, b ∉ S :: wr → h₁.get? b = some o → h.get? b = some o) → SetAt G (byT G) h S ((l.take i).foldl addOne []) → ((l.take i).foldl addOne []).length ≤ i →
      codeAny (model G.prog G.w) A (.builtin "set.update.loop" ⟨[.ref S, .ref I], []⟩) R { s with heap := h, toks := tk } := by
  have hSw : S ∉ wr := fun h => hSf (W.sub _ h)
  intro k
  induction k with
  | zero =>
    intro i h tk hk hi hst hkp hS hl
    have hin : i = n := by lia
    subst hin
    refine codeAny_builtin PyProof.Rows.F.entry_set_update_loop ?_
    rw [Around.under_plainId PyProof.Rows.F.plain_set_update_loop _]
    show wpAny _ A.in1 (pyNext (.ref I) >>= _) _ _ _
    refine wpAny_bind (W.done { s with heap := h, toks := tk } _ _ hst fun h' tk' he => ?_)
    show wpAny _ A.in1 (ret Value.none) _ _ _
    refine wpAny_pure (hR h' tk' (fun b o hb e => he b o (fun hm => hb (List.mem_cons_of_mem _ hm)) (hkp b o hb e)) ?_)
    rw [hn, List.take_length] at hS
    exact hS.at fun o e => he S o hSw e
  | succ k ih =>
    intro i h tk hk hi hst hkp hS hl
    have hlt : i < n := by lia
    refine codeAny_builtin PyProof.Rows.F.entry_set_update_loop ?_
    rw [Around.under_plainId PyProof.Rows.F.plain_set_update_loop _]
    show wpAny _ A.in1 (pyNext (.ref I) >>= _) _ _ _
    refine wpAny_bind (W.item i { s with heap := h, toks := tk } _ _ hlt hst fun v h' tk' hP hst' he => ?_)
    obtain ⟨x, t, hx, rfl⟩ := hP
    have hS' := hS.at (h' := h') fun o e => he S o hSw e
    show wpAny _ A.in1 (holding [Value.str x t] (setAdd S (.str x t)) >>= _) _ _ _
    refine wpAny_bind (wpAny_holding ?_)
    unfold setAdd
    refine wpAny_holding ?_
    refine wpAny_bind (wpAny_pyHash_str ?_)
    refine setAddS (s := { s with heap := h', toks := tk' + 1 }) hS' (by lia) fun h'' hsb hS2 => ?_
    have e1 : (l.take (i + 1)).foldl addOne [] = addOne ((l.take i).foldl addOne []) x := by
      rw [List.take_add_one, hx, List.foldl_append]; rfl
    refine wpAny_pure ⟨plainId_quiet PyProof.Rows.F.plain_set_update_loop _, ih (i + 1) h'' (tk' + 1) (by lia) hlt (W.frame _ h' h'' hst' fun b hb o e => ?_) (fun b o hb e => ?_) (by rw [e1]; exact hS2) ?_⟩
    · rw [hsb.2 b (fun h : b = S => hSf (by rw [← h]; exact hb))]; exact e
    · rw [hsb.2 b (fun h : b = S => hb (by rw [h]; exact List.mem_cons_self))]
      exact he b o (fun hm => hb (List.mem_cons_of_mem _ hm)) (hkp b o hb e)
    · rw [e1]; have := addOne_len ((l.take i).foldl addOne []) x; lia

theorem code_set_newL (a : Value) {Q₁ : Value → Shared → Prop} (h : Q₁ (.ref s.heap.objs.size) { s with heap := s.heap.push (setO G) }) :
    codeAny (model G.prog G.w) A (.call (.builtin "set.__new__") ⟨[.type "set", a], []⟩) (wants Q₁ E) s := by
  refine codeAny_of_tree ?_
  show wpAny _ A.in1 (do checkBuiltinCall "set.__new__" ⟨[.type "set", a], []⟩; again (.builtin "set.__new__" ⟨[.type "set", a], []⟩)) _ _ s
  refine wpAny_bind (wpAny_of_eq (PySem.F.newCall_set_1 a) (wpAny_pure ⟨plainId_quiet PySem.F.plain_set_new _, codeAny_builtin PySem.F.entry_set_new ?_⟩))
  rw [Around.under_plainId PySem.F.plain_set_new _]
  unfold Builtin.«set.__new__» Builtin.Frozenset.newClass
  have hsub := sub_set_self
  obtain ⟨hp, g, d, tk, os⟩ := s
  dsimp only
  (with_reducible refine PySem.wpAny_bind ?_)
  (with_reducible refine PySem.wpAny_bind ?_)
  wp_delta
  (with_reducible refine PySem.wpAny_pure ?_)
  ((with_reducible apply PySem.wpAny_ite_false); focus (rfl; done))
  (with_reducible refine PySem.wpAny_bind ?_)
  (with_reducible refine PySem.wpAny_of_eq (by assumption) ?_)
  ((with_reducible apply PySem.wpAny_ite_false); focus (rfl; done))
  (with_reducible refine PySem.wpAny_pure ?_)
  (with_reducible refine PySem.wpAny_bind ?_)
  wp_delta
  (with_reducible refine PySem.wpAny_bind ?_)
  wp_delta
  (with_reducible refine PySem.wpAny_bind ?_)
  refine wpAny_askSetting (wpAny_pure ?_)
  dsimp only
  simp only [newObj]
  refine wpAny_bind (wpAny_alloc (wpAny_pure ?_))
  exact wpAny_pure h

set_option maxHeartbeats 3200000 in
theorem call_set_strs {l : Addr} {items : Array Value} {ns : List Str} {Q : Value → Shared → Prop}
    (hh : A.handled = none) (hl : s.heap.IsList l items) (hi : StrsAre items.toList ns) (hb : ns.length + 1 < scanBound)
    (h : ∀ (h' : Heap) (tk : Nat), SetAt G (byT G) h' s.heap.objs.size (ns.foldl addOne []) →
      (∀ b o, s.heap.get? b = some o → h'.get? b = some o) → Q (.ref s.heap.objs.size) { s with heap := h', toks := tk }) :
    wpAny (model G.prog G.w) A (call (.type "set") [.ref l]) Q E s := by
  obtain ⟨c, tl, hmro⟩ := PySem.F.called_set.mro
  have hmade := PySem.F.called_set.made
  have hsub := PySem.F.called_set.sub
  refine wpAny_call (codeAny_of_tree ?_)
  show wpAny _ _ (callAny (.type "set") _) _ _ _
  refine wpAny_pure ⟨Code.quiet_builtin _ (by decide +kernel), codeAny_builtin PySem.F.entry_type_call ?_⟩
  rw [Around.under_plain (weight_type_call_type "set" [.ref l] []) rfl]
  have h1 := PySem.F.called_set.notType
  have h2 := PySem.F.called_set.canCreate
  have hct := PySem.F.typeCall_set_1 (.ref l)
  wp_delta
  (with_reducible refine PySem.wpAny_ite_false ?hc ?_)
  case hc => first | decide +kernel | rfl | (simp only [*]; done)
  (with_reducible refine PySem.wpAny_ite_false ?hc ?_)
  case hc => first | decide +kernel | rfl | (simp only [*]; done)
  with_reducible refine PySem.wpAny_bind ?_
  with_reducible refine PySem.wpAny_of_eq (by assumption) ?_
  with_reducible refine PySem.wpAny_bind ?_
  with_reducible refine PySem.wpAny_of_eq (by assumption) ?_
  (with_reducible refine PySem.wpAny_ite_false ?hc ?_)
  case hc => first | decide +kernel | rfl | (simp only [*]; done)
  with_reducible refine PySem.wpAny_bind ?_
  with_reducible refine PySem.wpAny_of_eq (by assumption) ?_
  with_reducible refine PySem.wpAny_bind ?_
  with_reducible refine PySem.wpAny_pure ?_
  with_reducible refine PySem.wpAny_bind ?_
  with_reducible refine PySem.wpAny_holding ?_
  with_reducible refine PySem.wpAny_call ?_

  refine codeAny_mono (code_set_newL (.ref l) (E := E) (Q₁ := fun obj s₁ => obj = .ref s.heap.objs.size ∧ s₁ = { s with heap := s.heap.push (setO G) }) ⟨rfl, rfl⟩) fun r s₁ hr => ?_
  cases r with
  | error e => exact hr
  | ok fl =>
    cases fl with
    | ret obj =>
      obtain ⟨rfl, rfl⟩ := hr
      have hS : (s.heap.push (setO G)).get? s.heap.objs.size = some (setO G) := Heap.get?_push_size _ rfl
      have hT : Shared.TypeIs { s with heap := s.heap.push (setO G) } (.ref s.heap.objs.size) "set" := ⟨_, hS, rfl⟩
      have hli := PySem.F.called_set.init.lookup
      have hbi := PySem.F.called_set.init.bind (.ref s.heap.objs.size)
      with_reducible refine PySem.wpAny_bind ?_
      with_reducible refine PySem.wpAny_isInstance (by assumption) (by assumption) ?_
      (with_reducible refine PySem.wpAny_ite_false ?hc ?_)
      case hc => first | decide +kernel | rfl | (simp only [*]; done)
      with_reducible refine PySem.wpAny_bind ?_
      with_reducible refine PySem.wpAny_holding ?_
      wp_delta
      with_reducible refine PySem.wpAny_bind ?_
      with_reducible refine PySem.wpAny_specialOf (by assumption) (by assumption) ?_
      with_reducible refine PySem.wpAny_holding ?_
      with_reducible refine PySem.wpAny_bind ?_
      with_reducible refine PySem.wpAny_of_eq (by assumption) ?_
      with_reducible refine PySem.wpAny_bind ?_
      with_reducible refine PySem.wpAny_call ?_

      refine codeAny_mono (codeAny_call_builtin (R := wants (fun r s₂ => r = .none ∧ ∃ h' tk, s₂ = { s with heap := h', toks := tk } ∧ SetAt G (byT G) h' s.heap.objs.size (ns.foldl addOne []) ∧ (∀ b o, s.heap.get? b = some o → h'.get? b = some o)) E) PySem.F.called_set.init.plain PySem.F.entry_set_init (check_set_init_1 hT ?_)) fun r₂ s₂ hr₂ => ?_
      · obtain ⟨ol, hol, hcl, nl, hdl⟩ := hl
        obtain ⟨ocls, odict, odata, oslots⟩ := ol
        simp only at hcl hdl
        subst hcl; subst hdl
        have hol' : (s.heap.push (setO G)).get? l = some { cls := .type "list", dict := odict, data := .seq items nl, slots := oslots } := Heap.get?_push_of_some _ hol
        have hsls := PySem.F.sub_list_set
        have hslf := PySem.F.sub_list_frozenset
        have hne : (Value.type "list" == Value.type "dict") = false := by decide
        have hl1 : (s.heap.push (setO G)).IsList l items := ⟨_, hol', rfl, nl, rfl⟩
        unfold Builtin.«set.__init__» noKeywords Builtin.Frozenset.updateFrom
        generalize hPI : pyIter = PI
        (with_reducible refine PySem.wpAny_bind ?_)
        ((with_reducible apply PySem.wpAny_ite_true); focus (rfl; done))
        (with_reducible refine PySem.wpAny_pure ?_)
        wp_delta
        (with_reducible refine PySem.wpAny_bind ?_)
        wp_delta
        (with_reducible refine PySem.wpAny_bind ?_)
        wp_delta
        (with_reducible refine PySem.wpAny_bind ?_)
        (with_reducible refine PySem.wpAny_typeOf (by assumption) ?_)
        ((with_reducible apply PySem.wpAny_ite_false); focus (rfl; done))
        (with_reducible refine PySem.wpAny_pure ?_)
        wp_delta
        wp_delta
        (with_reducible refine PySem.wpAny_pure ?_)
        (with_reducible refine PySem.wpAny_bind ?_)
        wp_delta
        ((with_reducible apply PySem.wpAny_ite_false); focus (rfl; done))
        ((with_reducible apply PySem.wpAny_ite_false); focus (rfl; done))
        ((with_reducible apply PySem.wpAny_ite_false); focus (rfl; done))
        (with_reducible refine PySem.wpAny_pure ?_)
        (with_reducible refine PySem.wpAny_bind ?_)
        wp_delta
        (with_reducible refine PySem.wpAny_pure ?_)
        (with_reducible refine PySem.wpAny_bind ?_)
        wp_delta
        (with_reducible refine PySem.wpAny_bind ?_)
        wp_delta
        (with_reducible refine PySem.wpAny_bind ?_)
        ((with_reducible apply PySem.wpAny_load'); focus (heap_get; done))
        ((with_reducible apply PySem.wpAny_ite_false); focus (rfl; done))
        (with_reducible refine PySem.wpAny_pure ?_)
        (with_reducible refine PySem.wpAny_pure ?_)
        ((with_reducible apply PySem.wpAny_ite_false); focus (rfl; done))
        wp_delta
        (with_reducible refine PySem.wpAny_bind ?_)
        (with_reducible refine PySem.wpAny_bind ?_)
        wp_delta
        wp_delta
        (with_reducible refine PySem.wpAny_bind ?_)
        wp_delta
        (with_reducible refine PySem.wpAny_bind ?_)
        wp_delta
        (with_reducible refine PySem.wpAny_bind ?_)
        ((with_reducible apply PySem.wpAny_loadPart'); focus (heap_get; done))
        (with_reducible refine PySem.wpAny_pure ?_)
        (with_reducible refine PySem.wpAny_of_eq (by assumption) ?_)
        wp_delta
        wp_delta
        (with_reducible refine PySem.wpAny_bind ?_)
        wp_delta
        (with_reducible refine PySem.wpAny_bind ?_)
        ((with_reducible apply PySem.wpAny_loadPart'); focus (heap_get; done))
        (with_reducible refine PySem.wpAny_pure ?_)
        (with_reducible refine PySem.wpAny_of_eq (by assumption) ?_)
        ((with_reducible apply PySem.wpAny_ite_false); focus (rfl; done))
        (with_reducible refine PySem.wpAny_bind ?_)
        wp_delta
        (with_reducible refine PySem.wpAny_bind ?_)
        ((with_reducible apply PySem.wpAny_loadPart'); focus (heap_get; done))
        (with_reducible refine PySem.wpAny_pure ?_)
        ((with_reducible apply PySem.wpAny_ite_false); focus (rfl; done))
        (with_reducible refine PySem.wpAny_bind ?_)
        subst hPI
        refine wpAny_pyIter_list hl1 ?_
        refine wpAny_bind (wpAny_runValue ?_)
        have hlS : l < s.heap.objs.size := Heap.lt_size hol
        have hh3 : A.in1.in1.in1.handled = none := by simp [hh]
        have hneI : l ≠ (s.heap.push (setO G)).objs.size := by
          rw [Heap.size_push]; exact Nat.ne_of_lt (Nat.lt_succ_of_lt hlS)
        have hSf : s.heap.objs.size ∉ [(s.heap.push (setO G)).objs.size, l] := by
          rw [Heap.size_push]; simp only [List.mem_cons, List.mem_singleton, List.not_mem_nil, or_false, not_or]
          exact ⟨Nat.ne_of_lt (Nat.lt_succ_self _), Nat.ne_of_gt hlS⟩
        have hlen : items.size = ns.length := by rw [← Array.length_toList]; exact hi.length
        have W : Walks G.prog G.w A.in1.in1.in1 (s.heap.push (setO G)).objs.size [(s.heap.push (setO G)).objs.size, l] [(s.heap.push (setO G)).objs.size] items.size (fun i v => ∃ x t, ns[i]? = some x ∧ v = .str x t) (fun i h => h.IsListIter (s.heap.push (setO G)).objs.size l i ∧ h.IsList l items) := by
          have W0 := Walks.list (prog := G.prog) (w := G.w) hh3 _ l hneI items
          refine ⟨W0.sub, W0.frame, fun i s Q E hi' st hQ => W0.item i s Q E hi' st fun v h' tk hv st' hk => hQ v h' tk ?_ st' hk, W0.done, W0.self⟩
          obtain ⟨x, t, e, hx⟩ := StrsAre.item hi i v (by rw [Array.getElem?_toList]; exact hv)
          exact ⟨x, t, hx, e⟩
        refine set_loop (A := A.in1.in1) (s := { s with heap := (s.heap.push (setO G)).push { cls := .type "list_iterator", data := .fields #[.ref l, .int 0 0] } }) W hlen s.heap.objs.size hSf hb (h₁ := (s.heap.push (setO G)).push { cls := .type "list_iterator", data := .fields #[.ref l, .int 0 0] }) ?hR (items.size - 0) 0 _ _ (by lia) (Nat.zero_le _)
          ⟨⟨_, Heap.get?_push_size _ rfl, rfl, rfl⟩, (hl1.push _)⟩ (fun b o _ e => e) ?hS0 (Nat.le_refl _)
        case hS0 => exact SetAt.fresh (Heap.get?_push_of_some _ hS)
        case hR =>
          intro h' tk' hk hS'
          show wpAny _ _ _ _ _ _
          refine wpAny_pure ?_
          show wpAny _ _ (ret Value.none) _ _ _
          refine wpAny_pure ⟨rfl, h', tk', rfl, hS', fun b o e => ?_⟩
          have hb0 := Heap.lt_size e
          have hb1 : b ≠ s.heap.objs.size := Nat.ne_of_lt hb0
          have hb2 : b ≠ (s.heap.push (setO G)).objs.size := by
            rw [Heap.size_push]; exact Nat.ne_of_lt (Nat.lt_succ_of_lt hb0)
          exact hk b o (by simp only [List.mem_cons, List.mem_singleton, List.not_mem_nil, or_false, not_or]; exact ⟨hb1, hb2⟩) (Heap.get?_push_of_some _ (Heap.get?_push_of_some _ e))
      · cases r₂ with
        | error e => exact hr₂
        | ok fl₂ =>
          cases fl₂ with
          | ret r =>
            obtain ⟨rfl, h', tk, rfl, hS', hk'⟩ := hr₂
            with_reducible refine PySem.wpAny_pure ?_
            (with_reducible refine PySem.wpAny_ite_false ?hc ?_)
            case hc => first | decide +kernel | rfl | (simp only [*]; done)
            wp_delta
            wp_delta
            with_reducible refine PySem.wpAny_pure ?_
            exact h _ _ hS' hk'
          | _ => exact hr₂.elim
    | _ => exact hr.elim
end
end Mine
end
section
open PySem PySem.W PyProof.Rows
set_option linter.unusedVariables false
set_option linter.unusedSimpArgs false
set_option maxRecDepth 100000
namespace Mine
theorem sl_set_next : Slot "set_iterator" "__next__" "set_iterator.__next__" :=
  .of (owner := "set_iterator") (n := "__next__") (by rw [typeLookup_type, builtinLookup_eq_fast]; kernel_rfl) (by decide +kernel) (by decide +kernel) (by decide +kernel)
    (by first | exact .inl (by decide +kernel) | exact .inr (by decide +kernel)) (by rw [isSubtype_type]; kernel_rfl)
theorem en_set_next : entryFor table "set_iterator.__next__" = some Builtin.«set_iterator.__next__» := entryFor_of_tree (by kernel_rfl)
theorem ow_set_it : Manifest.owners.lookup (String.ofList ['r', 'o', 't', 'a', 'r', 'e', 't', 'i', '_', 't', 'e', 's'].reverse) = some Manifest.sig_set_iterator := by kernel_rfl
theorem ar_set_next (a : Value) : argsOk "set_iterator.__next__" ⟨[a], []⟩ := by
  unfold argsOk; rw [signature?_of (id := "set_iterator.__next__") (n := ['_', '_', 't', 'x', 'e', 'n', '_', '_']) (o := ['r', 'o', 't', 'a', 'r', 'e', 't', 'i', '_', 't', 'e', 's']) (by kernel_rfl) ow_set_it]; kernel_rfl
theorem en_set_iter : entryFor table "set.__iter__" = some Builtin.«frozenset.__iter__» :=
  entryFor_alias (id' := "frozenset.__iter__") (by kernel_rfl) rfl (by decide +kernel) (by kernel_rfl)

noncomputable abbrev siO (first : Value) (i : Nat) (S : Addr) (n ep : Nat) : Obj := { cls := .type "set_iterator", dict := none, data := .fields #[first, rawInt i, .ref S, rawInt n, rawInt ep], slots := #[] }
noncomputable abbrev seO (es : Array (Int × Value)) (ep : Nat) (t : SetTable) : Obj := { cls := .type "set", dict := none, data := .set es ep t, slots := #[] }

section
variable {G : Glo} {A : Around} {E : Value → Shared → Prop} {s : Shared}

theorem si_stop {I S : Addr} {vs : Array Value} {Q : Fin → Shared → Prop} (hh : A.handled = none) (hI : s.heap.get? I = some { cls := .type "set_iterator", dict := none, data := .fields vs, slots := #[] }) (hsz : 2 < vs.size)
    (hE : ∀ h' e, (∀ b o, b ≠ I → s.heap.get? b = some o → h'.get? b = some o) → (∃ o, h'.get? e = some o ∧ o.cls = .type "StopIteration") → E (.ref e) { s with heap := h' }) :
    wpAny (model G.prog G.w) A (do setField (.ref I) 2 .none; raiseNew (← newExc (.type "StopIteration") [])) Q E s := by
  refine wpAny_bind (wpAny_setField_rec hI hsz fun h₁ hI₁ s₁ => ?_)
  show wpAny _ _ (newExc (.type "StopIteration") [] >>= _) _ _ _
  refine wpAny_bind ?_
  simp only [newExc, newTuple]
  refine wpAny_bind (wpAny_newObj_type ?_ (by size_fits))
  refine wpAny_bind (m := firstArgMember _ _) (wpAny_of_eq (a := Value.none) (by first | rfl | (simp only [firstArgMember]; rfl)) ?_)
  refine wpAny_newObj_type ?_ (by size_fits)
  simp only [raiseNew]
  refine wpAny_bind (wpAny_handled ?_)
  rw [hh]
  refine wpAny_bind (wpAny_pure (wpAny_throw ?_))
  exact hE _ _ (fun b o hb e => Heap.get?_push_of_some _ (Heap.get?_push_of_some _ (s₁.extBut b o hb e))) ⟨_, Heap.get?_push_size _ rfl, rfl⟩

/-- a turn: the slot is a number -/
theorem si_item {I S : Addr} {slot slot' i n ep : Nat} {es : Array (Int × Value)} {t : SetTable} {x : Value} {Q : Option Value → Shared → Prop} (hI : s.heap.get? I = some (siO (rawInt slot) i S n ep)) (hS : s.heap.get? S = some (seO es ep t)) (hf : t.fits es.size = true) (hn : es.size = n)
    (hnext : ∀ (A : Around) (E : Value → Shared → Prop) (Q : Option (Value × Nat) → Shared → Prop), Q (some (x, slot')) s → wpAny (model G.prog G.w) A (setNext S slot i ep) Q E s)
    (hQ : ∀ h', h'.get? I = some (siO (rawInt slot') (i + 1) S n ep) → (∀ b o, b ≠ I → s.heap.get? b = some o → h'.get? b = some o) → Q (some x) { s with heap := h' }) : wpAny (model G.prog G.w) A (pyNext (.ref I)) Q E s := by
  have hT : s.TypeIs (.ref I) "set_iterator" := ⟨_, hI, rfl⟩
  unfold pyNext
  refine wpAny_bind (wpAny_attempt (wpAny_callSpecial?_slot (name := Str.ofString "__next__") hT sl_set_next
    (wpAny_call_entry sl_set_next hT en_set_next ?_ (ar_set_next _))))
  show wpAny _ _ (fieldsOf (.ref I) >>= _) _ _ s
  refine wpAny_bind (wpAny_fieldsOf hI rfl ?_)
  dsimp only [rawInt]
  show wpAny _ _ (setEntries S >>= _) _ _ s
  refine wpAny_bind (wpAny_setEntries_of hS rfl hf ?_)
  have hne : ((es.size : Int) != (n : Int)) = false := by simp [hn]
  simp only [hne, Bool.false_eq_true, if_false, Int.toNat_natCast]
  refine wpAny_bind (hnext _ _ _ ?_)
  dsimp only
  refine wpAny_bind (wpAny_setField_rec hI (by simp) fun h₁ hI₁ s₁ => ?_)
  refine wpAny_bind (wpAny_setField_rec hI₁ (by simp) fun h₂ hI₂ s₂ => wpAny_pure ⟨x, rfl, wpAny_pure (hQ h₂ ?_ fun b o hb e => s₂.extBut b o hb (s₁.extBut b o hb e))⟩)
  rw [hI₂]; simp [rawInt]
theorem si_end {I S : Addr} {slot i n ep : Nat} {es : Array (Int × Value)} {t : SetTable} {Q : Option Value → Shared → Prop} (hh : A.handled = none) (hI : s.heap.get? I = some (siO (rawInt slot) i S n ep)) (hS : s.heap.get? S = some (seO es ep t)) (hf : t.fits es.size = true) (hn : es.size = n)
    (hnext : ∀ (A : Around) (E : Value → Shared → Prop) (Q : Option (Value × Nat) → Shared → Prop), Q none s → wpAny (model G.prog G.w) A (setNext S slot i ep) Q E s)
    (hQ : ∀ h', (∀ b o, b ≠ I → s.heap.get? b = some o → h'.get? b = some o) → Q none { s with heap := h' }) : wpAny (model G.prog G.w) A (pyNext (.ref I)) Q E s := by
  have hT : s.TypeIs (.ref I) "set_iterator" := ⟨_, hI, rfl⟩
  unfold pyNext
  refine wpAny_bind (wpAny_attempt (wpAny_callSpecial?_slot (name := Str.ofString "__next__") hT sl_set_next
    (wpAny_call_entry sl_set_next hT en_set_next ?_ (ar_set_next _))))
  show wpAny _ _ (fieldsOf (.ref I) >>= _) _ _ s
  refine wpAny_bind (wpAny_fieldsOf hI rfl ?_)
  dsimp only [rawInt]
  show wpAny _ _ (setEntries S >>= _) _ _ s
  refine wpAny_bind (wpAny_setEntries_of hS rfl hf ?_)
  have hne : ((es.size : Int) != (n : Int)) = false := by simp [hn]
  simp only [hne, Bool.false_eq_true, if_false, Int.toNat_natCast]
  refine wpAny_bind (hnext _ _ _ ?_)
  dsimp only
  refine si_stop (S := S) hh hI (by simp) fun h' e hk he => ?_
  obtain ⟨o, ho, hc⟩ := he
  refine wpAny_bind (wpAny_isInstance (T := "StopIteration") (b := true) ⟨o, ho, hc⟩ isSubtype_stop ?_)
  exact wpAny_pure (hQ h' hk)

/-- a turn: the places were drawn -/
theorem sd_item {I S P : Addr} {i n ep p : Nat} {es : Array (Int × Value)} {t : SetTable} {os : List Nat} {x : Value} {Q : Option Value → Shared → Prop} (hI : s.heap.get? I = some (siO (.ref P) i S n ep)) (hS : s.heap.get? S = some (seO es ep t)) (hf : t.fits es.size = true) (hn : es.size = n)
    (hP : s.heap.IsTuple P (os.map fun (j : Nat) => rawInt j).toArray) (hp : os[i]? = some p) (hx : (es[p]?).map (·.2) = some x)
    (hQ : ∀ h', h'.get? I = some (siO (.ref P) (i + 1) S n ep) → (∀ b o, b ≠ I → s.heap.get? b = some o → h'.get? b = some o) → Q (some x) { s with heap := h' }) : wpAny (model G.prog G.w) A (pyNext (.ref I)) Q E s := by
  have hT : s.TypeIs (.ref I) "set_iterator" := ⟨_, hI, rfl⟩
  obtain ⟨oP, hoP, _, nP, hdP⟩ := hP
  unfold pyNext
  refine wpAny_bind (wpAny_attempt (wpAny_callSpecial?_slot (name := Str.ofString "__next__") hT sl_set_next
    (wpAny_call_entry sl_set_next hT en_set_next ?_ (ar_set_next _))))
  show wpAny _ _ (fieldsOf (.ref I) >>= _) _ _ s
  refine wpAny_bind (wpAny_fieldsOf hI rfl ?_)
  dsimp only [rawInt]
  show wpAny _ _ (setEntries S >>= _) _ _ s
  refine wpAny_bind (wpAny_setEntries_of hS rfl hf ?_)
  have hne : ((es.size : Int) != (n : Int)) = false := by simp [hn]
  simp only [hne, Bool.false_eq_true, if_false, Int.toNat_natCast]
  show wpAny _ _ (seqItems? (.ref P) >>= _) _ _ _
  refine wpAny_bind (wpAny_seqItems hoP hdP ?_)
  have hpl : ((os.map fun (j : Nat) => rawInt j).toArray)[i]? = some (.int (p : Int) 0) := by simp [hp, rawInt]
  simp only [hpl]
  refine wpAny_bind ?_
  unfold setNextDrawn
  refine wpAny_bind (wpAny_setState_of hS rfl hf ?_)
  have hep : (ep != ep) = false := by simp
  simp only [hep, Bool.false_eq_true, if_false, Int.toNat_natCast]
  cases hq : es[p]? with
  | none => rw [hq] at hx; cases hx
  | some q =>
    rw [hq] at hx
    obtain ⟨hv, y⟩ := q
    cases hx
    dsimp only
    refine wpAny_pure ?_
    refine wpAny_bind (wpAny_setField_rec hI (by simp) fun h₁ hI₁ s₁ => wpAny_pure ⟨_, rfl, wpAny_pure (hQ h₁ ?_ fun b o hb e => s₁.extBut b o hb e)⟩)
    rw [hI₁]; simp [rawInt]
theorem sd_end {I S P : Addr} {i n ep : Nat} {es : Array (Int × Value)} {t : SetTable} {os : List Nat} {Q : Option Value → Shared → Prop} (hh : A.handled = none) (hI : s.heap.get? I = some (siO (.ref P) i S n ep)) (hS : s.heap.get? S = some (seO es ep t)) (hf : t.fits es.size = true) (hn : es.size = n)
    (hP : s.heap.IsTuple P (os.map fun (j : Nat) => rawInt j).toArray) (hp : os[i]? = none)
    (hQ : ∀ h', (∀ b o, b ≠ I → s.heap.get? b = some o → h'.get? b = some o) → Q none { s with heap := h' }) : wpAny (model G.prog G.w) A (pyNext (.ref I)) Q E s := by
  have hT : s.TypeIs (.ref I) "set_iterator" := ⟨_, hI, rfl⟩
  obtain ⟨oP, hoP, _, nP, hdP⟩ := hP
  unfold pyNext
  refine wpAny_bind (wpAny_attempt (wpAny_callSpecial?_slot (name := Str.ofString "__next__") hT sl_set_next
    (wpAny_call_entry sl_set_next hT en_set_next ?_ (ar_set_next _))))
  show wpAny _ _ (fieldsOf (.ref I) >>= _) _ _ s
  refine wpAny_bind (wpAny_fieldsOf hI rfl ?_)
  dsimp only [rawInt]
  show wpAny _ _ (setEntries S >>= _) _ _ s
  refine wpAny_bind (wpAny_setEntries_of hS rfl hf ?_)
  have hne : ((es.size : Int) != (n : Int)) = false := by simp [hn]
  simp only [hne, Bool.false_eq_true, if_false, Int.toNat_natCast]
  show wpAny _ _ (seqItems? (.ref P) >>= _) _ _ _
  refine wpAny_bind (wpAny_seqItems hoP hdP ?_)
  have hpl : ((os.map fun (j : Nat) => rawInt j).toArray)[i]? = none := by simp [hp]
  simp only [hpl]
  refine wpAny_bind (wpAny_setField_rec hI (by simp) fun h₁ hI₁ s₁ => ?_)
  refine si_stop (S := S) (s := { s with heap := h₁ }) hh hI₁ (by simp) fun h' e hk he => ?_
  obtain ⟨o, ho, hc⟩ := he
  refine wpAny_bind (wpAny_isInstance (T := "StopIteration") (b := true) ⟨o, ho, hc⟩ isSubtype_stop ?_)
  exact wpAny_pure (hQ h' fun b o hb e => hk b o hb (s₁.extBut b o hb e))
end
end Mine
end
section
open PySem PySem.W PyProof.Rows
set_option linter.unusedVariables false
set_option linter.unusedSimpArgs false
set_option maxRecDepth 100000
namespace Mine
theorem sl_si_iter : Slot "set_iterator" "__iter__" "set_iterator.__iter__" :=
  .of (owner := "set_iterator") (n := "__iter__") (by rw [typeLookup_type, builtinLookup_eq_fast]; kernel_rfl) (by decide +kernel) (by decide +kernel) (by decide +kernel)
    (by first | exact .inl (by decide +kernel) | exact .inr (by decide +kernel)) (by rw [isSubtype_type]; kernel_rfl)
theorem en_si_iter : entryFor table "set_iterator.__iter__" = some Builtin.«dict_keyiterator.__iter__» :=
  entryFor_alias (id' := "dict_keyiterator.__iter__") (by kernel_rfl) rfl (by decide +kernel) (by kernel_rfl)
theorem ar_si_iter (a : Value) : argsOk "set_iterator.__iter__" ⟨[a], []⟩ := by
  unfold argsOk; rw [signature?_of (id := "set_iterator.__iter__") (n := ['_', '_', 'r', 'e', 't', 'i', '_', '_']) (o := ['r', 'o', 't', 'a', 'r', 'e', 't', 'i', '_', 't', 'e', 's']) (by kernel_rfl) ow_set_it]; kernel_rfl

theorem erase_perm {α : Type} : ∀ {l : List α} {i : Nat} (h : i < l.length), (l[i] :: l.eraseIdx i).Perm l
  | [], i, h => by simp at h
  | x :: l, 0, h => by simp
  | x :: l, i + 1, h => by
    simp only [List.getElem_cons_succ, List.eraseIdx_cons_succ]
    exact (List.Perm.swap _ _ _).trans ((erase_perm (l := l) (i := i) (by simpa using h)).cons x)
theorem pick_perm {α : Type} (next : Nat → Nat) : ∀ (fuel k : Nat) (left : List α) (out : Array α), left.length = fuel → (pickOrder.go next fuel k left out).toList.Perm (out.toList ++ left)
  | 0, k, left, out, h => by
    have : left = [] := List.length_eq_zero_iff.mp h
    subst this
    rw [pickOrder.go, List.append_nil]
  | fuel + 1, k, left, out, h => by
    have hlt : next k % left.length < left.length := Nat.mod_lt _ (by lia)
    have hx : left[next k % left.length]? = some left[next k % left.length] := List.getElem?_eq_getElem hlt
    rw [pickOrder.go, hx]
    dsimp only
    refine (pick_perm next fuel (k + 1) _ _ (by rw [List.length_eraseIdx_of_lt hlt]; lia)).trans ?_
    rw [Array.toList_push, List.append_assoc]
    refine List.Perm.append_left _ ?_
    show (left[next k % left.length] :: left.eraseIdx (next k % left.length)).Perm left
    exact erase_perm hlt
theorem pickOrder_perm {α : Type} (next : Nat → Nat) (xs : Array α) : (pickOrder next xs).toList.Perm xs.toList := by
  have := pick_perm next xs.size 0 xs.toList #[] (by simp)
  simpa [pickOrder] using this

theorem strsAre_perm {vs ws : List Value} (p : ws.Perm vs) : ∀ {ks : List Str}, StrsAre vs ks → ∃ ks', StrsAre ws ks' ∧ ks'.Perm ks := by
  induction p with
  | nil => intro ks h; exact ⟨ks, h, List.Perm.refl _⟩
  | cons x p ih =>
    intro ks h
    cases h with
    | cons y t h =>
      obtain ⟨ks', h', p'⟩ := ih h
      exact ⟨_, .cons y t h', p'.cons _⟩
  | swap x y l =>
    intro ks h
    cases h with
    | cons a t h =>
      cases h with
      | cons b u h => exact ⟨_, .cons b u (.cons a t h), List.Perm.swap _ _ _⟩
  | trans p q ih1 ih2 =>
    intro ks h
    obtain ⟨k1, h1, p1⟩ := ih2 h
    obtain ⟨k2, h2, p2⟩ := ih1 h1
    exact ⟨k2, h2, p2.trans p1⟩

section
variable {G : Glo} {A : Around} {E : Value → Shared → Prop} {s : Shared}

theorem wpAny_choose {src : Source} {n : Nat} {Q : Nat → Shared → Prop} (hn : n ≠ 0) (h : ∀ i d, i < n → Q i { s with drawn := d }) : wpAny (model G.prog G.w) A (choose src n) Q E s := fun Γ p hΓ => by
  show Sem.wp _ _ (.choose src n .pure) _ _ _ _
  rw [Sem.wp_choose]
  exact ⟨hn, h _ _ (Nat.mod_lt _ (Nat.pos_of_ne_zero hn))⟩
theorem wpAny_drawOrder {α : Type} : ∀ (n : Nat) (l : List α) (s : Shared) (Q : List α → Shared → Prop), l.length = n → (∀ l' d, l'.Perm l → Q l' { s with drawn := d }) → wpAny (model G.prog G.w) A (drawOrder n l) Q E s
  | 0, l, s, Q, h, hQ => by
    have : l = [] := List.length_eq_zero_iff.mp h
    subst this
    have e : s = { s with drawn := s.drawn } := by cases s; rfl
    rw [drawOrder]
    refine wpAny_pure ?_
    rw [e]; exact hQ [] _ (List.Perm.refl _)
  | n + 1, [], s, Q, h, hQ => by simp at h
  | n + 1, x :: l, s, Q, h, hQ => by
    rw [drawOrder]
    · refine wpAny_bind (wpAny_choose (by simp) fun i d hi => ?_)
      have hx : (x :: l)[i]? = some (x :: l)[i] := List.getElem?_eq_getElem hi
      rw [hx]
      dsimp only
      refine wpAny_bind (wpAny_drawOrder n _ _ _ (by rw [List.length_eraseIdx_of_lt hi]; lia) fun l' d' p => wpAny_pure ?_)
      exact hQ _ _ ((p.cons _).trans (erase_perm hi))
    · intro h; cases h

theorem si_self {I : Addr} {vs : Array Value} {Q : Value → Shared → Prop} (hI : s.heap.get? I = some { cls := .type "set_iterator", dict := none, data := .fields vs, slots := #[] }) (h : Q (.ref I) s) : wpAny (model G.prog G.w) A (pyIter (.ref I)) Q E s := by
  have hT : s.TypeIs (.ref I) "set_iterator" := ⟨_, hI, rfl⟩
  refine wpAny_pyIter_slot hT sl_si_iter (wpAny_call_entry sl_si_iter hT en_si_iter ?_ (ar_si_iter _))
  exact wpAny_pure ⟨_, rfl, "set_iterator", _, hT, sl_set_next.lookup, h⟩

theorem byT_set {Q : Bool → Shared → Prop} (h : Q (byT G) s) : wpAny (model G.prog G.w) A setsByText Q E s := by
  unfold setsByText
  exact wpAny_bind (wpAny_askSetting (wpAny_pure h))

/-- the walk of a set whose order the text tells -/
theorem walkT {I S : Addr} {ep : Nat} {es : Array (Int × Value)} {t : SetTable} (hh : A.handled = none) (hne : S ≠ I) (hf : t.fits es.size = true) (hb : byT G = true) :
    Walks G.prog G.w A I [I, S] [I] es.size (fun i v => ((pickOrder (G.w.params.setOrder S ep) es).toList.map (·.2))[i]? = some v) (fun i h => h.get? I = some (siO (rawInt 0) i S es.size ep) ∧ h.get? S = some (seO es ep t)) where
  sub := fun b hb => by simp at hb; simp [hb]
  frame := fun _ _ _ st hk => ⟨hk I (by simp) _ st.1, hk S (by simp) _ st.2⟩
  item := fun i s Q E hi st hQ => by
    have hp := pickOrder_perm (G.w.params.setOrder S ep) es
    have hlen : (pickOrder (G.w.params.setOrder S ep) es).size = es.size := by rw [← Array.length_toList, hp.length_eq, Array.length_toList]
    have hx : (pickOrder (G.w.params.setOrder S ep) es)[i]? = some (pickOrder (G.w.params.setOrder S ep) es)[i] := Array.getElem?_eq_getElem (by lia)
    refine si_item (slot := 0) (slot' := 0) (x := ((pickOrder (G.w.params.setOrder S ep) es)[i]'(by lia)).2) st.1 st.2 hf rfl (fun A E Q h => ?_) fun h' hI' hk => ?_
    · unfold setNext
      refine wpAny_bind (wpAny_setState_of st.2 rfl hf ?_)
      dsimp only
      refine wpAny_bind (byT_set ?_)
      rw [hb]
      first | refine PySem.wpAny_ite_true rfl ?_ | simp only [if_true]
      have hep : (ep != ep) = false := by simp
      simp only [hep, Bool.false_eq_true, if_false]
      refine wpAny_bind ?_
      unfold setWalk
      refine wpAny_bind (wpAny_setState_of st.2 rfl hf ?_)
      dsimp only
      refine wpAny_bind (byT_set ?_)
      rw [hb]
      first | refine PySem.wpAny_ite_true rfl ?_ | simp only [if_true]
      refine wpAny_bind (wpAny_askSetting (wpAny_pure ?_))
      refine wpAny_pure ?_
      dsimp only
      show Q (((pickOrder (G.w.params.setOrder S ep) es)[i]?).map fun e => (e.2, 0)) s
      rw [hx]; exact h
    · refine hQ _ h' s.toks ?_ ⟨hI', hk S _ hne st.2⟩ fun b o hb e => hk b o (fun h => hb (by simp [h])) e
      rw [List.getElem?_map, Array.getElem?_toList, hx]; rfl
  done := fun s Q E st hQ => by
    have hp := pickOrder_perm (G.w.params.setOrder S ep) es
    have hlen : (pickOrder (G.w.params.setOrder S ep) es).size = es.size := by rw [← Array.length_toList, hp.length_eq, Array.length_toList]
    have hx : (pickOrder (G.w.params.setOrder S ep) es)[es.size]? = none := Array.getElem?_eq_none (by lia)
    refine si_end (slot := 0) hh st.1 st.2 hf rfl (fun A E Q h => ?_) fun h' hk => hQ h' s.toks fun b o hb e => hk b o (fun h => hb (by simp [h])) e
    · unfold setNext
      refine wpAny_bind (wpAny_setState_of st.2 rfl hf ?_)
      dsimp only
      refine wpAny_bind (byT_set ?_)
      rw [hb]
      first | refine PySem.wpAny_ite_true rfl ?_ | simp only [if_true]
      have hep : (ep != ep) = false := by simp
      simp only [hep, Bool.false_eq_true, if_false]
      refine wpAny_bind ?_
      unfold setWalk
      refine wpAny_bind (wpAny_setState_of st.2 rfl hf ?_)
      dsimp only
      refine wpAny_bind (byT_set ?_)
      rw [hb]
      first | refine PySem.wpAny_ite_true rfl ?_ | simp only [if_true]
      refine wpAny_bind (wpAny_askSetting (wpAny_pure ?_))
      refine wpAny_pure ?_
      dsimp only
      show Q (((pickOrder (G.w.params.setOrder S ep) es)[es.size]?).map fun e => (e.2, 0)) s
      rw [hx]; exact h
  self := fun _ _ _ _ st hQ => si_self st.1 hQ

/-- the walk of a set whose places were drawn -/
theorem walkD {I S P : Addr} {ep : Nat} {es : Array (Int × Value)} {t : SetTable} {os : List Nat} {ord : List Value} (hh : A.handled = none) (hne : S ≠ I) (hnP : P ≠ I) (hf : t.fits es.size = true) (hos : os.length = es.size) (hord : ∀ (i p : Nat), os[i]? = some p → ∃ x : Value, (es[p]?).map (fun e => e.2) = some x ∧ ord[i]? = some x) :
    Walks G.prog G.w A I [I, S, P] [I] es.size (fun i v => ord[i]? = some v) (fun i h => h.get? I = some (siO (.ref P) i S es.size ep) ∧ h.get? S = some (seO es ep t) ∧ h.IsTuple P (os.map fun (j : Nat) => rawInt j).toArray) where
  sub := fun b hb => by simp at hb; simp [hb]
  frame := fun _ _ _ st hk => ⟨hk I (by simp) _ st.1, hk S (by simp) _ st.2.1, st.2.2.at fun o e => hk P (by simp) o e⟩
  item := fun i s Q E hi st hQ => by
    have hp : os[i]? = some os[i] := List.getElem?_eq_getElem (by lia)
    obtain ⟨x, hx, ho⟩ := hord i _ hp
    exact sd_item st.1 st.2.1 hf rfl st.2.2 hp hx fun h' hI' hk => hQ _ h' s.toks ho ⟨hI', hk S _ hne st.2.1, st.2.2.at fun o e => hk P o hnP e⟩ fun b o hb e => hk b o (fun h => hb (by simp [h])) e
  done := fun s Q E st hQ => sd_end hh st.1 st.2.1 hf rfl st.2.2 (List.getElem?_eq_none (by lia)) fun h' hk => hQ h' s.toks fun b o hb e => hk b o (fun h => hb (by simp [h])) e
  self := fun _ _ _ _ st hQ => si_self st.1 hQ

theorem drawn_one (es : Array (Int × Value)) (t : SetTable) (h : es.size ≤ 1) : (!t.plain && decide (es.size > 1)) = false := by
  have : decide (es.size > 1) = false := by simp; lia
  rw [this, Bool.and_false]
theorem below_zero (p : Nat) : SetTable.below #[p] 0 = 0 := by
  simp [SetTable.below, SetTable.below.go]
theorem below_one (p : Nat) : SetTable.below #[p] (p + 1) = 1 := by
  simp [SetTable.below, SetTable.below.go]

/-- the walk of a set of one at most -/
theorem walkO {I S : Addr} {ep : Nat} {es : Array (Int × Value)} {t : SetTable} (hh : A.handled = none) (hne : S ≠ I) (hf : t.fits es.size = true) (hb : byT G = false) (hl : t.led = true) (h1 : es.size ≤ 1) :
    Walks G.prog G.w A I [I, S] [I] es.size (fun i v => (es.toList.map (·.2))[i]? = some v) (fun i h => h.get? I = some (siO (rawInt ((if i = 0 then 0 else t.place.getD 0 0 + 1 : Nat) : Int)) i S es.size ep) ∧ h.get? S = some (seO es ep t)) where
  sub := fun b hb => by simp at hb; simp [hb]
  frame := fun _ _ _ st hk => ⟨hk I (by simp) _ st.1, hk S (by simp) _ st.2⟩
  item := fun i s Q E hi st hQ => by
    have i0 : i = 0 := by lia
    subst i0
    have hsz : t.place.size = 1 := by
      simp only [SetTable.fits, Bool.and_eq_true, beq_iff_eq] at hf
      lia
    obtain ⟨⟨pl⟩, hpl⟩ : ∃ a : Array Nat, t.place = a := ⟨_, rfl⟩
    rw [hpl] at hsz
    match pl, hsz with
    | [p], _ =>
    have hx : es[0]? = some es[0] := Array.getElem?_eq_getElem hi
    have hp0 : t.place.getD 0 0 = p := by rw [hpl]; rfl
    have hI0 := st.1
    simp only [if_true] at hI0
    refine si_item (slot := 0) (slot' := p + 1) (x := (es[0]).2) hI0 st.2 hf rfl (fun A E Q h => ?_) fun h' hI' hk => ?_
    · unfold setNext
      refine wpAny_bind (wpAny_setState_of st.2 rfl hf ?_)
      dsimp only
      refine wpAny_bind (byT_set ?_)
      rw [hb]
      first | refine PySem.wpAny_ite_false rfl ?_ | simp only [Bool.false_eq_true, if_false]
      show wpAny _ _ (if (!t.plain && decide (es.size > 1)) = true then _ else _) _ _ _
      rw [drawn_one es t h1]
      first | refine PySem.wpAny_ite_false rfl ?_ | simp only [Bool.false_eq_true, if_false]
      refine wpAny_bind ?_
      show wpAny _ _ (if (!t.led && !es.isEmpty) = true then unsupported "set:maker-not-led" else pure ()) _ _ _
      rw [hl]
      first | refine PySem.wpAny_ite_false rfl ?_ | simp only [Bool.not_true, Bool.false_and, Bool.false_eq_true, if_false]
      refine wpAny_pure ?_
      refine wpAny_pure ?_
      rw [hpl, below_zero, hx]
      exact h
    · refine hQ _ h' s.toks ?_ ⟨?_, hk S _ hne st.2⟩ fun b o hb e => hk b o (fun h => hb (by simp [h])) e
      · rw [List.getElem?_map, Array.getElem?_toList, hx]; rfl
      · rw [hI']; simp [hp0]
  done := fun s Q E st hQ => by
    have hsz : t.place.size = es.size := by
      simp only [SetTable.fits, Bool.and_eq_true, beq_iff_eq] at hf
      lia
    obtain ⟨⟨pl⟩, hpl⟩ : ∃ a : Array Nat, t.place = a := ⟨_, rfl⟩
    refine si_end hh st.1 st.2 hf rfl (fun A E Q h => ?_) fun h' hk => hQ h' s.toks fun b o hb e => hk b o (fun h => hb (by simp [h])) e
    · unfold setNext
      refine wpAny_bind (wpAny_setState_of st.2 rfl hf ?_)
      dsimp only
      refine wpAny_bind (byT_set ?_)
      rw [hb]
      first | refine PySem.wpAny_ite_false rfl ?_ | simp only [Bool.false_eq_true, if_false]
      show wpAny _ _ (if (!t.plain && decide (es.size > 1)) = true then _ else _) _ _ _
      rw [drawn_one es t h1]
      first | refine PySem.wpAny_ite_false rfl ?_ | simp only [Bool.false_eq_true, if_false]
      refine wpAny_bind ?_
      show wpAny _ _ (if (!t.led && !es.isEmpty) = true then unsupported "set:maker-not-led" else pure ()) _ _ _
      rw [hl]
      first | refine PySem.wpAny_ite_false rfl ?_ | simp only [Bool.not_true, Bool.false_and, Bool.false_eq_true, if_false]
      refine wpAny_pure ?_
      refine wpAny_pure ?_
      have key : es[SetTable.below t.place (if es.size = 0 then 0 else t.place.getD 0 0 + 1)]? = none := by
        rw [hpl] at hsz ⊢
        match pl, hsz with
        | [], hsz =>
          have : es.size = 0 := by simpa using hsz.symm
          exact Array.getElem?_eq_none (by lia)
        | [p], hsz =>
          have : es.size = 1 := by simpa using hsz.symm
          rw [if_neg (by lia)]
          have : (#[p] : Array Nat).getD 0 0 = p := rfl
          show es[SetTable.below #[p] ((#[p] : Array Nat).getD 0 0 + 1)]? = none
          rw [this, below_one]
          exact Array.getElem?_eq_none (by lia)
        | _ :: _ :: _, hsz => simp at hsz; lia
      rw [key]
      exact h
  self := fun _ _ _ _ st hQ => si_self st.1 hQ
end
end Mine
end
section
open PySem PySem.W PyProof.Rows
set_option linter.unusedVariables false
set_option linter.unusedSimpArgs false
set_option maxRecDepth 100000
namespace Mine
theorem len_set : typeLookup (.type "set") "__len__" = pure (some (.builtin "set.__len__")) := by rw [typeLookup_type, builtinLookup_eq_fast]; kernel_rfl
section
variable {G : Glo} {A : Around} {E : Value → Shared → Prop} {s : Shared}

theorem elems_strs {es : List (Int × Value)} (h : ElemsOf (PySem.strKind G.prog G.w) es) : StrsAre (es.map (·.2)) (es.map keyS) := by
  induction es with
  | nil => exact .nil
  | cons e es ih =>
    obtain ⟨t, ht⟩ := elem_key h (.head _)
    rw [List.map_cons, List.map_cons, ht]
    exact .cons _ t (ih h.tail)

theorem range_map_perm {α : Type} (es : List α) : ∀ {os : List Nat}, os.Perm (List.range es.length) → (os.filterMap fun i => es[i]?).Perm es := fun p => by
  have := p.filterMap (fun i => es[i]?)
  rwa [List.filterMap_getElem?_range_length] at this

theorem fm_get {α : Type} {es : List α} : ∀ {os : List Nat}, (∀ p ∈ os, p < es.length) → ∀ (i p : Nat), os[i]? = some p → (os.filterMap fun i => es[i]?)[i]? = es[p]?
  | [], _, i, p, h => by simp at h
  | q :: os, hb, 0, p, h => by
    simp only [List.getElem?_cons_zero, Option.some.injEq] at h
    subst h
    have hq := hb q (.head _)
    have : es[q]? = some es[q] := List.getElem?_eq_getElem hq
    rw [List.filterMap_cons, this]
    rfl
  | q :: os, hb, i + 1, p, h => by
    have hq := hb q (.head _)
    have e : es[q]? = some es[q] := List.getElem?_eq_getElem hq
    rw [List.filterMap_cons, e]
    simp only [List.getElem?_cons_succ] at h ⊢
    exact fm_get (fun p hp => hb p (.tail _ hp)) i p h

theorem iter_set {S : Addr} {ks : List Str} {Q : Value → Shared → Prop} (hS : SetAt G (byT G) s.heap S ks)
    (hQ : ∀ (I : Addr) (fp : List Addr) (ord : List Value) (ks' : List Str) (St : Nat → Heap → Prop) (h' : Heap) (d : Drawn), StrsAre ord ks' → ks'.Perm ks → (∀ A : Around, A.handled = none → Walks G.prog G.w A I fp [I] ord.length (fun i v => ord[i]? = some v) St) → St 0 h' →
      (∀ b o, s.heap.get? b = some o → h'.get? b = some o) → (∀ b ∈ fp, b < h'.objs.size ∧ (b = S ∨ s.heap.objs.size ≤ b)) → s.heap.objs.size ≤ I → Q (.ref I) { s with heap := h', drawn := d }) :
    wpAny (model G.prog G.w) A (pyIter (.ref S)) Q E s := by
  obtain ⟨es, ep, t, ho, hel, hsb, hf, hled, hpl, hp⟩ := hS
  have hT : s.TypeIs (.ref S) "set" := ⟨_, ho, rfl⟩
  have hSl := Heap.lt_size ho
  have hstr := elems_strs hel
  refine wpAny_pyIter_slot hT PySem.F.slot_set_iter (wpAny_call_entry PySem.F.slot_set_iter hT en_set_iter ?_ (PySem.F.args_set_iter_1 _))
  unfold Builtin.«frozenset.__iter__»
  refine wpAny_bind (m := Builtin.Frozenset.slot0 "__iter__" ⟨[.ref S], []⟩) (wpAny_pure ?_)
  refine wpAny_bind ?_
  unfold Builtin.Frozenset.sizeOf
  refine wpAny_bind (wpAny_setEntries_of ho rfl hf (wpAny_pure ?_))
  refine wpAny_bind ?_
  unfold setDrawn
  refine wpAny_bind (wpAny_setState_of ho rfl hf ?_)
  dsimp only
  refine wpAny_bind (byT_set ?_)
  show wpAny _ _ (pure (!byT G && (!t.plain && decide (es.size > 1)))) _ _ _
  refine wpAny_pure ?_
  cases hb : byT G with
  | true =>
    first | refine PySem.wpAny_ite_false rfl ?_ | simp only [Bool.not_true, Bool.false_and, Bool.false_eq_true, if_false]
    refine wpAny_bind (wpAny_pure ?_)
    refine wpAny_bind (wpAny_setEpoch_of ho rfl hf ?_)
    refine wpAny_bind (wpAny_newObj_type (wpAny_pure ⟨_, rfl, "set_iterator", _, ⟨_, Heap.get?_push_size _ rfl, rfl⟩, sl_set_next.lookup, ?_⟩))
    have hpk := pickOrder_perm (G.w.params.setOrder S ep) es
    obtain ⟨ks', h1, h2⟩ := strsAre_perm (hpk.map (·.2)) hstr
    have hlen : ((pickOrder (G.w.params.setOrder S ep) es).toList.map (·.2)).length = es.size := by rw [List.length_map, hpk.length_eq, Array.length_toList]
    have := hQ s.heap.objs.size [s.heap.objs.size, S] _ ks' (fun i h => h.get? s.heap.objs.size = some (siO (rawInt 0) i S es.size ep) ∧ h.get? S = some (seO es ep t)) (s.heap.push (siO (rawInt 0) 0 S es.size ep)) s.drawn h1 (h2.trans hp) (fun A hh => by rw [hlen]; exact walkT hh (Nat.ne_of_lt hSl) hf hb) ⟨Heap.get?_push_size _ rfl, Heap.get?_push_of_some _ ho⟩ (fun b o e => Heap.get?_push_of_some _ e) (fun b hb => ?_) (Nat.le_refl _)
    · exact this
    · rw [Heap.size_push]
      rcases List.mem_cons.mp hb with rfl | hb
      · exact ⟨Nat.lt_succ_self _, .inr (Nat.le_refl _)⟩
      · rw [List.mem_singleton.mp hb]; exact ⟨Nat.lt_succ_of_lt hSl, .inl rfl⟩
  | false =>
    rw [hb] at hled
    by_cases h1 : es.size ≤ 1
    · rw [drawn_one es t h1]
      first | refine PySem.wpAny_ite_false rfl ?_ | simp only [Bool.and_false, Bool.false_eq_true, if_false]
      refine wpAny_bind (wpAny_pure ?_)
      refine wpAny_bind (wpAny_setEpoch_of ho rfl hf ?_)
      refine wpAny_bind (wpAny_newObj_type (wpAny_pure ⟨_, rfl, "set_iterator", _, ⟨_, Heap.get?_push_size _ rfl, rfl⟩, sl_set_next.lookup, ?_⟩))
      have hlen : (es.toList.map (·.2)).length = es.size := by rw [List.length_map, Array.length_toList]
      have := hQ s.heap.objs.size [s.heap.objs.size, S] _ _ (fun i h => h.get? s.heap.objs.size = some (siO (rawInt ((if i = 0 then 0 else t.place.getD 0 0 + 1 : Nat) : Int)) i S es.size ep) ∧ h.get? S = some (seO es ep t)) (s.heap.push (siO (rawInt 0) 0 S es.size ep)) s.drawn hstr hp (fun A hh => by rw [hlen]; exact walkO hh (Nat.ne_of_lt hSl) hf hb hled h1) ⟨Heap.get?_push_size _ rfl, Heap.get?_push_of_some _ ho⟩ (fun b o e => Heap.get?_push_of_some _ e) (fun b hb => ?_) (Nat.le_refl _)
      · exact this
      · rw [Heap.size_push]
        rcases List.mem_cons.mp hb with rfl | hb
        · exact ⟨Nat.lt_succ_self _, .inr (Nat.le_refl _)⟩
        · rw [List.mem_singleton.mp hb]; exact ⟨Nat.lt_succ_of_lt hSl, .inl rfl⟩
    · have hpf : t.plain = false := hpl.resolve_right (by lia)
      have hgt : decide (es.size > 1) = true := by simp; lia
      rw [hpf, hgt]
      first | refine PySem.wpAny_ite_true rfl ?_ | simp only [Bool.not_false, Bool.and_self, if_true]
      refine wpAny_bind (wpAny_drawOrder es.size (List.range es.size) _ _ (by simp) fun os d hperm => ?_)
      have hol : os.length = es.size := by rw [hperm.length_eq, List.length_range]
      have big : scanBound ≤ sizeLine := by decide
      unfold newTuple
      refine wpAny_bind (wpAny_newObj_type ?_ ?hsz)
      case hsz => exact (by show (List.toArray _).size ≤ sizeLine; rw [List.size_toArray, List.length_map, hol]; lia)
      have ho' : (s.heap.push { cls := .type "tuple", data := .seq (os.map fun (i : Nat) => rawInt i).toArray }).get? S = some _ := Heap.get?_push_of_some _ ho
      refine wpAny_bind (wpAny_setEpoch_of ho' rfl hf ?_)
      refine wpAny_bind (wpAny_newObj_type (wpAny_pure ⟨_, rfl, "set_iterator", _, ⟨_, Heap.get?_push_size _ rfl, rfl⟩, sl_set_next.lookup, ?_⟩))
      have hperm' : os.Perm (List.range (es.toList.map (·.2)).length) := by rw [List.length_map, Array.length_toList]; exact hperm
      have hpm := range_map_perm (es.toList.map (·.2)) hperm'
      obtain ⟨ks', g1, g2⟩ := strsAre_perm hpm hstr
      have hlen : (os.filterMap fun i => (es.toList.map (·.2))[i]?).length = es.size := by rw [hpm.length_eq, List.length_map, Array.length_toList]
      have hz : (s.heap.push { cls := .type "tuple", data := .seq (os.map fun (i : Nat) => rawInt i).toArray }).objs.size = s.heap.objs.size + 1 := Heap.size_push ..
      have hbd : ∀ p ∈ os, p < (es.toList.map (·.2)).length := fun p hp => by have := hperm'.mem_iff.mp hp; exact List.mem_range.mp this
      have := hQ (s.heap.push { cls := .type "tuple", data := .seq (os.map fun (i : Nat) => rawInt i).toArray }).objs.size [(s.heap.push { cls := .type "tuple", data := .seq (os.map fun (i : Nat) => rawInt i).toArray }).objs.size, S, s.heap.objs.size] _ ks' (fun i h => h.get? (s.heap.push { cls := .type "tuple", data := .seq (os.map fun (i : Nat) => rawInt i).toArray }).objs.size = some (siO (.ref s.heap.objs.size) i S es.size ep) ∧ h.get? S = some (seO es ep t) ∧ h.IsTuple s.heap.objs.size (os.map fun (j : Nat) => rawInt j).toArray)
        ((s.heap.push { cls := .type "tuple", data := .seq (os.map fun (i : Nat) => rawInt i).toArray }).push (siO (.ref s.heap.objs.size) 0 S es.size ep)) d g1 (g2.trans hp) (fun A hh => by
          rw [hlen]
          refine walkD (P := s.heap.objs.size) (os := os) hh (by rw [hz]; exact Nat.ne_of_lt (Nat.lt_succ_of_lt hSl)) (by rw [hz]; exact Nat.ne_of_lt (Nat.lt_succ_self _)) hf hol fun i p hip => ?_
          have hpl := hbd p (List.mem_of_getElem? hip)
          refine ⟨_, ?_, (fm_get hbd i p hip).trans (List.getElem?_eq_getElem hpl)⟩
          rw [← Array.getElem?_toList, ← List.getElem?_map]
          exact List.getElem?_eq_getElem hpl)
        ⟨Heap.get?_push_size _ rfl, Heap.get?_push_of_some _ ho', ⟨_, Heap.get?_push_of_some _ (Heap.get?_push_size _ rfl), rfl, _, rfl⟩⟩ (fun b o e => Heap.get?_push_of_some _ (Heap.get?_push_of_some _ e)) (fun b hb => ?_) (by rw [hz]; exact Nat.le_succ _)
      · exact this
      · rw [Heap.size_push, hz]
        rcases List.mem_cons.mp hb with rfl | hb
        · exact ⟨by rw [hz]; exact Nat.lt_succ_self _, .inr (by rw [hz]; exact Nat.le_succ _)⟩
        · rcases List.mem_cons.mp hb with rfl | hb
          · exact ⟨Nat.lt_succ_of_lt (Nat.lt_succ_of_lt hSl), .inl rfl⟩
          · rw [List.mem_singleton.mp hb]; exact ⟨Nat.lt_succ_of_lt (Nat.lt_succ_self _), .inr (Nat.le_refl _)⟩

theorem hint_set {r : Addr} {Q : Bool → Shared → Prop} (hT : s.TypeIs (.ref r) "set") (h : Q false s) : wpAny (model G.prog G.w) A (Builtin.List.listLengthHint (.ref r)) Q E s := by
  unfold Builtin.List.listLengthHint
  refine wpAny_bind (wpAny_specialOf hT len_set ?_)
  generalize hid : ("set.__len__" : String) = id0
  wp_delta
  rw [show splitId id0 = some ("set", "__len__") from by subst hid; decide +kernel]
  subst hid
  refine wpAny_bind (wpAny_isInstance (T := "set") (b := true) hT (by rw [isSubtype_type]; kernel_rfl) ?_)
  refine wpAny_ite_split (fun hab => absurd hab (by decide)) (fun _ => ?_)
  refine wpAny_ite_split (fun _ => ?_) (fun hab => absurd (by decide +kernel) hab)
  refine wpAny_bind (wpAny_typeOf hT ?_)
  exact wpAny_pure h

theorem collect_set {S : Addr} {ks : List Str} {R : List Value → Shared → Prop} (hh : A.handled = none) (hS : SetAt G (byT G) s.heap S ks) (hn : ks.length ≤ 1000)
    (hfin : ∀ (h' : Heap) (tk : Nat) (d : Drawn) (acc : List Value) (ks' : List Str), (∀ b o, s.heap.get? b = some o → h'.get? b = some o) → StrsAre acc ks' → ks'.Perm ks → R acc { s with heap := h', toks := tk, drawn := d }) :
    wpAny (model G.prog G.w) A (collect (.ref S)) R E s := by
  have hT : s.TypeIs (.ref S) "set" := let ⟨_, _, _, ho, _⟩ := hS; ⟨_, ho, rfl⟩
  have hSl : S < s.heap.objs.size := let ⟨_, _, _, ho, _⟩ := hS; Heap.lt_size ho
  unfold collect
  refine wpAny_bind (wpAny_runValue (codeAny_builtin entry_proto_collect' ?_))
  rw [Around.under_plainId PySem.F.plain_proto_collect _]
  show wpAny _ A.in1 (newList [] >>= fun l => again (.builtin "list.__iadd__" ⟨[l, .ref S], []⟩)) _ _ s
  refine wpAny_bind (wpAny_newObj_type ?_)
  refine wpAny_pure ⟨plainId_quiet PySem.F.plain_list_iadd _, codeAny_builtin entry_list_iadd' ?_⟩
  rw [Around.under_plainId PySem.F.plain_list_iadd _]
  have hD : (s.heap.push { cls := .type "list", data := .seq ([] : List Value).toArray }).get? s.heap.objs.size = some { cls := .type "list", data := .seq #[] } := Heap.get?_push_size _ rfl
  have hS₁ : SetAt G (byT G) (s.heap.push { cls := .type "list", data := .seq ([] : List Value).toArray }) S ks := hS.at fun o e => Heap.get?_push_of_some _ e
  have hT₁ : Shared.TypeIs { s with heap := s.heap.push { cls := .type "list", data := .seq ([] : List Value).toArray } } (.ref S) "set" := let ⟨_, _, _, ho, _⟩ := hS₁; ⟨_, ho, rfl⟩
  have hz : (s.heap.push { cls := .type "list", data := .seq ([] : List Value).toArray }).objs.size = s.heap.objs.size + 1 := Heap.size_push ..
  generalize hDD : s.heap.objs.size = D at *
  show wpAny _ A.in1 (Builtin.List.listExtendWith (.ref D) (.ref S) (.ref D)) _ _ _
  unfold Builtin.List.listExtendWith
  refine wpAny_bind (wpAny_typeOf (T := "set") hT₁ ?_)
  have h1 : Builtin.List.listSameRef (.ref D) (.ref S) = false := by simp [Builtin.List.listSameRef]; exact Nat.ne_of_gt hSl
  have h2 : (Value.type "set" == Value.type "list") = false := by decide
  have h3 : (Value.type "set" == Value.type "tuple") = false := by decide
  simp only [h1, h2, h3, Bool.or_false, Bool.false_eq_true, if_false]
  refine wpAny_bind (iter_set hS₁ fun I fp ord ks' St h' d g1 g2 W st kp hfp hI => ?_)
  dsimp only at kp hfp hI
  rw [hz] at hfp hI
  have hT₂ : Shared.TypeIs { s with heap := h', drawn := d } (.ref S) "set" := let ⟨_, _, _, ho, _⟩ := hS₁; ⟨_, kp _ _ ho, rfl⟩
  have hD' := kp _ _ hD
  have hol : ord.length ≤ 1000 := by rw [g1.length, g2.length_eq]; exact hn
  have big : (1000 : Nat) < sizeLine := by decide
  have hDf : D ∉ fp := fun hm => by
    rcases (hfp D hm).2 with e | e
    · exact absurd e (Nat.ne_of_gt hSl)
    · exact absurd e (Nat.not_le.mpr (Nat.lt_succ_self _))
  have key : ∀ (h : Heap) (c₁ : Nat), St 0 h → (∀ b o, b ≠ D → h'.get? b = some o → h.get? b = some o) → h.get? D = some { cls := .type "list", data := .seq #[] c₁ } →
      codeAny (model G.prog G.w) A (.builtin "list.extend.loop" ⟨[.ref D, .ref I, .ref D], []⟩) (wants (fun x s' => wpAny (model G.prog G.w) A (match x with
        | .ref a => do match (← load a).data with
          | .seq xs _ => pure xs.toList
          | _ => unsupported "internal:collect"
        | _ => unsupported "internal:collect") R E s') E) { s with heap := h, drawn := d } := by
    intro h c₁ hst hk hD₁
    refine codeAny_extend_loopS (W A.in1 hh).toS (by lia) D hDf (.ref D) ord.length 0 _ #[] c₁ rfl (Nat.zero_le _) hst hD₁ (ItemsOf.nil _) fun s' acc' c' hm hD' hacc => ?_
    rw [Moved.eq_with hm]
    show wpAny _ A (load D >>= _) _ _ _
    refine wpAny_bind (wpAny_load hD' ?_)
    refine wpAny_pure ?_
    have ea : acc'.toList = ord := by
      apply List.ext_getElem?
      intro j
      rw [Array.getElem?_toList]
      rcases Nat.lt_or_ge j acc'.size with hj | hj
      · have e1 : acc'[j]? = some acc'[j] := Array.getElem?_eq_getElem hj
        rw [e1]
        exact (hacc.2 j _ e1).symm
      · rw [Array.getElem?_eq_none hj, List.getElem?_eq_none (by have := hacc.1; lia)]
    rw [ea]
    have hkk : ∀ b o, s.heap.get? b = some o → s'.heap.get? b = some o := fun b o e => by
      have hb := Heap.lt_size e
      rw [hDD] at hb
      have hbD : b ≠ D := Nat.ne_of_lt hb
      refine hm.heap b o (fun hmem => ?_) (hk b o hbD (kp b o (Heap.get?_push_of_some _ e)))
      rcases List.mem_cons.mp hmem with e' | hmem
      · exact hbD e'
      · rw [List.mem_singleton.mp hmem] at hb
        exact absurd hb (Nat.not_lt.mpr (Nat.le_trans (Nat.le_succ _) hI))
    exact hfin s'.heap s'.toks d ord ks' hkk g1 g2
  refine wpAny_bind (wpAny_holding (hint_set hT₂ ?_))
  refine wpAny_ite_split (fun _ => ?_) (fun _ => wpAny_pure ⟨plainId_quiet PySem.F.plain_extend_loop _, key h' 0 st (fun b o _ e => e) hD'⟩)
  refine wpAny_bind (wpAny_rule ?_)
  refine wpAny_bind ?_
  show wpAny _ _ (updateSeq D (·.push .none) >>= fun _ => updateSeq D (·.pop)) _ _ _
  refine wpAny_bind (wpAny_updateSeq hD' rfl ?_)
  have hD₂ := Heap.get?_update_self (Obj.mapSeq (·.push Value.none)) hD' rfl
  refine wpAny_updateSeq (hz := by seq_fits) hD₂ rfl ?_
  have hD₃ := Heap.get?_update_self (Obj.mapSeq (·.pop)) hD₂ rfl
  refine wpAny_pure ⟨plainId_quiet PySem.F.plain_extend_loop _, key _ _ ?_ (fun b o hb e => ?_) hD₃⟩
  · refine (W A.in1 hh).frame 0 _ _ st fun b hb o e => ?_
    have hbS : b ≠ D := fun h => hDf (h ▸ hb)
    exact (Heap.get?_update_other _ _ (Ne.symm hbS)).trans ((Heap.get?_update_other _ _ (Ne.symm hbS)).trans e)
  · exact (Heap.get?_update_other _ _ (Ne.symm hb)).trans ((Heap.get?_update_other _ _ (Ne.symm hb)).trans e)
end
end Mine
end
section
open PySem PySem.W PyProof.Rows
set_option linter.unusedVariables false
set_option linter.unusedSimpArgs false
set_option maxRecDepth 100000
namespace Mine
theorem addOne_mem {ks : List Str} {k x : Str} : x ∈ addOne ks k ↔ x ∈ ks ∨ x = k := by
  unfold addOne
  split
  · rename_i h
    exact ⟨.inl, fun q => q.elim id fun e => e ▸ h⟩
  · simp
theorem addOne_nodup {ks : List Str} {k : Str} (h : ks.Nodup) : (addOne ks k).Nodup := by
  unfold addOne
  split
  · exact h
  · rename_i hk
    exact List.nodup_append.mpr ⟨h, by simp, fun a ha b hb => by rw [List.mem_singleton.mp hb]; rintro rfl; exact hk ha⟩
theorem addAll_mem {x : Str} : ∀ {l ks : List Str}, x ∈ l.foldl addOne ks ↔ x ∈ ks ∨ x ∈ l
  | [], ks => by simp
  | y :: l, ks => by
    rw [List.foldl_cons, addAll_mem (l := l), addOne_mem, List.mem_cons, or_assoc]
theorem addAll_nodup : ∀ {l ks : List Str}, ks.Nodup → (l.foldl addOne ks).Nodup
  | [], _, h => h
  | y :: l, ks, h => addAll_nodup (l := l) (addOne_nodup h)
theorem dedupS_mem {x : Str} : ∀ {l : List Str}, x ∈ dedupS l ↔ x ∈ l
  | [] => Iff.rfl
  | y :: r => by
    rw [dedupS]
    split
    · rename_i h
      rw [dedupS_mem (l := r), List.mem_cons]
      exact ⟨.inr, fun q => q.elim (fun e => e ▸ h) id⟩
    · rw [List.mem_cons, List.mem_cons, dedupS_mem (l := r)]
theorem dedupS_nodup : ∀ {l : List Str}, (dedupS l).Nodup
  | [] => List.nodup_nil
  | y :: r => by
    rw [dedupS]
    split
    · exact dedupS_nodup (l := r)
    · rename_i h
      exact List.nodup_cons.mpr ⟨fun q => h (dedupS_mem.mp q), dedupS_nodup (l := r)⟩
theorem addAll_dedup (l : List Str) : (l.foldl addOne []).Perm (dedupS l) :=
  (List.perm_ext_iff_of_nodup (addAll_nodup List.nodup_nil) dedupS_nodup).mpr fun x => by rw [addAll_mem, dedupS_mem]; simp
theorem sortS_perm_eq {a b : List Str} (p : a.Perm b) : sortS a = sortS b :=
  List.Perm.eq_of_pairwise (fun a b _ _ h k => leS_anti h k) (sortS_sorted a) (sortS_sorted b) ((sortS_perm a).trans (p.trans (sortS_perm b).symm))
theorem addAll_len (l : List Str) : (l.foldl addOne []).length ≤ l.length := by
  have go : ∀ (l ks : List Str), (l.foldl addOne ks).length ≤ ks.length + l.length := by
    intro l
    induction l with
    | nil => intro ks; simp
    | cons x l ih => intro ks; rw [List.foldl_cons]; have := ih (addOne ks x); have := addOne_len ks x; simp; lia
  simpa using go l []

section
variable {G : Glo} {env : Env} {d : Nat} {Γ Γ' Γ₁ Γ₂ : List (Str × AV)} {σ σ' σ₁ σ₂ σ₃ σ₄ : List AObj} {ρ ρ' ρ₁ ρ₂ ρ₃ : List Addr} {s s' s₁ : Shared} {h h' h₁ h₂ h₃ : Heap}

theorem callB_raw {A : Around} {Q : Value → Shared → Prop} {E : Value → Shared → Prop} {f : Str} (K : GloOK G) {id : String} {e : Expr} {es : List Expr} {p pos : Pos} (R : Room A d) (S : StG G σ ρ s) (L : StL G env Γ ρ s.heap) (hm : G.mg f = none) (hbt : bootBuiltins f = some (.builtin id))
    (h1 : wpAny (model G.prog G.w) A (spliced (backTo pos (starEach (e :: es) env))) (fun vs s₁ => wpAny (model G.prog G.w) A (call (.builtin id) vs) Q E s₁) E s)
    (hx : env.kindOf f = some .globalImplicit := by rfl) (hd : (f == ("__debug__" : Str)) = false := by decide) (hn : f ≠ "__name__" := by decide) (he : starEach (e :: es) env = (false, eval e env) :: starEach es env := by rfl) (hpl : (backTo pos (starEach es env)).any (·.1) = false := by rfl) :
    wpAny (model G.prog G.w) A (eval (.Call (.Name f p) (e :: es) [] pos) env) Q E s := by
  refine Call_Name rfl (Calls.Name_function_global L.kind hx (Calls.loadGlobal_builtin (by rw [L.glob]; exact K.glob.keeps S.base) hm (by rw [L.blt]; exact K.blt.keeps S.base) ((K.boot f hn).trans hbt) ?_) hd)
  exact callWith_builtin1 h1 he hpl

theorem EJ.sortedSet (K : GloOK G) {e : Expr} {p p' pos pos' : Pos} {l : List Str} (hm1 : G.mg "sorted" = none) (hm2 : G.mg "set" = none) (h1 : EJ G env d Γ σ (eval e env) (.ref σ.length) (σ ++ [AObj.list (l.map .str)])) (hl : l.length < 64)
    (hx1 : env.kindOf "sorted" = some .globalImplicit := by rfl) (hx2 : env.kindOf "set" = some .globalImplicit := by rfl)
    (he : starEach [e] env = (false, eval e env) :: starEach [] env := by rfl)
    (he2 : starEach [.Call (.Name "set" p') [e] [] pos'] env = (false, eval (.Call (.Name "set" p') [e] [] pos') env) :: starEach [] env := by rfl)
    (hpl : (backTo pos (starEach [] env)).any (·.1) = false := by rfl) (hpl' : (backTo pos' (starEach [] env)).any (·.1) = false := by rfl) (hnil : spliced (backTo pos (starEach [] env)) = pure [] := by rfl) :
    EJ G env d Γ σ (eval (.Call (.Name "sorted" p) [.Call (.Name "set" p') [e] [] pos'] [] pos) env) (.ref σ.length) (σ ++ [AObj.list ((sortS (dedupS l)).map .str)]) := fun A s ρ Q E R S L hQ => by
  refine callB_raw K R S L hm1 rfl ?_ hx1 (by decide) (by decide) he2 hpl
  rw [he2]
  refine Calls.spliced_cons ?_
  refine callT_raw K R S L hm2 rfl ?_ hx2 (by decide) (by decide) he hpl'
  refine (EsJ.cons h1 EsJ.nil he) A s ρ _ E R S L fun cvs s₁ ρ₁ S₁ x₁ r₁ => ?_
  obtain ⟨c, rfl, r⟩ := r₁.one
  obtain ⟨a, vs, n, rfl, ea, ho, q⟩ := list_at (l := l.map .str) S₁ (by simp) r
  have S₂ := S₁.drop fun o ho => S.closed o ho
  have hS := strsAre_rep q
  refine call_set_strs R.handled ⟨_, ho, rfl, n, rfl⟩ (ns := l) (by simpa using hS) (Nat.lt_of_lt_of_le (Nat.add_lt_add_right hl 1) (by decide : (65 : Nat) ≤ scanBound)) fun h₂ tk₂ hset k₂ => ?_
  have hnil' : ∀ (s : Shared) (Q : List Value → Shared → Prop), Q [] s → wpAny (model G.prog G.w) A (spliced (backTo pos (starEach [] env))) Q E s := fun s Q h => by rw [hnil]; exact wpAny_pure h
  refine hnil' _ _ ?_
  refine Calls.call_function_entry kind_sorted plain_sorted entry_sorted (args_sorted1 _) ?_
  unfold Builtin.«sorted»
  refine wpAny_bind (m := checkCount "sorted" 1 1 _) (wpAny_pure ?_)
  refine wpAny_bind (collect_set (A := A.in1) R.handled hset (by have := addAll_len l; lia) fun h' tk dd acc ks' hk hS' hp => ?_)
  have hal : acc.length = ks'.length := hS'.length
  have hkl : ks'.length ≤ l.length := by rw [hp.length_eq]; exact addAll_len l
  refine wpAny_bind (wpAny_newList ?_ (by rw [hal]; exact Nat.le_trans hkl (Nat.le_trans (Nat.le_of_lt hl) (by decide))))
  have hoL : (h'.push { cls := .type "list", data := .seq acc.toArray }).get? h'.objs.size = some (seqObj "list" acc.toArray 0) := Heap.get?_push_size _ rfl
  refine wpAny_bind (wpAny_holding (wpAny_call_entry slot_list_sort ⟨_, hoL, rfl⟩ entry_list_sort (list_sort_treeK strKind_oneLt hoL hS'.keysOf (fun v₁ v₂ rest e => keyKind_strs (by rw [← e]; exact hS')) (by rw [hal]; lia) fun st' a1 a2 => ⟨_, rfl, ?_⟩) (args_list_sort _)))
  obtain ⟨ss', g1, g2, g3⟩ := sorted_out_str hS' a1 a2
  have e := sortS_only g2 g3
  subst e
  have e2 : sortS ks' = sortS (dedupS l) := sortS_perm_eq (hp.trans (addAll_dedup l))
  rw [e2] at g1
  obtain ⟨n', ho'⟩ := sortedHeap_at (out := (arrOf st').map (·.2)) hoL
  have k' : ∀ b o, s₁.heap.get? b = some o → (sortedHeap (h'.push { cls := .type "list", data := .seq acc.toArray }) h'.objs.size acc ((arrOf st').map (·.2))).get? b = some o := fun b o e => by
    have hb := Heap.lt_size (hk b o (k₂ b o e))
    rw [sortedHeap_old (Nat.ne_of_lt hb) (by rw [Heap.size_push]; exact Nat.lt_succ_of_lt hb)]
    exact get_push_ne (hk b o (k₂ b o e))
  have S₂d : StG G σ (ρ₁.take σ.length) { s₁ with drawn := dd } := S₂.with rfl rfl rfl
  obtain ⟨S', x', r'⟩ := S₂d.pushList (tk := tk) (a := h'.objs.size) (vs := ((arrOf st').map (·.2)).toList) (l := (sortS (dedupS l)).map .str) (by
    cases e : s₁.heap.get? h'.objs.size with
    | none => rfl
    | some o => exact absurd (Heap.lt_size (hk _ _ (k₂ _ _ e))) (Nat.lt_irrefl _)) k' (by rw [Array.toArray_toList]; exact ho') (rep_strsAre g1)
  refine wpAny_pure ⟨_, rfl, hQ _ _ _ S' (Ext.trans ⟨fun i b e => ?_, fun b hb => x₁.new b (List.mem_of_mem_take hb), fun b o hb e => x₁.keep b o hb e⟩ x') r'⟩
  have hi : i < ρ.length := (List.getElem?_eq_some_iff.mp e).1
  rw [S.len] at hi
  rw [List.getElem?_take_of_lt hi]
  exact x₁.pre i b e
end
end Mine
end
section
open PySem PySem.W PyProof.Rows
set_option linter.unusedVariables false
set_option linter.unusedSimpArgs false
set_option maxRecDepth 100000
namespace Mine

noncomputable abbrev thePr : Program := PySem.Challenge.pw_sa0021_01
noncomputable def pickS (s : Stmt) : Option DefRec × List Stmt := match s with
  | .FunctionDef name args body _ _ _ scope _ _ pos => (some ⟨name, args, body, scope, pos⟩, [])
  | .ClassDef _ _ _ b _ _ _ _ _ _ _ => (none, b)
  | .For _ _ b _ _ => (none, b)
  | .While _ b _ _ => (none, b)
  | _ => (none, [])
noncomputable def inB (l : List Stmt) (k : Nat) : List Stmt := (l[k]?).elim [] fun s => (pickS s).2
noncomputable def defAt (k : Nat) : Option DefRec := (thePr.main.body[k]?).bind fun s => (pickS s).1
noncomputable def noDef : DefRec := ⟨"", { posonlyargs := [], args := [], vararg := none, kwonlyargs := [], kw_defaults := [], kwarg := none, defaults := [] }, [], { kind := .function, names := [], isGenerator := false, isCoroutine := false, more := [] }, ⟨0, 0, 0, 0⟩⟩
noncomputable def df (k : Nat) : DefRec := (defAt k).getD noDef
noncomputable abbrev fdOf (k : Nat) (pm code doc : Value) : FuncData := Calls.docDef (df k).name (df k).params (df k).body (df k).scope pm code doc

structure TheGlo (G : Glo) : Prop where
  ok : GloOK G
  prog : G.prog = thePr
  fn : ∀ d ∈ recsOf thePr, ∃ a o pm code doc, G.mg d.name = some (.ref a) ∧ G.h₀.get? a = some o ∧ o.data = .func (Calls.docDef d.name d.params d.body d.scope pm code doc) ∧ G.h₀.CodeRec code d.name
  miss : ∀ x ∈ (["len", "sorted", "set", "enumerate", "sum", "max", "min", "list", "tuple", "range", "int", "str", "zip", "super"] : List Str), G.mg x = none
  const : ∀ (x : Str) d, x ≠ ("__name__" : Str) → valOf thePr x = some d → ∃ v, G.mg x = some v ∧ ∀ h' : Heap, Reads h' v d []

set_option genInjectivity false in
set_option genSizeOf false in
/-- a def of the text, found in the heap -/
structure FnAt (G : Glo) (k : Nat) (f : Str) (names : List Str) where
  a : Addr
  pm : Value
  code : Value
  doc : Value
  F : Fn G f a (fdOf k pm code doc) names (df k).body

theorem FnAt.of {G : Glo} (T : TheGlo G) (k i : Nat) (names : List Str) {f : Str} (hk : (recsOf thePr)[i]? = some (df k) := by kernel_rfl) (hf : (df k).name = f := by kernel_rfl)
    (co : (df k).scope.isCoroutine = false := by kernel_rfl) (gen : (df k).scope.isGenerator = false := by kernel_rfl) (kind : (df k).scope.kind = .function := by kernel_rfl) (nofree : ((df k).scope.names.all fun x => x.2 != .free) = true := by decide +kernel)
    (binds : ∀ (pm code doc : Value) (cs : List Value), cs.length = names.length → bindArgs (fdOf k pm code doc) ⟨cs, []⟩ = pure (names.zip cs))
    (kinds : (names.all fun x => (df k).scope.names.lookup x == some .local || (df k).scope.names.lookup x == some .cell) = true := by decide +kernel) (nodup : names.Nodup := by decide +kernel) :
    Nonempty (FnAt G k f names) := by
  obtain ⟨a, o, pm, code, doc, h1, h2, h3, h4⟩ := T.fn _ (List.mem_of_getElem? hk)
  exact ⟨⟨a, pm, code, doc, ⟨by rw [← hf]; exact h1, ⟨o, h2, h3⟩, h4, rfl, rfl, rfl, rfl, co, gen, kind, nofree, binds pm code doc, kinds, nodup⟩⟩⟩

set_option genInjectivity false in
set_option genSizeOf false in
structure Fns (G : Glo) where
  T : TheGlo G
  isvar : FnAt G 4 "is_variable" ["t"]
  vars : FnAt G 5 "variables" ["t"]
  parts : FnAt G 6 "parts" ["t"]
  filled : FnAt G 10 "filled" ["pattern", "table"]
  followed : FnAt G 11 "followed" ["pattern", "table"]
  within : FnAt G 12 "is_within" ["name", "pattern", "table"]
  begun : FnAt G 13 "begun" ["one", "other"]
  inTurn : FnAt G 14 "in_turn" ["table"]
  worked : FnAt G 15 "worked_out" ["table"]
  unified : FnAt G 16 "unified" ["one", "other"]
  clip : FnAt G 18 "_law_clip" ["reel", "many"]
  heard : FnAt G 19 "_law_heard" ["one", "other"]
  leads : FnAt G 20 "_law_leads" ["t", "floors", "ways", "leaf"]
  right : FnAt G 21 "_law_row_right" ["told", "letter", "many", "ways", "leaf"]

theorem len1 {cs : List Value} (h : cs.length = 1) : ∃ a, cs = [a] := by
  rcases cs with _ | ⟨a, cs⟩
  · cases h
  · exact ⟨a, by rw [List.eq_nil_of_length_eq_zero (Nat.succ.inj h)]⟩
theorem len2 {cs : List Value} (h : cs.length = 2) : ∃ a b, cs = [a, b] := by
  rcases cs with _ | ⟨a, cs⟩
  · cases h
  · obtain ⟨b, rfl⟩ := len1 (Nat.succ.inj h)
    exact ⟨a, b, rfl⟩
theorem len3 {cs : List Value} (h : cs.length = 3) : ∃ a b c, cs = [a, b, c] := by
  rcases cs with _ | ⟨a, cs⟩
  · cases h
  · obtain ⟨b, c, rfl⟩ := len2 (Nat.succ.inj h)
    exact ⟨a, b, c, rfl⟩
theorem len4 {cs : List Value} (h : cs.length = 4) : ∃ a b c d, cs = [a, b, c, d] := by
  rcases cs with _ | ⟨a, cs⟩
  · cases h
  · obtain ⟨b, c, d, rfl⟩ := len3 (Nat.succ.inj h)
    exact ⟨a, b, c, d, rfl⟩
theorem len5 {cs : List Value} (h : cs.length = 5) : ∃ a b c d e, cs = [a, b, c, d, e] := by
  rcases cs with _ | ⟨a, cs⟩
  · cases h
  · obtain ⟨b, c, d, e, rfl⟩ := len4 (Nat.succ.inj h)
    exact ⟨a, b, c, d, e, rfl⟩
theorem Fns.of {G : Glo} (T : TheGlo G) : Nonempty (Fns G) := by
  obtain ⟨f1⟩ := FnAt.of T 4 0 ["t"] (f := "is_variable") (binds := fun pm code doc cs hcs => by obtain ⟨a, rfl⟩ := len1 hcs; kernel_rfl)
  obtain ⟨f2⟩ := FnAt.of T 5 1 ["t"] (f := "variables") (binds := fun pm code doc cs hcs => by obtain ⟨a, rfl⟩ := len1 hcs; kernel_rfl)
  obtain ⟨f3⟩ := FnAt.of T 6 2 ["t"] (f := "parts") (binds := fun pm code doc cs hcs => by obtain ⟨a, rfl⟩ := len1 hcs; kernel_rfl)
  obtain ⟨f4⟩ := FnAt.of T 10 3 ["pattern", "table"] (f := "filled") (binds := fun pm code doc cs hcs => by obtain ⟨a, b, rfl⟩ := len2 hcs; kernel_rfl)
  obtain ⟨f5⟩ := FnAt.of T 11 4 ["pattern", "table"] (f := "followed") (binds := fun pm code doc cs hcs => by obtain ⟨a, b, rfl⟩ := len2 hcs; kernel_rfl)
  obtain ⟨f6⟩ := FnAt.of T 12 5 ["name", "pattern", "table"] (f := "is_within") (binds := fun pm code doc cs hcs => by obtain ⟨a, b, c, rfl⟩ := len3 hcs; kernel_rfl)
  obtain ⟨f7⟩ := FnAt.of T 13 6 ["one", "other"] (f := "begun") (binds := fun pm code doc cs hcs => by obtain ⟨a, b, rfl⟩ := len2 hcs; kernel_rfl)
  obtain ⟨f8⟩ := FnAt.of T 14 7 ["table"] (f := "in_turn") (binds := fun pm code doc cs hcs => by obtain ⟨a, rfl⟩ := len1 hcs; kernel_rfl)
  obtain ⟨f9⟩ := FnAt.of T 15 8 ["table"] (f := "worked_out") (binds := fun pm code doc cs hcs => by obtain ⟨a, rfl⟩ := len1 hcs; kernel_rfl)
  obtain ⟨f10⟩ := FnAt.of T 16 9 ["one", "other"] (f := "unified") (binds := fun pm code doc cs hcs => by obtain ⟨a, b, rfl⟩ := len2 hcs; kernel_rfl)
  obtain ⟨f11⟩ := FnAt.of T 18 10 ["reel", "many"] (f := "_law_clip") (binds := fun pm code doc cs hcs => by obtain ⟨a, b, rfl⟩ := len2 hcs; kernel_rfl)
  obtain ⟨f12⟩ := FnAt.of T 19 11 ["one", "other"] (f := "_law_heard") (binds := fun pm code doc cs hcs => by obtain ⟨a, b, rfl⟩ := len2 hcs; kernel_rfl)
  obtain ⟨f13⟩ := FnAt.of T 20 12 ["t", "floors", "ways", "leaf"] (f := "_law_leads") (binds := fun pm code doc cs hcs => by obtain ⟨a, b, c, d, rfl⟩ := len4 hcs; kernel_rfl)
  obtain ⟨f14⟩ := FnAt.of T 21 13 ["told", "letter", "many", "ways", "leaf"] (f := "_law_row_right") (binds := fun pm code doc cs hcs => by obtain ⟨a, b, c, d, e, rfl⟩ := len5 hcs; kernel_rfl)
  exact ⟨⟨T, f1, f2, f3, f4, f5, f6, f7, f8, f9, f10, f11, f12, f13, f14⟩⟩

theorem CallJ.mono {G : Glo} {d d' : Nat} {fa : Addr} {args : List AV} {σ σ' : List AObj} {v : AV} (h : CallJ G d fa args σ v σ') (hd : d ≤ d') : CallJ G d' fa args σ v σ' := fun A s ρ cs R Rm S ra hQ => h A s ρ cs R (Rm.mono hd) S ra hQ

theorem cutSelf {σ : List AObj} {v : AV} (h1 : ∀ o ∈ σ, o.lt σ.length = true) (h2 : AV.lt σ.length v = true) : σ.length ≤ σ.length ∧ σ.take σ.length = σ ∧ (∀ o ∈ σ, o.lt σ.length = true) ∧ AV.lt σ.length v = true ∧ σ.length ≤ σ.length :=
  ⟨Nat.le_refl _, List.take_length, h1, h2, Nat.le_refl _⟩

/-- terms -/
inductive T where
  | nd (f : Str) (kids : List T)
noncomputable def T.av : T → AV
  | .nd f l => .tup (.str f :: avs l)
where avs : List T → List AV
  | [] => []
  | x :: r => T.av x :: avs r
theorem T.avs_map : ∀ l : List T, T.av.avs l = l.map T.av
  | [] => rfl
  | x :: r => by rw [T.av.avs, T.avs_map r]; rfl
theorem T.av_nd (f : Str) (l : List T) : (T.nd f l).av = .tup (.str f :: l.map T.av) := by rw [T.av, T.avs_map]
noncomputable def isVar : T → Bool
  | .nd f l => l.isEmpty && decide (hd1 f = "?")
noncomputable def T.head : T → Str
  | .nd f _ => f
noncomputable def T.kids : T → List T
  | .nd _ l => l
end Mine
end
section
open PySem PySem.W PyProof.Rows
set_option linter.unusedVariables false
set_option linter.unusedSimpArgs false
set_option maxRecDepth 100000
namespace Mine
section
variable {G : Glo} (X : Fns G)

theorem minR {x y : AV} {n : Nat} (h : depthA y ≤ n) : min (depthA x) (depthA y) ≤ n := Nat.le_trans (Nat.min_le_right _ _) h
theorem hd1_len (f : Str) : (hd1 f).length ≤ 1 := by
  simp only [hd1, Str.length, List.size_toArray, List.length_take]; exact Nat.min_le_left _ _

theorem Fns.m (X : Fns G) {x : Str} (h : x ∈ (["len", "sorted", "set", "enumerate", "sum", "max", "min", "list", "tuple", "range", "int", "str", "zip", "super"] : List Str) := by decide) : G.mg x = none := X.T.miss x h

/-- what strings the terms may bear -/
noncomputable def okS (f : Str) : Bool := decide (f.length ≤ 1000) && AV.flat (.str f) && AV.flat (.str (hd1 f))

theorem c_isvar {f : Str} {l : List AV} {σ : List AObj} (hl : l.length < 1000) (hf : okS f = true) : CallJ G 1 X.isvar.a [.tup (.str f :: l)] σ (.bool (l.isEmpty && decide (hd1 f = "?"))) σ := by
  refine CallJ.mk (Γf := [("t", .tup (.str f :: l))]) (σf := σ) X.T.ok X.isvar.F rfl (fun hσ ha L => ?_) (fun hσ ha => cutSelf hσ rfl)
  simp only [okS, Bool.and_eq_true, decide_eq_true_eq] at hf
  have hlen : decide (AV.int ((AV.str f :: l).length : Int) = AV.int 1) = l.isEmpty := by
    cases l with
    | nil => rfl
    | cons a l =>
      simp only [List.length_cons, List.isEmpty_cons, decide_eq_false_iff_not]
      intro q; injection q with q; lia
  have hone : decide (AV.str (hd1 f) = AV.str "?") = decide (hd1 f = "?") := by
    by_cases h : hd1 f = "?"
    · simp [h]
    · simp only [h, decide_false, decide_eq_false_iff_not]; intro q; injection q with q; exact h q
  refine SJ.last (SJ.ret ?_)
  refine EJ.and2 ?_ (fun _ => ?_)
  · rw [← hlen]
    exact EJ.cmp (EJ.callB X.T.ok X.m rfl (EsJ.cons EJ.loc EsJ.nil) (OJ.lenT (by simp; lia))) EJ.cInt (O2.eq rfl rfl (minR (by decide)))
  · rw [← hone]
    exact EJ.cmp (EJ.first (EJ.sub EJ.loc EJ.cInt (Sub.tup (j := 0) rfl (by simp [seqIndex?]))) (by lia)) EJ.cStr (O2.eq hf.2 (by decide +kernel) (minR (by decide +kernel)))
end
end Mine
end
section
open PySem PySem.W PyProof.Rows
set_option linter.unusedVariables false
set_option linter.unusedSimpArgs false
set_option maxRecDepth 100000
namespace Mine

noncomputable def T.parts : T → List (List Nat × T)
  | .nd f l => ([], .nd f l) :: partsL 0 l
where partsL (k : Nat) : List T → List (List Nat × T)
  | [] => []
  | x :: r => (T.parts x).map (fun p => (k :: p.1, p.2)) ++ partsL (k + 1) r
noncomputable def T.hgt : T → Nat
  | .nd f l => hgts l
where hgts : List T → Nat
  | [] => 0
  | x :: r => max (T.hgt x + 1) (hgts r)
/-- small terms, of good strings -/
noncomputable def T.ok : T → Bool
  | .nd f l => okS f && decide (l.length < 500) && oks l
where oks : List T → Bool
  | [] => true
  | x :: r => T.ok x && oks r
noncomputable def pP (p : List Nat × T) : AV × AV := (.tup (p.1.map fun (k : Nat) => AV.int (k : Int)), p.2.av)
noncomputable def pairL (l : List (AV × AV)) : List AV := l.map fun p => .tup [p.1, p.2]

theorem T.hgts_mem : ∀ {l : List T} {x : T}, x ∈ l → x.hgt + 1 ≤ T.hgt.hgts l
  | y :: r, x, h => by
    rw [T.hgt.hgts]
    rcases List.mem_cons.mp h with rfl | h
    · exact Nat.le_max_left _ _
    · exact Nat.le_trans (T.hgts_mem h) (Nat.le_max_right _ _)
theorem T.oks_mem : ∀ {l : List T} {x : T}, T.ok.oks l = true → x ∈ l → x.ok = true
  | y :: r, x, h, hx => by
    rw [T.ok.oks, Bool.and_eq_true] at h
    rcases List.mem_cons.mp hx with rfl | hx
    · exact h.1
    · exact T.oks_mem h.2 hx
mutual
theorem T.av_lt (n : Nat) : ∀ t : T, AV.lt n t.av = true
  | .nd f l => by simp [T.av, AV.lt_none, AV.lt_bool, AV.lt_int, AV.lt_str, AV.lt_tup, AV.lt_ref, AV.lts_nil, AV.lts_cons, T.avs_lt n l]
theorem T.avs_lt (n : Nat) : ∀ l : List T, AV.lts n (T.av.avs l) = true
  | [] => by simp [T.av.avs, AV.lts_nil, AV.lts_cons]
  | x :: r => by simp [T.av.avs, AV.lts_nil, AV.lts_cons, T.av_lt n x, T.avs_lt n r]
end
theorem lts_map_int (n : Nat) : ∀ l : List Nat, AV.lts n (l.map fun (k : Nat) => AV.int (k : Int)) = true
  | [] => rfl
  | x :: r => by simp [AV.lts_nil, AV.lts_cons, AV.lt_none, AV.lt_bool, AV.lt_int, AV.lt_str, AV.lt_tup, AV.lt_ref, lts_map_int n r]
theorem pairL_lt (n : Nat) : ∀ l : List (List Nat × T), AV.lts n (pairL (l.map pP)) = true
  | [] => rfl
  | x :: r => by
    have ih := pairL_lt n r
    rw [pairL] at ih ⊢
    rw [List.map_cons, List.map_cons, AV.lts_cons, ih]
    simp [AV.lt_none, AV.lt_bool, AV.lt_int, AV.lt_str, AV.lt_tup, AV.lt_ref, AV.lts_nil, AV.lts_cons, pP, lts_map_int, T.av_lt]
section
variable {G : Glo} (X : Fns G)

theorem parts_loop {P : T → Prop} {env : Env} {σ : List AObj} {d i : Nat} {body : List Stmt} {tv : AV}
    (step : ∀ (k : Nat) (x : T) (acc : List AV), acc.length + x.parts.length ≤ 1000 → AV.lts σ.length acc = true → P x →
      SJ G env d (upd (upd [("t", tv), ("found", .ref i)] "k" (.int (k : Int))) "kid" x.av) (σ ++ [AObj.list acc]) (execs body env) .next [("t", tv), ("found", .ref i)] (σ ++ [AObj.list (acc ++ pairL ((x.parts.map (fun p => (k :: p.1, p.2))).map pP))])) :
    ∀ (l : List T) (k : Nat) (acc : List AV), (∀ x ∈ l, P x) → acc.length + (T.parts.partsL k l).length ≤ 1000 → AV.lts σ.length acc = true →
      FR G env d body (fun b Γ => upd (upd Γ "k" b.1) "kid" b.2) (enumFrom k (l.map T.av)) [("t", tv), ("found", .ref i)] (σ ++ [AObj.list acc]) .next [("t", tv), ("found", .ref i)] (σ ++ [AObj.list (acc ++ pairL ((T.parts.partsL k l).map pP))])
  | [], k, acc, _, _, _ => by
    rw [T.parts.partsL, List.map_nil, enumFrom]
    simp only [List.map_nil, pairL, List.append_nil]
    exact .nil
  | x :: r, k, acc, hP, hl, ha => by
    rw [T.parts.partsL] at hl ⊢
    rw [List.map_cons, enumFrom]
    simp only [List.length_append, List.length_map] at hl
    have ih := parts_loop step r (k + 1) (acc ++ pairL ((x.parts.map (fun p => (k :: p.1, p.2))).map pP)) (fun y hy => hP y (.tail _ hy)) (by simp [pairL]; lia) (by
      rw [AV.lts_iff] at ha ⊢
      intro y hy
      rcases List.mem_append.mp hy with hy | hy
      · exact ha y hy
      · exact AV.lts_iff.mp (pairL_lt _ _) y hy)
    have e : acc ++ pairL (((x.parts.map (fun p => (k :: p.1, p.2))) ++ T.parts.partsL (k + 1) r).map pP) = acc ++ pairL ((x.parts.map (fun p => (k :: p.1, p.2))).map pP) ++ pairL ((T.parts.partsL (k + 1) r).map pP) := by simp [pairL]
    rw [e]
    exact FR.step (g := .next) (step k x acc (by lia) ha (hP x (.head _))) (.inl rfl) ih

theorem getElem?_last {α : Type} {l : List α} {x : α} {n : Nat} (h : n = l.length) : (l ++ [x])[n]? = some x := by subst h; simp
theorem set_last {α : Type} {l : List α} {x y : α} {n : Nat} (h : n = l.length) : (l ++ [x]).set n y = l ++ [y] := by subst h; simp
theorem closed_snoc {σ : List AObj} {o : AObj} (h : ∀ o ∈ σ, o.lt σ.length = true) (ho : o.lt σ.length = true) : ∀ q ∈ σ ++ [o], AObj.lt (σ ++ [o]).length q = true := fun q hq => by
  have mono : ∀ q : AObj, q.lt σ.length = true → q.lt (σ ++ [o]).length = true := fun q hq => by
    have hle : σ.length ≤ (σ ++ [o]).length := by simp
    cases q with
    | list l => exact AV.lts_mono hle hq
    | sdict l =>
      simp only [AObj.lt] at hq ⊢
      exact AV.lts_mono hle hq
    | tdict l =>
      simp only [AObj.lt] at hq ⊢
  rcases List.mem_append.mp hq with hq | hq
  · exact mono q (h q hq)
  · rw [List.mem_singleton.mp hq]; exact mono o ho

noncomputable def consK (k : Nat) (b : AV × AV) : AV := match b.1 with
  | .tup l => .tup [.tup (.int (k : Int) :: l), b.2]
  | _ => .none
theorem consK_map (k : Nat) (l : List (List Nat × T)) : ((l.map pP).filter fun _ => true).map (consK k) = pairL ((l.map (fun p => (k :: p.1, p.2))).map pP) := by
  induction l with
  | nil => rfl
  | cons x r ih =>
    simp only [List.map_cons, List.filter_cons, if_true, pairL] at ih ⊢
    rw [ih]
    rfl

theorem partsL_mem : ∀ {l : List T} {x : T} {k : Nat}, x ∈ l → x.parts.length ≤ (T.parts.partsL k l).length
  | y :: r, x, k, h => by
    rw [T.parts.partsL, List.length_append, List.length_map]
    rcases List.mem_cons.mp h with rfl | h
    · lia
    · have := partsL_mem (k := k + 1) h; lia

theorem paths_leL {n : Nat} (ih : ∀ (t : T), t.hgt ≤ n → ∀ p ∈ t.parts, p.1.length ≤ n) : ∀ (l : List T) (k : Nat), (∀ x ∈ l, x.hgt ≤ n) → ∀ p ∈ T.parts.partsL k l, p.1.length ≤ n + 1
  | [], k, _, p, h => by rw [T.parts.partsL] at h; cases h
  | x :: r, k, hx, p, h => by
    rw [T.parts.partsL] at h
    rcases List.mem_append.mp h with h | h
    · obtain ⟨q, hq, rfl⟩ := List.mem_map.mp h
      have := ih x (hx x (.head _)) q hq
      simp; lia
    · exact paths_leL ih r (k + 1) (fun y hy => hx y (.tail _ hy)) p h
theorem paths_le : ∀ (n : Nat) (t : T), t.hgt ≤ n → ∀ p ∈ t.parts, p.1.length ≤ n
  | 0, .nd f l, hn, p, hp => by
    rw [T.parts] at hp
    cases l with
    | nil => rw [T.parts.partsL, List.mem_singleton] at hp; subst hp; exact Nat.le_refl _
    | cons x r =>
      rw [T.hgt] at hn
      have := T.hgts_mem (l := x :: r) (.head _); lia
  | n + 1, .nd f l, hn, p, hp => by
    rw [T.parts] at hp
    rw [T.hgt] at hn
    rcases List.mem_cons.mp hp with rfl | hp
    · exact Nat.zero_le _
    · exact paths_leL (paths_le n) l 0 (fun x hx => by have := T.hgts_mem hx; lia) p hp

theorem c_parts : ∀ (n : Nat) (t : T), t.hgt ≤ n → n ≤ 50 → t.ok = true → t.parts.length ≤ 1000 → ∀ σ, CallJ G (n + 1) X.parts.a [t.av] σ (.ref σ.length) (σ ++ [AObj.list (pairL (t.parts.map pP))])
  | n, .nd f l, hn, hn50, hok, hsz, σ => by
    have hgt : ∀ x ∈ l, x.hgt + 1 ≤ n := fun x hx => Nat.le_trans (T.hgts_mem hx) (by rw [T.hgt] at hn; exact hn)
    rw [T.ok] at hok
    simp only [Bool.and_eq_true, decide_eq_true_eq] at hok
    have hsz' : (T.parts.partsL 0 l).length < 1000 := by rw [T.parts, List.length_cons] at hsz; lia
    refine CallJ.mk (Γf := [("t", (T.nd f l).av), ("found", .ref σ.length)]) (σf := σ ++ [AObj.list (pairL ((T.nd f l).parts.map pP))]) X.T.ok X.parts.F rfl (fun hσ ha L => ?_) (fun hσ ha => ?_)
    · refine SJ.cons (SJ.assign (x := "found") (v := .ref σ.length) (EJ.mkList (vs := [.tup [.tup [], (T.nd f l).av]]) (EsJ.cons (EJ.mkTuple (EsJ.cons (EJ.mkTuple EsJ.nil) (EsJ.cons EJ.loc EsJ.nil))) EsJ.nil))) ?_
      have e0 : T.av (.nd f l) = .tup (.str f :: l.map T.av) := T.av_nd f l
      refine SJ.cons (Γ₁ := [("t", (T.nd f l).av), ("found", .ref σ.length)]) (SJ.for (ItT.enum (l := l.map T.av) X.T.ok X.m (EsJ.cons (EJ.tail (x := .str f) ?_ ?_) EsJ.nil)) ?_) (SJ.last (SJ.ret EJ.loc))
      · exact e0 ▸ EJ.loc (v := (T.nd f l).av)
      · simp; lia
      · rw [enum_from]
        have e1 : pairL ((T.nd f l).parts.map pP) = [AV.tup [.tup [], (T.nd f l).av]] ++ pairL ((T.parts.partsL 0 l).map pP) := by rw [T.parts]; rfl
        rw [e1]
        refine parts_loop (P := fun x => x ∈ l) (fun k x acc hl hac hx => ?_) l 0 _ (fun x hx => hx) (by simp; lia) (by simp [AV.lts_nil, AV.lts_cons, AV.lt_none, AV.lt_bool, AV.lt_int, AV.lt_str, AV.lt_tup, AV.lt_ref, T.av_lt])
        have hxs : x.parts.length ≤ 1000 := by have := partsL_mem (k := 0) hx; lia
        refine SJ.cut (junk := [AObj.list (pairL ((x.parts.map (fun p => (k :: p.1, p.2))).map pP))]) (SJ.weaken (Γ₁ := upd (upd [("t", (T.nd f l).av), ("found", .ref σ.length)] "k" (.int (k : Int))) "kid" x.av) (SJ.last (SJ.expr (v := .none) ?_)) ?_) ?_ ?_ ?_ ?_
        · rw [← consK_map]
          have ih := CallJ.mono (c_parts (n - 1) x (by have := hgt x hx; lia) (by lia) (T.oks_mem hok.2 hx) hxs (σ ++ [AObj.list acc])) (show n - 1 + 1 ≤ n by have := hgt x hx; lia)
          refine EJ.st (EJ.extend (l := acc) (m := ((x.parts.map pP).filter fun _ => true).map (consK k)) (i := σ.length) (j := (σ ++ [AObj.list acc]).length) EJ.loc ⟨_, getElem?_last rfl⟩ (EJ.comp (p := fun _ => true) (F := consK k) (Γc := [("k", .int (k : Int))]) (cl := [("k", L + 1)]) (ItJ.list (EJ.callF X.parts.F X.T.ok (EsJ.cons EJ.loc EsJ.nil) ih) (pairL_lt _ _)) ?_ (Turns.pair) ?_ ?_ ?_ ?_) ?_ ?_ ?_) ?_
          · refine CompOk.of rfl rfl rfl rfl ?_ rfl ?_
            · intro p hp; rw [List.mem_singleton.mp hp]; rfl
            · intro p hp; rw [List.mem_singleton.mp hp]; exact ⟨rfl, rfl, rfl⟩
          · intro b p hp; rw [List.mem_singleton.mp hp]; rfl
          · intro b hb C; exact TsJ.nil
          · intro b hb _ C
            obtain ⟨q, hq, rfl⟩ := List.mem_map.mp hb
            have hql := paths_le (n - 1) x (by have := hgt x hx; lia) q hq
            exact EJ.mkTuple (EsJ.cons (EJ.binop (EJ.mkTuple (EsJ.cons EJ.cell EsJ.nil)) EJ.loc (O2.addT (by simp; lia))) (EsJ.cons EJ.loc EsJ.nil))
          · simp; lia
          · rw [List.getElem?_append_left (by simp)]; exact getElem?_last rfl
          · exact getElem?_last rfl
          · rw [consK_map]; simp [pairL]; lia
          · rw [List.set_append_left _ _ (by simp), set_last rfl]
        · intro p hp
          rcases List.mem_cons.mp hp with rfl | hp
          · rfl
          · rw [List.mem_singleton.mp hp]; rfl
        · simp
        · intro p hp
          rcases List.mem_cons.mp hp with rfl | hp
          · exact T.av_lt _ _
          · rw [List.mem_singleton.mp hp]; simp [AV.lt_none, AV.lt_bool, AV.lt_int, AV.lt_str, AV.lt_tup, AV.lt_ref]
        · refine closed_snoc hσ ?_
          show AV.lts _ _ = true
          rw [AV.lts_iff] at hac ⊢
          intro y hy
          rcases List.mem_append.mp hy with hy | hy
          · exact hac y hy
          · exact AV.lts_iff.mp (pairL_lt _ _) y hy
        · intro v hv; cases hv
    · refine ⟨Nat.le_refl _, List.take_length, closed_snoc hσ (pairL_lt _ _), by simp [AV.lt_none, AV.lt_bool, AV.lt_int, AV.lt_str, AV.lt_tup, AV.lt_ref], by simp⟩
end
end Mine
end
section
open PySem PySem.W PyProof.Rows
set_option linter.unusedVariables false
set_option linter.unusedSimpArgs false
set_option maxRecDepth 100000
namespace Mine

noncomputable def filledA (kvs : List (Str × AV)) : T → AV
  | .nd f l => if isVar (.nd f l) then (look kvs f).getD (T.nd f l).av else .tup (.str f :: filledL kvs l)
where filledL (kvs : List (Str × AV)) : List T → List AV
  | [] => []
  | x :: r => filledA kvs x :: filledL kvs r
theorem filledL_map (kvs : List (Str × AV)) : ∀ l : List T, filledA.filledL kvs l = l.map (filledA kvs)
  | [] => by rw [filledA.filledL]; rfl
  | x :: r => by rw [filledA.filledL, filledL_map kvs r]; rfl
theorem filledL_length (kvs : List (Str × AV)) (l : List T) : (filledA.filledL kvs l).length = l.length := by rw [filledL_map]; simp

theorem filter_tt {α : Type} (l : List α) : l.filter (fun _ => true) = l := by induction l with
  | nil => rfl
  | cons x r ih => simp [ih]
theorem look_mem {kvs : List (Str × AV)} {k : Str} {v : AV} (h : look kvs k = some v) : v ∈ kvs.map (·.2) := by
  unfold look at h
  cases e : kvs.find? (fun x => decide (x.1 = k)) with
  | none => rw [e] at h; cases h
  | some q => rw [e] at h; cases h; exact List.mem_map.mpr ⟨q, List.mem_of_find?_eq_some e, rfl⟩
mutual
theorem filledA_lt {n : Nat} {kvs : List (Str × AV)} (h : ∀ v ∈ kvs.map (·.2), AV.lt n v = true) : ∀ t : T, AV.lt n (filledA kvs t) = true
  | .nd f l => by
    rw [filledA]
    split
    · cases e : look kvs f with
      | none => exact T.av_lt n _
      | some v => exact h v (look_mem e)
    · simp [AV.lt_none, AV.lt_bool, AV.lt_int, AV.lt_str, AV.lt_tup, AV.lt_ref, AV.lts_nil, AV.lts_cons, filledL_lt h l]
theorem filledL_lt {n : Nat} {kvs : List (Str × AV)} (h : ∀ v ∈ kvs.map (·.2), AV.lt n v = true) : ∀ l : List T, AV.lts n (filledA.filledL kvs l) = true
  | [] => by simp [filledA.filledL, AV.lts_nil, AV.lts_cons]
  | x :: r => by simp [filledA.filledL, AV.lts_nil, AV.lts_cons, filledA_lt h x, filledL_lt h r]
end
theorem sdict_lt {σ : List AObj} {i n : Nat} {kvs : List (Str × AV)} (hσ : ∀ o ∈ σ, o.lt n = true) (hi : σ[i]? = some (AObj.sdict kvs)) : ∀ v ∈ kvs.map (·.2), AV.lt n v = true := by
  have := hσ _ (List.mem_of_getElem? hi)
  exact AV.lts_iff.mp this

section
variable {G : Glo} (X : Fns G)
theorem T.ok_nd {f : Str} {l : List T} (h : (T.nd f l).ok = true) : okS f = true ∧ l.length < 500 ∧ T.ok.oks l = true := by
  rw [T.ok] at h
  simpa [and_assoc] using h
theorem isVar_eq (f : Str) (l : List T) : ((l.map T.av).isEmpty && decide (hd1 f = "?")) = isVar (.nd f l) := by
  cases l <;> rfl

include X in
theorem tj_isvar {env : Env} {d : Nat} {Γ : List (Str × AV)} {σ : List AObj} {t : T} (hok : t.ok = true) {e : Expr} {p pos : Pos} (he : EJ G env (d + 1) Γ σ (eval e env) t.av σ) (hx : env.kindOf "is_variable" = some .globalImplicit := by rfl)
    (hh : starEach [e] env = (false, eval e env) :: starEach [] env := by rfl) (hpl : (backTo pos (starEach [] env)).any (·.1) = false := by rfl) :
    EJ G env (d + 1) Γ σ (eval (.Call (.Name "is_variable" p) [e] [] pos) env) (.bool (isVar t)) σ := by
  obtain ⟨f, l⟩ := t
  obtain ⟨h1, h2, h3⟩ := T.ok_nd hok
  rw [← isVar_eq]
  rw [T.av_nd] at he
  exact EJ.callF X.isvar.F X.T.ok (EsJ.cons he EsJ.nil hh) ((c_isvar X (by simp; lia) h1).mono (by lia)) hx (by decide) hh hpl

theorem c_filled {kvs : List (Str × AV)} : ∀ (n : Nat) (t : T), t.hgt ≤ n → t.ok = true → ∀ (σ : List AObj) (i : Nat), σ[i]? = some (AObj.sdict kvs) → CallJ G (n + 2) X.filled.a [t.av, .ref i] σ (filledA kvs t) σ
  | n, .nd f l, hn, hok, σ, i, hi => by
    have hgt : ∀ x ∈ l, x.hgt + 1 ≤ n := fun x hx => Nat.le_trans (T.hgts_mem hx) (by rw [T.hgt] at hn; exact hn)
    obtain ⟨h1, h2, h3⟩ := T.ok_nd hok
    refine CallJ.mk (Γf := [("pattern", (T.nd f l).av), ("table", .ref i)]) (σf := σ) X.T.ok X.filled.F rfl (fun hσ ha L => ?_) (fun hσ ha => cutSelf hσ (filledA_lt (sdict_lt hσ hi) _))
    have e0 : T.av (.nd f l) = .tup (.str f :: l.map T.av) := T.av_nd f l
    cases hv : isVar (.nd f l) with
    | true =>
      rw [filledA, if_pos hv]
      refine SJ.stop (SJ.ifT ((TJ.val (tj_isvar X hok EJ.loc) B1.bool).is hv) (SJ.last (SJ.ret (EJ.get X.T.ok EJ.var (EJ.sub (x := .tup (.str f :: l.map T.av)) ((EJ.loc (v := (T.nd f l).av)).is e0) EJ.cInt (Sub.tup (j := 0) rfl (by simp [seqIndex?]))) EJ.loc hi))))
    | false =>
      rw [filledA, if_neg (by rw [hv]; decide), filledL_map]
      refine SJ.cons (SJ.ifF ((TJ.val (tj_isvar X hok EJ.loc) B1.bool).is hv) SJ.nil) (SJ.last (SJ.ret (EJ.cut (junk := [AObj.list (l.map (filledA kvs))]) ?_ (Nat.le_refl _) hσ ?_)))
      · refine EJ.binop (EJ.mkTuple (EsJ.cons (EJ.sub (x := .tup (.str f :: l.map T.av)) ((EJ.loc (v := (T.nd f l).av)).is e0) EJ.cInt (Sub.tup (j := 0) rfl (by simp [seqIndex?]))) EsJ.nil)) (EJ.callT X.T.ok X.m rfl (EsJ.cons ((EJ.comp (items := l.map T.av) (bs := l) (p := fun _ => true) (F := filledA kvs) (Γc := [("table", .ref i)]) (cl := [("table", L + 1)]) (ItJ.tuple (EJ.tail (x := .str f) ((EJ.loc (v := (T.nd f l).av)).is e0) (by simp; lia))) ?_ (Turns.nameOf T.av) ?_ ?_ ?_ ?_).st ?_) EsJ.nil) (OJ.tupleL (getElem?_last rfl) ?_)) (O2.addT ?_)
        · refine CompOk.of rfl rfl rfl rfl ?_ rfl ?_
          · intro p hp; rw [List.mem_singleton.mp hp]; rfl
          · intro p hp; rw [List.mem_singleton.mp hp]; exact ⟨rfl, rfl, rfl⟩
        · intro b p hp; rw [List.mem_singleton.mp hp]; rfl
        · intro b hb C; exact TsJ.nil
        · intro b hb _ C
          exact EJ.callF X.filled.F X.T.ok (EsJ.cons EJ.var (EsJ.cons EJ.var EsJ.nil)) (CallJ.mono (c_filled (n - 1) b (by have := hgt b hb; lia) (T.oks_mem h3 hb) σ i hi) (show n - 1 + 2 ≤ n + 1 by have := hgt b hb; lia))
        · lia
        · rw [filter_tt]
        · simp; lia
        · simp; lia
      · simp only [AV.lt_none, AV.lt_bool, AV.lt_int, AV.lt_str, AV.lt_tup, AV.lt_ref, List.cons_append, List.nil_append]
        simp only [AV.lts_nil, AV.lts_cons, AV.lt_none, AV.lt_bool, AV.lt_int, AV.lt_str, AV.lt_tup, AV.lt_ref, Bool.true_and]
        rw [← filledL_map]
        exact filledL_lt (sdict_lt hσ hi) l
end
end Mine
end
section
open PySem PySem.W PyProof.Rows
set_option linter.unusedVariables false
set_option linter.unusedSimpArgs false
set_option maxRecDepth 100000
namespace Mine

noncomputable abbrev Tab := List (Str × T)
noncomputable def Tab.av (kvs : Tab) : List (Str × AV) := kvs.map fun p => (p.1, p.2.av)
noncomputable def lookT (kvs : Tab) (k : Str) : Option T := (kvs.find? fun x => decide (x.1 = k)).map (·.2)
theorem look_av (kvs : Tab) (k : Str) : look kvs.av k = (lookT kvs k).map T.av := by
  unfold look lookT Tab.av
  induction kvs with
  | nil => rfl
  | cons x r ih =>
    simp only [List.map_cons, List.find?_cons]
    by_cases h : x.1 = k
    · simp [h]
    · simp only [h, decide_false]; exact ih
noncomputable def Tab.ok (kvs : Tab) : Bool := kvs.all fun p => p.2.ok
theorem lookT_ok {kvs : Tab} {k : Str} {t : T} (h : kvs.ok = true) (e : lookT kvs k = some t) : t.ok = true := by
  unfold lookT at e
  cases q : kvs.find? (fun x => decide (x.1 = k)) with
  | none => rw [q] at e; cases e
  | some p => rw [q] at e; cases e; exact List.all_eq_true.mp h p (List.mem_of_find?_eq_some q)

noncomputable def followedT : Nat → Tab → T → Option T
  | 0, _, _ => none
  | n + 1, kvs, t => if isVar t then (match lookT kvs t.head with | some u => followedT n kvs u | none => some t) else some t

section
variable {G : Glo} (X : Fns G)
include X
theorem ej_head {env : Env} {d : Nat} {Γ : List (Str × AV)} {σ : List AObj} {t : T} {e : Expr} {k : Nat} {p pos : Pos} (he : EJ G env d Γ σ (eval e env) t.av σ) (hok : t.ok = true) :
    EJ G env d Γ σ (eval (.Subscript e (.Constant (.int 0) k p) pos) env) (.str t.head) σ := by
  obtain ⟨f, l⟩ := t
  have h2 := (T.ok_nd hok).2.1
  rw [T.av_nd] at he
  exact EJ.sub he EJ.cInt (Sub.tup (j := 0) rfl (by simp [seqIndex?]))

theorem c_followed {kvs : Tab} (hk : kvs.ok = true) {σ : List AObj} {i : Nat} (hi : σ[i]? = some (AObj.sdict kvs.av)) : ∀ (n : Nat) (t u : T), t.ok = true → followedT n kvs t = some u → CallJ G 2 X.followed.a [t.av, .ref i] σ u.av σ := by
  intro n t u hok hf
  refine CallJ.mk (Γf := [("pattern", u.av), ("table", .ref i)]) (σf := σ) X.T.ok X.followed.F rfl (fun hσ ha L => ?_) (fun hσ ha => cutSelf hσ (T.av_lt _ _))
  refine SJ.cons (SJ.while (k := n) ?_) (SJ.last (SJ.ret (EJ.loc (v := u.av))))
  show WR G _ 1 _ _ n [("pattern", t.av), ("table", .ref i)] σ .next [("pattern", u.av), ("table", .ref i)] σ
  clear ha
  revert t
  induction n with
  | zero => intro t _ h; rw [followedT] at h; cases h
  | succ n ih =>
    intro t hok hf
    rw [followedT] at hf
    cases hv : isVar t with
    | false =>
      rw [hv] at hf
      simp only [Bool.false_eq_true, if_false, Option.some.injEq] at hf
      subst hf
      refine WR.done (σ₁ := σ) ?_
      exact (TJ.boolOp (TJ.and2 (c := true) ((TJ.val (tj_isvar X hok EJ.var) B1.bool).is hv) (fun h => nomatch h)))
    | true =>
      rw [hv, if_pos rfl] at hf
      cases hl : lookT kvs t.head with
      | none =>
        rw [hl] at hf
        simp only [Option.some.injEq] at hf
        subst hf
        exact WR.done (σ₁ := σ) (TJ.boolOp (TJ.and2 (c := false) ((TJ.val (tj_isvar X hok EJ.var) B1.bool).is hv) (fun _ => (TJ.cmp (ej_head X EJ.var hok) EJ.var (O2.inD X.T.ok hi)).is (by rw [look_av, hl]; rfl))))
      | some v =>
        rw [hl] at hf
        refine WR.step (g := .next) (TJ.boolOp (TJ.and2 (c := true) ((TJ.val (tj_isvar X hok EJ.var) B1.bool).is hv) (fun _ => (TJ.cmp (ej_head X EJ.var hok) EJ.var (O2.inD X.T.ok hi)).is (by rw [look_av, hl]; rfl)))) (SJ.last (SJ.assign (v := v.av) (EJ.sub EJ.var (ej_head X EJ.var hok) (Sub.dict hi (by rw [look_av, hl]; rfl))))) (.inl rfl) ?_
        exact ih v (lookT_ok hk hl) hf
end
end Mine
end
section
open PySem PySem.W PyProof.Rows
set_option linter.unusedVariables false
set_option linter.unusedSimpArgs false
set_option maxRecDepth 100000
namespace Mine

noncomputable def varsOf (t : T) : List Str := (t.parts.filter fun p => isVar p.2).map fun p => p.2.head
noncomputable def varsS (t : T) : List Str := sortS (dedupS (varsOf t))

theorem parts_okL {l : List T} (ih : ∀ x ∈ l, ∀ p ∈ x.parts, p.2.ok = true) : ∀ k, ∀ p ∈ T.parts.partsL k l, p.2.ok = true := by
  induction l with
  | nil => intro k p h; rw [T.parts.partsL] at h; cases h
  | cons x r ihr =>
    intro k p h
    rw [T.parts.partsL] at h
    rcases List.mem_append.mp h with h | h
    · obtain ⟨q, hq, rfl⟩ := List.mem_map.mp h
      exact ih x (.head _) q hq
    · exact ihr (fun y hy => ih y (.tail _ hy)) (k + 1) p h
theorem parts_ok : ∀ (n : Nat) (t : T), t.hgt ≤ n → t.ok = true → ∀ p ∈ t.parts, p.2.ok = true
  | n, .nd f l, hn, hok, p, hp => by
    rw [T.parts] at hp
    rcases List.mem_cons.mp hp with rfl | hp
    · exact hok
    · have h3 := (T.ok_nd hok).2.2
      refine parts_okL (fun x hx q hq => ?_) 0 p hp
      have hx' : x.hgt + 1 ≤ n := Nat.le_trans (T.hgts_mem hx) (by rw [T.hgt] at hn; exact hn)
      exact parts_ok (n - 1) x (by lia) (T.oks_mem h3 hx) q hq

section
variable {G : Glo} (X : Fns G)
include X

theorem c_vars (n : Nat) (t : T) (hn : t.hgt ≤ n) (hn50 : n ≤ 50) (hok : t.ok = true) (hsz : t.parts.length < 64) (σ : List AObj) : CallJ G (n + 2) X.vars.a [t.av] σ (.ref σ.length) (σ ++ [AObj.list ((varsS t).map .str)]) := by
  refine CallJ.mk (Γf := [("t", t.av)]) (σf := σ ++ [AObj.list ((varsS t).map .str)]) X.T.ok X.vars.F rfl (fun hσ ha L => ?_) (fun hσ ha => ?_)
  · refine SJ.last (SJ.ret (EJ.sortedSet X.T.ok X.m X.m ((EJ.comp (bs := t.parts) (p := fun p => isVar p.2) (F := fun p => .str p.2.head) (Γc := []) (cl := []) (ItJ.list (EJ.callF X.parts.F X.T.ok (EsJ.cons EJ.var EsJ.nil) (c_parts X n t hn hn50 hok (by lia) σ)) (pairL_lt _ _)) ?_ (Turns.pairOf pP) ?_ ?_ ?_ ?_).st ?_) ?_))
    · refine CompOk.of rfl rfl rfl rfl ?_ rfl ?_
      · intro p hp; cases hp
      · intro p hp; cases hp
    · intro b p hp; cases hp
    · intro b hb C
      exact TsJ.one (TJ.val (tj_isvar X (parts_ok n t hn hok b hb) (EJ.var (v := b.2.av))) B1.bool)
    · intro b hb _ C
      exact ej_head X (EJ.var (v := b.2.av)) (parts_ok n t hn hok b hb)
    · lia
    · rw [varsOf, List.map_map]; rfl
    · rw [varsOf, List.length_map]; exact Nat.lt_of_le_of_lt (List.length_filter_le _ _) hsz
  · refine ⟨Nat.le_refl _, List.take_length, closed_snoc hσ ?_, by simp [AV.lt_none, AV.lt_bool, AV.lt_int, AV.lt_str, AV.lt_tup, AV.lt_ref], by simp⟩
    show AV.lts _ _ = true
    rw [AV.lts_iff]; intro y hy; obtain ⟨z, _, rfl⟩ := List.mem_map.mp hy; rfl
end
end Mine
end
section
open PySem PySem.W PyProof.Rows
set_option linter.unusedVariables false
set_option linter.unusedSimpArgs false
set_option maxRecDepth 100000
namespace Mine

noncomputable def T.small (t : T) : Bool := t.ok && decide (t.hgt ≤ 4) && decide (t.parts.length < 64)
noncomputable def Tab.small (kvs : Tab) : Bool := kvs.all fun p => p.2.small
theorem T.small_iff {t : T} : t.small = true ↔ t.ok = true ∧ t.hgt ≤ 4 ∧ t.parts.length < 64 := by simp [T.small, and_assoc]
theorem lookT_small {kvs : Tab} {k : Str} {t : T} (h : kvs.small = true) (e : lookT kvs k = some t) : t.small = true := by
  unfold lookT at e
  cases q : kvs.find? (fun x => decide (x.1 = k)) with
  | none => rw [q] at e; cases e
  | some p => rw [q] at e; cases e; exact List.all_eq_true.mp h p (List.mem_of_find?_eq_some q)

theorem dedupS_sub : ∀ {l : List Str} {x : Str}, x ∈ dedupS l → x ∈ l
  | y :: r, x, h => by
    rw [dedupS] at h
    split at h
    · exact .tail _ (dedupS_sub h)
    · rcases List.mem_cons.mp h with rfl | h
      · exact .head _
      · exact .tail _ (dedupS_sub h)
theorem dedupS_len : ∀ (l : List Str), (dedupS l).length ≤ l.length
  | [] => Nat.le_refl _
  | y :: r => by
    rw [dedupS]
    have := dedupS_len r
    split <;> simp <;> lia
theorem T.ok_head {t : T} (h : t.ok = true) : okS t.head = true := by cases t; exact (T.ok_nd h).1
theorem varsS_ok {t : T} (h : t.small = true) : (∀ v ∈ varsS t, okS v = true) ∧ (varsS t).length < 64 := by
  obtain ⟨h1, h2, h3⟩ := T.small_iff.mp h
  refine ⟨fun v hv => ?_, ?_⟩
  · have hv' := dedupS_sub ((sortS_perm _).mem_iff.mp hv)
    obtain ⟨p, hp, rfl⟩ := List.mem_map.mp hv'
    exact T.ok_head (parts_ok 4 t h2 h1 p (List.mem_filter.mp hp).1)
  · rw [varsS, (sortS_perm _).length_eq]
    refine Nat.lt_of_le_of_lt (dedupS_len _) ?_
    rw [varsOf, List.length_map]
    exact Nat.lt_of_le_of_lt (List.length_filter_le _ _) h3

noncomputable def trues (l : List Str) : List (Str × AV) := l.map fun s => (s, .bool true)
theorem look_trues (l : List Str) (k : Str) : (look (trues l) k).isSome = decide (k ∈ l) := by
  unfold look trues
  induction l with
  | nil => rfl
  | cons x r ih =>
    simp only [List.map_cons, List.find?_cons]
    by_cases h : x = k
    · simp [h]
    · have h' : ¬ k = x := fun e => h e.symm
      simp only [h, decide_false, ih, List.mem_cons, h', false_or]
theorem put_trues {l : List Str} {k : Str} (h : k ∉ l) : put (trues l) k (.bool true) = trues (l ++ [k]) := by
  unfold put
  rw [if_neg]
  · simp [trues]
  · intro q
    obtain ⟨p, hp, e⟩ := List.any_eq_true.mp q
    obtain ⟨s, hs, rfl⟩ := List.mem_map.mp hp
    have : s = k := by simpa using e
    exact h (this ▸ hs)

noncomputable def innerW (name : Str) (kvs : Tab) : List Str → List T → List Str → Option (List T × List Str)
  | [], rs, seen => some (rs, seen)
  | late :: r, rs, seen =>
    if late = name then none
    else match lookT kvs late with
      | none => innerW name kvs r rs seen
      | some u => if late ∈ seen then innerW name kvs r rs seen else innerW name kvs r (u :: rs) (seen ++ [late])
noncomputable def withinP (name : Str) (kvs : Tab) : Nat → List T → List Str → Option Bool
  | 0, _, _ => none
  | _ + 1, [], _ => some false
  | n + 1, t :: rs, seen =>
    if rs.length + 64 ≤ 1000 ∧ seen.length + 64 ≤ 1000 then
      (match innerW name kvs (varsS t) rs seen with
        | none => some true
        | some (rs', seen') => withinP name kvs n rs' seen')
    else none
noncomputable def stack (rs : List T) : List AV := rs.reverse.map T.av
theorem stack_cons (t : T) (rs : List T) : stack (t :: rs) = stack rs ++ [t.av] := by simp [stack]
theorem stack_length (rs : List T) : (stack rs).length = rs.length := by simp [stack]
theorem stack_lt (n : Nat) (rs : List T) : AV.lts n (stack rs) = true := by
  rw [AV.lts_iff]; intro x hx; obtain ⟨t, _, rfl⟩ := List.mem_map.mp hx; exact T.av_lt n t

noncomputable def WBody (G : Glo) (env : Env) (d : Nat) (Γ : List (Str × AV)) (σ₀ : List AObj) (t : Sem Flow) (σ : List AObj) (q : Option (List T × List Str)) : Prop :=
  match q with
  | some (rs', seen') => SJ G env d Γ σ₀ t .next Γ (σ ++ [AObj.list (stack rs'), AObj.sdict (trues seen')]) ∧ ∀ t ∈ rs', t.small = true
  | none => ∃ Γ₁ junk, SJ G env d Γ σ₀ t (.ret (.bool true)) Γ₁ (σ ++ junk)
noncomputable def WLoop (G : Glo) (env : Env) (d : Nat) (body : List Stmt) (bind : AV → List (Str × AV) → List (Str × AV)) (items : List AV) (Γ : List (Str × AV)) (σ₀ : List AObj) (σ : List AObj) (q : Option (List T × List Str)) : Prop :=
  match q with
  | some (rs', seen') => FR G env d body bind items Γ σ₀ .next Γ (σ ++ [AObj.list (stack rs'), AObj.sdict (trues seen')]) ∧ ∀ t ∈ rs', t.small = true
  | none => ∃ Γ₁ junk, FR G env d body bind items Γ σ₀ (.ret (.bool true)) Γ₁ (σ ++ junk)
theorem WLoop.step {G : Glo} {env : Env} {d : Nat} {body : List Stmt} {bind : AV → List (Str × AV) → List (Str × AV)} {b : AV} {items : List AV} {Γ : List (Str × AV)} {σ₀ σ₁ σ : List AObj} {q : Option (List T × List Str)}
    (st : SJ G env d (bind b Γ) σ₀ (execs body env) .next Γ σ₁) (h : WLoop G env d body bind items Γ σ₁ σ q) : WLoop G env d body bind (b :: items) Γ σ₀ σ q := by
  cases q with
  | none =>
    obtain ⟨Γ₁, junk, hh⟩ := h
    exact ⟨Γ₁, junk, .step st (.inl rfl) hh⟩
  | some p =>
    obtain ⟨rs', seen'⟩ := p
    exact ⟨.step st (.inl rfl) h.1, h.2⟩

theorem inner_loop {G : Glo} {env : Env} {d : Nat} {body : List Stmt} {σ : List AObj} {Γ : List (Str × AV)} {name : Str} {kvs : Tab} (hk : kvs.small = true)
    (hit : ∀ (rs : List T) (seen : List Str), ∃ Γ₁ junk, SJ G env d (upd Γ "late" (.str name)) (σ ++ [AObj.list (stack rs), AObj.sdict (trues seen)]) (execs body env) (.ret (.bool true)) Γ₁ (σ ++ junk))
    (new : ∀ (rs : List T) (seen : List Str) (late : Str) (u : T), okS late = true → late ≠ name → lookT kvs late = some u → late ∉ seen → rs.length < 1000 → seen.length < 1000 → SJ G env d (upd Γ "late" (.str late)) (σ ++ [AObj.list (stack rs), AObj.sdict (trues seen)]) (execs body env) .next Γ (σ ++ [AObj.list (stack (u :: rs)), AObj.sdict (trues (seen ++ [late]))]))
    (old : ∀ (rs : List T) (seen : List Str) (late : Str), okS late = true → late ≠ name → (lookT kvs late = none ∨ late ∈ seen) → SJ G env d (upd Γ "late" (.str late)) (σ ++ [AObj.list (stack rs), AObj.sdict (trues seen)]) (execs body env) .next Γ (σ ++ [AObj.list (stack rs), AObj.sdict (trues seen)])) :
    ∀ (vs : List Str) (rs : List T) (seen : List Str), (∀ v ∈ vs, okS v = true) → (∀ t ∈ rs, t.small = true) → rs.length + vs.length ≤ 1000 → seen.length + vs.length ≤ 1000 →
      WLoop G env d body (fun b Γ => upd Γ "late" b) (vs.map .str) Γ (σ ++ [AObj.list (stack rs), AObj.sdict (trues seen)]) σ (innerW name kvs vs rs seen)
  | [], rs, seen, _, hs, _, _ => by rw [innerW]; exact ⟨.nil, hs⟩
  | late :: r, rs, seen, hv, hs, h1, h2 => by
    simp only [List.length_cons] at h1 h2
    have hv' := fun v hv' => hv v (List.mem_cons_of_mem _ hv')
    rw [innerW]
    by_cases he : late = name
    · rw [if_pos he]
      obtain ⟨Γ₁, junk, hh⟩ := hit rs seen
      exact ⟨Γ₁, junk, .back (he ▸ hh)⟩
    · rw [if_neg he]
      cases hl : lookT kvs late with
      | none => exact WLoop.step (old rs seen late (hv late (.head _)) he (.inl hl)) (inner_loop hk hit new old r rs seen hv' hs (by lia) (by lia))
      | some u =>
        dsimp only
        by_cases hm : late ∈ seen
        · rw [if_pos hm]
          exact WLoop.step (old rs seen late (hv late (.head _)) he (.inr hm)) (inner_loop hk hit new old r rs seen hv' hs (by lia) (by lia))
        · rw [if_neg hm]
          exact WLoop.step (new rs seen late u (hv late (.head _)) he hl hm (by lia) (by lia)) (inner_loop hk hit new old r (u :: rs) (seen ++ [late]) hv' (fun t ht => by
            rcases List.mem_cons.mp ht with rfl | ht
            · exact lookT_small hk hl
            · exact hs t ht) (by simp; lia) (by simp; lia))

theorem outer_loop {G : Glo} {env : Env} {d : Nat} {test : Expr} {body : List Stmt} {σ : List AObj} {Γ : List (Str × AV)} {name : Str} {kvs : Tab}
    (hF : ∀ seen, TJ G env d Γ (σ ++ [AObj.list (stack []), AObj.sdict (trues seen)]) (isTrue test env (eval test env)) false (σ ++ [AObj.list (stack []), AObj.sdict (trues seen)]))
    (hT : ∀ (t : T) (rs : List T) (seen : List Str), rs.length + 64 ≤ 1000 → TJ G env d Γ (σ ++ [AObj.list (stack (t :: rs)), AObj.sdict (trues seen)]) (isTrue test env (eval test env)) true (σ ++ [AObj.list (stack (t :: rs)), AObj.sdict (trues seen)]))
    (hB : ∀ (t : T) (rs : List T) (seen : List Str), t.small = true → (∀ q ∈ rs, q.small = true) → rs.length + 64 ≤ 1000 → seen.length + 64 ≤ 1000 →
      WBody G env d Γ (σ ++ [AObj.list (stack (t :: rs)), AObj.sdict (trues seen)]) (execs body env) σ (innerW name kvs (varsS t) rs seen)) :
    ∀ (n : Nat) (rs : List T) (seen : List Str) (b : Bool), withinP name kvs n rs seen = some b → (∀ t ∈ rs, t.small = true) →
      ∃ Γ₁ junk, WR G env d test body n Γ (σ ++ [AObj.list (stack rs), AObj.sdict (trues seen)]) (if b then .ret (.bool true) else .next) Γ₁ (σ ++ junk)
  | 0, rs, seen, b, h, _ => by rw [withinP] at h; cases h
  | n + 1, [], seen, b, h, _ => by
    rw [withinP] at h; cases h
    exact ⟨Γ, _, .done (hF seen)⟩
  | n + 1, t :: rs, seen, b, h, hs => by
    rw [withinP] at h
    split at h
    · rename_i hb
      have hh := hB t rs seen (hs t (.head _)) (fun q hq => hs q (.tail _ hq)) hb.1 hb.2
      cases e : innerW name kvs (varsS t) rs seen with
      | none =>
        rw [e] at h hh
        cases h
        obtain ⟨Γ₁, junk, hj⟩ := hh
        exact ⟨Γ₁, junk, .back (hT t rs seen hb.1) hj⟩
      | some q =>
        obtain ⟨rs', seen'⟩ := q
        rw [e] at h hh
        obtain ⟨Γ₁, junk, hj⟩ := outer_loop hF hT hB n rs' seen' b h hh.2
        exact ⟨Γ₁, junk, .step (hT t rs seen hb.1) hh.1 (.inl rfl) hj⟩
    · cases h

theorem body_for {G : Glo} {env : Env} {d : Nat} {iter target : Expr} {body : List Stmt} {pos : Pos} {σ : List AObj} {Γ : List (Str × AV)} {name : Str} {kvs : Tab} {vs : List Str} {rs : List T} {seen : List Str} {σ₀ : List AObj} {bind : AV → List (Str × AV) → List (Str × AV)}
    (h1 : ItT G env d Γ σ₀ (eval iter env) target (vs.map AV.str) bind (σ ++ [AObj.list (stack rs), AObj.sdict (trues seen)]))
    (h2 : WLoop G env d body bind (vs.map AV.str) Γ (σ ++ [AObj.list (stack rs), AObj.sdict (trues seen)]) σ (innerW name kvs vs rs seen))
    (hs : ∀ x, foldedSetIterable iter env x = pure x := by intro _; rfl) :
    WBody G env d Γ σ₀ (execs [.For target iter body [] pos] env) σ (innerW name kvs vs rs seen) := by
  cases e : innerW name kvs vs rs seen with
  | none =>
    rw [e] at h2
    obtain ⟨Γ₁, junk, h⟩ := h2
    exact ⟨Γ₁, junk, SJ.last (SJ.for h1 h hs)⟩
  | some p =>
    obtain ⟨rs', seen'⟩ := p
    rw [e] at h2
    exact ⟨SJ.last (SJ.for h1 h2.1 hs), h2.2⟩

theorem at0 {σ : List AObj} {a b : AObj} {n : Nat} (h : n = σ.length) : (σ ++ [a, b])[n]? = some a := by subst h; simp
theorem at1 {σ : List AObj} {a b : AObj} {n : Nat} (h : n = σ.length + 1) : (σ ++ [a, b])[n]? = some b := by subst h; simp
theorem set0 {σ : List AObj} {a b c : AObj} {n : Nat} (h : n = σ.length) : (σ ++ [a, b]).set n c = σ ++ [c, b] := by subst h; simp
theorem set1 {σ : List AObj} {a b c : AObj} {n : Nat} (h : n = σ.length + 1) : (σ ++ [a, b]).set n c = σ ++ [a, c] := by subst h; simp
theorem atL {σ : List AObj} {o : AObj} {i : Nat} {junk : List AObj} (h : σ[i]? = some o) : (σ ++ junk)[i]? = some o := by
  rw [List.getElem?_append_left (List.getElem?_eq_some_iff.mp h).1]; exact h
theorem closed2 {σ : List AObj} {a b : AObj} (h : ∀ o ∈ σ, o.lt σ.length = true) (ha : a.lt (σ.length + 2) = true) (hb : b.lt (σ.length + 2) = true) : ∀ o ∈ σ ++ [a, b], AObj.lt (σ ++ [a, b]).length o = true := by
  have hlen : (σ ++ [a, b]).length = σ.length + 2 := by simp
  intro o ho
  rw [hlen]
  rcases List.mem_append.mp ho with ho | ho
  · have := h o ho
    cases o with
    | list l => exact AV.lts_mono (Nat.le_add_right _ _) this
    | sdict l => exact AV.lts_mono (Nat.le_add_right _ _) this
    | tdict l => simp only [AObj.lt] at this ⊢
  · rcases List.mem_cons.mp ho with rfl | ho
    · exact ha
    · rw [List.mem_singleton.mp ho]; exact hb
theorem trues_lt (n : Nat) (l : List Str) : AObj.lt n (AObj.sdict (trues l)) = true := by
  show AV.lts n ((trues l).map (·.2)) = true
  rw [AV.lts_iff]; intro x hx
  obtain ⟨p, hp, rfl⟩ := List.mem_map.mp hx
  obtain ⟨s, _, rfl⟩ := List.mem_map.mp hp
  rfl
theorem okS_flat {s : Str} (h : okS s = true) : AV.flat (.str s) = true := by simp only [okS, Bool.and_eq_true] at h; exact h.1.2
theorem strs_lt (n : Nat) (l : List Str) : AV.lts n (l.map .str) = true := by
  rw [AV.lts_iff]; intro x hx; obtain ⟨s, _, rfl⟩ := List.mem_map.mp hx; rfl
end Mine
end
section
open PySem PySem.W PyProof.Rows
set_option linter.unusedVariables false
set_option linter.unusedSimpArgs false
set_option maxRecDepth 100000
namespace Mine
section
variable {G : Glo} (X : Fns G)
include X

theorem c_within {kvs : Tab} (hk : kvs.small = true) {σ : List AObj} {i : Nat} (hi : σ[i]? = some (AObj.sdict kvs.av)) {nm : Str} (hnm : okS nm = true) {pt : T} (ht : pt.small = true) {n : Nat} {b : Bool} (hw : withinP nm kvs n [pt] [] = some b) :
    CallJ G 7 X.within.a [.str nm, pt.av, .ref i] σ (.bool b) σ := by
  refine CallJ.mkE X.T.ok X.within.F rfl (fun hσ ha L => ?_) (fun hσ ha => ⟨hσ, rfl, Nat.le_refl _⟩)
  have flat : ∀ {s : Str}, okS s = true → AV.flat (.str s) = true := fun h => by simp only [okS, Bool.and_eq_true] at h; exact h.1.2
  show SJE _ _ _ _ _ _ _ _
  refine SJE.cons (SJ.swap2 (u := .ref σ.length) (v := .ref (σ.length + 1)) (σ₁ := σ ++ [AObj.list (stack [pt]), AObj.sdict (trues [])]) (EJ.mkTuple (EsJ.cons (EJ.mkList (EsJ.cons EJ.var EsJ.nil)) (EsJ.cons ((EJ.dict0S.is (by simp)).st (by simp [stack, trues])) EsJ.nil)))) ?_
  have hs : ∀ q ∈ [pt], q.small = true := fun q hq => by rw [List.mem_singleton.mp hq]; exact ht
  refine SJE.whileB (k := n) (outer_loop (name := nm) (kvs := kvs) ?_ ?_ ?_ n [pt] [] b hw hs) (fun Γ₁ junk => SJE.of (SJ.last (SJ.ret EJ.cBool)) rfl)
  · intro seen
    exact (TJ.cmp (EJ.callB X.T.ok X.m rfl (EsJ.cons EJ.var EsJ.nil) (OJ.lenL (at0 (a := AObj.list (stack [])) rfl) (by simp [stack]))) EJ.cInt O2.gtI).is (by simp [stack])
  · intro t rs seen hb
    exact (TJ.cmp (EJ.callB X.T.ok X.m rfl (EsJ.cons EJ.var EsJ.nil) (OJ.lenL (at0 (a := AObj.list (stack (t :: rs))) rfl) (by simp [stack]; lia))) EJ.cInt O2.gtI).is (by simp [stack])
  · intro t rs seen h1 h2 h3 h4
    obtain ⟨hv1, hv2⟩ := varsS_ok h1
    obtain ⟨g1, g2, g3⟩ := T.small_iff.mp h1
    refine body_for (ItJ.name (ItJ.list (EJ.callF X.vars.F X.T.ok (EsJ.cons (EJ.st (EJ.pop (i := σ.length) (l := stack rs) (v := t.av) EJ.var (by rw [← stack_cons]; exact at0 rfl) (by simp [stack]; lia)) (set0 rfl)) EsJ.nil) ((c_vars X 4 t g2 (by lia) g1 g3 _).mono (by lia))) (strs_lt _ _) (fun _ => closed2 hσ (stack_lt _ _) (trues_lt _ _)) (by simp))) (inner_loop hk ?_ ?_ ?_ (varsS t) rs seen hv1 h2 (by lia) (by lia))
    · intro rs seen
      exact ⟨_, _, SJ.stop (SJ.ifT (TJ.is (TJ.cmp EJ.var EJ.var (O2.eq (okS_flat hnm) (okS_flat hnm) (Nat.le_of_ble_eq_true rfl))) (by simp)) (SJ.last (SJ.ret EJ.cBool)))⟩
    · intro rs seen late u hl1 hl2 hl3 hl4 hl5 hl6
      have hj : (σ ++ [AObj.list (stack rs), AObj.sdict (trues seen)])[i]? = some (AObj.sdict kvs.av) := atL hi
      refine SJ.cons (SJ.ifF (TJ.is (TJ.cmp EJ.var EJ.var (O2.eq (okS_flat hl1) (okS_flat hnm) (Nat.le_of_ble_eq_true rfl))) (by simpa using hl2)) SJ.nil) ?_
      refine SJ.weaken (Γ₁ := upd [("name", .str nm), ("pattern", pt.av), ("table", .ref i), ("seen", .ref (σ.length + 1)), ("waiting", .ref σ.length)] "late" (.str late)) (SJ.last (SJ.ifT (TJ.boolOp (TJ.and2 (b := true) (c := true) (TJ.is (TJ.cmp EJ.var EJ.var (O2.inD X.T.ok hj)) (by rw [look_av, hl3]; rfl)) (fun _ => TJ.is (TJ.cmp EJ.var EJ.var (O2.notInD X.T.ok (at1 rfl))) (by rw [look_trues]; simp [hl4])))) ?_)) ?_
      · refine SJ.cons (SJ.setSub (σ₄ := σ ++ [AObj.list (stack rs), AObj.sdict (trues (seen ++ [late]))]) EJ.cBool EJ.var EJ.var ?_) (SJ.last (SJ.expr (v := .none) ?_))
        · exact SetJ.st (SetJ.dict X.T.ok (at1 rfl) (by simp [trues]; lia)) (by rw [set1 rfl, put_trues hl4])
        · exact EJ.st (EJ.append (i := σ.length) (l := stack rs) (v := u.av) EJ.var ⟨_, at0 rfl⟩ (EJ.sub EJ.var EJ.var (Sub.dict (atL hi) (by rw [look_av, hl3]; rfl))) (at0 rfl) (by rw [stack_length]; lia)) (by rw [set0 rfl, stack_cons])
      · exact List.forall_mem_cons.mpr ⟨rfl, List.forall_mem_cons.mpr ⟨rfl, List.forall_mem_cons.mpr ⟨rfl, List.forall_mem_cons.mpr ⟨rfl, List.forall_mem_cons.mpr ⟨rfl, fun p hp => by cases hp⟩⟩⟩⟩⟩
    · intro rs seen late hl1 hl2 hl3
      have hj : (σ ++ [AObj.list (stack rs), AObj.sdict (trues seen)])[i]? = some (AObj.sdict kvs.av) := atL hi
      refine SJ.cons (SJ.ifF (TJ.is (TJ.cmp EJ.var EJ.var (O2.eq (okS_flat hl1) (okS_flat hnm) (Nat.le_of_ble_eq_true rfl))) (by simpa using hl2)) SJ.nil) ?_
      refine SJ.weaken (Γ₁ := upd [("name", .str nm), ("pattern", pt.av), ("table", .ref i), ("seen", .ref (σ.length + 1)), ("waiting", .ref σ.length)] "late" (.str late)) (SJ.last (SJ.ifF (TJ.is (TJ.boolOp (TJ.and2 (TJ.cmp EJ.var EJ.var (O2.inD X.T.ok hj)) (fun _ => TJ.cmp EJ.var EJ.var (O2.notInD X.T.ok (at1 rfl))))) ?_) SJ.nil)) ?_
      · rw [look_av, look_trues]
        rcases hl3 with h | h
        · rw [h]; rfl
        · simp [h]
      · exact List.forall_mem_cons.mpr ⟨rfl, List.forall_mem_cons.mpr ⟨rfl, List.forall_mem_cons.mpr ⟨rfl, List.forall_mem_cons.mpr ⟨rfl, List.forall_mem_cons.mpr ⟨rfl, fun p hp => by cases hp⟩⟩⟩⟩⟩
end
end Mine
end
section
open PySem PySem.W PyProof.Rows
set_option linter.unusedVariables false
set_option linter.unusedSimpArgs false
set_option maxRecDepth 100000
namespace Mine

mutual
theorem T.av_inj : ∀ {t u : T}, t.av = u.av → t = u
  | .nd f l, .nd g m, h => by
    rw [T.av, T.av] at h
    injection h with h
    injection h with h1 h2
    injection h1 with h1
    rw [h1, T.avs_inj h2]
theorem T.avs_inj : ∀ {l m : List T}, T.av.avs l = T.av.avs m → l = m
  | [], [], _ => rfl
  | [], _ :: _, h => by rw [T.av.avs, T.av.avs] at h; cases h
  | _ :: _, [], h => by rw [T.av.avs, T.av.avs] at h; cases h
  | x :: l, y :: m, h => by
    rw [T.av.avs, T.av.avs] at h
    injection h with h1 h2
    rw [T.av_inj h1, T.avs_inj h2]
end
noncomputable instance : DecidableEq T := fun t u => decidable_of_iff (t.av = u.av) ⟨T.av_inj, congrArg _⟩
theorem dec_av (t u : T) : decide (t.av = u.av) = decide (t = u) := by
  by_cases h : t = u
  · simp [h]
  · have : ¬ t.av = u.av := fun e => h (T.av_inj e)
    simp [h, this]

theorem okS_str {f : Str} (h : okS f = true) : PyData.strOk f = true := by
  have := okS_flat h
  exact this
theorem T.key : ∀ (n : Nat) (t : T), t.ok = true → t.hgt + 1 ≤ n → okKey n t.av = true
  | 0, t, _, hn => by lia
  | n + 1, .nd f l, hok, hn => by
    obtain ⟨h1, h2, h3⟩ := T.ok_nd hok
    rw [T.av_nd]
    simp only [okKey_tup, List.all_cons, List.all_map, Bool.and_eq_true]
    rw [T.hgt] at hn
    refine ⟨by cases n <;> exact okS_str h1, List.all_eq_true.mpr fun x hx => ?_⟩
    have := T.hgts_mem hx
    exact T.key n x (T.oks_mem h3 hx) (by lia)
noncomputable def T.fair (t : T) : Bool := t.ok && decide (t.hgt ≤ 4)
theorem T.fair_iff {t : T} : t.fair = true ↔ t.ok = true ∧ t.hgt ≤ 4 := by simp [T.fair]
theorem T.small_fair {t : T} (h : t.small = true) : t.fair = true := by
  rw [T.small_iff] at h; rw [T.fair_iff]; exact ⟨h.1, h.2.1⟩
theorem T.fair_flat {t : T} (h : t.fair = true) : AV.flat t.av = true ∧ depthA t.av ≤ 5 := okKey_flat 5 t.av (T.key 5 t (T.fair_iff.mp h).1 (by have := (T.fair_iff.mp h).2; lia))
theorem T.fair_kid {t x : T} (h : t.fair = true) (hx : x ∈ t.kids) : x.fair = true := by
  obtain ⟨f, l⟩ := t
  obtain ⟨h1, h2⟩ := T.fair_iff.mp h
  rw [T.hgt] at h2
  have := T.hgts_mem (show x ∈ l from hx)
  exact T.fair_iff.mpr ⟨T.oks_mem (T.ok_nd h1).2.2 hx, by lia⟩
theorem T.pair_key {t u : T} (h : t.fair = true) (k : u.fair = true) : okKey 8 (.tup [t.av, u.av]) = true := by
  have h' := T.fair_iff.mp h
  have k' := T.fair_iff.mp k
  simp only [okKey_tup, List.all_cons, List.all_nil, T.key 7 t h'.1 (by lia), T.key 7 u k'.1 (by lia), Bool.and_self]
theorem T.av_kids (t : T) : t.av = .tup (.str t.head :: t.kids.map T.av) := by cases t; exact T.av_nd _ _
theorem T.kids_len {t : T} (h : t.fair = true) : t.kids.length < 500 := by cases t; exact (T.ok_nd (T.fair_iff.mp h).1).2.1

noncomputable def pairAV (p : T × T) : AV := .tup [p.1.av, p.2.av]
theorem pairAV_mem {l : List (T × T)} {p : T × T} : (pairAV p ∈ l.map pairAV) ↔ p ∈ l := by
  constructor
  · intro h
    obtain ⟨q, hq, e⟩ := List.mem_map.mp h
    simp only [pairAV, AV.tup.injEq, List.cons.injEq, and_true] at e
    have : q = p := Prod.ext (T.av_inj e.1) (T.av_inj e.2)
    exact this ▸ hq
  · intro h; exact List.mem_map.mpr ⟨p, h, rfl⟩

noncomputable def putT (tab : Tab) (k : Str) (t : T) : Tab := if tab.any (fun kv => decide (kv.1 = k)) then tab.map (fun kv => if kv.1 = k then (kv.1, t) else kv) else tab ++ [(k, t)]
theorem putT_av (tab : Tab) (k : Str) (t : T) : put tab.av k t.av = (putT tab k t).av := by
  have e : tab.av.any (fun kv => decide (kv.1 = k)) = tab.any (fun kv => decide (kv.1 = k)) := by simp only [Tab.av, List.any_map]; rfl
  unfold put putT
  rw [e]
  split
  · simp only [Tab.av, List.map_map]
    refine List.map_congr_left fun x _ => ?_
    simp only [Function.comp]
    split <;> rfl
  · simp [Tab.av]
theorem putT_small {tab : Tab} {k : Str} {t : T} (h : tab.small = true) (ht : t.small = true) : (putT tab k t).small = true := by
  unfold putT
  refine List.all_eq_true.mpr fun p hp => ?_
  have h' := List.all_eq_true.mp h
  split at hp
  · obtain ⟨q, hq, rfl⟩ := List.mem_map.mp hp
    split
    · exact ht
    · exact h' q hq
  · rcases List.mem_append.mp hp with hp | hp
    · exact h' p hp
    · rw [List.mem_singleton.mp hp]; exact ht
theorem putT_len (tab : Tab) (k : Str) (t : T) : (putT tab k t).length ≤ tab.length + 1 := by
  unfold putT
  split <;> simp
theorem Tab.small_ok {tab : Tab} (h : tab.small = true) : tab.ok = true := List.all_eq_true.mpr fun p hp => (T.small_iff.mp (List.all_eq_true.mp h p hp)).1

structure BSt where
  tab : Tab
  rs : List (T × T)
  seen : List (T × T)
noncomputable def stepB (s : BSt) (h0 t0 : T) : Option (Option BSt) :=
  match followedT 100 s.tab h0, followedT 100 s.tab t0 with
  | some h, some t =>
    if (h, t) ∈ s.seen then some (some s)
    else
      let a := if isVar t && !isVar h then t else h
      let b := if isVar t && !isVar h then h else t
      let seen := s.seen ++ [(h, t)]
      if isVar a then
        if a = b then some (some ⟨s.tab, s.rs, seen⟩)
        else if b.small then
          (match withinP a.head s.tab 100 [b] [] with
            | none => none
            | some true => some none
            | some false => some (some ⟨putT s.tab a.head b, s.rs, seen⟩))
        else none
      else if a.head ≠ b.head ∨ a.kids.length ≠ b.kids.length then some none
      else some (some ⟨s.tab, (a.kids.zip b.kids).reverse ++ s.rs, seen⟩)
  | _, _ => none
noncomputable def begunP : Nat → BSt → Option (Option Tab)
  | 0, _ => none
  | n + 1, s => match s.rs with
    | [] => some (some s.tab)
    | (h0, t0) :: rs =>
      if rs.length ≤ 1000 ∧ s.seen.length ≤ 1000 ∧ s.tab.length ≤ 1000 then
        (match stepB ⟨s.tab, rs, s.seen⟩ h0 t0 with
          | none => none
          | some none => some none
          | some (some s') => begunP n s')
      else none
noncomputable def stack2 (rs : List (T × T)) : List AV := rs.reverse.map pairAV
noncomputable def BSt.objs (s : BSt) : List AObj := [AObj.sdict s.tab.av, AObj.list (stack2 s.rs), AObj.tdict (s.seen.map pairAV)]
structure BSt.Good (s : BSt) : Prop where
  tab : s.tab.small = true
  rs : ∀ p ∈ s.rs, p.1.fair = true ∧ p.2.fair = true

theorem followedT_fair {kvs : Tab} (hk : kvs.small = true) : ∀ {n : Nat} {t u : T}, t.fair = true → followedT n kvs t = some u → u.fair = true
  | 0, t, u, _, h => by rw [followedT] at h; cases h
  | n + 1, t, u, ht, h => by
    rw [followedT] at h
    split at h
    · split at h
      · rename_i v e
        exact followedT_fair hk (T.small_fair (lookT_small hk e)) h
      · cases h; exact ht
    · cases h; exact ht

/-- a step of begun, as the walk shows it -/
noncomputable def BBody (G : Glo) (env : Env) (d : Nat) (Γ Γe : List (Str × AV)) (σ₀ : List AObj) (t : Sem Flow) (σ : List AObj) (q : Option (Option BSt)) : Prop :=
  match q with
  | none => True
  | some none => ∃ Γ₁ junk, SJ G env d Γ σ₀ t (.ret .none) Γ₁ (σ ++ junk)
  | some (some s) => ∃ g, (g = .next ∨ g = .cont) ∧ SJ G env d Γ σ₀ t g Γe (σ ++ s.objs) ∧ s.Good
section
variable {G : Glo} {env : Env} {d : Nat} {Γ Γ₁ Γe : List (Str × AV)} {σ₀ σ₁ σ : List AObj} {q : Option (Option BSt)}
theorem BBody.cons {st : Stmt} {rest : List Stmt} (h1 : SJ G env d Γ σ₀ (exec st env) .next Γ₁ σ₁) (h2 : BBody G env d Γ₁ Γe σ₁ (execs rest env) σ q) : BBody G env d Γ Γe σ₀ (execs (st :: rest) env) σ q := by
  match q, h2 with
  | none, _ => trivial
  | some none, ⟨Γ₂, junk, h⟩ => exact ⟨Γ₂, junk, SJ.cons h1 h⟩
  | some (some s), ⟨g, hg, h, hs⟩ => exact ⟨g, hg, SJ.cons h1 h, hs⟩
theorem BBody.last {st : Stmt} (h2 : BBody G env d Γ Γe σ₀ (exec st env) σ q) : BBody G env d Γ Γe σ₀ (execs [st] env) σ q := by
  match q, h2 with
  | none, _ => trivial
  | some none, ⟨Γ₂, junk, h⟩ => exact ⟨Γ₂, junk, SJ.last h⟩
  | some (some s), ⟨g, hg, h, hs⟩ => exact ⟨g, hg, SJ.last h, hs⟩
theorem BBody.ifT {t : Expr} {a b : List Stmt} {pos : Pos} (h1 : TJ G env d Γ σ₀ (isTrue t env (eval t env)) true σ₁) (h2 : BBody G env d Γ Γe σ₁ (execs a env) σ q) : BBody G env d Γ Γe σ₀ (exec (.If t a b pos) env) σ q := by
  match q, h2 with
  | none, _ => trivial
  | some none, ⟨Γ₂, junk, h⟩ => exact ⟨Γ₂, junk, SJ.ifT h1 h⟩
  | some (some s), ⟨g, hg, h, hs⟩ => exact ⟨g, hg, SJ.ifT h1 h, hs⟩
theorem BBody.ifF {t : Expr} {a b : List Stmt} {pos : Pos} (h1 : TJ G env d Γ σ₀ (isTrue t env (eval t env)) false σ₁) (h2 : BBody G env d Γ Γe σ₁ (execs b env) σ q) : BBody G env d Γ Γe σ₀ (exec (.If t a b pos) env) σ q := by
  match q, h2 with
  | none, _ => trivial
  | some none, ⟨Γ₂, junk, h⟩ => exact ⟨Γ₂, junk, SJ.ifF h1 h⟩
  | some (some s), ⟨g, hg, h, hs⟩ => exact ⟨g, hg, SJ.ifF h1 h, hs⟩
end

noncomputable def qV (n : Nat) : Option Tab → AV
  | none => .none
  | some _ => .ref n
noncomputable def qS (σ : List AObj) : Option Tab → List AObj
  | none => σ
  | some tab => σ ++ [AObj.sdict tab.av]
noncomputable def BDone (G : Glo) (env : Env) (d : Nat) (test : Expr) (body : List Stmt) (n : Nat) (Γ : List (Str × AV)) (σ₀ σ : List AObj) (q : Option Tab) : Prop :=
  match q with
  | none => ∃ Γ₁ junk, WR G env d test body n Γ σ₀ (.ret .none) Γ₁ (σ ++ junk)
  | some tab => tab.small = true ∧ ∃ junk, WR G env d test body n Γ σ₀ .next Γ (σ ++ [AObj.sdict tab.av] ++ junk)
theorem SJE.whileQ {G : Glo} {env : Env} {d : Nat} {Γ : List (Str × AV)} {σ₀ σ : List AObj} {test : Expr} {body rest : List Stmt} {pos : Pos} {k : Nat} {q : Option Tab} (h1 : BDone G env d test body k Γ σ₀ σ q)
    (h2 : ∀ (tab : Tab) (junk : List AObj), tab.small = true → SJE G env d Γ (σ ++ [AObj.sdict tab.av] ++ junk) (execs rest env) (.ref σ.length) (σ ++ [AObj.sdict tab.av])) : SJE G env d Γ σ₀ (execs (.While test body [] pos :: rest) env) (qV σ.length q) (qS σ q) := by
  cases q with
  | none =>
    obtain ⟨Γ₁, junk, h⟩ := h1
    exact ⟨Γ₁, junk, SJ.stop (SJ.while h)⟩
  | some tab =>
    obtain ⟨hs, junk, h⟩ := h1
    exact SJE.cons (SJ.while h) (h2 tab junk hs)

theorem begun_loop {G : Glo} {env : Env} {d : Nat} {test : Expr} {body : List Stmt} {σ : List AObj} {Γ : List (Str × AV)}
    (hF : ∀ tab seen, TJ G env d Γ (σ ++ (BSt.mk tab [] seen).objs) (isTrue test env (eval test env)) false (σ ++ (BSt.mk tab [] seen).objs))
    (hT : ∀ tab (p : T × T) (rs : List (T × T)) seen, rs.length ≤ 1000 → TJ G env d Γ (σ ++ (BSt.mk tab (p :: rs) seen).objs) (isTrue test env (eval test env)) true (σ ++ (BSt.mk tab (p :: rs) seen).objs))
    (hB : ∀ (s : BSt) (h0 t0 : T), s.Good → h0.fair = true → t0.fair = true → s.rs.length ≤ 1000 → s.seen.length ≤ 1000 → s.tab.length ≤ 1000 →
      BBody G env d Γ Γ (σ ++ (BSt.mk s.tab ((h0, t0) :: s.rs) s.seen).objs) (execs body env) σ (stepB s h0 t0)) :
    ∀ (n : Nat) (s : BSt) (q : Option Tab), begunP n s = some q → s.Good →
      BDone G env d test body n Γ (σ ++ s.objs) σ q
  | 0, s, q, h, _ => by rw [begunP] at h; cases h
  | n + 1, ⟨tab, [], seen⟩, q, h, hg => by
    rw [begunP] at h
    simp only [Option.some.injEq] at h
    subst h
    exact ⟨hg.tab, _, by rw [List.append_assoc]; exact .done (hF tab seen)⟩
  | n + 1, ⟨tab, (h0, t0) :: rs, seen⟩, q, h, hg => by
    rw [begunP] at h
    dsimp only at h
    split at h
    · rename_i hb
      have hp := hg.rs (h0, t0) (.head _)
      have hh := hB ⟨tab, rs, seen⟩ h0 t0 ⟨hg.tab, fun p hp => hg.rs p (.tail _ hp)⟩ hp.1 hp.2 hb.1 hb.2.1 hb.2.2
      have ht := hT tab (h0, t0) rs seen hb.1
      cases e : stepB ⟨tab, rs, seen⟩ h0 t0 with
      | none => rw [e] at h; cases h
      | some r =>
        rw [e] at h hh
        cases r with
        | none =>
          cases h
          obtain ⟨Γ₁, junk, hj⟩ := hh
          exact ⟨Γ₁, junk, .back ht hj⟩
        | some s' =>
          obtain ⟨g, hgf, hj, hg'⟩ := hh
          have ih := begun_loop hF hT hB n s' q h hg'
          cases q with
          | none =>
            obtain ⟨Γ₁, junk, hw⟩ := ih
            exact ⟨Γ₁, junk, .step ht hj hgf hw⟩
          | some tab' =>
            obtain ⟨h1, junk, hw⟩ := ih
            exact ⟨h1, junk, .step ht hj hgf hw⟩
    · cases h
end Mine
end
section
open PySem PySem.W PyProof.Rows
set_option linter.unusedVariables false
set_option linter.unusedSimpArgs false
set_option maxRecDepth 100000
namespace Mine
theorem ix0 {σ : List AObj} {a b c : AObj} {n : Nat} (h : n = σ.length) : (σ ++ [a, b, c])[n]? = some a := by subst h; simp
theorem ix1 {σ : List AObj} {a b c : AObj} {n : Nat} (h : n = σ.length + 1) : (σ ++ [a, b, c])[n]? = some b := by subst h; simp
theorem ix2 {σ : List AObj} {a b c : AObj} {n : Nat} (h : n = σ.length + 2) : (σ ++ [a, b, c])[n]? = some c := by subst h; simp
theorem st0 {σ : List AObj} {a b c x : AObj} {n : Nat} (h : n = σ.length) : (σ ++ [a, b, c]).set n x = σ ++ [x, b, c] := by subst h; simp
theorem st1 {σ : List AObj} {a b c x : AObj} {n : Nat} (h : n = σ.length + 1) : (σ ++ [a, b, c]).set n x = σ ++ [a, x, c] := by subst h; simp
theorem st2 {σ : List AObj} {a b c x : AObj} {n : Nat} (h : n = σ.length + 2) : (σ ++ [a, b, c]).set n x = σ ++ [a, b, x] := by subst h; simp
theorem stack2_cons (p : T × T) (rs : List (T × T)) : stack2 (p :: rs) = stack2 rs ++ [pairAV p] := by simp [stack2]
theorem stack2_length (rs : List (T × T)) : (stack2 rs).length = rs.length := by simp [stack2]
theorem zip_av : ∀ (l m : List T), (((l.map T.av).zip (m.map T.av)).map fun q => AV.tup [q.1, q.2]) = (l.zip m).map pairAV
  | [], _ => rfl
  | _ :: _, [] => rfl
  | x :: l, y :: m => by
    simp only [List.map_cons, List.zip_cons_cons]
    rw [zip_av l m]; rfl
theorem stack2_zip (l m : List T) (rs : List (T × T)) : stack2 rs ++ (((l.map T.av).zip (m.map T.av)).map fun q => AV.tup [q.1, q.2]) = stack2 ((l.zip m).reverse ++ rs) := by
  rw [zip_av]; simp [stack2]

section
variable {G : Glo} (X : Fns G)
include X
theorem ej_isvar {env : Env} {d : Nat} {Γ : List (Str × AV)} {σ : List AObj} {t : T} (hf : t.fair = true) {e : Expr} {p pos : Pos} (he : EJ G env (d + 1) Γ σ (eval e env) t.av σ) (hx : env.kindOf "is_variable" = some .globalImplicit := by rfl)
    (hh : starEach [e] env = (false, eval e env) :: starEach [] env := by rfl) (hpl : (backTo pos (starEach [] env)).any (·.1) = false := by rfl) :
    EJ G env (d + 1) Γ σ (eval (.Call (.Name "is_variable" p) [e] [] pos) env) (.bool (isVar t)) σ := tj_isvar X (T.fair_iff.mp hf).1 he hx hh hpl


noncomputable def begunBody : List Stmt := inB (df 13).body 1
noncomputable def restB (s1 : BSt) (a b : T) : Option (Option BSt) :=
  if isVar a then
    if a = b then some (some s1)
    else if b.small then
      (match withinP a.head s1.tab 100 [b] [] with
        | none => none
        | some true => some none
        | some false => some (some ⟨putT s1.tab a.head b, s1.rs, s1.seen⟩))
    else none
  else if a.head ≠ b.head ∨ a.kids.length ≠ b.kids.length then some none
  else some (some ⟨s1.tab, (a.kids.zip b.kids).reverse ++ s1.rs, s1.seen⟩)

theorem begun_tail {σ : List AObj} {L : Addr} {u v : AV} {s1 : BSt} {a b : T} (hg : s1.Good) (fa : a.fair = true) (fb : b.fair = true) (b1 : s1.rs.length ≤ 1000) (b3 : s1.tab.length ≤ 1000) :
    BBody G (callE (fdOf 13 X.begun.pm X.begun.code X.begun.doc) L X.begun.a) 8 [("one", u), ("other", v), ("seen", .ref (σ.length + 2)), ("waiting", .ref (σ.length + 1)), ("table", .ref σ.length), ("here", a.av), ("there", b.av)]
      [("one", u), ("other", v), ("seen", .ref (σ.length + 2)), ("waiting", .ref (σ.length + 1)), ("table", .ref σ.length)] (σ ++ s1.objs) (execs (begunBody.drop 5) (callE (fdOf 13 X.begun.pm X.begun.code X.begun.doc) L X.begun.a)) σ (restB s1 a b) := by
  have hi : (σ ++ [AObj.sdict s1.tab.av, AObj.list (stack2 s1.rs), AObj.tdict (s1.seen.map pairAV)])[σ.length]? = some (AObj.sdict s1.tab.av) := ix0 rfl
  have fla := T.fair_flat fa
  have flb := T.fair_flat fb
  have oka := (T.fair_iff.mp fa).1
  have okb := (T.fair_iff.mp fb).1
  have wk : ∀ p ∈ ([("one", u), ("other", v), ("seen", .ref (σ.length + 2)), ("waiting", .ref (σ.length + 1)), ("table", .ref σ.length)] : List (Str × AV)), ([("one", u), ("other", v), ("seen", .ref (σ.length + 2)), ("waiting", .ref (σ.length + 1)), ("table", .ref σ.length), ("here", a.av), ("there", b.av)] : List (Str × AV)).lookup p.1 = some p.2 :=
    List.forall_mem_cons.mpr ⟨rfl, List.forall_mem_cons.mpr ⟨rfl, List.forall_mem_cons.mpr ⟨rfl, List.forall_mem_cons.mpr ⟨rfl, List.forall_mem_cons.mpr ⟨rfl, fun p hp => by cases hp⟩⟩⟩⟩⟩
  have dm : min (depthA a.av) (depthA b.av) ≤ 300 := Nat.le_trans (Nat.min_le_right _ _) (by lia)
  have nee : (!decide (a.av = b.av)) = !decide (a = b) := by rw [dec_av]
  unfold restB
  cases hv : isVar a with
  | true =>
    rw [if_pos rfl]
    refine BBody.last (BBody.ifT (TJ.is (TJ.val (ej_isvar X fa EJ.var) B1.bool) hv) ?_)
    by_cases hab : a = b
    · rw [if_pos hab]
      have ne0 : (!decide (a.av = b.av)) = false := by rw [nee]; simp [hab]
      exact BBody.cons (SJ.ifF (TJ.boolOp (TJ.and2 (c := true) (TJ.is (TJ.cmp EJ.var EJ.var (O2.ne fla.1 flb.1 dm)) ne0) (fun h => nomatch h))) SJ.nil)
        ⟨.next, .inl rfl, SJ.weaken (SJ.last (SJ.ifF (TJ.is (TJ.cmp EJ.var EJ.var (O2.ne fla.1 flb.1 dm)) ne0) SJ.nil)) wk, hg⟩
    · rw [if_neg hab]
      have ne1 : (!decide (a.av = b.av)) = true := by rw [nee]; simp [hab]
      by_cases hs : b.small = true
      · rw [if_pos hs]
        cases hw : withinP a.head s1.tab 100 [b] [] with
        | none => trivial
        | some r =>
          have hcall := (c_within X hg.tab hi (T.ok_head oka) hs hw).mono (show 7 ≤ 8 by lia)
          cases r with
          | true =>
            exact ⟨_, _, SJ.stop (SJ.ifT (TJ.boolOp (TJ.and2 (b := true) (c := true) (TJ.is (TJ.cmp EJ.var EJ.var (O2.ne fla.1 flb.1 dm)) ne1) (fun _ => TJ.val (EJ.callF X.within.F X.T.ok (EsJ.cons (ej_head X EJ.var oka) (EsJ.cons EJ.var (EsJ.cons EJ.var EsJ.nil))) hcall) B1.bool))) (SJ.last (SJ.ret EJ.cNone)))⟩
          | false =>
            refine BBody.cons (SJ.ifF (TJ.boolOp (TJ.and2 (b := true) (c := false) (TJ.is (TJ.cmp EJ.var EJ.var (O2.ne fla.1 flb.1 dm)) ne1) (fun _ => TJ.val (EJ.callF X.within.F X.T.ok (EsJ.cons (ej_head X EJ.var oka) (EsJ.cons EJ.var (EsJ.cons EJ.var EsJ.nil))) hcall) B1.bool))) SJ.nil) ?_
            refine ⟨.next, .inl rfl, SJ.weaken (SJ.last (SJ.ifT (TJ.is (TJ.cmp EJ.var EJ.var (O2.ne fla.1 flb.1 dm)) ne1) (SJ.last (SJ.setSub EJ.var EJ.var (ej_head X EJ.var oka) (SetJ.st (SetJ.dict X.T.ok (ix0 rfl) (by simp [Tab.av]; lia)) ?_))))) wk, ⟨putT_small hg.tab hs, hg.rs⟩⟩
            exact (st0 (by rfl)).trans (by rw [putT_av]; rfl)
      · rw [if_neg hs]; trivial
  | false =>
    rw [if_neg (by decide)]
    refine BBody.last (BBody.ifF (TJ.is (TJ.val (ej_isvar X fa EJ.var) B1.bool) hv) (BBody.last ?_))
    have la := T.kids_len fa
    have lb := T.kids_len fb
    have test : ∀ c : Bool, decide (a.head ≠ b.head ∨ a.kids.length ≠ b.kids.length) = c → ((!decide (AV.str a.head = AV.str b.head)) || !decide (AV.int ((AV.str a.head :: a.kids.map T.av).length : Int) = AV.int ((AV.str b.head :: b.kids.map T.av).length : Int))) = c := by
      intro c hc
      rw [← hc]
      have e1 : decide (AV.str a.head = AV.str b.head) = decide (a.head = b.head) := by
        by_cases h : a.head = b.head
        · simp [h]
        · have : ¬ AV.str a.head = AV.str b.head := fun q => h (AV.str.inj q)
          simp [h, this]
      have e2 : decide (AV.int ((AV.str a.head :: a.kids.map T.av).length : Int) = AV.int ((AV.str b.head :: b.kids.map T.av).length : Int)) = decide (a.kids.length = b.kids.length) := by
        simp only [List.length_cons, List.length_map]
        by_cases h : a.kids.length = b.kids.length
        · simp [h]
        · have : ¬ AV.int ((a.kids.length + 1 : Nat) : Int) = AV.int ((b.kids.length + 1 : Nat) : Int) := fun q => h (by have := AV.int.inj q; lia)
          simp only [this, h, decide_false]
      rw [e1, e2]
      by_cases h1 : a.head = b.head <;> by_cases h2 : a.kids.length = b.kids.length <;> simp [h1, h2]
    by_cases hc : a.head ≠ b.head ∨ a.kids.length ≠ b.kids.length
    · rw [if_pos hc]
      exact BBody.ifT (TJ.is (TJ.boolOp (TJ.or2 (TJ.cmp (ej_head X EJ.var oka) (ej_head X EJ.var okb) (O2.ne (okS_flat (T.ok_head oka)) (okS_flat (T.ok_head okb)) (Nat.le_of_ble_eq_true rfl))) (fun _ => TJ.cmp (EJ.callB X.T.ok X.m rfl (EsJ.cons (EJ.is EJ.var (T.av_kids a)) EsJ.nil) (OJ.lenT (by simp; lia))) (EJ.callB X.T.ok X.m rfl (EsJ.cons (EJ.is EJ.var (T.av_kids b)) EsJ.nil) (OJ.lenT (by simp; lia))) (O2.ne rfl rfl (Nat.le_of_ble_eq_true rfl))))) (test true (by simp [hc]))) ⟨_, _, SJ.last (SJ.ret EJ.cNone)⟩
    · rw [if_neg hc]
      refine BBody.ifF (TJ.is (TJ.boolOp (TJ.or2 (TJ.cmp (ej_head X EJ.var oka) (ej_head X EJ.var okb) (O2.ne (okS_flat (T.ok_head oka)) (okS_flat (T.ok_head okb)) (Nat.le_of_ble_eq_true rfl))) (fun _ => TJ.cmp (EJ.callB X.T.ok X.m rfl (EsJ.cons (EJ.is EJ.var (T.av_kids a)) EsJ.nil) (OJ.lenT (by simp; lia))) (EJ.callB X.T.ok X.m rfl (EsJ.cons (EJ.is EJ.var (T.av_kids b)) EsJ.nil) (OJ.lenT (by simp; lia))) (O2.ne rfl rfl (Nat.le_of_ble_eq_true rfl))))) (test false (by simp [hc])))
        ⟨.next, .inl rfl, SJ.weaken (SJ.last (SJ.expr (v := .none) (EJ.st (EJ.extendZip X.T.ok (acc := stack2 s1.rs) (l := a.kids.map T.av) (m := b.kids.map T.av) X.m EJ.var (EJ.tail (x := .str a.head) (EJ.is EJ.var (T.av_kids a)) (by simp; lia)) (EJ.tail (x := .str b.head) (EJ.is EJ.var (T.av_kids b)) (by simp; lia)) (ix1 rfl) (by rw [stack2_length]; simp; lia) (by simpa using (not_or.mp hc).2)) ?_))) wk, ⟨hg.tab, fun p hp => ?_⟩⟩
      · rw [stack2_zip]; exact st1 (by rfl)
      · rcases List.mem_append.mp hp with hp | hp
        · have := List.of_mem_zip (List.mem_reverse.mp hp)
          exact ⟨T.fair_kid fa this.1, T.fair_kid fb this.2⟩
        · exact hg.rs p hp

theorem c_begun {σ : List AObj} {one other : T} (h1 : one.fair = true) (h2 : other.fair = true) {n : Nat} {q : Option Tab} (hb : begunP n ⟨[], [(one, other)], []⟩ = some q) :
    CallJ G 9 X.begun.a [one.av, other.av] σ (qV σ.length q) (qS σ q) := by
  refine CallJ.mkE X.T.ok X.begun.F rfl (fun hσ ha L => ?_) (fun hσ ha => ?_)
  · show SJE _ _ _ _ _ _ _ _
    refine SJE.cons (SJ.swap3 (u := .ref σ.length) (v := .ref (σ.length + 1)) (w := .ref (σ.length + 2)) (σ₁ := σ ++ (BSt.mk [] [(one, other)] []).objs) ?_) ?_
    · exact EJ.mkTuple (EsJ.cons EJ.dict0S (EsJ.cons (EJ.is (EJ.mkList (EsJ.cons (EJ.mkTuple (EsJ.cons EJ.var (EsJ.cons EJ.var EsJ.nil))) EsJ.nil)) (by simp)) (EsJ.cons (EJ.st (EJ.is EJ.dict0T (by simp)) (by simp [BSt.objs, stack2, pairAV, Tab.av])) EsJ.nil)))
    · refine SJE.whileQ (k := n) (begun_loop ?_ ?_ ?_ n ⟨[], [(one, other)], []⟩ q hb ⟨rfl, fun p hp => by rw [List.mem_singleton.mp hp]; exact ⟨h1, h2⟩⟩) (fun tab junk hs => SJE.of (junk := junk) (SJ.last (SJ.ret EJ.var)) rfl)
      · intro tab seen
        exact TJ.is (TJ.cmp (EJ.callB X.T.ok X.m rfl (EsJ.cons EJ.var EsJ.nil) (OJ.lenL (l := stack2 []) (ix1 rfl) (by simp [stack2]))) EJ.cInt O2.gtI) (by simp [stack2])
      · intro tab p rs seen hb
        exact TJ.is (TJ.cmp (EJ.callB X.T.ok X.m rfl (EsJ.cons EJ.var EsJ.nil) (OJ.lenL (l := stack2 (p :: rs)) (ix1 rfl) (by simp [stack2]; lia))) EJ.cInt O2.gtI) (by simp [stack2])
      · intro s h0 t0 hg f0 g0 b1 b2 b3
        have hi : (σ ++ [AObj.sdict s.tab.av, AObj.list (stack2 s.rs), AObj.tdict (s.seen.map pairAV)])[σ.length]? = some (AObj.sdict s.tab.av) := ix0 rfl
        unfold stepB
        cases e1 : followedT 100 s.tab h0 with
        | none => trivial
        | some h =>
          cases e2 : followedT 100 s.tab t0 with
          | none => trivial
          | some t =>
            have fh := followedT_fair hg.tab f0 e1
            have ft := followedT_fair hg.tab g0 e2
            dsimp only
            refine BBody.cons (SJ.unpack2 (u := h0.av) (v := t0.av) (EJ.st (EJ.pop (l := stack2 s.rs) (v := pairAV (h0, t0)) EJ.var (by rw [← stack2_cons]; exact ix1 rfl) (by rw [stack2_length]; lia)) (st1 rfl))) ?_
            refine BBody.cons (SJ.swap2 (u := h.av) (v := t.av) (EJ.mkTuple (EsJ.cons (EJ.callF X.followed.F X.T.ok (EsJ.cons EJ.var (EsJ.cons EJ.var EsJ.nil)) ((c_followed X (Tab.small_ok hg.tab) hi 100 h0 h (T.fair_iff.mp f0).1 e1).mono (by lia))) (EsJ.cons (EJ.callF X.followed.F X.T.ok (EsJ.cons EJ.var (EsJ.cons EJ.var EsJ.nil)) ((c_followed X (Tab.small_ok hg.tab) hi 100 t0 t (T.fair_iff.mp g0).1 e2).mono (by lia))) EsJ.nil)))) ?_
            by_cases hm : (h, t) ∈ s.seen
            · rw [if_pos hm]
              refine ⟨.cont, .inr rfl, SJ.weaken (SJ.stop (SJ.ifT (TJ.is (TJ.cmp (EJ.mkTuple (EsJ.cons EJ.var (EsJ.cons EJ.var EsJ.nil))) EJ.var (O2.inTD X.T.ok (ix2 rfl) (T.pair_key fh ft))) ?_) (SJ.last SJ.cont))) ?_, hg⟩
              · have : pairAV (h, t) ∈ s.seen.map pairAV := pairAV_mem.mpr hm
                simpa [pairAV] using this
              · exact List.forall_mem_cons.mpr ⟨rfl, List.forall_mem_cons.mpr ⟨rfl, List.forall_mem_cons.mpr ⟨rfl, List.forall_mem_cons.mpr ⟨rfl, List.forall_mem_cons.mpr ⟨rfl, fun p hp => by cases hp⟩⟩⟩⟩⟩
            · rw [if_neg hm]
              refine BBody.cons (SJ.ifF (TJ.is (TJ.cmp (EJ.mkTuple (EsJ.cons EJ.var (EsJ.cons EJ.var EsJ.nil))) EJ.var (O2.inTD X.T.ok (ix2 rfl) (T.pair_key fh ft))) ?_) SJ.nil) ?_
              · have : ¬ pairAV (h, t) ∈ s.seen.map pairAV := fun q => hm (pairAV_mem.mp q)
                exact decide_eq_false this
              refine BBody.cons (SJ.setSub (σ₄ := σ ++ [AObj.sdict s.tab.av, AObj.list (stack2 s.rs), AObj.tdict ((s.seen ++ [(h, t)]).map pairAV)]) EJ.cBool EJ.var (EJ.mkTuple (EsJ.cons EJ.var (EsJ.cons EJ.var EsJ.nil))) ?_) ?_
              · refine SetJ.st (SetJ.tdict X.T.ok (ix2 rfl) (T.pair_key fh ft) (by simp; lia)) ?_
                have : ¬ AV.tup [h.av, t.av] ∈ s.seen.map pairAV := fun q => hm (pairAV_mem.mp q)
                rw [st2 rfl, if_neg this, List.map_append]; rfl
              have hg' : (BSt.mk s.tab s.rs (s.seen ++ [(h, t)])).Good := ⟨hg.tab, hg.rs⟩
              cases hc : (isVar t && !isVar h) with
              | true =>
                refine BBody.cons (SJ.ifT (TJ.boolOp (TJ.is (TJ.and2 (TJ.val (ej_isvar X ft EJ.var) B1.bool) (fun _ => TJ.neg (TJ.val (ej_isvar X fh EJ.var) B1.bool))) hc)) (SJ.last (SJ.swap2 (u := t.av) (v := h.av) (EJ.mkTuple (EsJ.cons EJ.var (EsJ.cons EJ.var EsJ.nil)))))) ?_
                exact begun_tail X hg' ft fh b1 b3
              | false =>
                refine BBody.cons (SJ.ifF (TJ.boolOp (TJ.is (TJ.and2 (TJ.val (ej_isvar X ft EJ.var) B1.bool) (fun _ => TJ.neg (TJ.val (ej_isvar X fh EJ.var) B1.bool))) hc)) SJ.nil) ?_
                exact begun_tail X hg' fh ft b1 b3
  · refine ⟨?_, ?_, ?_⟩
    · cases q with
      | none => exact hσ
      | some tab =>
        refine closed_snoc hσ ?_
        show AV.lts _ (tab.av.map (·.2)) = true
        rw [AV.lts_iff]; intro x hx
        simp only [Tab.av, List.map_map] at hx
        obtain ⟨p, _, rfl⟩ := List.mem_map.mp hx
        exact T.av_lt _ _
    · cases q with
      | none => rfl
      | some tab => simp [qV, qS, AV.lt_none, AV.lt_bool, AV.lt_int, AV.lt_str, AV.lt_tup, AV.lt_ref]
    · cases q with
      | none => exact Nat.le_refl _
      | some tab => simp [qS]
end
end Mine
end
section
open PySem PySem.W PyProof.Rows
set_option linter.unusedVariables false
set_option linter.unusedSimpArgs false
set_option maxRecDepth 100000
namespace Mine

noncomputable def markAV (p : Str × Bool) : AV := .tup [.str p.1, .bool p.2]
noncomputable def stack3 (rs : List (Str × Bool)) : List AV := rs.reverse.map markAV
theorem stack3_cons (p : Str × Bool) (rs : List (Str × Bool)) : stack3 (p :: rs) = stack3 rs ++ [markAV p] := by simp [stack3]
theorem stack3_length (rs : List (Str × Bool)) : (stack3 rs).length = rs.length := by simp [stack3]
theorem stack3_lt (n : Nat) (rs : List (Str × Bool)) : AV.lts n (stack3 rs) = true := by
  rw [AV.lts_iff]; intro x hx; obtain ⟨t, _, rfl⟩ := List.mem_map.mp hx; rfl

noncomputable def turnP (tab : Tab) : Nat → List (Str × Bool) → List Str → Option (List Str)
  | 0, _, _ => none
  | _ + 1, [], found => some found
  | n + 1, (nm, true) :: rs, found => if rs.length ≤ 1000 ∧ found.length ≤ 1000 then turnP tab n rs (if nm ∈ found then found else found ++ [nm]) else none
  | n + 1, (nm, false) :: rs, found => if rs.length ≤ 1000 ∧ found.length ≤ 1000 then
      (if nm ∈ found then turnP tab n rs found
      else match lookT tab nm with
        | none => none
        | some t => turnP tab n ((((varsS t).filter fun v => (lookT tab v).isSome).map fun v => (v, false)).reverse ++ (nm, true) :: rs) found)
    else none

theorem put_trues' (l : List Str) (k : Str) : put (trues l) k (.bool true) = trues (if k ∈ l then l else l ++ [k]) := by
  by_cases h : k ∈ l
  · rw [if_pos h]
    unfold put
    have : (trues l).any (fun kv => decide (kv.1 = k)) = true := List.any_eq_true.mpr ⟨(k, .bool true), List.mem_map.mpr ⟨k, h, rfl⟩, by simp⟩
    rw [if_pos this]
    simp only [trues, List.map_map]
    refine List.map_congr_left fun x _ => ?_
    simp only [Function.comp]
    split <;> rfl
  · rw [if_neg h, put_trues h]

theorem turn_loop {G : Glo} {env : Env} {d : Nat} {test : Expr} {body : List Stmt} {σ : List AObj} {Γ : List (Str × AV)} {tab : Tab}
    (hF : ∀ found : List Str, TJ G env d Γ (σ ++ [AObj.sdict (trues found), AObj.list (stack3 [])]) (isTrue test env (eval test env)) false (σ ++ [AObj.sdict (trues found), AObj.list (stack3 [])]))
    (hT : ∀ (p : Str × Bool) (rs : List (Str × Bool)) (found : List Str), rs.length ≤ 1000 → TJ G env d Γ (σ ++ [AObj.sdict (trues found), AObj.list (stack3 (p :: rs))]) (isTrue test env (eval test env)) true (σ ++ [AObj.sdict (trues found), AObj.list (stack3 (p :: rs))]))
    (hO : ∀ (nm : Str) (rs : List (Str × Bool)) (found : List Str), rs.length ≤ 1000 → found.length ≤ 1000 → SJ G env d Γ (σ ++ [AObj.sdict (trues found), AObj.list (stack3 ((nm, true) :: rs))]) (execs body env) .next Γ (σ ++ [AObj.sdict (trues (if nm ∈ found then found else found ++ [nm])), AObj.list (stack3 rs)]))
    (hS : ∀ (nm : Str) (rs : List (Str × Bool)) (found : List Str), rs.length ≤ 1000 → found.length ≤ 1000 → nm ∈ found → SJ G env d Γ (σ ++ [AObj.sdict (trues found), AObj.list (stack3 ((nm, false) :: rs))]) (execs body env) .next Γ (σ ++ [AObj.sdict (trues found), AObj.list (stack3 rs)]))
    (hN : ∀ (nm : Str) (rs : List (Str × Bool)) (found : List Str) (t : T), rs.length ≤ 1000 → found.length ≤ 1000 → nm ∉ found → lookT tab nm = some t → SJ G env d Γ (σ ++ [AObj.sdict (trues found), AObj.list (stack3 ((nm, false) :: rs))]) (execs body env) .next Γ
      (σ ++ [AObj.sdict (trues found), AObj.list (stack3 ((((varsS t).filter fun v => (lookT tab v).isSome).map fun v => (v, false)).reverse ++ (nm, true) :: rs))])) :
    ∀ (n : Nat) (rs : List (Str × Bool)) (found out : List Str), turnP tab n rs found = some out → WR G env d test body n Γ (σ ++ [AObj.sdict (trues found), AObj.list (stack3 rs)]) .next Γ (σ ++ [AObj.sdict (trues out), AObj.list (stack3 [])]) := fun n => by
  induction n with
  | zero => intro rs found out h; rw [turnP] at h; cases h
  | succ n ih =>
    intro rs found out h
    rcases rs with _ | ⟨⟨nm, b⟩, rs⟩
    · rw [turnP] at h; cases h; exact .done (hF found)
    · cases b with
      | true =>
        rw [turnP] at h
        by_cases hb : rs.length ≤ 1000 ∧ found.length ≤ 1000
        · rw [if_pos hb] at h
          exact .step (hT _ rs found hb.1) (hO nm rs found hb.1 hb.2) (.inl rfl) (ih _ _ out h)
        · rw [if_neg hb] at h; cases h
      | false =>
        rw [turnP] at h
        by_cases hb : rs.length ≤ 1000 ∧ found.length ≤ 1000
        · rw [if_pos hb] at h
          by_cases hm : nm ∈ found
          · rw [if_pos hm] at h
            exact .step (hT _ rs found hb.1) (hS nm rs found hb.1 hb.2 hm) (.inl rfl) (ih _ _ out h)
          · rw [if_neg hm] at h
            cases e : lookT tab nm with
            | none => rw [e] at h; cases h
            | some t =>
              rw [e] at h
              exact .step (hT _ rs found hb.1) (hN nm rs found t hb.1 hb.2 hm e) (.inl rfl) (ih _ _ out h)
        · rw [if_neg hb] at h; cases h

section
variable {G : Glo} (X : Fns G)
include X
theorem c_inTurn {tab : Tab} (hk : tab.small = true) (hl : tab.length < 64) {σ : List AObj} {i : Nat} (hi : σ[i]? = some (AObj.sdict tab.av)) {n : Nat} {out : List Str} (ho : turnP tab n ((sortS (tab.map (·.1))).map fun s => (s, false)).reverse [] = some out) (hout : out.length ≤ 1000) :
    CallJ G 7 X.inTurn.a [.ref i] σ (.ref (σ.length + 2)) (σ ++ [AObj.sdict (trues out), AObj.list []] ++ [AObj.list (out.map .str)]) := by
  have keys : tab.av.map (·.1) = tab.map (·.1) := by simp [Tab.av]
  refine CallJ.mkE X.T.ok X.inTurn.F rfl (fun hσ ha L => ?_) (fun hσ ha => ?_)
  · show SJE _ _ _ _ _ _ _ _
    refine SJE.cons (SJ.swap2 (u := .ref σ.length) (v := .ref (σ.length + 1)) (σ₁ := σ ++ [AObj.sdict (trues []), AObj.list (stack3 ((sortS (tab.map (·.1))).map fun s => (s, false)).reverse)]) ?_) ?_
    · refine EJ.mkTuple (EsJ.cons EJ.dict0S (EsJ.cons (EJ.st (EJ.is (EJ.comp (bs := sortS (tab.map (·.1))) (p := fun _ => true) (F := fun s => markAV (s, false)) (Γc := []) (cl := []) (ItJ.list (EJ.callB X.T.ok X.m rfl (EsJ.cons EJ.var EsJ.nil) (keys ▸ OJ.sortedD X.T.ok (kvs := tab.av) (atL hi) (by simpa [Tab.av] using hl))) (strs_lt _ _)) ?_ (Turns.nameOf AV.str) ?_ ?_ ?_ ?_) (by simp)) ?_) EsJ.nil))
      · refine CompOk.of rfl rfl rfl rfl ?_ rfl ?_
        · intro p hp; cases hp
        · intro p hp; cases hp
      · intro b p hp; cases hp
      · intro b hb C; exact TsJ.nil
      · intro b hb _ C; exact EJ.mkTuple (EsJ.cons EJ.var (EsJ.cons EJ.cBool EsJ.nil))
      · rw [(sortS_perm _).length_eq]; simp; lia
      · rw [filter_tt]; simp [stack3, trues]
    · refine SJE.cons (SJ.while (k := n) (turn_loop ?_ ?_ ?_ ?_ ?_ n _ [] out ho)) (SJE.of (junk := []) (SJ.last (SJ.ret (EJ.is (EJ.callT X.T.ok X.m rfl (EsJ.cons EJ.var EsJ.nil) (OJ.listD X.T.ok (at0 rfl) (by simp [trues]; lia))) (by simp)))) ?_)
      · intro found
        exact TJ.is (TJ.cmp (EJ.callB X.T.ok X.m rfl (EsJ.cons EJ.var EsJ.nil) (OJ.lenL (l := stack3 []) (at1 rfl) (by simp [stack3]))) EJ.cInt O2.gtI) (by simp [stack3])
      · intro p rs found hb
        exact TJ.is (TJ.cmp (EJ.callB X.T.ok X.m rfl (EsJ.cons EJ.var EsJ.nil) (OJ.lenL (l := stack3 (p :: rs)) (at1 rfl) (by simp [stack3]; lia))) EJ.cInt O2.gtI) (by simp [stack3])
      · intro nm rs found b1 b2
        refine SJ.weaken (Γ₁ := upd (upd [("table", .ref i), ("waiting", .ref (σ.length + 1)), ("found", .ref σ.length)] "name" (.str nm)) "is_open" (.bool true)) (SJ.cons (SJ.unpack2 (u := .str nm) (v := .bool true) (EJ.st (EJ.pop (l := stack3 rs) (v := markAV (nm, true)) EJ.var (by rw [← stack3_cons]; exact at1 rfl) (by rw [stack3_length]; lia)) (set1 rfl))) (SJ.last (SJ.ifT (TJ.val EJ.var B1.bool) (SJ.last (SJ.setSub EJ.cBool EJ.var EJ.var (SetJ.st (SetJ.dict X.T.ok (at0 rfl) (by simp [trues]; lia)) ?_)))))) ?_
        · rw [set0 rfl, put_trues']
        · exact List.forall_mem_cons.mpr ⟨rfl, List.forall_mem_cons.mpr ⟨rfl, List.forall_mem_cons.mpr ⟨rfl, fun p hp => by cases hp⟩⟩⟩
      · intro nm rs found b1 b2 hm
        refine SJ.weaken (Γ₁ := upd (upd [("table", .ref i), ("waiting", .ref (σ.length + 1)), ("found", .ref σ.length)] "name" (.str nm)) "is_open" (.bool false)) (SJ.cons (SJ.unpack2 (u := .str nm) (v := .bool false) (EJ.st (EJ.pop (l := stack3 rs) (v := markAV (nm, false)) EJ.var (by rw [← stack3_cons]; exact at1 rfl) (by rw [stack3_length]; lia)) (set1 rfl))) (SJ.last (SJ.ifF (TJ.val EJ.var B1.bool) (SJ.last (SJ.ifF (TJ.is (TJ.cmp EJ.var EJ.var (O2.notInD X.T.ok (at0 rfl))) (by rw [look_trues]; simp [hm])) SJ.nil))))) ?_
        exact List.forall_mem_cons.mpr ⟨rfl, List.forall_mem_cons.mpr ⟨rfl, List.forall_mem_cons.mpr ⟨rfl, fun p hp => by cases hp⟩⟩⟩
      · intro nm rs found t b1 b2 hm hl
        have hs := lookT_small hk hl
        obtain ⟨hv1, hv2⟩ := varsS_ok hs
        obtain ⟨g1, g2, g3⟩ := T.small_iff.mp hs
        have hfl : ((varsS t).filter fun v => (lookT tab v).isSome).length < 64 := Nat.lt_of_le_of_lt (List.length_filter_le _ _) hv2
        refine SJ.cut (junk := [AObj.list (((varsS t).filter fun v => (lookT tab v).isSome).map fun v => markAV (v, false))]) (SJ.weaken (Γ₁ := upd (upd [("table", .ref i), ("waiting", .ref (σ.length + 1)), ("found", .ref σ.length)] "name" (.str nm)) "is_open" (.bool false)) (SJ.cons (SJ.unpack2 (u := .str nm) (v := .bool false) (EJ.st (EJ.pop (l := stack3 rs) (v := markAV (nm, false)) EJ.var (by rw [← stack3_cons]; exact at1 rfl) (by rw [stack3_length]; lia)) (set1 rfl))) (SJ.last (SJ.ifF (TJ.val EJ.var B1.bool) (SJ.last (SJ.ifT (TJ.is (TJ.cmp EJ.var EJ.var (O2.notInD X.T.ok (at0 rfl))) (by rw [look_trues]; simp [hm])) (SJ.cons (SJ.expr (v := .none) (σ₁ := σ ++ [AObj.sdict (trues found), AObj.list (stack3 ((nm, true) :: rs))]) ?_) (SJ.last (SJ.expr (v := .none) ?_)))))))) ?_) ?_ ?_ ?_ ?_
        · exact EJ.st (EJ.append (i := σ.length + 1) (l := stack3 rs) (v := markAV (nm, true)) EJ.var ⟨_, at1 rfl⟩ (EJ.mkTuple (EsJ.cons EJ.var (EsJ.cons EJ.cBool EsJ.nil))) (at1 rfl) (by rw [stack3_length]; lia)) (by rw [set1 rfl, stack3_cons])
        · refine EJ.st (EJ.extend (l := stack3 ((nm, true) :: rs)) (m := ((varsS t).filter fun v => (lookT tab v).isSome).map fun v => markAV (v, false)) (i := σ.length + 1) (j := (σ ++ [AObj.sdict (trues found), AObj.list (stack3 ((nm, true) :: rs))]).length) EJ.var ⟨_, at1 rfl⟩ (EJ.comp (bs := varsS t) (p := fun v => (lookT tab v).isSome) (F := fun v => markAV (v, false)) (Γc := [("table", .ref i)]) (cl := [("table", L + 1)]) (ItJ.list (EJ.callF X.vars.F X.T.ok (EsJ.cons (EJ.sub EJ.var EJ.var (Sub.dict (v := t.av) (atL hi) (by rw [look_av, hl]; rfl))) EsJ.nil) ((c_vars X 4 t g2 (by lia) g1 g3 _).mono (by lia))) (strs_lt _ _)) ?_ (Turns.nameOf AV.str) ?_ ?_ ?_ ?_) ?_ ?_ ?_) ?_
          · refine CompOk.of rfl rfl rfl rfl ?_ rfl ?_
            · intro p hp; rw [List.mem_singleton.mp hp]; rfl
            · intro p hp; rw [List.mem_singleton.mp hp]; exact ⟨rfl, rfl, rfl⟩
          · intro b p hp; rw [List.mem_singleton.mp hp]; rfl
          · intro b hb C
            exact TsJ.one (TJ.is (TJ.cmp EJ.var EJ.var (O2.inD X.T.ok (kvs := tab.av) (atL hi))) (by rw [look_av]; simp))
          · intro b hb _ C; exact EJ.mkTuple (EsJ.cons EJ.var (EsJ.cons EJ.cBool EsJ.nil))
          · lia
          · rw [List.getElem?_append_left (by simp)]; exact at1 rfl
          · exact getElem?_last rfl
          · rw [stack3_length, List.length_map]; simp; lia
          · rw [List.set_append_left _ _ (by simp), set1 rfl]; simp [stack3, markAV, Function.comp_def]
        · exact List.forall_mem_cons.mpr ⟨rfl, List.forall_mem_cons.mpr ⟨rfl, List.forall_mem_cons.mpr ⟨rfl, fun p hp => by cases hp⟩⟩⟩
        · simp
        · intro p hp
          have hii := (List.getElem?_eq_some_iff.mp hi).1
          rcases List.mem_cons.mp hp with rfl | hp
          · simp [AV.lt_none, AV.lt_bool, AV.lt_int, AV.lt_str, AV.lt_tup, AV.lt_ref]; lia
          · rcases List.mem_cons.mp hp with rfl | hp
            · simp [AV.lt_none, AV.lt_bool, AV.lt_int, AV.lt_str, AV.lt_tup, AV.lt_ref]
            · rw [List.mem_singleton.mp hp]; simp [AV.lt_none, AV.lt_bool, AV.lt_int, AV.lt_str, AV.lt_tup, AV.lt_ref]
        · exact closed2 hσ (trues_lt _ _) (stack3_lt _ _)
        · intro v hv; cases hv
      · simp [trues, stack3]
  · have hlen : (σ ++ [AObj.sdict (trues out), AObj.list []] ++ [AObj.list (out.map AV.str)]).length = σ.length + 3 := by simp
    refine ⟨closed_snoc (closed2 hσ (trues_lt _ _) rfl) (strs_lt _ _), by rw [hlen]; simp [AV.lt_none, AV.lt_bool, AV.lt_int, AV.lt_str, AV.lt_tup, AV.lt_ref], by simp⟩
end
end Mine
end
section
open PySem PySem.W PyProof.Rows
set_option linter.unusedVariables false
set_option linter.unusedSimpArgs false
set_option maxRecDepth 100000
namespace Mine

mutual
theorem T.ok_flat : ∀ t : T, t.ok = true → AV.flat t.av = true
  | .nd f l, h => by
    obtain ⟨h1, h2, h3⟩ := T.ok_nd h
    rw [T.av, AV.flat_tup, AV.flats_cons, T.oks_flat l h3]
    simpa using okS_flat h1
theorem T.oks_flat : ∀ l : List T, T.ok.oks l = true → AV.flats (T.av.avs l) = true
  | [], _ => by rw [T.av.avs, AV.flats_nil]
  | x :: r, h => by
    rw [T.ok.oks, Bool.and_eq_true] at h
    rw [T.av.avs, AV.flats_cons, T.ok_flat x h.1, T.oks_flat r h.2]; rfl
end
noncomputable def wayBit (ways : Int) (i : Nat) : Nat := ((ways.fdiv (2 ^ i)).fmod 2).toNat
noncomputable def leadsP (ways : Int) (leaf : T) : Nat → Nat → T → Bool
  | 0, _, t => decide (t = leaf)
  | k + 1, i, .nd f l => if l.length = 2 ∧ f = "f" then (match l[wayBit ways i]? with | some u => leadsP ways leaf k (i + 1) u | none => false) else false
theorem wayBit_le (ways : Int) (i : Nat) : wayBit ways i ≤ 1 := by
  unfold wayBit
  have h1 := Int.fmod_nonneg_of_pos (ways.fdiv (2 ^ i)) (show (0 : Int) < 2 by decide)
  have h2 := Int.fmod_lt_of_pos (ways.fdiv (2 ^ i)) (show (0 : Int) < 2 by decide)
  lia
theorem wayBit_int (ways : Int) (i : Nat) : (ways.fdiv (2 ^ i)).fmod 2 = (wayBit ways i : Int) := by
  unfold wayBit
  have h1 := Int.fmod_nonneg_of_pos (ways.fdiv (2 ^ i)) (show (0 : Int) < 2 by decide)
  lia

theorem leads_loop {G : Glo} {env : Env} {d : Nat} {body : List Stmt} {σ : List AObj} {Γ : T → List (Str × AV)} {ways : Int} {leaf : T} {bind : AV → List (Str × AV) → List (Str × AV)}
    (hX : ∀ (t : T) (i : Nat), t.ok = true → ¬ (t.kids.length = 2 ∧ t.head = "f") → ∃ Γ₁, SJ G env d (bind (.int (0 + (i : Int))) (Γ t)) σ (execs body env) (.ret (.bool false)) Γ₁ σ)
    (hN : ∀ (t : T) (i : Nat) (u : T), t.ok = true → t.kids.length = 2 ∧ t.head = "f" → t.kids[wayBit ways i]? = some u → SJ G env d (bind (.int (0 + (i : Int))) (Γ t)) σ (execs body env) .next (Γ u) σ) :
    ∀ (k i : Nat) (t : T), t.ok = true → (∃ u, u.ok = true ∧ leadsP ways leaf k i t = decide (u = leaf) ∧ FR G env d body bind ((List.range' i k).map fun (j : Nat) => AV.int (0 + (j : Int))) (Γ t) σ .next (Γ u) σ) ∨
      (leadsP ways leaf k i t = false ∧ ∃ Γ₁, FR G env d body bind ((List.range' i k).map fun (j : Nat) => AV.int (0 + (j : Int))) (Γ t) σ (.ret (.bool false)) Γ₁ σ)
  | 0, i, t, h => .inl ⟨t, h, by rw [leadsP], .nil⟩
  | k + 1, i, .nd f l, h => by
    rw [leadsP, List.range'_succ, List.map_cons]
    by_cases hc : l.length = 2 ∧ f = "f"
    · rw [if_pos hc]
      have hw := wayBit_le ways i
      have hlt : wayBit ways i < l.length := by lia
      have hu : l[wayBit ways i]? = some l[wayBit ways i] := by simp [hlt]
      rw [hu]
      have ok' : (l[wayBit ways i]).ok = true := T.oks_mem (T.ok_nd h).2.2 (List.getElem_mem hlt)
      have st := hN (.nd f l) i _ h hc hu
      rcases leads_loop hX hN k (i + 1) _ ok' with ⟨u, h1, h2, h3⟩ | ⟨h1, Γ₁, h3⟩
      · exact .inl ⟨u, h1, h2, .step st (.inl rfl) h3⟩
      · exact .inr ⟨h1, Γ₁, .step st (.inl rfl) h3⟩
    · rw [if_neg hc]
      obtain ⟨Γ₁, hx⟩ := hX (.nd f l) i h hc
      exact .inr ⟨rfl, Γ₁, .back hx⟩

section
variable {G : Glo}
/-- a for loop that may come back -/
theorem SJE.forB {env : Env} {d : Nat} {σ : List AObj} {β : Type} {target iter : Expr} {body rest : List Stmt} {pos : Pos} {items : List β} {bind : β → List (Str × AV) → List (Str × AV)} {Γ : List (Str × AV)} {b : Bool}
    (h1 : ItT G env d Γ σ (eval iter env) target items bind σ) (h2 : (∃ Γ₁, FR G env d body bind items Γ σ .next Γ₁ σ ∧ SJE G env d Γ₁ σ (execs rest env) (.bool b) σ) ∨ (b = false ∧ ∃ Γ₁, FR G env d body bind items Γ σ (.ret (.bool false)) Γ₁ σ))
    (hs : ∀ x, foldedSetIterable iter env x = pure x := by intro _; rfl) : SJE G env d Γ σ (execs (.For target iter body [] pos :: rest) env) (.bool b) σ := by
  rcases h2 with ⟨Γ₁, h2, h3⟩ | ⟨rfl, Γ₁, h2⟩
  · exact SJE.cons (SJ.for h1 h2 hs) h3
  · exact ⟨Γ₁, [], by rw [List.append_nil]; exact SJ.stop (SJ.for h1 h2 hs)⟩

theorem leads_for {env : Env} {d : Nat} {body rest : List Stmt} {pos : Pos} {target iter : Expr} {σ : List AObj} {Γ : T → List (Str × AV)} {ways : Int} {leaf t : T} {n : Nat} {bind : AV → List (Str × AV) → List (Str × AV)} (ht : t.ok = true)
    (h1 : ItT G env d (Γ t) σ (eval iter env) target ((List.range n).map fun (j : Nat) => AV.int (0 + (j : Int))) bind σ)
    (hX : ∀ (t : T) (i : Nat), t.ok = true → ¬ (t.kids.length = 2 ∧ t.head = "f") → ∃ Γ₁, SJ G env d (bind (.int (0 + (i : Int))) (Γ t)) σ (execs body env) (.ret (.bool false)) Γ₁ σ)
    (hN : ∀ (t : T) (i : Nat) (u : T), t.ok = true → t.kids.length = 2 ∧ t.head = "f" → t.kids[wayBit ways i]? = some u → SJ G env d (bind (.int (0 + (i : Int))) (Γ t)) σ (execs body env) .next (Γ u) σ)
    (hend : ∀ u, u.ok = true → SJE G env d (Γ u) σ (execs rest env) (.bool (decide (u = leaf))) σ)
    (hs : ∀ x, foldedSetIterable iter env x = pure x := by intro _; rfl) : SJE G env d (Γ t) σ (execs (.For target iter body [] pos :: rest) env) (.bool (leadsP ways leaf n 0 t)) σ := by
  refine SJE.forB h1 ?_ hs
  rw [List.range_eq_range']
  rcases leads_loop (leaf := leaf) hX hN n 0 t ht with ⟨u, h1, h2, h3⟩ | ⟨h1, Γ₁, h3⟩
  · exact .inl ⟨_, h3, h2 ▸ hend u h1⟩
  · exact .inr ⟨h1, Γ₁, h3⟩
end
section
variable {G : Glo} (X : Fns G)
include X
theorem c_leads {σ : List AObj} {t leaf : T} (ht : t.ok = true) (hl : leaf.fair = true) {n : Nat} (hn : n ≤ 1000) {ways : Int} (hw : 0 ≤ ways) :
    CallJ G 1 X.leads.a [t.av, .int n, .int ways, leaf.av] σ (.bool (leadsP ways leaf n 0 t)) σ := by
  refine CallJ.mkE X.T.ok X.leads.F rfl (fun hσ ha L => ?_) (fun hσ ha => ⟨hσ, rfl, Nat.le_refl _⟩)
  show SJE _ _ _ _ _ _ _ _
  have wk : ∀ (u : T) (v : AV), ∀ p ∈ ([("t", u.av), ("floors", .int n), ("ways", .int ways), ("leaf", leaf.av)] : List (Str × AV)), ([("t", u.av), ("floors", .int n), ("ways", .int ways), ("leaf", leaf.av), ("floor", v)] : List (Str × AV)).lookup p.1 = some p.2 := fun u v =>
    List.forall_mem_cons.mpr ⟨rfl, List.forall_mem_cons.mpr ⟨rfl, List.forall_mem_cons.mpr ⟨rfl, List.forall_mem_cons.mpr ⟨rfl, fun p hp => by cases hp⟩⟩⟩⟩
  have test : ∀ (t : T) (c : Bool), decide (t.kids.length = 2 ∧ t.head = "f") = !c → ((!decide (AV.int ((AV.str t.head :: t.kids.map T.av).length : Int) = AV.int 3)) || !decide (AV.str t.head = AV.str "f")) = c := by
    intro t c hc
    have e1 : decide (AV.int ((AV.str t.head :: t.kids.map T.av).length : Int) = AV.int 3) = decide (t.kids.length = 2) := by
      simp only [List.length_cons, List.length_map]
      by_cases h : t.kids.length = 2
      · simp [h]
      · have : ¬ AV.int ((t.kids.length + 1 : Nat) : Int) = AV.int 3 := fun q => h (by have := AV.int.inj q; lia)
        simp only [this, h, decide_false]
    have e2 : decide (AV.str t.head = AV.str "f") = decide (t.head = "f") := by
      by_cases h : t.head = "f"
      · simp [h]
      · have : ¬ AV.str t.head = AV.str "f" := fun q => h (AV.str.inj q)
        simp [h, this]
    rw [e1, e2]
    by_cases h1 : t.kids.length = 2 <;> by_cases h2 : t.head = "f" <;> cases c <;> simp_all
  have klen : ∀ t : T, t.ok = true → t.kids.length < 500 := fun t h => by cases t; exact (T.ok_nd h).2.1
  refine leads_for (Γ := fun t => [("t", t.av), ("floors", .int n), ("ways", .int ways), ("leaf", leaf.av)]) ht (ItJ.name (ItJ.range1 X.T.ok X.m (EsJ.cons EJ.var EsJ.nil) hn)) ?_ ?_ ?_
  · intro t i ht hc
    have kl := klen t ht
    exact ⟨_, SJ.stop (SJ.ifT (TJ.is (TJ.boolOp (TJ.or2 (TJ.cmp (EJ.callB X.T.ok X.m rfl (EsJ.cons (EJ.is EJ.var (T.av_kids t)) EsJ.nil) (OJ.lenT (by simp; lia))) EJ.cInt (O2.ne rfl rfl (Nat.le_of_ble_eq_true rfl))) (fun _ => TJ.cmp (ej_head X EJ.var ht) EJ.cStr (O2.ne (okS_flat (T.ok_head ht)) (by decide +kernel) (Nat.le_of_ble_eq_true rfl))))) (test t true (by simp [hc]))) (SJ.last (SJ.ret EJ.cBool)))⟩
  · intro t i u ht hc hu
    have kl := klen t ht
    refine SJ.cons (SJ.ifF (TJ.is (TJ.boolOp (TJ.or2 (TJ.cmp (EJ.callB X.T.ok X.m rfl (EsJ.cons (EJ.is EJ.var (T.av_kids t)) EsJ.nil) (OJ.lenT (by simp; lia))) EJ.cInt (O2.ne rfl rfl (Nat.le_of_ble_eq_true rfl))) (fun _ => TJ.cmp (ej_head X EJ.var ht) EJ.cStr (O2.ne (okS_flat (T.ok_head ht)) (by decide +kernel) (Nat.le_of_ble_eq_true rfl))))) (test t false (by simp [hc]))) SJ.nil) ?_
    refine SJ.weaken (Γ₁ := [("t", u.av), ("floors", .int n), ("ways", .int ways), ("leaf", leaf.av), ("floor", .int (0 + (i : Int)))]) (SJ.last (SJ.assign (v := u.av) ?_)) (wk u _)
    refine EJ.sub (EJ.is EJ.var (T.av_kids t)) (EJ.binop EJ.cInt (EJ.binop (EJ.binop EJ.var EJ.var (O2.shrI (by lia))) EJ.cInt (O2.modI (by decide))) O2.addI) ?_
    have hb := wayBit_le ways i
    have e : (1 : Int) + (ways.fdiv (2 ^ (0 + (i : Int)).toNat)).fmod 2 = ((1 + wayBit ways i : Nat) : Int) := by
      have h0 : (0 + (i : Int)).toNat = i := by lia
      rw [h0, wayBit_int]; lia
    rw [e]
    refine Sub.tup (j := 1 + wayBit ways i) ?_ ?_ (by lia) (by lia)
    · rw [Nat.add_comm, List.getElem?_cons_succ, List.getElem?_map, hu]; rfl
    · have hlen : (AV.str t.head :: t.kids.map T.av).length = 3 := by simp [hc.1]
      rw [hlen]
      rcases (by lia : wayBit ways i = 0 ∨ wayBit ways i = 1) with h | h <;> rw [h] <;> rfl
  · intro u hu
    have fl := T.fair_flat hl
    refine SJE.of (junk := []) (SJ.last (SJ.ret (EJ.is (EJ.cmp EJ.var EJ.var (O2.eq (T.ok_flat u hu) fl.1 (Nat.le_trans (Nat.min_le_right _ _) (by lia)))) (by rw [dec_av])))) (by simp)
end
end Mine
end
section
open PySem PySem.W PyProof.Rows
set_option linter.unusedVariables false
set_option linter.unusedSimpArgs false
set_option maxRecDepth 100000
namespace Mine

noncomputable def nameS (letter : Str) (k : Nat) : Str := (("?" : Str) ++ letter) ++ Str.ofString (toString ((k : Nat) : Int))
noncomputable def laidP (k : Nat) (laid : T) : T := if k < 5 then .nd "f" [laid, laid] else laid
noncomputable def rowP (told : Tab) (letter : Str) (ways : Int) (leaf : T) : Nat → Nat → T → Option Bool
  | 0, _, _ => some true
  | j + 1, k, laid => match lookT told (nameS letter k) with
    | none => none
    | some t => if (!leadsP ways leaf k 0 t) || (decide (k < 5) && !decide (t = laidP k laid)) then some false else rowP told letter ways leaf j (k + 1) (laidP k laid)
noncomputable def rowAll (told : Tab) (letter : Str) (many : Nat) (ways : Int) (leaf : T) : Option Bool :=
  match rowP told letter ways leaf many 1 leaf with
  | none => none
  | some false => some false
  | some true => (lookT told (nameS letter many)).map (leadsP 0 leaf many 0)

noncomputable def LaidOk (k : Nat) (laid : T) : Prop := laid.ok = true ∧ laid.hgt < k ∧ laid.hgt ≤ 4
theorem laid_ok {k : Nat} {laid : T} (h : LaidOk k laid) : LaidOk (k + 1) (laidP k laid) ∧ (k < 5 → (laidP k laid).fair = true) := by
  obtain ⟨h1, h2, h3⟩ := h
  unfold laidP
  split
  · rename_i hk
    have ok : (T.nd "f" [laid, laid]).ok = true := by
      have hf : okS "f" = true := by decide +kernel
      rw [T.ok, T.ok.oks, T.ok.oks, T.ok.oks, h1, hf]
      rfl
    have hg : (T.nd "f" [laid, laid]).hgt = laid.hgt + 1 := by
      rw [T.hgt, T.hgt.hgts, T.hgt.hgts, T.hgt.hgts]; lia
    refine ⟨⟨ok, by rw [hg]; lia, by rw [hg]; lia⟩, fun _ => T.fair_iff.mpr ⟨ok, by rw [hg]; lia⟩⟩
  · exact ⟨⟨h1, by lia, h3⟩, fun h => absurd h (by assumption)⟩

theorem str_append_length (a b : Str) : (a ++ b).length = a.length + b.length := by
  show (a.cps ++ b.cps).size = _
  exact Array.size_append
noncomputable def RBody (G : Glo) (env : Env) (d : Nat) (Γ Γe : List (Str × AV)) (σ : List AObj) (t : Sem Flow) (c : Bool) : Prop :=
  match c with
  | true => ∃ Γ₁, SJ G env d Γ σ t (.ret (.bool false)) Γ₁ σ
  | false => SJ G env d Γ σ t .next Γe σ
theorem RBody.cons {G : Glo} {env : Env} {d : Nat} {Γ Γ₁ Γe : List (Str × AV)} {σ : List AObj} {st : Stmt} {rest : List Stmt} {c : Bool} (h1 : SJ G env d Γ σ (exec st env) .next Γ₁ σ) (h2 : RBody G env d Γ₁ Γe σ (execs rest env) c) : RBody G env d Γ Γe σ (execs (st :: rest) env) c := by
  cases c with
  | true => obtain ⟨Γ₂, h⟩ := h2; exact ⟨Γ₂, SJ.cons h1 h⟩
  | false => exact SJ.cons h1 h2
theorem RBody.lastIf {G : Glo} {env : Env} {d : Nat} {Γ Γ₁ Γe : List (Str × AV)} {σ : List AObj} {t : Expr} {a : List Stmt} {pos : Pos} {c : Bool} (h1 : TJ G env d Γ σ (isTrue t env (eval t env)) c σ) (h2 : SJ G env d Γ σ (execs a env) (.ret (.bool false)) Γ₁ σ) (hw : ∀ p ∈ Γe, Γ.lookup p.1 = some p.2) : RBody G env d Γ Γe σ (execs [.If t a [] pos] env) c := by
  cases c with
  | true => exact ⟨Γ₁, SJ.last (SJ.ifT h1 h2)⟩
  | false => exact SJ.weaken (SJ.last (SJ.ifF h1 SJ.nil)) hw

theorem toStr_len : ∀ k, k < 900 → (Str.ofString (toString ((k : Nat) : Int))).length ≤ 10 := by decide +kernel

theorem toStr_log (k : Nat) (h : k < 900) : ((k : Int)).natAbs.log2 < 1920 := by
  have : (k : Int).natAbs = k := by lia
  rw [this]
  exact Nat.lt_of_le_of_lt (Nat.log2_le_self k) (by lia)

theorem row_loop {G : Glo} {env : Env} {d : Nat} {body : List Stmt} {σ : List AObj} {Γ : T → List (Str × AV)} {told : Tab} {letter : Str} {ways : Int} {leaf : T} {bind : AV → List (Str × AV) → List (Str × AV)} {many : Nat} (hmany : many < 1000)
    (hB : ∀ (k : Nat) (laid t : T), 1 ≤ k → k ≤ many → LaidOk k laid → lookT told (nameS letter k) = some t →
      RBody G env d (bind (.int (1 + ((k - 1 : Nat) : Int))) (Γ laid)) (Γ (laidP k laid)) σ (execs body env) ((!leadsP ways leaf k 0 t) || (decide (k < 5) && !decide (t = laidP k laid)))) :
    ∀ (j k : Nat) (laid : T) (b : Bool), 1 ≤ k → k + j = many + 1 → LaidOk k laid → rowP told letter ways leaf j k laid = some b →
      if b then ∃ laid', FR G env d body bind ((List.range' (k - 1) j).map fun (i : Nat) => AV.int (1 + (i : Int))) (Γ laid) σ .next (Γ laid') σ
      else ∃ Γ₁, FR G env d body bind ((List.range' (k - 1) j).map fun (i : Nat) => AV.int (1 + (i : Int))) (Γ laid) σ (.ret (.bool false)) Γ₁ σ
  | 0, k, laid, b, _, _, _, h => by
    rw [rowP] at h; cases h
    exact ⟨laid, .nil⟩
  | j + 1, k, laid, b, h1, h2, h3, h => by
    rw [rowP] at h
    cases e : lookT told (nameS letter k) with
    | none => rw [e] at h; cases h
    | some t =>
      rw [e] at h
      dsimp only at h
      have st := hB k laid t h1 (by lia) h3 e
      rw [List.range'_succ, List.map_cons]
      cases hc : ((!leadsP ways leaf k 0 t) || (decide (k < 5) && !decide (t = laidP k laid))) with
      | true =>
        rw [hc] at h st
        cases h
        obtain ⟨Γ₁, st⟩ := st
        exact ⟨Γ₁, .back st⟩
      | false =>
        rw [hc] at h st
        simp only [Bool.false_eq_true, if_false] at h
        have ih := row_loop hmany hB j (k + 1) (laidP k laid) b (by lia) (by lia) (laid_ok h3).1 h
        have ek : k + 1 - 1 = k - 1 + 1 := by lia
        rw [ek] at ih
        cases b with
        | true =>
          obtain ⟨laid', ih⟩ := ih
          exact ⟨laid', .step st (.inl rfl) ih⟩
        | false =>
          obtain ⟨Γ₁, ih⟩ := ih
          exact ⟨Γ₁, .step st (.inl rfl) ih⟩

theorem row_for {G : Glo} {env : Env} {d : Nat} {body rest : List Stmt} {pos : Pos} {target iter : Expr} {σ : List AObj} {Γ : T → List (Str × AV)} {told : Tab} {letter : Str} {ways : Int} {leaf : T} {bind : AV → List (Str × AV) → List (Str × AV)} {many : Nat} {b : Bool} (hmany : many < 1000) (hl : LaidOk 1 leaf) (hr : rowAll told letter many ways leaf = some b)
    (h1 : ItT G env d (Γ leaf) σ (eval iter env) target ((List.range many).map fun (j : Nat) => AV.int (1 + (j : Int))) bind σ)
    (hB : ∀ (k : Nat) (laid t : T), 1 ≤ k → k ≤ many → LaidOk k laid → lookT told (nameS letter k) = some t →
      RBody G env d (bind (.int (1 + ((k - 1 : Nat) : Int))) (Γ laid)) (Γ (laidP k laid)) σ (execs body env) ((!leadsP ways leaf k 0 t) || (decide (k < 5) && !decide (t = laidP k laid))))
    (hend : ∀ laid t, lookT told (nameS letter many) = some t → SJE G env d (Γ laid) σ (execs rest env) (.bool (leadsP 0 leaf many 0 t)) σ)
    (hs : ∀ x, foldedSetIterable iter env x = pure x := by intro _; rfl) : SJE G env d (Γ leaf) σ (execs (.For target iter body [] pos :: rest) env) (.bool b) σ := by
  refine SJE.forB h1 ?_ hs
  rw [List.range_eq_range']
  unfold rowAll at hr
  cases e : rowP told letter ways leaf many 1 leaf with
  | none => rw [e] at hr; cases hr
  | some c =>
    rw [e] at hr
    have := row_loop (Γ := Γ) hmany hB many 1 leaf c (Nat.le_refl _) (by lia) hl e
    cases c with
    | true =>
      obtain ⟨laid, h⟩ := this
      cases e2 : lookT told (nameS letter many) with
      | none => rw [e2] at hr; cases hr
      | some t =>
        rw [e2] at hr
        simp only [Option.map_some, Option.some.injEq] at hr
        exact .inl ⟨_, h, hr ▸ hend laid t e2⟩
    | false =>
      cases hr
      exact .inr ⟨rfl, this⟩

section
variable {G : Glo} (X : Fns G)
include X
theorem c_right {σ : List AObj} {i : Nat} {told : Tab} (hi : σ[i]? = some (AObj.sdict told.av)) (hok : told.ok = true) {letter : Str} (hlet : letter.length ≤ 10) {many : Nat} (hmany : many < 900) {ways : Int} (hw : 0 ≤ ways) {leaf : T} (hlf : leaf.ok = true) (hlh : leaf.hgt = 0) {b : Bool} (hr : rowAll told letter many ways leaf = some b) :
    CallJ G 2 X.right.a [.ref i, .str letter, .int many, .int ways, leaf.av] σ (.bool b) σ := by
  refine CallJ.mkE X.T.ok X.right.F rfl (fun hσ ha L => ?_) (fun hσ ha => ⟨hσ, rfl, Nat.le_refl _⟩)
  show SJE _ _ _ _ _ _ _ _
  have hleaf : leaf.fair = true := T.fair_iff.mpr ⟨hlf, by lia⟩
  refine SJE.cons (SJ.assign (v := leaf.av) EJ.var) ?_
  refine row_for (Γ := fun laid => [("told", .ref i), ("letter", .str letter), ("many", .int many), ("ways", .int ways), ("leaf", leaf.av), ("laid", laid.av)]) (by lia) ⟨hlf, by lia, by lia⟩ hr (ItJ.name (ItJ.range2 (a := 1) (b := many + 1) X.T.ok X.m (EsJ.cons EJ.cInt (EsJ.cons (EJ.binop EJ.var EJ.cInt O2.addI) EsJ.nil)) (by lia) (by lia) (by lia))) ?_ ?_
  · intro k laid t h1 h2 h3 ht
    have ek : (1 + ((k - 1 : Nat) : Int)) = (k : Int) := by lia
    rw [ek]
    have htk := lookT_ok hok ht
    have l1 : (("?" : Str)).length = 1 := by decide +kernel
    have l2 : ((("?" : Str)) ++ letter).length ≤ 11 := by
      rw [str_append_length]
      lia
    have l3 := toStr_len k (by lia)
    have hlaid := (laid_ok h3).2
    refine RBody.cons (SJ.assign (v := t.av) (EJ.sub EJ.var (EJ.binop (EJ.binop EJ.cStr EJ.var (O2.addS (by lia))) (EJ.callT X.T.ok X.m rfl (EsJ.cons EJ.var EsJ.nil) (OJ.strI (toStr_log k (by lia)))) (O2.addS (by lia))) (Sub.dict hi (by rw [look_av]; show (lookT told (nameS letter k)).map T.av = _; rw [ht]; rfl)))) ?_
    refine RBody.cons (SJ.assign (v := (laidP k laid).av) (EJ.is (EJ.ite (c := decide ((k : Int) < 5)) (TJ.cmp EJ.var EJ.cInt O2.ltI) (fun _ => EJ.mkTuple (EsJ.cons EJ.cStr (EsJ.cons EJ.var (EsJ.cons EJ.var EsJ.nil)))) (fun _ => EJ.var)) ?_)) ?_
    · unfold laidP
      by_cases h5 : k < 5
      · have : ((k : Int) < 5) := by lia
        rw [if_pos h5, if_pos (by simpa using this), T.av_nd]; rfl
      · have : ¬ ((k : Int) < 5) := by lia
        rw [if_neg h5, if_neg (by simpa using this)]
    refine RBody.lastIf (TJ.is (TJ.boolOp (TJ.or2 (TJ.neg (TJ.val (EJ.callF X.leads.F X.T.ok (EsJ.cons EJ.var (EsJ.cons EJ.var (EsJ.cons EJ.var (EsJ.cons EJ.var EsJ.nil)))) (c_leads X htk hleaf (by lia) hw)) B1.bool)) (fun _ => TJ.boolOp (TJ.and2 (TJ.cmp EJ.var EJ.cInt O2.ltI) (fun h5 => TJ.cmp EJ.var EJ.var (O2.ne (T.ok_flat t htk) (T.fair_flat (hlaid (by have := of_decide_eq_true h5; lia))).1 (Nat.le_trans (Nat.min_le_right _ _) (by have := (T.fair_flat (hlaid (by have := of_decide_eq_true h5; lia))).2; lia))))))))  ?_) (SJ.last (SJ.ret EJ.cBool)) ?_
    · have e1 : decide ((k : Int) < 5) = decide (k < 5) := by
        by_cases h5 : k < 5
        · have : ((k : Int) < 5) := by lia
          simp [h5, this]
        · have : ¬ ((k : Int) < 5) := by lia
          simp [h5, this]
      rw [e1, dec_av]
    · exact List.forall_mem_cons.mpr ⟨rfl, List.forall_mem_cons.mpr ⟨rfl, List.forall_mem_cons.mpr ⟨rfl, List.forall_mem_cons.mpr ⟨rfl, List.forall_mem_cons.mpr ⟨rfl, List.forall_mem_cons.mpr ⟨rfl, fun p hp => by cases hp⟩⟩⟩⟩⟩⟩
  · intro laid t ht
    have htk := lookT_ok hok ht
    have l1 : (("?" : Str)).length = 1 := by decide +kernel
    have l2 : ((("?" : Str)) ++ letter).length ≤ 11 := by
      rw [str_append_length]
      lia
    have l3 := toStr_len many hmany
    exact SJE.of (junk := []) (SJ.last (SJ.ret (EJ.callF X.leads.F X.T.ok (EsJ.cons (EJ.sub EJ.var (EJ.binop (EJ.binop EJ.cStr EJ.var (O2.addS (by lia))) (EJ.callT X.T.ok X.m rfl (EsJ.cons EJ.var EsJ.nil) (OJ.strI (toStr_log many hmany))) (O2.addS (by lia))) (Sub.dict hi (by rw [look_av]; show (lookT told (nameS letter many)).map T.av = _; rw [ht]; rfl))) (EsJ.cons EJ.var (EsJ.cons EJ.cInt (EsJ.cons EJ.var EsJ.nil)))) (c_leads X htk hleaf (by lia) (by decide))))) (by simp)
end
end Mine
end
section
open PySem PySem.W PyProof.Rows
set_option linter.unusedVariables false
set_option linter.unusedSimpArgs false
set_option maxRecDepth 100000
namespace Mine

noncomputable def clipP (ns : List Int) (a : Nat) (m : Int) : Int :=
  if a < ns.length then (ns.getD a 0).fmod m else ((5 * a * a + 9 * a + 3 * ns.length : Int).fmod 97).fmod m
noncomputable def reelO (c : Nat) (a : Nat) : AObj := AObj.sdict [("cells", .ref c), ("at", .int (a : Int))]

theorem bits_small : ∀ a : Nat, a < 200 → Builtin.Int.intBits (a : Int) ≤ 64 := by decide +kernel
section
variable {G : Glo} (X : Fns G)
include X
theorem c_clip {σ : List AObj} {i c : Nat} {ns : List Int} {a : Nat} {m : Int} (hi : σ[i]? = some (reelO c a)) (hc : σ[c]? = some (AObj.list (ns.map .int))) (hl : ns.length ≤ 100) (ha : a ≤ 100) (hm : m ≠ 0) :
    CallJ G 1 X.clip.a [.ref i, .int m] σ (.int (clipP ns a m)) (σ.set i (reelO c (a + 1))) := by
  have hil := (List.getElem?_eq_some_iff.mp hi).1
  have hic : i ≠ c := by rintro rfl; rw [hi] at hc; cases hc
  have hc' : (σ.set i (reelO c (a + 1)))[c]? = some (AObj.list (ns.map .int)) := by rw [List.getElem?_set_ne hic]; exact hc
  have hi' : (σ.set i (reelO c (a + 1)))[i]? = some (reelO c (a + 1)) := by simp [hil]
  refine CallJ.mkE X.T.ok X.clip.F rfl (fun hσ hargs L => ?_) (fun hσ hargs => ⟨?_, rfl, by simp⟩)
  · show SJE _ _ _ _ _ _ _ _
    refine SJE.cons (SJ.assign (v := .int (a : Int)) (EJ.sub EJ.var EJ.cStr (Sub.dict hi rfl))) ?_
    refine SJE.cons (SJ.setSub (v := .int ((a + 1 : Nat) : Int)) (σ₄ := σ.set i (reelO c (a + 1))) (EJ.is (EJ.binop EJ.var EJ.cInt O2.addI) (by simp)) EJ.var EJ.cStr (SetJ.st (SetJ.dict X.T.ok hi (Nat.le_of_ble_eq_true rfl)) ?_)) ?_
    · rfl
    · by_cases h : a < ns.length
      · have e : clipP ns a m = (ns.getD a 0).fmod m := by rw [clipP, if_pos h]
        rw [e]
        refine SJE.of (junk := []) (SJ.stop (SJ.ifT (TJ.is (TJ.cmp EJ.var (EJ.callB X.T.ok X.m rfl (EsJ.cons (EJ.sub EJ.var EJ.cStr (Sub.dict (v := .ref c) hi' rfl)) EsJ.nil) (OJ.lenL hc' (by simp; lia))) O2.ltI) (by simp [h])) (SJ.last (SJ.ret (EJ.binop (EJ.sub (EJ.sub EJ.var EJ.cStr (Sub.dict (v := .ref c) hi' rfl)) EJ.var (Sub.list hc' ?_ (by lia) (by lia))) EJ.var (O2.modI hm)))))) (by simp)
        simp [h]
      · have e : clipP ns a m = ((5 * a * a + 9 * a + 3 * ns.length : Int).fmod 97).fmod m := by rw [clipP, if_neg h]
        rw [e]
        refine SJE.of (junk := []) (SJ.cons (SJ.ifF (TJ.is (TJ.cmp EJ.var (EJ.callB X.T.ok X.m rfl (EsJ.cons (EJ.sub EJ.var EJ.cStr (Sub.dict (v := .ref c) hi' rfl)) EsJ.nil) (OJ.lenL hc' (by simp; lia))) O2.ltI) (by simp [h])) SJ.nil) (SJ.last (SJ.ret (EJ.binop (EJ.binop (EJ.binop (EJ.binop (EJ.binop (EJ.binop EJ.cInt EJ.var (O2.mulI ?_)) EJ.var (O2.mulI ?_)) (EJ.binop EJ.cInt EJ.var (O2.mulI ?_)) O2.addI) (EJ.binop EJ.cInt (EJ.is (EJ.callB X.T.ok X.m rfl (EsJ.cons (EJ.sub EJ.var EJ.cStr (Sub.dict (v := .ref c) hi' rfl)) EsJ.nil) (OJ.lenL hc' (by simp; lia))) (by simp)) (O2.mulI ?_)) O2.addI) EJ.cInt (O2.modI (by decide))) EJ.var (O2.modI hm))))) (by simp)
        · exact IntMulOk.of_left (by decide +kernel)
        · exact IntMulOk.of_right (bits_small a (by lia))
        · exact IntMulOk.of_left (by decide +kernel)
        · exact IntMulOk.of_left (by decide +kernel)
  · intro o ho
    rw [List.length_set]
    rcases List.mem_or_eq_of_mem_set ho with ho | rfl
    · exact hσ o ho
    · have hcl := (List.getElem?_eq_some_iff.mp hc).1
      simp [reelO, AObj.lt, AV.lts_nil, AV.lts_cons, AV.lt_none, AV.lt_bool, AV.lt_int, AV.lt_str, AV.lt_tup, AV.lt_ref, hcl]
end
end Mine
end
section
open PySem PySem.W PyProof.Rows
set_option linter.unusedVariables false
set_option linter.unusedSimpArgs false
set_option maxRecDepth 100000
namespace Mine

noncomputable abbrev ITab := List (Str × Int)
noncomputable def intsD (l : ITab) : List (Str × AV) := l.map fun p => (p.1, .int p.2)
noncomputable def lookI (l : ITab) (k : Str) : Option Int := (l.find? fun x => decide (x.1 = k)).map (·.2)
theorem look_ints (l : ITab) (k : Str) : look (intsD l) k = (lookI l k).map AV.int := by
  unfold look lookI intsD
  induction l with
  | nil => rfl
  | cons x r ih =>
    simp only [List.map_cons, List.find?_cons]
    by_cases h : x.1 = k
    · simp [h]
    · simp only [h, decide_false]; exact ih
noncomputable def putI (tab : ITab) (k : Str) (t : Int) : ITab := if tab.any (fun kv => decide (kv.1 = k)) then tab.map (fun kv => if kv.1 = k then (kv.1, t) else kv) else tab ++ [(k, t)]
theorem putI_ints (tab : ITab) (k : Str) (t : Int) : put (intsD tab) k (.int t) = intsD (putI tab k t) := by
  have e : (intsD tab).any (fun kv => decide (kv.1 = k)) = tab.any (fun kv => decide (kv.1 = k)) := by simp only [intsD, List.any_map]; rfl
  unfold put putI
  rw [e]
  split
  · simp only [intsD, List.map_map]
    refine List.map_congr_left fun x _ => ?_
    simp only [Function.comp]
    split <;> rfl
  · simp [intsD]
theorem intsD_lt (n : Nat) (l : ITab) : AObj.lt n (AObj.sdict (intsD l)) = true := by
  show AV.lts n ((intsD l).map (·.2)) = true
  rw [AV.lts_iff]; intro x hx
  obtain ⟨p, hp, rfl⟩ := List.mem_map.mp hx
  obtain ⟨s, _, rfl⟩ := List.mem_map.mp hp
  rfl
theorem tab_lt (n : Nat) (l : Tab) : AObj.lt n (AObj.sdict l.av) = true := by
  show AV.lts n (l.av.map (·.2)) = true
  rw [AV.lts_iff]; intro x hx
  simp only [Tab.av, List.map_map] at hx
  obtain ⟨p, _, rfl⟩ := List.mem_map.mp hx
  exact T.av_lt _ _

noncomputable def szOf (sizes : ITab) (q : List Nat × T) : Int := if isVar q.2 then (lookI sizes q.2.head).getD 1 else 1
noncomputable def dpOf (depths : ITab) (q : List Nat × T) : Int := (q.1.length : Int) + (if isVar q.2 then (lookI depths q.2.head).getD 1 else 1)
noncomputable def szP (sizes : ITab) (t : T) : Int := (t.parts.map (szOf sizes)).sum
noncomputable def dpP (depths : ITab) (t : T) : Int := maxI (t.parts.map (dpOf depths))
mutual
noncomputable def fillT (found : Tab) : T → T
  | .nd f l => if isVar (.nd f l) then (lookT found f).getD (.nd f l) else .nd f (fillL found l)
noncomputable def fillL (found : Tab) : List T → List T
  | [] => []
  | x :: r => fillT found x :: fillL found r
end
mutual
theorem fillT_av (found : Tab) : ∀ t : T, filledA found.av t = (fillT found t).av
  | .nd f l => by
    rw [filledA, fillT]
    split
    · rw [look_av]
      cases lookT found f <;> rfl
    · rw [T.av, fillL_av found l]
theorem fillL_av (found : Tab) : ∀ l : List T, filledA.filledL found.av l = T.av.avs (fillL found l)
  | [] => by rw [filledA.filledL, fillL, T.av.avs]
  | x :: r => by rw [filledA.filledL, fillL, T.av.avs, fillT_av found x, fillL_av found r]
end

structure WSt where
  found : Tab
  sizes : ITab
  depths : ITab
noncomputable def WSt.objs (s : WSt) : List AObj := [AObj.sdict s.found.av, AObj.sdict (intsD s.sizes), AObj.sdict (intsD s.depths)]
noncomputable def smallI (l : ITab) : Bool := l.all fun p => decide (0 ≤ p.2) && decide (p.2 ≤ 100000)
noncomputable def workP (tab : Tab) : List Str → WSt → Option (Option WSt)
  | [], st => some (some st)
  | nm :: r, st => match lookT tab nm with
    | none => none
    | some t =>
      if smallI st.sizes = true ∧ st.sizes.length ≤ 1000 ∧ st.depths.length ≤ 1000 ∧ st.found.length ≤ 1000 then
        (if szP st.sizes t > 10000 ∨ dpP st.depths t > 200 then some none
        else workP tab r ⟨putT st.found nm (fillT st.found t), putI st.sizes nm (szP st.sizes t), putI st.depths nm (dpP st.depths t)⟩)
      else none

theorem ltR {i n : Nat} (h : i < n) : AV.lt n (.ref i) = true := by simp [AV.lt_none, AV.lt_bool, AV.lt_int, AV.lt_str, AV.lt_tup, AV.lt_ref, h]
theorem szOf_small {sizes : ITab} (h : smallI sizes = true) (q : List Nat × T) : 0 ≤ szOf sizes q ∧ szOf sizes q ≤ 100000 := by
  unfold szOf
  split
  · unfold lookI
    cases e : sizes.find? (fun x => decide (x.1 = q.2.head)) with
    | none => simp
    | some p =>
      have := List.all_eq_true.mp h p (List.mem_of_find?_eq_some e)
      simpa using this
  · simp

section
variable {G : Glo} (X : Fns G)
include X
noncomputable def workBody : List Stmt := inB (df 15).body 1

theorem work_pre3 {tab : Tab} (hk : tab.small = true) {σ : List AObj} {i : Nat} (hi : σ[i]? = some (AObj.sdict tab.av)) {J : List AObj} {st : WSt} {nm : Str} {t : T} {L : Addr} (hσ : ∀ o ∈ σ, o.lt σ.length = true) (hJ : ∀ n, ∀ o ∈ J, AObj.lt n o = true)
    (hl : lookT tab nm = some t) (hs : smallI st.sizes = true) (l1 : st.sizes.length ≤ 1000) (l2 : st.depths.length ≤ 1000) (l3 : st.found.length ≤ 1000) :
    SJ G (callE (fdOf 15 X.worked.pm X.worked.code X.worked.doc) L X.worked.a) 7 [("table", .ref i), ("found", .ref σ.length), ("sizes", .ref (σ.length + 1)), ("depths", .ref (σ.length + 2)), ("name", .str nm)] (σ ++ st.objs ++ J) (execs (workBody.take 3) (callE (fdOf 15 X.worked.pm X.worked.code X.worked.doc) L X.worked.a)) .next [("table", .ref i), ("found", .ref σ.length), ("sizes", .ref (σ.length + 1)), ("depths", .ref (σ.length + 2)), ("name", .str nm)] (σ ++ (WSt.mk st.found (putI st.sizes nm (szP st.sizes t)) (putI st.depths nm (dpP st.depths t))).objs ++ J) := by
  obtain ⟨g1, g2, g3⟩ := T.small_iff.mp (lookT_small hk hl)
  have hfree : ∀ (st : WSt), ∀ o ∈ st.objs, ∀ n, AObj.lt n o = true := fun st o ho n => by
    rcases List.mem_cons.mp ho with rfl | ho
    · exact tab_lt n _
    · rcases List.mem_cons.mp ho with rfl | ho
      · exact intsD_lt n _
      · rw [List.mem_singleton.mp ho]; exact intsD_lt n _
  have hcl : ∀ (st : WSt), ∀ o ∈ σ ++ st.objs ++ J, o.lt (σ ++ st.objs ++ J).length = true := fun st o ho => by
    rcases List.mem_append.mp ho with ho | ho
    · rcases List.mem_append.mp ho with ho | ho
      · exact AObj.lt_mono (by simp) (hσ o ho)
      · exact hfree st o ho _
    · exact hJ _ o ho
  have hii := (List.getElem?_eq_some_iff.mp hi).1
  have hpl : ∀ n, AV.lts n (pairL (t.parts.map pP)) = true := fun n => pairL_lt n _
  have ix0' : ∀ (st : WSt) K, (σ ++ st.objs ++ J ++ K)[σ.length]? = some (AObj.sdict st.found.av) := fun st K => atL (atL (ix0 rfl))
  have ix1' : ∀ (st : WSt) K, (σ ++ st.objs ++ J ++ K)[σ.length + 1]? = some (AObj.sdict (intsD st.sizes)) := fun st K => atL (atL (ix1 rfl))
  have ix2' : ∀ (st : WSt) K, (σ ++ st.objs ++ J ++ K)[σ.length + 2]? = some (AObj.sdict (intsD st.depths)) := fun st K => atL (atL (ix2 rfl))
  have len : ∀ st : WSt, (σ ++ st.objs ++ J).length = σ.length + 3 + J.length := fun st => by simp [WSt.objs]; lia
  refine (SJ.cut (junk := [AObj.list (pairL (t.parts.map pP))]) (SJ.weaken (Γ₁ := [("table", .ref i), ("found", .ref σ.length), ("sizes", .ref (σ.length + 1)), ("depths", .ref (σ.length + 2)), ("name", .str nm), ("some", .ref (σ.length + 3 + J.length))]) (SJ.cons (SJ.assign (v := .ref (σ.length + 3 + J.length)) (σ₁ := σ ++ st.objs ++ J ++ [AObj.list (pairL (t.parts.map pP))]) (EJ.is (EJ.callF X.parts.F X.T.ok (EsJ.cons (EJ.sub EJ.var EJ.var (Sub.dict (v := t.av) (atL (atL hi)) (by rw [look_av, hl]; rfl))) EsJ.nil) ((c_parts X 4 t g2 (by lia) g1 (by lia) _).mono (by lia))) (by rw [len]))) ?_) ?_) ?_ ?_ ?_ ?_)
  · refine SJ.cons (SJ.cut (σ₁ := σ ++ (WSt.mk st.found (putI st.sizes nm (szP st.sizes t)) st.depths).objs ++ J ++ [AObj.list (pairL (t.parts.map pP))]) (junk := [AObj.list ((t.parts.filter fun _ => true).map fun q => .int (szOf st.sizes q))]) (SJ.setSub (v := .int (szP st.sizes t)) (σ₁ := σ ++ st.objs ++ J ++ [AObj.list (pairL (t.parts.map pP))] ++ [AObj.list ((t.parts.filter fun _ => true).map fun q => .int (szOf st.sizes q))]) ?_ EJ.var EJ.var ?_) ?_ ?_ ?_ ?_) ?_
    · refine EJ.callB (args := [.ref (σ.length + 3 + J.length + 1)]) X.T.ok X.m rfl (EsJ.cons (EJ.is (EJ.compLast (σ := σ ++ st.objs ++ J) (items := pairL (t.parts.map pP)) (bs := t.parts) (p := fun _ => true) (F := fun q => .int (szOf st.sizes q)) (Γ' := [("table", .ref i), ("found", .ref σ.length), ("sizes", .ref (σ.length + 1)), ("depths", .ref (σ.length + 2)), ("name", .str nm)]) (Γc := [("sizes", .ref (σ.length + 1))]) (cl := [("sizes", L + 1)]) ?_ rfl (by decide) ?_ (hcl st) (hpl _) ?_ (Turns.pairOf pP) ?_ ?_ ?_ ?_ ?_) (by rw [len])) EsJ.nil) ?_
      · rw [len]; rfl
      · have hin := len st
        exact List.forall_mem_cons.mpr ⟨⟨rfl, ltR (by rw [hin]; lia)⟩, List.forall_mem_cons.mpr ⟨⟨rfl, ltR (by rw [hin]; lia)⟩, List.forall_mem_cons.mpr ⟨⟨rfl, ltR (by rw [hin]; lia)⟩, List.forall_mem_cons.mpr ⟨⟨rfl, ltR (by rw [hin]; lia)⟩, List.forall_mem_cons.mpr ⟨⟨rfl, rfl⟩, fun p hp => by cases hp⟩⟩⟩⟩⟩
      · refine CompOk.of rfl rfl rfl rfl ?_ rfl ?_
        · intro p hp; rw [List.mem_singleton.mp hp]; rfl
        · intro p hp; rw [List.mem_singleton.mp hp]; exact ⟨rfl, rfl, rfl⟩
      · intro b p hp; rw [List.mem_singleton.mp hp]; rfl
      · intro b hb C; exact TsJ.nil
      · intro b hb _ C
        have fb : b.2.ok = true := parts_ok 4 t g2 g1 b hb
        exact EJ.is (EJ.ite (TJ.val (tj_isvar X fb (EJ.var (v := b.2.av))) B1.bool) (fun _ => EJ.get X.T.ok EJ.var (ej_head X (EJ.var (v := b.2.av)) fb) EJ.cInt (kvs := intsD st.sizes) (atL (ix1 rfl))) (fun _ => EJ.cInt)) (by
          rw [szOf, look_ints]
          cases isVar b.2 <;> cases lookI st.sizes b.2.head <;> rfl)
      · lia
      · rw [AV.lts_iff]; intro x hx; obtain ⟨q, _, rfl⟩ := List.mem_map.mp hx; rfl
      · have e : (t.parts.filter fun _ => true).map (fun q => AV.int (szOf st.sizes q)) = (t.parts.map (szOf st.sizes)).map AV.int := by rw [filter_tt, List.map_map]; rfl
        rw [e]
        refine OJ.sumI ?_ (fun x hx => ?_) (by simp; lia)
        · rw [show σ.length + 3 + J.length + 1 = (σ ++ st.objs ++ J ++ [AObj.list (pairL (t.parts.map pP))]).length by simp [WSt.objs]; lia]; exact getElem?_last rfl
        · obtain ⟨q, _, rfl⟩ := List.mem_map.mp hx; exact szOf_small hs q
    · refine SetJ.st (SetJ.dict X.T.ok (atL (ix1' st _)) (by simp [intsD]; lia)) ?_
      rw [putI_ints]
      simp only [List.append_assoc]
      rw [List.set_append_right _ _ (by lia)]
      simp [WSt.objs]
    · simp [WSt.objs]
    · have hin : (σ ++ (WSt.mk st.found (putI st.sizes nm (szP st.sizes t)) st.depths).objs ++ J ++ [AObj.list (pairL (t.parts.map pP))]).length = σ.length + 3 + J.length + 1 := by simp [WSt.objs]; lia
      exact List.forall_mem_cons.mpr ⟨ltR (by rw [hin]; lia), List.forall_mem_cons.mpr ⟨ltR (by rw [hin]; lia), List.forall_mem_cons.mpr ⟨ltR (by rw [hin]; lia), List.forall_mem_cons.mpr ⟨ltR (by rw [hin]; lia), List.forall_mem_cons.mpr ⟨rfl, List.forall_mem_cons.mpr ⟨ltR (by rw [hin]; lia), fun p hp => by cases hp⟩⟩⟩⟩⟩⟩
    · exact closed_snoc (hcl _) (hpl _)
    · intro v hv; cases hv
    refine SJ.last (SJ.cut (σ₁ := σ ++ (WSt.mk st.found (putI st.sizes nm (szP st.sizes t)) (putI st.depths nm (dpP st.depths t))).objs ++ J ++ [AObj.list (pairL (t.parts.map pP))]) (junk := [AObj.list ((t.parts.filter fun _ => true).map fun q => .int (dpOf st.depths q))]) (SJ.setSub (v := .int (dpP st.depths t)) (σ₁ := σ ++ (WSt.mk st.found (putI st.sizes nm (szP st.sizes t)) st.depths).objs ++ J ++ [AObj.list (pairL (t.parts.map pP))] ++ [AObj.list ((t.parts.filter fun _ => true).map fun q => .int (dpOf st.depths q))]) ?_ EJ.var EJ.var ?_) ?_ ?_ ?_ ?_)
    · refine EJ.callB (args := [.ref (σ.length + 3 + J.length + 1)]) X.T.ok X.m rfl (EsJ.cons (EJ.is (EJ.compLast (σ := σ ++ (WSt.mk st.found (putI st.sizes nm (szP st.sizes t)) st.depths).objs ++ J) (items := pairL (t.parts.map pP)) (bs := t.parts) (p := fun _ => true) (F := fun q => .int (dpOf st.depths q)) (Γ' := [("table", .ref i), ("found", .ref σ.length), ("sizes", .ref (σ.length + 1)), ("depths", .ref (σ.length + 2)), ("name", .str nm)]) (Γc := [("depths", .ref (σ.length + 2))]) (cl := [("depths", L + 2)]) ?_ rfl (by decide) ?_ (hcl _) (hpl _) ?_ (Turns.pairOf pP) ?_ ?_ ?_ ?_ ?_) (by rw [len])) EsJ.nil) ?_
      · rw [len]; rfl
      · have hin := len (WSt.mk st.found (putI st.sizes nm (szP st.sizes t)) st.depths)
        exact List.forall_mem_cons.mpr ⟨⟨rfl, ltR (by rw [hin]; lia)⟩, List.forall_mem_cons.mpr ⟨⟨rfl, ltR (by rw [hin]; lia)⟩, List.forall_mem_cons.mpr ⟨⟨rfl, ltR (by rw [hin]; lia)⟩, List.forall_mem_cons.mpr ⟨⟨rfl, ltR (by rw [hin]; lia)⟩, List.forall_mem_cons.mpr ⟨⟨rfl, rfl⟩, fun p hp => by cases hp⟩⟩⟩⟩⟩
      · refine CompOk.of rfl rfl rfl rfl ?_ rfl ?_
        · intro p hp; rw [List.mem_singleton.mp hp]; rfl
        · intro p hp; rw [List.mem_singleton.mp hp]; exact ⟨rfl, rfl, rfl⟩
      · intro b p hp; rw [List.mem_singleton.mp hp]; rfl
      · intro b hb C; exact TsJ.nil
      · intro b hb _ C
        have fb : b.2.ok = true := parts_ok 4 t g2 g1 b hb
        have pl := paths_le 4 t g2 b hb
        refine EJ.is (EJ.binop (EJ.callB X.T.ok X.m rfl (EsJ.cons (EJ.var (v := .tup (b.1.map fun (k : Nat) => AV.int (k : Int)))) EsJ.nil) (OJ.lenT (by simp; lia))) (EJ.is (EJ.ite (TJ.val (tj_isvar X fb (EJ.var (v := b.2.av))) B1.bool) (fun _ => EJ.get X.T.ok EJ.var (ej_head X (EJ.var (v := b.2.av)) fb) EJ.cInt (kvs := intsD st.depths) (atL (ix2 rfl))) (fun _ => EJ.cInt)) (show _ = AV.int (if isVar b.2 then (lookI st.depths b.2.head).getD 1 else 1) from ?_)) O2.addI) ?_
        · rw [look_ints]
          cases isVar b.2 <;> cases lookI st.depths b.2.head <;> rfl
        · rw [dpOf, List.length_map]
      · lia
      · rw [AV.lts_iff]; intro x hx; obtain ⟨q, _, rfl⟩ := List.mem_map.mp hx; rfl
      · have e : (t.parts.filter fun _ => true).map (fun q => AV.int (dpOf st.depths q)) = (t.parts.map (dpOf st.depths)).map AV.int := by rw [filter_tt, List.map_map]; rfl
        rw [e]
        refine OJ.maxI ?_ ?_
        · rw [show σ.length + 3 + J.length + 1 = (σ ++ (WSt.mk st.found (putI st.sizes nm (szP st.sizes t)) st.depths).objs ++ J ++ [AObj.list (pairL (t.parts.map pP))]).length by simp [WSt.objs]; lia]; exact getElem?_last rfl
        · obtain ⟨f, l⟩ := t; rw [T.parts]; simp
    · refine SetJ.st (SetJ.dict X.T.ok (atL (ix2' (WSt.mk st.found (putI st.sizes nm (szP st.sizes t)) st.depths) _)) (by simp [intsD]; lia)) ?_
      rw [putI_ints]
      simp only [List.append_assoc]
      rw [List.set_append_right _ _ (by lia)]
      simp [WSt.objs]
    · simp [WSt.objs]
    · have hin : (σ ++ (WSt.mk st.found (putI st.sizes nm (szP st.sizes t)) (putI st.depths nm (dpP st.depths t))).objs ++ J ++ [AObj.list (pairL (t.parts.map pP))]).length = σ.length + 3 + J.length + 1 := by simp [WSt.objs]; lia
      exact List.forall_mem_cons.mpr ⟨ltR (by rw [hin]; lia), List.forall_mem_cons.mpr ⟨ltR (by rw [hin]; lia), List.forall_mem_cons.mpr ⟨ltR (by rw [hin]; lia), List.forall_mem_cons.mpr ⟨ltR (by rw [hin]; lia), List.forall_mem_cons.mpr ⟨rfl, List.forall_mem_cons.mpr ⟨ltR (by rw [hin]; lia), fun p hp => by cases hp⟩⟩⟩⟩⟩⟩
    · exact closed_snoc (hcl _) (hpl _)
    · intro v hv; cases hv
  · exact List.forall_mem_cons.mpr ⟨rfl, List.forall_mem_cons.mpr ⟨rfl, List.forall_mem_cons.mpr ⟨rfl, List.forall_mem_cons.mpr ⟨rfl, List.forall_mem_cons.mpr ⟨rfl, fun p hp => by cases hp⟩⟩⟩⟩⟩
  · simp [WSt.objs]
  · have hin := len (WSt.mk st.found (putI st.sizes nm (szP st.sizes t)) (putI st.depths nm (dpP st.depths t)))
    exact List.forall_mem_cons.mpr ⟨ltR (by rw [hin]; lia), List.forall_mem_cons.mpr ⟨ltR (by rw [hin]; lia), List.forall_mem_cons.mpr ⟨ltR (by rw [hin]; lia), List.forall_mem_cons.mpr ⟨ltR (by rw [hin]; lia), List.forall_mem_cons.mpr ⟨rfl, fun p hp => by cases hp⟩⟩⟩⟩⟩
  · exact hcl _
  · intro v hv; cases hv
theorem work_pre {tab : Tab} (hk : tab.small = true) {σ : List AObj} {i : Nat} (hi : σ[i]? = some (AObj.sdict tab.av)) {J : List AObj} {st : WSt} {nm : Str} {t : T} {L : Addr} (hσ : ∀ o ∈ σ, o.lt σ.length = true) (hJ : ∀ n, ∀ o ∈ J, AObj.lt n o = true)
    (hl : lookT tab nm = some t) (hs : smallI st.sizes = true) (l1 : st.sizes.length ≤ 1000) (l2 : st.depths.length ≤ 1000) (l3 : st.found.length ≤ 1000) :
    ∀ {f : FlowA} {Γe : List (Str × AV)} {σe : List AObj}, SJ G (callE (fdOf 15 X.worked.pm X.worked.code X.worked.doc) L X.worked.a) 7 [("table", .ref i), ("found", .ref σ.length), ("sizes", .ref (σ.length + 1)), ("depths", .ref (σ.length + 2)), ("name", .str nm)] (σ ++ (WSt.mk st.found (putI st.sizes nm (szP st.sizes t)) (putI st.depths nm (dpP st.depths t))).objs ++ J) (execs (workBody.drop 3) (callE (fdOf 15 X.worked.pm X.worked.code X.worked.doc) L X.worked.a)) f Γe σe →
    SJ G (callE (fdOf 15 X.worked.pm X.worked.code X.worked.doc) L X.worked.a) 7 [("table", .ref i), ("found", .ref σ.length), ("sizes", .ref (σ.length + 1)), ("depths", .ref (σ.length + 2)), ("name", .str nm)] (σ ++ st.objs ++ J) (execs workBody (callE (fdOf 15 X.worked.pm X.worked.code X.worked.doc) L X.worked.a)) f Γe σe := by
  intro f Γe σe hrest
  rw [← List.take_append_drop 3 workBody]
  exact SJ.append (work_pre3 X hk hi hσ hJ hl hs l1 l2 l3) hrest
end
end Mine
end
section
open PySem PySem.W PyProof.Rows
set_option linter.unusedVariables false
set_option linter.unusedSimpArgs false
set_option maxRecDepth 100000
namespace Mine
section
variable {G : Glo} (X : Fns G)
include X

theorem ej_glob {env : Env} {d : Nat} {Γ : List (Str × AV)} {σ : List AObj} {x : Str} {pos : Pos} {n : Int} (hc : valOf thePr x = some (.int n)) (hx : env.kindOf x = some .globalImplicit := by rfl) (hd : (x == ("__debug__" : Str)) = false := by decide) (hnn : x ≠ "__name__" := by decide) : EJ G env d Γ σ (eval (.Name x pos) env) (.int n) σ := fun A s ρ Q E R S L h => by
  obtain ⟨v, hv, hr⟩ := X.T.const x _ hnn hc
  refine Calls.Name_function_global L.kind hx (Calls.loadGlobal_global (by rw [L.glob]; exact X.T.ok.glob.keeps S.base) hv ?_) hd
  have r := hr s.heap
  obtain ⟨_, rfl, _⟩ := reads_int_inv r
  exact h _ s ρ S (Ext.refl _ _) (.int _ _)

theorem work_step {tab : Tab} (hk : tab.small = true) {σ : List AObj} {i : Nat} (hi : σ[i]? = some (AObj.sdict tab.av)) {J : List AObj} {st : WSt} {nm : Str} {t : T} {L : Addr} (hσ : ∀ o ∈ σ, o.lt σ.length = true) (hJ : ∀ n, ∀ o ∈ J, AObj.lt n o = true)
    (hl : lookT tab nm = some t) (hs : smallI st.sizes = true) (l1 : st.sizes.length ≤ 1000) (l2 : st.depths.length ≤ 1000) (l3 : st.found.length ≤ 1000) (hno : ¬ (szP st.sizes t > 10000 ∨ dpP st.depths t > 200))
    (q1 : lookI (putI st.sizes nm (szP st.sizes t)) nm = some (szP st.sizes t)) (q2 : lookI (putI st.depths nm (dpP st.depths t)) nm = some (dpP st.depths t)) :
    SJ G (callE (fdOf 15 X.worked.pm X.worked.code X.worked.doc) L X.worked.a) 7 [("table", .ref i), ("found", .ref σ.length), ("sizes", .ref (σ.length + 1)), ("depths", .ref (σ.length + 2)), ("name", .str nm)] (σ ++ st.objs ++ J) (execs workBody (callE (fdOf 15 X.worked.pm X.worked.code X.worked.doc) L X.worked.a)) .next
      [("table", .ref i), ("found", .ref σ.length), ("sizes", .ref (σ.length + 1)), ("depths", .ref (σ.length + 2)), ("name", .str nm)] (σ ++ (WSt.mk (putT st.found nm (fillT st.found t)) (putI st.sizes nm (szP st.sizes t)) (putI st.depths nm (dpP st.depths t))).objs ++ J) := by
  obtain ⟨g1, g2, g3⟩ := T.small_iff.mp (lookT_small hk hl)
  refine work_pre X hk hi hσ hJ hl hs l1 l2 l3 ?_
  generalize szP st.sizes t = sz at *
  generalize dpP st.depths t = dp at *
  refine SJ.cons (SJ.ifF (TJ.is (TJ.boolOp (TJ.or2 (TJ.cmp (EJ.sub EJ.var EJ.var (Sub.dict (v := .int sz) (atL (ix1 rfl)) (by rw [look_ints, q1]; rfl))) (ej_glob X (n := 10000) (by kernel_rfl)) O2.gtI) (fun _ => TJ.cmp (EJ.sub EJ.var EJ.var (Sub.dict (v := .int dp) (atL (ix2 rfl)) (by rw [look_ints, q2]; rfl))) (ej_glob X (n := 200) (by kernel_rfl)) O2.gtI))) ?_) SJ.nil) (SJ.last (SJ.setSub (σ₁ := σ ++ (WSt.mk st.found (putI st.sizes nm sz) (putI st.depths nm dp)).objs ++ J) (σ₃ := σ ++ (WSt.mk st.found (putI st.sizes nm sz) (putI st.depths nm dp)).objs ++ J) (v := (fillT st.found t).av) (EJ.callF X.filled.F X.T.ok (EsJ.cons (EJ.sub EJ.var EJ.var (Sub.dict (v := t.av) (atL (atL hi)) (by rw [look_av, hl]; rfl))) (EsJ.cons EJ.var EsJ.nil)) ?_) EJ.var EJ.var (SetJ.st (SetJ.dict X.T.ok (kvs := st.found.av) (atL (ix0 rfl)) (by simp [Tab.av]; lia)) ?_)))
  · have h1 : ¬ sz > 10000 := fun h => hno (.inl h)
    have h2 : ¬ dp > 200 := fun h => hno (.inr h)
    have h1' : decide ((10000 : Int) < sz) = false := by simp; lia
    have h2' : decide ((200 : Int) < dp) = false := by simp; lia
    rw [h1', h2']; rfl
  · rw [← fillT_av]
    exact (c_filled X (kvs := st.found.av) 4 t g2 g1 _ σ.length (atL (ix0 rfl))).mono (by lia)
  · rw [putT_av]
    rw [List.set_append_left _ _ (by simp [WSt.objs]), List.set_append_right _ _ (by lia)]
    simp [WSt.objs]

end
theorem lookI_put (l : ITab) (k : Str) (v : Int) : lookI (putI l k v) k = some v := by
  unfold putI
  split
  · rename_i h
    induction l with
    | nil => cases h
    | cons x r ih =>
      unfold lookI at ih ⊢
      simp only [List.map_cons, List.find?_cons]
      by_cases hx : x.1 = k
      · simp [hx]
      · simp only [hx, if_false, decide_false]
        refine ih ?_
        simpa [hx] using h
  · rename_i h
    have h' : ∀ x ∈ l, ¬ x.1 = k := fun x hx e => h (List.any_eq_true.mpr ⟨x, hx, by simp [e]⟩)
    unfold lookI
    rw [List.find?_append]
    have : l.find? (fun x => decide (x.1 = k)) = none := List.find?_eq_none.mpr fun x hx => by simpa using h' x hx
    rw [this]; simp

theorem work_loop {G : Glo} {env : Env} {d : Nat} {body : List Stmt} {σ J : List AObj} {Γ : List (Str × AV)} {tab : Tab} {bind : AV → List (Str × AV) → List (Str × AV)}
    (hB : ∀ (st : WSt) (nm : Str) (t : T), lookT tab nm = some t → smallI st.sizes = true → st.sizes.length ≤ 1000 → st.depths.length ≤ 1000 → st.found.length ≤ 1000 → ¬ (szP st.sizes t > 10000 ∨ dpP st.depths t > 200) →
      SJ G env d (bind (.str nm) Γ) (σ ++ st.objs ++ J) (execs body env) .next Γ (σ ++ (WSt.mk (putT st.found nm (fillT st.found t)) (putI st.sizes nm (szP st.sizes t)) (putI st.depths nm (dpP st.depths t))).objs ++ J)) :
    ∀ (names : List Str) (st st' : WSt), workP tab names st = some (some st') → FR G env d body bind (names.map .str) Γ (σ ++ st.objs ++ J) .next Γ (σ ++ st'.objs ++ J)
  | [], st, st', h => by rw [workP] at h; cases h; exact .nil
  | nm :: r, st, st', h => by
    rw [workP] at h
    cases e : lookT tab nm with
    | none => rw [e] at h; cases h
    | some t =>
      rw [e] at h
      dsimp only at h
      split at h
      · rename_i hb
        split at h
        · cases h
        · rename_i hno
          exact .step (hB st nm t e hb.1 hb.2.1 hb.2.2.1 hb.2.2.2 hno) (.inl rfl) (work_loop hB r _ st' h)
      · cases h

section
variable {G : Glo} (X : Fns G)
include X
theorem c_worked {tab : Tab} (hk : tab.small = true) (hl : tab.length < 64) {σ : List AObj} {i : Nat} (hi : σ[i]? = some (AObj.sdict tab.av)) {n : Nat} {out : List Str} (ho : turnP tab n ((sortS (tab.map (·.1))).map fun s => (s, false)).reverse [] = some out) (hout : out.length ≤ 1000)
    {st : WSt} (hw : workP tab out ⟨[], [], []⟩ = some (some st)) : CallJ G 8 X.worked.a [.ref i] σ (.ref σ.length) (σ ++ [AObj.sdict st.found.av]) := by
  refine CallJ.mkE X.T.ok X.worked.F rfl (fun hσ ha L => ?_) (fun hσ ha => ⟨closed_snoc hσ (tab_lt _ _), by simp [AV.lt_none, AV.lt_bool, AV.lt_int, AV.lt_str, AV.lt_tup, AV.lt_ref], by simp⟩)
  show SJE _ _ _ _ _ _ _ _
  have hJ : ∀ n, ∀ o ∈ ([AObj.sdict (trues out), AObj.list []] : List AObj), AObj.lt n o = true := fun n o ho => by
    rcases List.mem_cons.mp ho with rfl | ho
    · exact trues_lt n _
    · rw [List.mem_singleton.mp ho]; rfl
  have h0 : ∀ o ∈ σ ++ (WSt.mk [] [] []).objs, AObj.lt (σ ++ (WSt.mk [] [] []).objs).length o = true := fun o ho => by
    rcases List.mem_append.mp ho with ho | ho
    · exact AObj.lt_mono (by simp) (hσ o ho)
    · rcases List.mem_cons.mp ho with rfl | ho
      · rfl
      · rcases List.mem_cons.mp ho with rfl | ho
        · rfl
        · rw [List.mem_singleton.mp ho]; rfl
  refine SJE.cons (SJ.unpack3 (u := .ref σ.length) (v := .ref (σ.length + 1)) (w := .ref (σ.length + 2)) (σ₁ := σ ++ (WSt.mk [] [] []).objs) ?_) ?_
  · exact EJ.mkTuple (EsJ.cons EJ.dict0S (EsJ.cons (EJ.is EJ.dict0S (by simp)) (EsJ.cons (EJ.st (EJ.is EJ.dict0S (by simp)) (by simp [WSt.objs, Tab.av, intsD])) EsJ.nil)))
  · refine SJE.cons (SJ.for (σ₁ := σ ++ (WSt.mk [] [] []).objs ++ [AObj.sdict (trues out), AObj.list []]) (ItJ.name (ItJ.list (EJ.is (EJ.callF X.inTurn.F X.T.ok (EsJ.cons EJ.var EsJ.nil) ((c_inTurn X hk hl (σ := σ ++ (WSt.mk [] [] []).objs) (atL hi) ho hout).mono (by lia))) (by simp; lia)) (strs_lt _ _) (fun _ => closed2 h0 (trues_lt _ _) rfl) (by simp))) (work_loop (fun st nm t q1 q2 q3 q4 q5 q6 => ?_) out _ st hw)) (SJE.of (junk := [AObj.sdict (intsD st.sizes), AObj.sdict (intsD st.depths), AObj.sdict (trues out), AObj.list []]) (SJ.last (SJ.ret EJ.var)) ?_)
    · exact SJ.weaken (work_step X hk hi hσ hJ q1 q2 q3 q4 q5 q6 (lookI_put _ _ _) (lookI_put _ _ _)) (List.forall_mem_cons.mpr ⟨rfl, List.forall_mem_cons.mpr ⟨rfl, List.forall_mem_cons.mpr ⟨rfl, List.forall_mem_cons.mpr ⟨rfl, fun p hp => by cases hp⟩⟩⟩⟩)
    · simp [WSt.objs]
end
end Mine
end
section
open PySem PySem.W PyProof.Rows
set_option linter.unusedVariables false
set_option linter.unusedSimpArgs false
set_option maxRecDepth 100000
namespace Mine
section
variable {G : Glo} (X : Fns G)
include X
theorem c_unified_none {σ : List AObj} {one other : T} (h1 : one.fair = true) (h2 : other.fair = true) {n : Nat} (hb : begunP n ⟨[], [(one, other)], []⟩ = some none) :
    CallJ G 10 X.unified.a [one.av, other.av] σ .none σ := by
  refine CallJ.mkE X.T.ok X.unified.F rfl (fun hσ ha L => ?_) (fun hσ ha => ⟨hσ, rfl, Nat.le_refl _⟩)
  show SJE _ _ _ _ _ _ _ _
  refine SJE.cons (SJ.assign (v := .none) (EJ.callF X.begun.F X.T.ok (EsJ.cons EJ.var (EsJ.cons EJ.var EsJ.nil)) (c_begun X h1 h2 hb))) ?_
  exact SJE.of (junk := []) (SJ.last (SJ.ret (EJ.ifT (TJ.is (TJ.cmp EJ.var EJ.cNone O2.is) rfl) EJ.cNone))) (by simp [qS])
theorem c_unified_ok {σ : List AObj} {one other : T} (h1 : one.fair = true) (h2 : other.fair = true) {n n' : Nat} {tab : Tab} (hb : begunP n ⟨[], [(one, other)], []⟩ = some (some tab)) (hk : tab.small = true) (hl : tab.length < 64)
    {out : List Str} (ho : turnP tab n' ((sortS (tab.map (·.1))).map fun s => (s, false)).reverse [] = some out) (hout : out.length ≤ 1000) {st : WSt} (hw : workP tab out ⟨[], [], []⟩ = some (some st)) :
    CallJ G 10 X.unified.a [one.av, other.av] σ (.ref (σ.length + 1)) (σ ++ [AObj.sdict tab.av] ++ [AObj.sdict st.found.av]) := by
  refine CallJ.mkE X.T.ok X.unified.F rfl (fun hσ ha L => ?_) (fun hσ ha => ⟨closed_snoc (closed_snoc hσ (tab_lt _ _)) (tab_lt _ _), by simp [AV.lt_none, AV.lt_bool, AV.lt_int, AV.lt_str, AV.lt_tup, AV.lt_ref], by simp⟩)
  show SJE _ _ _ _ _ _ _ _
  refine SJE.cons (SJ.assign (v := .ref σ.length) (EJ.callF X.begun.F X.T.ok (EsJ.cons EJ.var (EsJ.cons EJ.var EsJ.nil)) (c_begun X h1 h2 hb))) ?_
  refine SJE.of (junk := []) (SJ.last (SJ.ret (EJ.ifF (TJ.is (TJ.cmp EJ.var EJ.cNone O2.is) rfl) (EJ.is (EJ.callF X.worked.F X.T.ok (EsJ.cons EJ.var EsJ.nil) ((c_worked X hk hl (σ := qS σ (some tab)) (i := σ.length) (getElem?_last rfl) ho hout hw).mono (by lia))) (by simp [qS]))))) (by simp [qS])
end
end Mine
end
section
open PySem PySem.W PyProof.Rows
set_option linter.unusedVariables false
set_option linter.unusedSimpArgs false
set_option maxRecDepth 100000
namespace Mine
noncomputable abbrev eBm (D : Addr) : List Value := [.ref D, .type "Exception", .type "BaseException", .type "object"]
section
variable {prog : Program} {w : World} {A : Around} {E : Value → Shared → Prop} {R : Result → Shared → Prop} {h : Heap} {g : Array GenState} {d : Drawn} {t : Nat} {os : OsState}
variable {nm q : Str} {C D N : Addr} {bs : List Value} {hdct : Bool} {sn : List Str} {sub : List Value} {ab : Bool} {col : Option Bool} {dd : Option Addr} {k0 k1 k2 k3 k5 : Option Value}

theorem eE : (Value.ref C :: eBm D).contains (.type "Exception") = true := by simp
theorem eB : (Value.ref C :: eBm D).contains (.type "BaseException") = true := by simp
theorem eA : (Value.ref C :: eBm D).contains (.type "AttributeError") = false := by simp
theorem eN : (Value.ref C :: eBm D).contains (.type "NameError") = false := by simp
theorem eC : (Value.ref C :: eBm D).contains (.ref C) = true := by simp

theorem lim_check_new {M : Model} {rest : List Value} {Q : Unit → Shared → Prop} (hC : h.get? C = some (excClassObj nm q C N bs (eBm D) hdct sn sub ab col dd k0 k1 k2 k3 k5 "Exception.__new__"))
    (hq : Q () ⟨h, g, d, t, os⟩) : wpAny M A (checkBuiltinCall "Exception.__new__" ⟨.ref C :: rest, []⟩) Q E ⟨h, g, d, t, os⟩ := by
  have F := PySem.F.excBase_Exception
  have hstar := F.noStar
  simp only [checkBuiltinCall, F.newKind, F.newSplit, F.newRow]
  ((with_reducible apply PySem.wpAny_ite_true); focus (rfl; done))
  (with_reducible refine PySem.wpAny_bind ?_)
  wp_delta
  (with_reducible refine PySem.wpAny_bind ?_)
  (refine wpAny_loadPart_at hC ?_)
  (simp only [bne_self_eq_false, Bool.false_eq_true, if_false])
  (with_reducible refine PySem.wpAny_pure ?_)
  ((with_reducible apply PySem.wpAny_ite_false); focus (rfl; done))
  (with_reducible refine PySem.wpAny_bind ?_)
  (refine wpAny_isSubtype_exc hC ?_; rw [eE])
  ((with_reducible apply PySem.wpAny_ite_false); focus (rfl; done))
  (with_reducible refine PySem.wpAny_bind ?_)
  (refine wpAny_staticBase_exc hC ?_)
  (with_reducible refine PySem.wpAny_bind ?_)
  (refine wpAny_madeBy_exc hC ?_)
  (simp only [bne_self_eq_false, Bool.false_eq_true, if_false])
  wp_delta
  (simp only [bne_self_eq_false, Bool.false_eq_true, if_false])
  (with_reducible refine PySem.wpAny_bind ?_)
  wp_delta
  (simp only [bne_self_eq_false, Bool.false_eq_true, if_false])
  ((with_reducible apply PySem.wpAny_ite_true); focus (rfl; done))
  (with_reducible refine PySem.wpAny_pure ?_)
  (with_reducible refine PySem.wpAny_bind ?_)
  wp_delta
  (simp only [bne_self_eq_false, Bool.false_eq_true, if_false])
  ((with_reducible apply PySem.wpAny_ite_true); focus (rfl; done))
  (with_reducible refine PySem.wpAny_pure ?_)
  wp_delta
  (with_reducible_and_instances refine PySem.wpAny_pure ?_)
  exact hq

theorem lim_new {rest : List Value} (hC : h.get? C = some (excClassObj nm q C N bs (eBm D) hdct sn sub ab col dd k0 k1 k2 k3 k5 "Exception.__new__"))
    (hq : R (.ok (.ret (.ref (h.objs.size + 1)))) ⟨(h.push { cls := .type "tuple", data := .seq rest.toArray }).push
      { cls := .ref C, data := .fields #[.ref h.objs.size, .none, .none, .none, .bool false, .none] }, g, d, t, os⟩) (hrest : rest.length ≤ sizeLine := by size_fits) :
    codeAny (model prog w) A (.builtin "Exception.__new__" ⟨.ref C :: rest, []⟩) R ⟨h, g, d, t, os⟩ := by
  have F := PySem.F.excBase_Exception
  have hends := F.ends
  have hcB := eE (C := C) (D := D)
  have hcA := eA (C := C) (D := D)
  have hcN := eN (C := C) (D := D)
  refine codeAny_builtinAt F.entry ?_
  unfold Builtin.«BaseException.__new__»
  refine _root_.PySem.wpAt_bind ?_
  show _root_.PySem.wpAt _ _ _ (PySem.stack >>= _) _ _ _
  refine _root_.PySem.wpAt_bind (_root_.PySem.wpAt_stack fun p below => _root_.PySem.wpAt_of_wpAny ?_)
  ((with_reducible apply PySem.wpAny_ite_true); focus (simp [*]; done))
  (with_reducible refine PySem.wpAny_pure ?_)
  refine _root_.PySem.wpAt_of_wpAny ?_
  rw [F.owner]
  (with_reducible refine PySem.wpAny_bind ?_)
  wp_delta
  (with_reducible refine PySem.wpAny_bind ?_)
  wp_delta
  (with_reducible refine wpAny_loadPart_at hC ?_)
  (with_reducible refine PySem.wpAny_pure ?_)
  ((with_reducible apply PySem.wpAny_ite_false); focus (rfl; done))
  (with_reducible refine PySem.wpAny_bind ?_)
  (with_reducible refine wpAny_isSubtype_exc hC ?_; first | rw [hcB] | rw [hcA] | rw [hcN])
  ((with_reducible apply PySem.wpAny_ite_false); focus (rfl; done))
  (with_reducible refine PySem.wpAny_bind ?_)
  (with_reducible refine wpAny_madeHere_exc F.canon hC ?_)
  (with_reducible refine PySem.wpAny_bind ?_)
  wp_delta
  (with_reducible refine PySem.wpAny_bind ?_)
  (with_reducible refine wpAny_isSubtype_exc hC ?_; first | rw [hcB] | rw [hcA] | rw [hcN])
  ((with_reducible apply PySem.wpAny_ite_false); focus (rfl; done))
  (with_reducible refine PySem.wpAny_bind ?_)
  (with_reducible refine wpAny_isSubtype_exc hC ?_; first | rw [hcB] | rw [hcA] | rw [hcN])
  ((with_reducible apply PySem.wpAny_ite_false); focus (rfl; done))
  (with_reducible refine PySem.wpAny_pure ?_)
  (with_reducible refine PySem.wpAny_bind ?_)
  wp_delta
  wp_delta
  ((with_reducible apply PySem.wpAny_ite_false); focus (simp [*]; done))
  wp_delta
  wp_delta
  (with_reducible refine PySem.wpAny_bind ?_)
  (with_reducible refine PySem.wpAny_alloc' ?_)
  (with_reducible refine PySem.wpAny_pure ?_)
  (with_reducible refine PySem.wpAny_bind ?_)
  wp_delta
  ((with_reducible apply PySem.wpAny_ite_false); focus (rfl; done))
  wp_delta
  wp_delta
  (with_reducible refine PySem.wpAny_bind ?_)
  (with_reducible refine PySem.wpAny_alloc' ?_)
  (with_reducible refine PySem.wpAny_bind ?_)
  wp_delta
  (with_reducible refine PySem.wpAny_bind ?_)
  ((with_reducible apply PySem.wpAny_load'); focus (heap_get; done))
  (with_reducible refine PySem.wpAny_pure ?_)
  ((with_reducible apply PySem.wpAny_ite_false); focus (rfl; done))
  (with_reducible refine PySem.wpAny_pure ?_)
  wp_delta
  (with_reducible refine PySem.wpAny_pure ?_)
  show R _ _
  rw [Heap.size_push]
  exact hq

theorem lim_find {M : Model} {f : Addr} {cd : ClassData} {oD : Obj} {mN mD : Str → Option Value} {name : Str} {Q : Option Value → Shared → Prop} (hC : h.get? C = some (excClassObj nm q C N bs (eBm D) hdct sn sub ab col dd k0 k1 k2 k3 k5 "Exception.__new__"))
    (hn : h.Ns N mN) (hD : h.get? D = some oD) (hd : oD.data = .cls cd) (hm : h.Ns cd.ns mD) (h0 : mN name = none) (h1 : mD name = some (.ref f)) (hq : Q (some (.ref f)) ⟨h, g, d, t, os⟩) : wpAny M A (typeLookup (.ref C) name) Q E ⟨h, g, d, t, os⟩ := by
  rw [typeLookup_eq]
  refine wpAny_bind (wpAny_mroOf_exc hC ?_)
  rw [lookupAlong_cons]
  refine wpAny_bind (wpAny_classOwn_exc hC hn ?_)
  rw [h0]
  dsimp only
  rw [lookupAlong_cons]
  obtain ⟨c0, d0, dt, sl⟩ := oD
  cases hd
  refine wpAny_bind (wpAny_classOwn_cls hD hm ?_)
  rw [h1]
  exact wpAny_pure hq

theorem lim_call {f : Addr} {cd : ClassData} {oD oI : Obj} {mN mD : Str → Option Value} {rest : List Value} {Q : Value → Shared → Prop}
    (hC : h.get? C = some (excClassObj nm q C N bs (eBm D) hdct sn sub ab col dd k0 k1 k2 k3 k5 "Exception.__new__")) (hn : h.Ns N mN) (hD : h.get? D = some oD) (hd : oD.data = .cls cd) (hm : h.Ns cd.ns mD) (h0 : mN "__init__" = none) (h1 : mD "__init__" = some (.ref f))
    (hfI : h.get? f = some oI) (hfc : oI.cls = .type "function")
    (hq : ∀ h' e, Heap.MadeExcOf h h' e (.ref C) rest →
      wpAny (model prog w) (A.under (.builtin "type.__call__" ⟨.ref C :: rest, []⟩)) (call (.ref f) (.ref e :: rest)) (fun r s' => r = .none ∧ Q (.ref e) s') E ⟨h', g, d, t, os⟩) (hrest : rest.length ≤ sizeLine := by size_fits) :
    wpAny (model prog w) A (call (.ref C) rest) Q E ⟨h, g, d, t, os⟩ := by
  have F := PySem.F.excBase_Exception
  have f1 := tc_lookup
  have f2 := tc_bind (.ref C)
  have hT : (⟨h, g, d, t, os⟩ : Shared).TypeIs (.ref C) "type" := ⟨_, hC, rfl⟩
  refine wpAny_call (codeAny_of_tree ?_)
  show wpAny _ _ (callAny (.ref C) _) _ _ _
  wp_delta
  (with_reducible refine PySem.wpAny_bind ?_)
  ((with_reducible apply PySem.wpAny_load'); focus (heap_get; done))
  wp_delta
  wp_delta
  (with_reducible refine PySem.wpAny_bind ?_)
  (with_reducible refine PySem.wpAny_specialOf (by assumption) (by assumption) ?_)
  (with_reducible refine PySem.wpAny_bind ?_)
  (with_reducible refine PySem.wpAny_of_eq (by assumption) ?_)
  (with_reducible refine PySem.wpAny_bind ?_)
  wp_delta
  (with_reducible refine PySem.wpAny_pure ?_)
  ((with_reducible apply PySem.wpAny_ite_true); focus (rfl; done))
  wp_delta
  (with_reducible refine PySem.wpAny_pure ?_)
  refine ⟨rfl, ?_⟩
  refine codeAny_call_builtin_at (Code.quiet_builtin _ (by decide +kernel)) entry_typeCall (wpAny_check_type_call_sub hC ?_)
  wp_delta
  ((with_reducible apply PySem.wpAny_ite_false); focus (rfl; done))
  (with_reducible refine PySem.wpAny_bind ?_)
  wp_delta
  (with_reducible refine PySem.wpAny_bind ?_)
  wp_delta
  (with_reducible refine PySem.wpAny_bind ?_)
  ((with_reducible apply PySem.wpAny_load'); focus (heap_get; done))
  (with_reducible refine PySem.wpAny_pure ?_)
  (with_reducible refine PySem.wpAny_pure ?_)
  ((with_reducible apply PySem.wpAny_ite_false); focus (rfl; done))
  (with_reducible refine PySem.wpAny_bind ?_)
  (with_reducible refine wpAny_madeBy_exc hC ?_)
  (with_reducible refine PySem.wpAny_bind ?_)
  (with_reducible refine PySem.wpAny_pure ?_)
  (with_reducible refine PySem.wpAny_bind ?_)
  (with_reducible refine PySem.wpAny_holding ?_)
  (with_reducible refine PySem.wpAny_call ?_)
  refine codeAny_call_builtin_code (Code.quiet_builtin _ F.quiet) (lim_check_new hC ?_)
  refine lim_new hC ?_ hrest
  show wpAny _ _ _ _ _ _
  have up : ∀ b o, h.get? b = some o → ((h.push { cls := .type "tuple", data := .seq rest.toArray }).push { cls := .ref C, data := .fields #[.ref h.objs.size, .none, .none, .none, .bool false, .none] }).get? b = some o :=
    fun b o e => Heap.get?_push_of_some _ (Heap.get?_push_of_some _ e)
  have hC₁ := up _ _ hC
  have hfI₁ := up _ _ hfI
  have hn₁ := hn.keeps up
  have hm₁ := hm.keeps up
  have hget : ((h.push { cls := .type "tuple", data := .seq rest.toArray }).push
      { cls := .ref C, data := .fields #[.ref h.objs.size, .none, .none, .none, .bool false, .none] }).get? (h.objs.size + 1) = some
      { cls := .ref C, data := .fields #[.ref h.objs.size, .none, .none, .none, .bool false, .none] } := by heap_get
  have hcC := eC (C := C) (D := D)
  unfold isInstance
  (with_reducible refine PySem.wpAny_bind ?_)
  (with_reducible refine PySem.wpAny_bind ?_)
  wp_delta
  (with_reducible refine PySem.wpAny_bind ?_)
  ((with_reducible apply PySem.wpAny_loadPart'); focus (heap_get; done))
  (with_reducible refine PySem.wpAny_pure ?_)
  dsimp only
  refine wpAny_isSubtype_exc hC₁ ?_
  rw [hcC]
  first | refine PySem.wpAny_ite_false rfl ?_ | simp only [Bool.not_true, Bool.false_eq_true, if_false]
  (with_reducible refine PySem.wpAny_bind ?_)
  (with_reducible refine PySem.wpAny_holding ?_)
  wp_delta
  (with_reducible refine PySem.wpAny_bind ?_)
  wp_delta
  (with_reducible refine PySem.wpAny_bind ?_)
  wp_delta
  (with_reducible refine PySem.wpAny_bind ?_)
  ((with_reducible apply PySem.wpAny_loadPart'); focus (heap_get; done))
  (with_reducible refine PySem.wpAny_pure ?_)
  show wpAny _ _ (typeLookup (.ref C) _) _ _ _
  refine lim_find hC₁ hn₁ (up _ _ hD) hd hm₁ h0 h1 ?_
  refine wpAny_holding (wpAny_bind ?_)
  unfold bindSpecial
  refine wpAny_bind (wpAny_typeOf (T := "function") ⟨_, hfI₁, hfc⟩ ?_)
  rw [if_pos (by decide)]
  refine wpAny_pure (wpAny_bind (wpAny_mono (hq _ (h.objs.size + 1) ⟨up, Heap.get?_none_of_le (Nat.le_succ _), h.objs.size, hget, Heap.get?_none_of_le (Nat.le_refl _), ?_⟩) (fun r s' hr => ?_) fun _ _ x => x))
  · exact Heap.get?_push_of_some _ (Heap.get?_push_at rfl rfl)
  · obtain ⟨rfl, hQ⟩ := hr
    (with_reducible refine PySem.wpAny_pure ?_)
    ((with_reducible apply PySem.wpAny_ite_false); focus (rfl; done))
    wp_delta
    (with_reducible refine PySem.wpAny_pure ?_)
    exact hQ
end
end Mine
end
section
open PySem PySem.W PyProof.Rows
set_option linter.unusedVariables false
set_option linter.unusedSimpArgs false
set_option maxRecDepth 100000
namespace Mine
theorem ty_ei : typeOf (.builtin "Exception.__init__") = pure (.type "wrapper_descriptor") := by show builtinType _ = _; rw [builtinType_eq_fast]; kernel_rfl
theorem sl_wd_get : Slot "wrapper_descriptor" "__get__" "wrapper_descriptor.__get__" := .of (owner := "wrapper_descriptor") (n := "__get__") (by rw [typeLookup_type, builtinLookup_eq_fast]; kernel_rfl) (by decide +kernel) (by decide +kernel) (by decide +kernel)
  (by first | exact .inl (by decide +kernel) | exact .inr (by decide +kernel)) (by rw [isSubtype_type]; kernel_rfl)
theorem en_wd_get : entryFor table "wrapper_descriptor.__get__" = some Builtin.«wrapper_descriptor.__get__» := entryFor_of_tree (by kernel_rfl)
theorem ar_wd_get (a b c : Value) : argsOk "wrapper_descriptor.__get__" ⟨[a, b, c], []⟩ := by unfold argsOk; kernel_rfl
theorem nilIn (h : Heap) : Frag.In [] h := fun a o e => by cases e
theorem own_ei {M : Model} {h : Heap} : Looks M h (classOwn (.type "Exception") "__init__") (some (.builtin "Exception.__init__")) := looks_ownIn (K := []) (nilIn h) (by kernel_rfl)

section
variable {prog : Program} {w : World} {A : Around} {E : Value → Shared → Prop} {R : Result → Shared → Prop} {h : Heap} {g : Array GenState} {d : Drawn} {t : Nat} {os : OsState}
variable {nm q : Str} {C D N : Addr} {bs : List Value} {hdct : Bool} {sn : List Str} {sub : List Value} {ab : Bool} {col : Option Bool} {dd : Option Addr} {k0 k1 k2 k3 k5 : Option Value}

/-- one of the own class -/
theorem inst_exc {M : Model} {e : Addr} {oe : Obj} {T : String} {b : Bool} {Q : Bool → Shared → Prop} (hC : h.get? C = some (excClassObj nm q C N bs (eBm D) hdct sn sub ab col dd k0 k1 k2 k3 k5 "Exception.__new__")) (he : h.get? e = some oe) (hc : oe.cls = .ref C)
    (hb : (Value.ref C :: eBm D).contains (.type T) = b) (hq : Q b ⟨h, g, d, t, os⟩) : wpAny M A (isInstance (.ref e) (.type T)) Q E ⟨h, g, d, t, os⟩ := by
  unfold isInstance
  refine wpAny_bind ?_
  unfold typeOf
  refine wpAny_bind (wpAny_loadPart_at he (wpAny_pure ?_))
  rw [hc]
  refine wpAny_isSubtype_exc hC ?_
  rw [hb]; exact hq

theorem wd_get {e : Addr} {oe : Obj} {Q : Value → Shared → Prop} (hC : h.get? C = some (excClassObj nm q C N bs (eBm D) hdct sn sub ab col dd k0 k1 k2 k3 k5 "Exception.__new__")) (he : h.get? e = some oe) (hc : oe.cls = .ref C)
    (hq : Q (.ref h.objs.size) ⟨h.push { cls := .type "method-wrapper", data := .fields #[.builtin "Exception.__init__", .ref e] }, g, d, t, os⟩) :
    wpAny (model prog w) A (call (.builtin "wrapper_descriptor.__get__") [.builtin "Exception.__init__", .ref e, .ref C]) Q E ⟨h, g, d, t, os⟩ := by
  refine wpAny_call_entry sl_wd_get ty_ei en_wd_get ?_ (ar_wd_get _ _ _)
  unfold Builtin.«wrapper_descriptor.__get__»
  (with_reducible refine PySem.wpAny_bind ?_)
  wp_delta
  ((with_reducible apply PySem.wpAny_ite_false); focus (rfl; done))
  (with_reducible refine PySem.wpAny_bind ?_)
  (with_reducible refine PySem.wpAny_pure ?_)
  ((with_reducible apply PySem.wpAny_ite_false); focus (rfl; done))
  (with_reducible refine PySem.wpAny_pure ?_)
  wp_delta
  wp_delta
  (with_reducible refine PySem.wpAny_bind ?_)
  wp_delta
  (with_reducible refine PySem.wpAny_bind ?_)
  wp_delta
  (with_reducible refine PySem.wpAny_pure ?_)
  (with_reducible refine PySem.wpAny_bind ?_)
  wp_delta
  (with_reducible refine PySem.wpAny_bind ?_)
  wp_delta
  (with_reducible refine PySem.wpAny_bind ?_)
  ((with_reducible apply PySem.wpAny_loadPart'); focus (heap_get; done))
  (with_reducible refine PySem.wpAny_pure ?_)
  rw [hc, show (".".intercalate ("Exception.__init__".cutAt '.').dropLast) = "Exception" from by decide +kernel]
  refine wpAny_isSubtype_exc hC ?_
  rw [eE]
  first | refine PySem.wpAny_ite_false rfl ?_ | simp only [Bool.not_true, Bool.false_eq_true, if_false]
  refine wpAny_pure ?_
  unfold newFields
  refine wpAny_bind (wpAny_newObj_type ?_ (by size_fits))
  exact wpAny_pure ⟨_, rfl, hq⟩

set_option maxHeartbeats 4000000 in
theorem sup_ga {so e : Addr} {oe : Obj} {tk : Tok} {Q : Fin → Shared → Prop} (hC : h.get? C = some (excClassObj nm q C N bs (eBm D) hdct sn sub ab col dd k0 k1 k2 k3 k5 "Exception.__new__")) (he : h.get? e = some oe) (hc : oe.cls = .ref C) (hCD : C ≠ D) (heC : e ≠ C)
    (hso : h.get? so = some { cls := .type "super", dict := none, data := .fields #[.ref D, .ref e, .ref C], slots := #[] }) (hno : Looks (model prog w) h (opaqueClassAbove (.ref C)) none)
    (hq : Q (.done (.ret (.ref h.objs.size))) ⟨h.push { cls := .type "method-wrapper", data := .fields #[.builtin "Exception.__init__", .ref e] }, g, d, t, os⟩) :
    wpAny (model prog w) A (Builtin.«super.__getattribute__» ⟨[.ref so, .str "__init__" tk], []⟩) Q E ⟨h, g, d, t, os⟩ := by
  have hne : (Value.ref e == Value.ref C) = false := by simp [heC]
  have hl : (((Value.ref C :: eBm D).dropWhile (· != .ref D)).drop 1) = [.type "Exception", .type "BaseException", .type "object"] := by
    have h1 : (Value.ref C != Value.ref D) = true := by simp [hCD]
    have h2 : (Value.ref D != Value.ref D) = false := by simp
    rw [List.dropWhile_cons, h1, if_pos rfl, List.dropWhile_cons, h2]
    rfl
  have hdt : ({ cls := .type "super", dict := none, data := .fields #[.ref D, .ref e, .ref C], slots := #[] } : Obj).data = .fields #[.ref D, .ref e, .ref C] := rfl
  have f0 : (#[.ref D, .ref e, .ref C] : Array Value)[0]? = some (.ref D) := rfl
  have f1 : (#[.ref D, .ref e, .ref C] : Array Value)[1]? = some (.ref e) := rfl
  have f2 : (#[.ref D, .ref e, .ref C] : Array Value)[2]? = some (.ref C) := rfl
  have hn : ((Str.ofString "__init__") == ("__class__" : Str)) = false := by decide
  have hlk := sl_wd_get.lookup
  have hty := ty_ei
  unfold Builtin.«super.__getattribute__»
  (simp only [hn, hne, Bool.or_false, Bool.false_eq_true, if_false])
  (with_reducible refine PySem.wpAny_bind ?_)
  wp_delta
  (with_reducible refine PySem.wpAny_pure ?_)
  ((with_reducible apply PySem.wpAny_ite_false); focus (rfl; done))
  (with_reducible refine PySem.wpAny_bind ?_)
  wp_delta
  (with_reducible refine PySem.wpAny_pure ?_)
  (simp only [hn, hne, Bool.or_false, Bool.false_eq_true, if_false])
  (with_reducible refine PySem.wpAny_bind ?_)
  (with_reducible refine wpAny_field hso hdt f0 ?_)
  (with_reducible refine PySem.wpAny_bind ?_)
  (with_reducible refine wpAny_field hso hdt f1 ?_)
  (with_reducible refine PySem.wpAny_bind ?_)
  (with_reducible refine wpAny_field hso hdt f2 ?_)
  (simp only [hn, hne, Bool.or_false, Bool.false_eq_true, if_false])
  ((with_reducible apply PySem.wpAny_ite_false); focus (rfl; done))
  (with_reducible refine PySem.wpAny_bind ?_)
  (with_reducible refine ks_wpAny_notOpaque hno ?_)
  ((with_reducible apply PySem.wpAny_ite_false); focus (rfl; done))
  (with_reducible refine PySem.wpAny_bind ?_)
  (with_reducible refine wpAny_mroOf_exc hC ?_; rw [hl]; rw [List.forIn_cons])
  (with_reducible refine PySem.wpAny_bind ?_)
  (with_reducible refine PySem.wpAny_bind ?_)
  (with_reducible refine PySem.wpAny_bind ?_)
  (with_reducible refine Looks.at own_ei ?_)
  (simp only [hn, hne, Bool.or_false, Bool.false_eq_true, if_false])
  (with_reducible refine PySem.wpAny_bind ?_)
  (with_reducible refine PySem.wpAny_of_eq (by assumption) ?_)
  (with_reducible refine PySem.wpAny_bind ?_)
  (with_reducible refine PySem.wpAny_of_eq (by assumption) ?_)
  (simp only [hn, hne, Bool.or_false, Bool.false_eq_true, if_false])
  (with_reducible refine PySem.wpAny_bind ?_)
  (with_reducible refine PySem.wpAny_holding ?_)
  (with_reducible refine wd_get hC he hc ?_)
  (with_reducible refine PySem.wpAny_bind ?_)
  wp_delta
  (with_reducible refine PySem.wpAny_pure ?_)
  (with_reducible refine PySem.wpAny_pure ?_)
  (simp only [hn, hne, Bool.or_false, Bool.false_eq_true, if_false])
  (with_reducible refine PySem.wpAny_pure ?_)
  (simp only [hn, hne, Bool.or_false, Bool.false_eq_true, if_false])
  (with_reducible refine PySem.wpAny_pure ?_)
  all_goals exact hq

theorem sup_method {so e : Addr} {oe : Obj} {pl : Sem Bool} {Q : Value × List Value → Shared → Prop} (hC : h.get? C = some (excClassObj nm q C N bs (eBm D) hdct sn sub ab col dd k0 k1 k2 k3 k5 "Exception.__new__")) (he : h.get? e = some oe) (hc : oe.cls = .ref C) (hCD : C ≠ D) (heC : e ≠ C)
    (hso : h.get? so = some { cls := .type "super", dict := none, data := .fields #[.ref D, .ref e, .ref C], slots := #[] }) (hno : Looks (model prog w) h (opaqueClassAbove (.ref C)) none)
    (hq : Q (.ref h.objs.size, []) ⟨h.push { cls := .type "method-wrapper", data := .fields #[.builtin "Exception.__init__", .ref e] }, g, d, t + 1, os⟩) :
    wpAny (model prog w) A (getMethod (.ref so) "__init__" pl) Q E ⟨h, g, d, t, os⟩ := by
  have hlk := PySem.F.ks_slot_super_ga.lookup
  have hcan := PySem.F.ks_canon_super_ga
  have hT : ∀ t', (⟨h, g, d, t', os⟩ : Shared).TypeIs (.ref so) "super" := fun _ => ⟨_, hso, rfl⟩
  unfold getMethod
  refine wpAny_bind (wpAny_specialOf (hT _) hlk ?_)
  show wpAny _ _ (if (Manifest.canonical "super.__getattribute__" != "object.__getattribute__") = true then _ else _) _ _ _
  rw [if_pos hcan]
  unfold getAttr getAttrBy
  refine wpAny_bind (wpAny_bind (wpAny_mkText (wpAny_holding (wpAny_bind (wpAny_typeOf (hT _) (wpAny_bind (wpAny_of_eq hlk ?_)))))))
  show wpAny _ _ (getAttrByItsOwn (.ref so) (.str "__init__" t) (.type "super") (.builtin "super.__getattribute__") true false) _ _ _
  unfold getAttrByItsOwn hookBefore callGetattribute boundAndCalled
  refine wpAny_bind (wpAny_of_eq (show (if onTheHeap (.type "super") then typeLookup (.type "super") "__getattr__" else pure none) = pure none from rfl) ?_)
  refine wpAny_bind (wpAny_attempt (wpAny_holding ?_))
  show wpAny _ _ (bindSpecial (.builtin "super.__getattribute__") (.ref so) >>= _) _ _ _
  refine wpAny_bind (wpAny_of_eq (PySem.F.ks_slot_super_ga.bind _) ?_)
  refine wpAny_mono (Q := fun v s' => v = .ref h.objs.size ∧ s' = ⟨h.push { cls := .type "method-wrapper", data := .fields #[.builtin "Exception.__init__", .ref e] }, g, d, t + 1, os⟩) (E := fun _ _ => False)
    (wpAny_call_entry PySem.F.ks_slot_super_ga (hT _) PySem.F.ks_entry_super_ga (sup_ga hC he hc hCD heC hso hno ⟨_, rfl, rfl, rfl⟩) (PySem.F.ks_gaArgs_super _ _)) (fun v s' hv => ?_) fun _ _ z => z.elim
  obtain ⟨rfl, rfl⟩ := hv
  exact wpAny_pure (wpAny_pure hq)

theorem mw_call (hC : h.get? C = some (excClassObj nm q C N bs (eBm D) hdct sn sub ab col dd k0 k1 k2 k3 k5 "Exception.__new__")) {mw e : Addr} {vs : Array Value} {dct : Option Addr} {sl : Array (Option Value)} {what : Value} {R : Result → Shared → Prop} (hmw : h.get? mw = some { cls := .type "method-wrapper", dict := none, data := .fields #[.builtin "Exception.__init__", .ref e], slots := #[] })
    (he : h.get? e = some { cls := .ref C, dict := dct, data := .fields vs, slots := sl }) {T0 : Addr} (hv : vs = #[.ref T0, .none, .none, .none, .bool false, .none])
    (hq : ∀ h' T, h.get? T = none → h'.get? T = some { cls := .type "tuple", data := .seq #[what] } → h'.get? e = some { cls := .ref C, dict := dct, data := .fields (vs.setIfInBounds 0 (.ref T)), slots := sl } → (∀ b o, b ≠ e → h.get? b = some o → h'.get? b = some o) → R (.ok (.ret .none)) ⟨h', g, d, t, os⟩) :
    codeAny (model prog w) A (.call (.ref mw) ⟨[what], []⟩) R ⟨h, g, d, t, os⟩ := by
  have F := PySem.F.excBase_Exception
  refine codeAny_of_tree ?_
  show wpAny _ A.in1 (callAny (.ref mw) ⟨[what], []⟩) _ _ _
  unfold callAny
  refine wpAny_bind (wpAny_load hmw ?_)
  dsimp only
  rw [if_pos (by decide)]
  simp only [List.getElem?_toArray, List.getElem?_cons_zero, List.getElem?_cons_succ]
  rw [if_pos (by decide)]
  refine wpAny_bind ?_
  unfold checkBoundCall
  rw [F.initRow]
  dsimp only
  rw [F.initKind]
  dsimp only
  rw [if_pos (by decide)]
  have hshort := F.noStar
  have hcls : ({ cls := .ref C, dict := dct, data := .fields vs, slots := sl } : Obj).cls = .ref C := rfl
  wp_delta
  (with_reducible refine PySem.wpAny_bind ?_)
  wp_delta
  ((with_reducible apply PySem.wpAny_ite_false); focus (rfl; done))
  wp_delta
  (with_reducible refine PySem.wpAny_bind ?_)
  wp_delta
  ((with_reducible apply PySem.wpAny_ite_false); focus (rfl; done))
  wp_delta
  (with_reducible refine PySem.wpAny_bind ?_)
  (with_reducible refine wpAny_loadPart_at he ?_; rw [hcls])
  (with_reducible refine PySem.wpAny_pure ?_)
  (with_reducible refine PySem.wpAny_bind ?_)
  wp_delta
  (with_reducible refine PySem.wpAny_bind ?_)
  wp_delta
  (with_reducible refine PySem.wpAny_bind ?_)
  ((with_reducible apply PySem.wpAny_load'); focus (heap_get; done))
  (with_reducible refine PySem.wpAny_pure ?_)
  (with_reducible refine PySem.wpAny_pure ?_)
  (with_reducible refine PySem.wpAny_pure ?_)
  (with_reducible refine PySem.wpAny_bind ?_)
  wp_delta
  ((with_reducible apply PySem.wpAny_ite_true); focus (rfl; done))
  (with_reducible refine PySem.wpAny_pure ?_)
  wp_delta
  wp_delta
  (with_reducible_and_instances refine PySem.wpAny_pure ?_)
  wp_delta
  (with_reducible refine PySem.wpAny_pure ?_)
  refine ⟨Code.quiet_builtin _ (by decide +kernel), codeAny_builtin F.initEntry ?_⟩
  unfold Builtin.«BaseException.__init__»
  subst hv
  ((with_reducible apply PySem.wpAny_ite_false); focus (rfl; done))
  (with_reducible refine PySem.wpAny_bind ?_)
  wp_delta
  wp_delta
  ((with_reducible apply PySem.wpAny_ite_false); focus (rfl; done))
  wp_delta
  wp_delta
  (with_reducible refine PySem.wpAny_bind ?_)
  (with_reducible refine PySem.wpAny_alloc' ?_)
  (with_reducible refine PySem.wpAny_pure ?_)
  (with_reducible refine PySem.wpAny_bind ?_)
  wp_delta
  (with_reducible refine PySem.wpAny_bind ?_)
  wp_delta
  (with_reducible refine PySem.wpAny_bind ?_)
  wp_delta
  (with_reducible refine PySem.wpAny_bind ?_)
  ((with_reducible apply PySem.wpAny_load'); focus (heap_get; done))
  (with_reducible refine PySem.wpAny_pure ?_)
  wp_delta
  (with_reducible refine PySem.wpAny_pure ?_)
  (with_reducible refine PySem.wpAny_bind ?_)
  wp_delta
  wp_delta
  (with_reducible refine PySem.wpAny_bind ?_)
  ((with_reducible apply PySem.wpAny_load'); focus (heap_get; done))
  ((with_reducible apply PySem.wpAny_ite_true); focus (rfl; done))
  ((with_reducible apply PySem.wpAny_update'); focus (heap_get; done))
  wp_delta
  (with_reducible refine PySem.wpAny_letGo ?_)
  wp_delta
  (with_reducible refine PySem.wpAny_pure ?_)
  have hne : e ≠ h.objs.size := Nat.ne_of_lt (Heap.lt_size he)
  refine hq _ h.objs.size (get_size_none h) ?_ ?_ fun b o hb eb => ?_
  · exact (Heap.get?_update_other _ _ hne).trans (Heap.get?_push_size _ rfl)
  · exact Heap.get?_update_self _ (Heap.get?_push_of_some _ he) rfl
  · exact (Heap.get?_update_other _ _ (Ne.symm hb)).trans (Heap.get?_push_of_some _ eb)

theorem tail_what {M : Model} {h : Heap} : Looks M h (lookupAlong [.type "Exception", .type "BaseException", .type "object"] "what") none := by
  have e : typeLookup (.type "Exception") "what" = pure none := by rw [typeLookup_type, builtinLookup_eq_fast]; kernel_rfl
  rw [typeLookup_eq, PySem.F.store_Exception.mro] at e
  exact Looks.of_pure e
theorem tail_set {M : Model} {h : Heap} : Looks M h (lookupAlong [.type "Exception", .type "BaseException", .type "object"] "__setattr__") (some (.builtin "object.__setattr__")) := by
  have e := PySem.F.store_Exception.slot.lookup
  rw [typeLookup_eq, PySem.F.store_Exception.mro] at e
  exact Looks.of_pure e

theorem lim_tail {M : Model} {cd : ClassData} {oD : Obj} {mN mD : Str → Option Value} {name : Str} {y : Option Value} {Q : Option Value → Shared → Prop} (hC : h.get? C = some (excClassObj nm q C N bs (eBm D) hdct sn sub ab col dd k0 k1 k2 k3 k5 "Exception.__new__"))
    (hn : h.Ns N mN) (hD : h.get? D = some oD) (hd : oD.data = .cls cd) (hm : h.Ns cd.ns mD) (h0 : mN name = none) (h1 : mD name = none) (h2 : Looks M h (lookupAlong [.type "Exception", .type "BaseException", .type "object"] name) y) (hq : Q y ⟨h, g, d, t, os⟩) : wpAny M A (typeLookup (.ref C) name) Q E ⟨h, g, d, t, os⟩ := by
  rw [typeLookup_eq]
  refine wpAny_bind (wpAny_mroOf_exc hC ?_)
  rw [lookupAlong_cons]
  refine wpAny_bind (wpAny_classOwn_exc hC hn ?_)
  rw [h0]
  dsimp only
  rw [lookupAlong_cons]
  obtain ⟨c0, d0, dt, sl⟩ := oD
  cases hd
  refine wpAny_bind (wpAny_classOwn_cls hD hm ?_)
  rw [h1]
  exact h2.at hq

end
end Mine
end
section
open PySem PySem.W PyProof.Rows
set_option linter.unusedVariables false
set_option linter.unusedSimpArgs false
set_option maxRecDepth 100000
namespace Mine
section
variable {prog : Program} {w : World} {A : Around} {E : Value → Shared → Prop} {R : Result → Shared → Prop} {h : Heap} {g : Array GenState} {d : Drawn} {t : Nat} {os : OsState}
variable {nm q : Str} {C D N : Addr} {bs : List Value} {hdct : Bool} {sn : List Str} {sub : List Value} {ab : Bool} {col : Option Bool} {dd : Option Addr} {k0 k1 k2 k3 k5 : Option Value}

set_option maxHeartbeats 2000000 in
theorem set_what {e : Addr} {vs : Array Value} {sl : Array (Option Value)} {v : Value} {cd : ClassData} {oD : Obj} {mN mD : Str → Option Value} {Q : Unit → Shared → Prop}
    (hC : h.get? C = some (excClassObj nm q C N bs (eBm D) true sn sub ab col dd k0 k1 k2 k3 k5 "Exception.__new__"))
    (hn : h.Ns N mN) (hD : h.get? D = some oD) (hd : oD.data = .cls cd) (hm : h.Ns cd.ns mD) (n1 : mN "__setattr__" = none) (n2 : mN "what" = none) (d1 : mD "__setattr__" = none) (d2 : mD "what" = none)
    (he : h.get? e = some { cls := .ref C, dict := none, data := .fields vs, slots := sl })
    (hq : ∀ h' tk dct, h'.get? e = some { cls := .ref C, dict := dct, data := .fields vs, slots := sl } → (∀ b o, b ≠ e → h.get? b = some o → h'.get? b = some o) → Q () ⟨h', g, d, tk, os⟩) :
    wpAny (model prog w) A (setAttr (.ref e) "what" v) Q E ⟨h, g, d, t, os⟩ := by
  have SF := PySem.F.store_Exception
  have f3 := SF.slot.bind (.ref e)
  generalize hobj : ({ cls := .ref C, dict := none, data := .fields vs, slots := sl } : Obj) = o at he
  have hcls : o.cls = .ref C := by rw [← hobj]
  have hdn : o.dict = none := by rw [← hobj]
  have hdat : o.data = .fields vs := by rw [← hobj]
  unfold setAttr callSpecial? specialOf
  (with_reducible refine PySem.wpAny_bind ?_)
  wp_delta
  (with_reducible refine PySem.wpAny_bind ?_)
  (with_reducible refine PySem.wpAny_fresh' ?_)
  (with_reducible refine PySem.wpAny_pure ?_)
  (with_reducible refine PySem.wpAny_bind ?_)
  (with_reducible refine PySem.wpAny_bind ?_)
  (with_reducible refine PySem.wpAny_bind ?_)
  wp_delta
  (with_reducible refine PySem.wpAny_bind ?_)
  (with_reducible refine wpAny_loadPart_at he ?_; rw [hcls])
  (with_reducible refine PySem.wpAny_pure ?_)
  (with_reducible refine lim_tail hC hn hD hd hm n1 d1 tail_set ?_)
  (with_reducible refine PySem.wpAny_holding ?_)
  (with_reducible refine PySem.wpAny_bind ?_)
  (with_reducible refine PySem.wpAny_of_eq (by assumption) ?_)
  (with_reducible refine PySem.wpAny_bind ?_)
  (with_reducible refine PySem.wpAny_call ?_)
  refine codeAny_call_builtin SF.slot.plain SF.entry ?_
  have eO : (Value.ref C :: eBm D).contains (.type "object") = true := by simp
  have hsp := SF.kind
  have hss := SF.split
  have ha := SF.args (.ref e) (.str "what" t) v
  simp only [checkBuiltinCall, hsp, hss]
  refine wpAny_bind (inst_exc hC he hcls eO ?_)
  first | refine PySem.wpAny_ite_false rfl ?_ | simp only [Bool.not_true, Bool.false_eq_true, if_false]
  refine wpAny_mono (Q := fun _ s' => s' = ⟨h, g, d, t + 1, os⟩) (E := fun _ _ => False) ?_ (fun _ s' hs => ?_) (fun _ _ z => z.elim)
  · unfold argsOk at ha
    revert ha
    generalize Manifest.signature? "object.__setattr__" = sg
    intro ha
    cases sg with
    | none => exact wpAny_pure rfl
    | some sig =>
      have h2 : Bind.checkArgs "object.__setattr__" sig ⟨[.ref e] ++ [.str (Str.ofString "what") t, v], []⟩ = pure () := ha
      dsimp only
      rw [h2]; exact wpAny_pure rfl
  · subst hs
    have hpass := SF.passes (.ref e)
    unfold Builtin.«object.__setattr__»
    ((with_reducible apply PySem.wpAny_ite_false); focus (rfl; done))
    wp_delta
    (rw [refuse_eq])
    (with_reducible refine PySem.wpAny_bind ?_)
    (with_reducible refine PySem.wpAny_bind ?_)
    wp_delta
    (with_reducible refine PySem.wpAny_bind ?_)
    (with_reducible refine wpAny_loadPart_at he ?_; rw [hcls])
    (with_reducible refine PySem.wpAny_pure ?_)
    (with_reducible refine PySem.wpAny_bind ?_)
    (with_reducible refine wpAny_mroOf_exc hC ?_)
    (rw [refuseLoop_ref, refuseLoop_ref, hpass])
    (with_reducible refine PySem.wpAny_pure ?_)
    (with_reducible refine PySem.wpAny_bind ?_)
    wp_delta
    (with_reducible refine PySem.wpAny_pure ?_)
    (with_reducible refine PySem.wpAny_bind ?_)
    wp_delta
    (with_reducible refine PySem.wpAny_bind ?_)
    (with_reducible refine wpAny_loadPart_at he ?_; rw [hcls])
    (with_reducible refine PySem.wpAny_pure ?_)
    (with_reducible refine PySem.wpAny_bind ?_)
    (with_reducible refine lim_tail hC hn hD hd hm n2 d2 tail_what ?_)
    (with_reducible refine PySem.wpAny_bind ?_)
    wp_delta
    (with_reducible refine PySem.wpAny_pure ?_)
    wp_delta
    wp_delta
    (with_reducible refine PySem.wpAny_bind ?_)
    wp_delta
    (with_reducible refine PySem.wpAny_pure ?_)
    ((with_reducible apply PySem.wpAny_ite_false); focus (rfl; done))
    (with_reducible refine PySem.wpAny_bind ?_)
    wp_delta
    wp_delta
    (with_reducible refine PySem.wpAny_bind ?_)
    (with_reducible refine wpAny_loadPart_at he ?_; rw [hcls])
    (with_reducible refine PySem.wpAny_bind ?_)
    wp_delta
    (with_reducible refine PySem.wpAny_bind ?_)
    ((with_reducible apply PySem.wpAny_load'); focus (heap_get; done))
    (with_reducible refine PySem.wpAny_pure ?_)
    ((with_reducible apply PySem.wpAny_ite_false); focus (rfl; done))
    wp_delta
    rw [hdn, if_neg (by simp [typeHasDict])]
    split
    · rename_i hcd
      cases hcd
    split
    · rename_i c hcd
      rw [hdat] at hcd; cases hcd
    · have he₁ : (h.push { cls := .type "dict", data := .dict #[] }).get? e = some o := Heap.get?_push_of_some _ he
      have hxs : e ≠ h.objs.size := Nat.ne_of_lt (Heap.lt_size he)
      refine wpAny_bind (wpAny_alloc' ?_)
      refine wpAny_bind (wpAny_update' he₁ ?_)
      refine wpAny_pure ?_
      have hgd : ((h.push { cls := .type "dict", data := .dict #[] }).update e fun o => { cls := o.cls, dict := some h.objs.size, data := o.data, slots := o.slots }).get? h.objs.size
          = some { cls := .type "dict", data := .dict #[] } :=
        (Heap.get?_update_ne _ _ _ _ hxs.symm).trans (Heap.get?_push_at rfl rfl)
      have hnd : ((h.push { cls := .type "dict", data := .dict #[] }).update e fun o => { cls := o.cls, dict := some h.objs.size, data := o.data, slots := o.slots }).Ns h.objs.size (fun _ => none) :=
        ⟨_, #[], _, hgd, rfl, fun e he => absurd he (by simp), fun _ => rfl⟩
      show wpAny _ _ (Builtin.ObjectAttr.storeInDict h.objs.size (.str "what" t) "what" v) _ _ _
      unfold Builtin.ObjectAttr.storeInDict Builtin.ObjectAttr.newKeyGuard
      refine wpAny_bind (wpAny_pure (wpAny_bind (wpAny_nsSet1 (Heap.Ns1.of_empty hnd) fun h' hn' hs => ?_)))
      obtain ⟨oD, esD, epD, hoD, hdD, hcD⟩ := hn'.count (Within.cons "what" v Within.nil)
      refine wpAny_bind (wpAny_lookBehind hoD (by rw [hdD]; exact pastItsLine_dict (Nat.le_trans hcD (by rw [List.length_cons, List.length_nil, sizeLine_eq]; lia))) ?_)
      have hx' : h'.get? e = some { cls := .ref C, dict := some h.objs.size, data := .fields vs, slots := sl } := by
        refine (hs.2 e hxs).trans ?_
        rw [Heap.get?_update_self _ he₁ (by rw [← hobj]; rfl), ← hobj]
      refine wpAny_pure (wpAny_pure (wpAny_pure (hq h' _ (some h.objs.size) hx' fun b ob hbx hb => ?_)))
      exact (hs.2 b (Nat.ne_of_lt (Heap.lt_size hb))).trans ((Heap.get?_update_ne _ _ _ _ hbx).trans (Heap.get?_push_of_some _ hb))
end
end Mine
end
section
open PySem PySem.W PyProof.Rows
set_option linter.unusedVariables false
set_option linter.unusedSimpArgs false
set_option maxRecDepth 100000
namespace Mine
noncomputable def initRec : DefRec := (((inB thePr.main.body 1)[0]?).bind fun s => (pickS s).1).getD noDef

set_option genInjectivity false in
set_option genSizeOf false in
/-- the own exception class -/
structure LimF (G : Glo) where
  C : Addr
  D : Addr
  N : Addr
  f : Addr
  cda : Addr
  cc : Addr
  nm : Str
  q : Str
  bs : List Value
  sn : List Str
  sub : List Value
  ab : Bool
  col : Option Bool
  dd : Option Addr
  k0 : Option Value
  k1 : Option Value
  k2 : Option Value
  k3 : Option Value
  k5 : Option Value
  oD : Obj
  cdD : ClassData
  mN : Str → Option Value
  mD : Str → Option Value
  oF : Obj
  fd : FuncData
  oc : Obj
  vs : Array Value
  file : Str
  tf : Tok
  hC : G.h₀.get? C = some (excClassObj nm q C N bs (eBm D) true sn sub ab col dd k0 k1 k2 k3 k5 "Exception.__new__")
  hD : G.h₀.get? D = some oD
  hDd : oD.data = .cls cdD
  hN : G.h₀.Ns N mN
  hM : G.h₀.Ns cdD.ns mD
  n1 : mN "__init__" = none
  n2 : mN "__setattr__" = none
  n3 : mN "what" = none
  d1 : mD "__init__" = some (.ref f)
  d2 : mD "__setattr__" = none
  d3 : mD "what" = none
  hF : G.h₀.get? f = some oF
  hFc : oF.cls = .type "function"
  hFd : oF.data = .func fd
  body_ : fd.body = .stmts initRec.body
  scope_ : fd.scope = initRec.scope
  params_ : fd.params = initRec.params
  glob_ : fd.globals = mainGlobals
  blt_ : fd.builtins = builtinsNs
  clos_ : fd.closure = [(Str.ofString "__class__", cc)]
  code_ : fd.code = .ref cda
  rec_ : G.h₀.CodeRec fd.code fd.qualname
  binds_ : ∀ a b : Value, bindArgs fd ⟨[a, b], []⟩ = pure [(Str.ofString "self", a), (Str.ofString "what", b)]
  hcell : G.h₀.IsCell cc (some (.ref D))
  hcode : G.h₀.get? cda = some oc
  hoc : oc.data = .fields vs
  hvs : vs[2]? = some (.str file tf)
  hfile : ((G.prog.main.file : Str) == file) = true
  htop : (G.prog.main.scope.names.lookup ("super" : Str)).isSome = false
  no : Looks (model G.prog G.w) G.h₀ (opaqueClassAbove (.ref C)) none
  CD : C ≠ D
  glob : G.mg "LimitFault" = some (.ref C)

theorem w_make (a : Addr) (rest : List Value) (kw : List (Str × Value)) : (Code.builtin "type.__call__" ⟨.ref a :: rest, kw⟩).weight = 1 := by kernel_rfl
theorem lim_loc (a b : Value) : ∀ y ∈ ([("self", a), ("what", b)] : List (Str × Value)), initRec.scope.names.lookup y.1 = some .local := by
  intro y hy
  rcases List.mem_cons.mp hy with rfl | hy
  · kernel_rfl
  · rw [List.mem_singleton.mp hy]; kernel_rfl
section
variable {G : Glo} (X : LimF G)
include X

theorem lim_body (K : GloOK G) (hsup : G.mg "super" = none) {A : Around} {L : Addr} {h : Heap} {g : Array GenState} {d : Drawn} {t : Nat} {os : OsState} {e : Addr} {T0 : Addr} {x : Str} {tx : Tok} {Q : Flow → Shared → Prop} {E : Value → Shared → Prop}
    (hns : h.Ns L (fun y => ([("self", .ref e), ("what", .str x tx)] : List (Str × Value)).reverse.lookup y)) (hb : ∀ b o, G.h₀.get? b = some o → h.get? b = some o) (he : h.get? e = some { cls := .ref X.C, dict := none, data := .fields #[.ref T0, .none, .none, .none, .bool false, .none] }) (hen : G.h₀.get? e = none)
    (hq : ∀ h' tk T dct, (∀ b o, b ≠ e → h.get? b = some o → h'.get? b = some o) → h'.get? e = some { cls := .ref X.C, dict := dct, data := .fields #[.ref T, .none, .none, .none, .bool false, .none] } → Q .next ⟨h', g, d, tk, os⟩) :
    _root_.PySem.wpAt (model G.prog G.w) A (.func initRec.body (callEnv X.fd L X.f)) (execs initRec.body (callEnv X.fd L X.f)) Q E ⟨h, g, d, t, os⟩ := by
  have heC : e ≠ X.C := fun q => by rw [q, hb _ _ X.hC] at he; cases he
  have hk : (callEnv X.fd L X.f).scope.kind = .function := by show X.fd.scope.kind = _; rw [X.scope_]; kernel_rfl
  have k1 : (callEnv X.fd L X.f).kindOf "super" = some .globalImplicit := by show X.fd.scope.names.lookup _ = _; rw [X.scope_]; kernel_rfl
  have k2 : (callEnv X.fd L X.f).kindOf "__class__" = some .free := by show X.fd.scope.names.lookup _ = _; rw [X.scope_]; kernel_rfl
  have k3 : (callEnv X.fd L X.f).kindOf "self" = some .local := by show X.fd.scope.names.lookup _ = _; rw [X.scope_]; kernel_rfl
  have k4 : (callEnv X.fd L X.f).kindOf "what" = some .local := by show X.fd.scope.names.lookup _ = _; rw [X.scope_]; kernel_rfl
  have kg : (callEnv X.fd L X.f).globals = mainGlobals := X.glob_
  have kb : (callEnv X.fd L X.f).builtins = builtinsNs := X.blt_
  have kc : (callEnv X.fd L X.f).cells.lookup (Str.ofString "__class__") = some X.cc := by show X.fd.closure.lookup _ = _; rw [X.clos_]; kernel_rfl
  obtain ⟨ar, har, hara⟩ : ∃ ar, (X.fd.params.posonlyargs ++ X.fd.params.args).head? = some ar ∧ ar.arg = "self" := by rw [X.params_]; exact ⟨_, rfl, rfl⟩
  generalize hE : callEnv X.fd L X.f = env at *
  have hcode : env.code = .ref X.cda := by rw [← hE]; exact X.code_
  have hfunc : env.func = some X.f := by rw [← hE]; rfl
  have hloc : env.locals = L := by rw [← hE]; rfl
  have hint : interactive env = false := by unfold interactive; rw [hk]; rfl
  refine ks_wpAt_execs_cons ?_
  refine ks_wpAt_Expr_any ?_ hint
  refine ks_wpAt_MethodCall ?_
  refine ks_wpAt_super_base k1 k2 (by decide) hfunc (hb _ _ X.hF) X.hFd har hcode (hb _ _ X.hcode) X.hoc X.hvs X.hfile X.htop ?_
  refine ks_loadName_global hk k1 (Calls.loadGlobal_builtin (by rw [kg]; exact K.glob.keeps hb) hsup (by rw [kb]; exact K.blt.keeps hb) ((K.boot "super" (by decide)).trans (show bootBuiltins "super" = some (.type "super") from rfl)) ⟨rfl, ?_⟩)
  refine wpAny_loadName_free hk k2 kc (X.hcell.keeps hb) ?_
  rw [hara]
  refine wpAny_loadName_local hk k3 (by rw [hloc]; exact hns) rfl ?_
  refine ks_wpAny_isType_cls (hb _ _ X.hD) X.hDd ⟨rfl, ?_⟩
  have hsub : Looks (model G.prog G.w) h (isSubtype (.ref X.C) (.ref X.D)) true := fun A Q E s k q => by
    obtain ⟨h2, g2, d2, t2, o2⟩ := s
    refine wpAny_isSubtype_exc (k _ _ (hb _ _ X.hC)) ?_
    rw [show (Value.ref X.C :: eBm X.D).contains (.ref X.D) = true from by simp]
    exact q
  refine ks_wpAny_call_super (hb _ _ X.hD) X.hDd he rfl (by intro c q; cases q) hsub fun h₂ hso k₂ => ?_
  have hb₂ : ∀ b o, G.h₀.get? b = some o → h₂.get? b = some o := fun b o q => k₂ b o (hb b o q)
  refine sup_method (hb₂ _ _ X.hC) (k₂ _ _ he) rfl X.CD heC hso (X.no.keeps hb₂) ?_
  dsimp only
  generalize hmo : ({ cls := Value.type "method-wrapper", data := Data.fields #[Value.builtin "Exception.__init__", Value.ref e] } : Obj) = omw
  have k₃ : ∀ b o, h.get? b = some o → (h₂.push omw).get? b = some o := fun b o q => Heap.get?_push_of_some _ (k₂ b o q)
  have hmw : (h₂.push omw).get? h₂.objs.size = some omw := Heap.get?_push_size _ (by rw [← hmo]; rfl)
  have hns₃ : (h₂.push omw).Ns env.locals (fun y => ([("self", .ref e), ("what", .str x tx)] : List (Str × Value)).reverse.lookup y) := by rw [hloc]; exact hns.keeps k₃
  unfold callWith
  refine wpAny_bind (wpAny_holding ?_)
  refine Calls.evalArgs_plain ?_
  refine Calls.spliced_cons ?_
  refine wpAny_Name (wpAny_loadName_local hk k4 hns₃ rfl ?_) (by decide)
  refine Calls.spliced_nil ?_
  refine wpAny_bind (wpAny_standAt ?_)
  dsimp only
  refine wpAny_bind ?_
  unfold keeperOf
  refine wpAny_bind (wpAny_load hmw ?_)
  rw [← hmo]
  dsimp only
  rw [if_pos (by decide)]
  refine wpAny_pure ?_
  show wpAny _ A (do let r ← call (.ref h₂.objs.size) [.str x tx] []; holding [r] point; pure r) _ _ _
  rw [hmo]
  have he₃ := k₃ _ _ he
  refine wpAny_bind (wpAny_call (mw_call (k₃ _ _ (hb _ _ X.hC)) (by rw [hmw, ← hmo]) he₃ rfl fun h₄ T hT hT4 he₄ k₄ => ?_))
  refine wpAny_bind (wpAny_holding (wpAny_point (wpAny_pure ?_)))
  have hLe : env.locals ≠ e := fun q => by
    obtain ⟨o, es, ep, ho, hd, _⟩ := hns₃
    rw [q, he₃] at ho; cases ho; cases hd
  have hns₄ : h₄.Ns env.locals (fun y => ([("self", .ref e), ("what", .str x tx)] : List (Str × Value)).reverse.lookup y) := hns₃.at' fun o q => k₄ _ o hLe q
  have hb₄ : ∀ b o, G.h₀.get? b = some o → h₄.get? b = some o := fun b o q => k₄ b o (fun hbe => by
    rw [hbe, hen] at q; cases q) (k₃ b o (hb b o q))
  refine ks_wpAt_execs_cons (ks_wpAt_Assign_Attr ?_)
  refine _root_.PySem.wpAt_of_wpAny (wpAny_Name (wpAny_loadName_local hk k4 hns₄ rfl ?_) (by decide))
  refine wpAny_Name (wpAny_loadName_local hk k3 hns₄ rfl ?_) (by decide)
  refine set_what (hb₄ _ _ X.hC) (X.hN.keeps hb₄) (hb₄ _ _ X.hD) X.hDd (X.hM.keeps hb₄) X.n2 X.n3 X.d2 X.d3 he₄ fun h₅ tk₅ dct he₅ k₅ => ?_
  refine _root_.PySem.wpAt_of_wpAny (wpAny_execs_nil ?_)
  exact hq h₅ tk₅ T dct (fun b o hbe q => k₅ b o hbe (k₄ b o hbe (k₃ b o q))) he₅

theorem lim_make (K : GloOK G) (hsup : G.mg "super" = none) {A : Around} {s : Shared} {x : Str} {tx : Tok} {Q : Value → Shared → Prop} {E : Value → Shared → Prop} (hroom : A.depth + 2 < recursionLimit) (hb : ∀ b o, G.h₀.get? b = some o → s.heap.get? b = some o)
    (hq : ∀ h' tk e T dct, (∀ b o, s.heap.get? b = some o → h'.get? b = some o) → s.heap.get? e = none → h'.get? e = some { cls := .ref X.C, dict := dct, data := .fields #[.ref T, .none, .none, .none, .bool false, .none] } → Q (.ref e) { s with heap := h', toks := tk }) :
    wpAny (model G.prog G.w) A (call (.ref X.C) [.str x tx]) Q E s := by
  obtain ⟨h, g, d, t, os⟩ := s
  dsimp only at hb hq
  refine lim_call (hb _ _ X.hC) (X.hN.keeps hb) (hb _ _ X.hD) X.hDd (X.hM.keeps hb) X.n1 X.d1 (hb _ _ X.hF) X.hFc fun h' e hm => ?_
  obtain ⟨T0, he, hT0n, hT0⟩ := hm.there
  have hb' : ∀ b o, G.h₀.get? b = some o → h'.get? b = some o := fun b o q => hm.keeps b o (hb b o q)
  have hen : G.h₀.get? e = none := by
    cases q : G.h₀.get? e with
    | none => rfl
    | some o => have := hb _ _ q; rw [hm.new] at this; cases this
  refine wpAny_call (ks_codeAny_call_defAt (s := ⟨h', g, d, t, os⟩) (fd := X.fd) (body := initRec.body) (binds := [("self", .ref e), ("what", .str x tx)]) (by show A.depth + Code.weight _ < _; rw [w_make]; lia) (hb' _ _ X.hF) X.hFd (K.lim.keeps hb') (X.rec_.keeps hb') X.body_ (BindsTo.of_eq (X.binds_ _ _)) (by rw [X.scope_]; decide +kernel) (by rw [X.scope_]; exact lim_loc _ _) (fun h₁ hns hk₁ => ?_) (by rw [X.scope_]; kernel_rfl) (by rw [X.scope_]; kernel_rfl) (by rw [X.scope_]; kernel_rfl))
  have hb₁ : ∀ b o, G.h₀.get? b = some o → h₁.get? b = some o := fun b o q => hk₁ b o (hb' b o q)
  refine lim_body X K hsup hns hb₁ (hk₁ _ _ he) hen fun h₂ tk T dct k₂ he₂ => ?_
  refine ⟨rfl, hq h₂ tk e T dct (fun b o q => k₂ b o (fun hbe => ?_) (hk₁ b o (hm.keeps b o q))) hm.new he₂⟩
  rw [hbe, hm.new] at q; cases q
end
end Mine
end
section
open PySem PySem.W PyProof.Rows
set_option linter.unusedVariables false
set_option linter.unusedSimpArgs false
set_option maxRecDepth 100000
namespace Mine
theorem bigL : (100000 : Nat) ≤ sizeLine := by decide
section
variable {G : Glo} {env : Env} {d : Nat} {Γ Γ' Γ₁ Γ₂ : List (Str × AV)} {σ σ' σ₁ σ₂ σ₃ : List AObj}

/-- a part of a text: the text, and its length -/
noncomputable def PJ (G : Glo) (env : Env) (d : Nat) (Γ : List (Str × AV)) (σ : List AObj) (ts : List (Sem Value)) (n : Nat) : Prop :=
  ∀ (A : Around) (s : Shared) (ρ : List Addr) (out : Str) (Q : Value → Shared → Prop) (E : Value → Shared → Prop), Room A d → StG G σ ρ s → StL G env Γ ρ s.heap → out.length + n ≤ 100000 →
    (∀ x t s', StG G σ ρ s' → s'.heap = s.heap → Q (.str x t) s') → wpAny (model G.prog G.w) A (joinParts out ts) Q E s
theorem PJ.nil : PJ G env d Γ σ [] 0 := fun A s ρ out Q E R S L hn h => joinParts_nil (h _ _ _ (S.with rfl rfl rfl) rfl) (Nat.le_trans (by lia) bigL)
theorem PJ.str {x : Str} {k : Nat} {pos : Pos} {ts : List (Sem Value)} {n : Nat} (h1 : PJ G env d Γ σ ts n) : PJ G env d Γ σ (eval (.Constant (.str x) k pos) env :: ts) (x.length + n) := fun A s ρ out Q E R S L hn h => by
  refine joinParts_cons (wpAny_Constant_str ?_)
  dsimp only
  have e : (out ++ x).length = out.length + x.length := str_append_length out x
  refine ⟨Nat.le_trans (by rw [e]; lia) bigL, h1 A _ ρ _ Q E R (S.with rfl rfl rfl) L (by rw [e]; lia) fun y t s' S' k => h y t s' S' k⟩
theorem PJ.int (X : Fns G) {x : Str} {p pos : Pos} {i : Int} {ts : List (Sem Value)} {n : Nat} (hc : valOf thePr x = some (.int i)) (hi : i.natAbs.log2 < 1920) (hl : (Str.ofString (toString i)).length ≤ 10) (h1 : PJ G env d Γ σ ts n)
    (hx : env.kindOf x = some .globalImplicit := by rfl) (hd : (x == ("__debug__" : Str)) = false := by decide) (hnn : x ≠ "__name__" := by decide) : PJ G env d Γ σ (eval (.FormattedValue (.Name x p) (-1) none pos) env :: ts) (10 + n) := fun A s ρ out Q E R S L hn h => by
  refine joinParts_cons (FormattedValue_plain ?_)
  obtain ⟨v, hv, hr⟩ := X.T.const x _ hnn hc
  refine Calls.Name_function_global L.kind hx (Calls.loadGlobal_global (by rw [L.glob]; exact X.T.ok.glob.keeps S.base) hv ?_) hd
  have r := hr s.heap
  obtain ⟨t, rfl, _⟩ := reads_int_inv r
  refine formatField_int_small hi ?_
  dsimp only
  have e : (out ++ Str.ofString (toString i)).length = out.length + (Str.ofString (toString i)).length := str_append_length out _
  refine ⟨Nat.le_trans (by rw [e]; lia) bigL, h1 A _ ρ _ Q E R (S.with rfl rfl rfl) L (by rw [e]; lia) fun y t s' S' k => h y t s' S' k⟩

theorem raise_made {M : Model} {A : Around} {E : Value → Shared → Prop} {s : Shared} {x : Sem Value} {Q : Flow → Shared → Prop} {nm q : Str} {C D N : Addr} {bs : List Value} {sn : List Str} {sub : List Value} {ab : Bool} {col : Option Bool} {dd : Option Addr} {k0 k1 k2 k3 k5 : Option Value} {env : Env} (hh : A.handled = none)
    (h : wpAny M A x (fun v s₁ => ∃ e t dct, v = .ref e ∧ s₁.heap.get? C = some (excClassObj nm q C N bs (eBm D) true sn sub ab col dd k0 k1 k2 k3 k5 "Exception.__new__") ∧
      s₁.heap.get? e = some { cls := .ref C, dict := dct, data := .fields #[.ref t, .none, .none, .none, .bool false, .none] } ∧ E (.ref e) s₁) E s) :
    wpAny M A (raiseStmt env (some x) none) Q E s := by
  have hcB := eB (C := C) (D := D)
  unfold raiseStmt
  refine wpAny_bind (wpAny_mono h (fun v s₁ h₁ => ?_) fun _ _ x => x)
  obtain ⟨e, t, dct, rfl, hC, he, hE⟩ := h₁
  obtain ⟨hp, g, d, tk, os⟩ := s₁
  (with_reducible refine PySem.wpAny_bind ?_)
  (with_reducible refine PySem.wpAny_pure ?_)
  (with_reducible refine PySem.wpAny_bind ?_)
  (with_reducible refine PySem.wpAny_holding ?_)
  wp_delta
  (with_reducible refine PySem.wpAny_bind ?_)
  wp_delta
  (with_reducible refine PySem.wpAny_bind ?_)
  wp_delta
  (with_reducible refine PySem.wpAny_bind ?_)
  wp_delta
  (with_reducible refine wpAny_loadPart_at he ?_)
  (with_reducible refine PySem.wpAny_pure ?_)
  ((with_reducible apply PySem.wpAny_ite_false); focus (rfl; done))
  (with_reducible refine PySem.wpAny_pure ?_)
  ((with_reducible apply PySem.wpAny_ite_false); focus (rfl; done))
  (with_reducible refine PySem.wpAny_bind ?_)
  wp_delta
  (with_reducible refine PySem.wpAny_bind ?_)
  wp_delta
  (with_reducible refine PySem.wpAny_bind ?_)
  (with_reducible refine wpAny_loadPart_at he ?_)
  (with_reducible refine PySem.wpAny_pure ?_)
  (with_reducible refine wpAny_isSubtype_exc hC ?_; rw [hcB])
  ((with_reducible apply PySem.wpAny_ite_true); focus (rfl; done))
  (with_reducible refine PySem.wpAny_pure ?_)
  (with_reducible refine PySem.wpAny_bind ?_)
  wp_delta
  (with_reducible refine PySem.wpAny_bind ?_)
  wp_delta
  (with_reducible refine wpAny_loadPart_at he ?_)
  (with_reducible refine PySem.wpAny_pure ?_)
  ((with_reducible apply PySem.wpAny_ite_false); focus (rfl; done))
  (with_reducible refine PySem.wpAny_bind ?_)
  wp_delta
  (with_reducible refine PySem.wpAny_bind ?_)
  wp_delta
  (with_reducible refine PySem.wpAny_bind ?_)
  (with_reducible refine wpAny_loadPart_at he ?_)
  (with_reducible refine PySem.wpAny_pure ?_)
  (with_reducible refine PySem.wpAny_bind ?_)
  wp_delta
  (with_reducible refine PySem.wpAny_bind ?_)
  (with_reducible refine wpAny_loadPart_at hC ?_)
  (with_reducible refine PySem.wpAny_pure ?_)
  ((with_reducible apply PySem.wpAny_ite_true); focus (rfl; done))
  (with_reducible refine PySem.wpAny_pure ?_)
  (with_reducible refine PySem.wpAny_bind ?_)
  wp_delta
  (with_reducible refine PySem.wpAny_bind ?_)
  wp_delta
  (with_reducible refine PySem.wpAny_bind ?_)
  wp_delta
  (with_reducible refine PySem.wpAny_bind ?_)
  ((with_reducible apply PySem.wpAny_load'); focus (heap_get; done))
  (with_reducible refine PySem.wpAny_pure ?_)
  wp_delta
  (with_reducible refine PySem.wpAny_pure ?_)
  ((with_reducible apply PySem.wpAny_ite_false); focus (rfl; done))
  (with_reducible refine PySem.wpAny_pure ?_)
  exact wpAny_raiseNew_none hh hE

theorem raise_lim (X : Fns G) (Y : LimF G) {e : Expr} {np cpos pos : Pos} {n : Nat} {ts : List (Sem Value)} (hj : PJ G env d Γ σ ts n) (hn : n ≤ 90000) (h2 : eval e env = joinParts Str.empty ts) {A : Around} {s : Shared} {ρ : List Addr} {Q : Flow → Shared → Prop} {E : Value → Shared → Prop} (R : Room A (d + 2)) (S : StG G σ ρ s) (L : StL G env Γ ρ s.heap)
    (h : ∀ s' e T dct, StG G σ ρ s' → (∀ b o, s.heap.get? b = some o → s'.heap.get? b = some o) → s.heap.get? e = none → s'.heap.get? e = some { cls := .ref Y.C, dict := dct, data := .fields #[.ref T, .none, .none, .none, .bool false, .none] } → E (.ref e) s') (hx : env.kindOf "LimitFault" = some .globalImplicit := by rfl)
    (he : starEach [e] env = (false, eval e env) :: starEach [] env := by rfl) (hpl : (backTo cpos (starEach [e] env)).any (·.1) = false := by rfl) :
    wpAny (model G.prog G.w) A (exec (.Raise (some (.Call (.Name "LimitFault" np) [e] [] cpos)) none pos) env) Q E s := by
  rw [arm_exec_Raise]
  refine wpAny_bind (wpAny_standAt ?_)
  show wpAny _ A (raiseStmt env (some (do let v ← eval (.Call (.Name "LimitFault" np) [e] [] cpos) env; standAt pos; pure v)) none) Q E s
  refine raise_made (C := Y.C) (D := Y.D) (N := Y.N) (nm := Y.nm) (q := Y.q) (bs := Y.bs) (sn := Y.sn) (sub := Y.sub) (ab := Y.ab) (col := Y.col) (dd := Y.dd) (k0 := Y.k0) (k1 := Y.k1) (k2 := Y.k2) (k3 := Y.k3) (k5 := Y.k5) R.handled ?_
  refine wpAny_bind ?_
  refine Call_Name rfl (Calls.Name_function_global L.kind hx (Calls.loadGlobal_global (by rw [L.glob]; exact X.T.ok.glob.keeps S.base) Y.glob ?_) (by decide))
  unfold callWith
  refine wpAny_bind (wpAny_holding ?_)
  rw [he]
  refine Calls.evalArgs_plain (Calls.spliced_cons ?_)
  rw [h2]
  refine hj A s ρ Str.empty _ E (R.mono (by lia)) S L (by show 0 + n ≤ _; lia) fun x t s₁ S₁ k₁ => ?_
  refine Calls.spliced_nil ?_
  refine wpAny_bind (wpAny_standAt ?_)
  dsimp only
  have hpl' : (backTo cpos ((false, eval e env) :: starEach [] env)).any (·.1) = false := by rw [← he]; exact hpl
  rw [h2] at hpl'
  simp only [hpl']
  have hb : ∀ b o, G.h₀.get? b = some o → s₁.heap.get? b = some o := S₁.base
  obtain ⟨h₁, g₁, d₁, t₁, o₁⟩ := s₁
  refine wpAny_bind (wpAny_keeperOf_exc (hb _ _ Y.hC) ?_)
  refine wpAny_bind (lim_make Y X.T.ok X.m (by have := R.depth; show _ < 1000; lia) hb fun h' tk e T dct k hen he' => ?_)
  refine wpAny_bind (wpAny_holding (wpAny_point (wpAny_pure ?_)))
  refine wpAny_bind (wpAny_standAt (wpAny_pure ?_))
  have k₁' : h₁ = s.heap := k₁
  subst k₁'
  refine ⟨e, T, dct, rfl, k _ _ (hb _ _ Y.hC), he', h _ e T dct (S₁.ext (s' := ⟨h', g₁, d₁, tk, o₁⟩) k rfl rfl) k hen he'⟩
end
end Mine
end
section
open PySem PySem.W PyProof.Rows
set_option linter.unusedVariables false
set_option linter.unusedSimpArgs false
set_option maxRecDepth 100000
namespace Mine

/-- the frames' objects -/
noncomputable def frs (l : List Env) : List Addr := l.filterMap (·.frame)
/-- what an exception on its way leaves as it was -/
structure Fl (G : Glo) (σ : List AObj) (ρ ρ' : List Addr) (l : List Env) (h : Heap) (B : Heap) (s' : Shared) : Prop where
  led : StG G σ ρ' { s' with heap := B }
  pre : Pre ρ ρ'
  new : ∀ a ∈ ρ', a ∈ ρ ∨ h.get? a = none
  keep : ∀ b o, b ∉ ρ → b ∉ frs l → h.get? b = some o → B.get? b = some o
  slots : ∀ b ∈ frs l, ∀ o, h.get? b = some o → ∃ sl, s'.heap.get? b = some { o with slots := sl }

section
variable {G : Glo} {σ : List AObj} {ρ ρ' : List Addr} {l : List Env} {h B : Heap} {s s' : Shared}

theorem Fl.step (F : Fl G σ ρ ρ' l h B s') {h' : Heap} (nf : ∀ b ∈ frs l, ∃ o, h.get? b = some o ∧ ∀ vs, o.data ≠ .fields vs) (u : s'.heap.UpToSlots h') : Fl G σ ρ ρ' l h B { s' with heap := h' } :=
  ⟨F.led, F.pre, F.new, F.keep, fun b hb o e => by
    obtain ⟨sl, e'⟩ := F.slots b hb o e
    obtain ⟨o', eo, hnf⟩ := nf b hb
    rw [e] at eo; cases eo
    obtain ⟨sl', e''⟩ := u b _ e' hnf
    exact ⟨sl', e''⟩⟩
theorem Fl.outer {env : Env} {outer : List Env} (F : Fl G σ ρ ρ' (env :: outer) h B s') (hf : env.frame = some L) (hn : h.get? L = none) : Fl G σ ρ ρ' outer h B s' :=
  ⟨F.led, F.pre, F.new, fun b o h1 h2 e => F.keep b o h1 (fun hm => by
    have e1 : frs (env :: outer) = L :: frs outer := by simp [frs, hf]
    rw [e1] at hm
    rcases List.mem_cons.mp hm with q | q
    · rw [q, hn] at e; cases e
    · exact h2 q) e, fun b hb o e => F.slots b (by
    have e1 : frs (env :: outer) = L :: frs outer := by simp [frs, hf]
    rw [e1]; exact List.mem_cons_of_mem _ hb) o e⟩

variable {A : Around} {E : Value → Shared → Prop}
theorem held_keep {base : Heap} {l : List Env} {e L : Addr} {cls a0 : Value} {M : Model} {Q : Unit → Shared → Prop} (R : Heap.HeldW base l e cls a0 L s.heap)
    (h : ∀ h', Heap.HeldW base l e cls a0 L h' → s.heap.UpToSlots h' → Q () { s with heap := h' }) : wpAny M A (setFlight (.ref e) (some L)) Q E s := by
  obtain ⟨hkb, hen, hl, oe, vs, T, oT, ts, he, hcls, hd, h1, hnT, hTe, hT, hdT, h3⟩ := R
  have hsz3 : 3 < ts.size := (Array.getElem?_eq_some_iff.mp h3).1
  have other : ∀ b, b ≠ T → (s.heap.update T (Obj.mapFields (·.setIfInBounds 3 ((some L).elim Value.none fun f => rawInt f)))).get? b = s.heap.get? b :=
    fun b hb => Heap.get?_update_other _ _ (Ne.symm hb)
  have noRecord : ∀ b o, s.heap.get? b = some o → (∀ vs, o.data ≠ .fields vs) → b ≠ T := fun b o hb hnf q => by
    rw [q, hT] at hb; injection hb with hb; subst hb; exact hnf ts hdT
  unfold setFlight
  refine wpAny_bind (wpAny_field he hd h1 ?_)
  rw [if_pos (show (Value.ref T != Value.none) = true from by simp)]
  refine wpAny_setField hT hdT hsz3 (h _ ⟨fun b o hbo => (other b fun q => by rw [q, hnT] at hbo; cases hbo).trans (hkb b o hbo), hen,
    hl.of_keeps fun b o hb hnf => ⟨o, (other b (noRecord b o hb hnf)).trans hb, rfl⟩, ?_⟩ fun b o hb hnf => ⟨o.slots, (other b (noRecord b o hb hnf)).trans hb⟩)
  exact ⟨oe, vs, T, _, _, (other e (Ne.symm hTe)).trans he, hcls, hd, h1, hnT, hTe, Heap.get?_update_self _ hT (Obj.isFreed_of_fields (Obj.data_mapFields hdT _)), Obj.data_mapFields hdT _, by simp [hsz3]⟩

theorem held_back {base : Heap} {l : List Env} {env : Env} {e L : Addr} {cls a0 : Value} {M : Model} (hf : env.frame = some L) (R : Heap.HeldW base l e cls a0 L s.heap)
    (h : ∀ h', Heap.HeldW base l e cls a0 L h' → s.heap.UpToSlots h' → E (.ref e) { s with heap := h' }) : cameBackBy M A env E (.ref e) s := by
  have R' := R
  obtain ⟨_, _, _, oe, vs, T, oT, ts, he, hcls, hd, h1, _⟩ := R'
  unfold cameBackBy
  refine wpAny_bind (wpAny_field he hd h1 ?_)
  rw [if_neg (show ¬ ((Value.ref T == Value.none) = true) from by simp)]
  rw [hf]
  exact held_keep R h

theorem frs_cons {env : Env} {outer : List Env} {L : Addr} (hf : env.frame = some L) : frs (env :: outer) = L :: frs outer := by simp [frs, hf]
/-- the frames at work -/
structure Stk (G : Glo) (A : Around) (l : List Env) (ρ : List Addr) (h : Heap) : Prop where
  fr : A.frames = some l
  ff : h.FunFrames G.h₀ l
  off : ∀ b ∈ frs l, b ∉ ρ
  dict : ∀ b ∈ frs l, ∃ o es n, h.get? b = some o ∧ o.data = .dict es n
/-- the first note of a new exception -/
theorem note_new {env : Env} {outer : List Env} {L e T : Addr} {cls : Value} {dct : Option Addr} {M : Model} {Q : Unit → Shared → Prop} {hb : Heap} {ρ₀ : List Addr} (K : Stk G A (env :: outer) ρ s.heap) (hf : env.frame = some L) (S : StG G σ ρ s)
    (he : s.heap.get? e = some { cls := cls, dict := dct, data := .fields #[.ref T, .none, .none, .none, .bool false, .none] }) (heρ : e ∉ ρ) (he0 : G.h₀.get? e = none) (heb : hb.get? e = none)
    (pre : Pre ρ₀ ρ) (new : ∀ a ∈ ρ, a ∈ ρ₀ ∨ hb.get? a = none) (keep : ∀ b o, b ∉ ρ₀ → b ∉ frs (env :: outer) → hb.get? b = some o → s.heap.get? b = some o) (slots : ∀ b ∈ frs (env :: outer), ∀ o, hb.get? b = some o → ∃ sl, s.heap.get? b = some { o with slots := sl })
    (h : ∀ h' B, Fl G σ ρ₀ ρ (env :: outer) hb B { s with heap := h' } → Heap.HeldW B (env :: outer) e cls (.ref T) L h' → Q () { s with heap := h' }) : wpAny M A (noteFrame (.ref e) env) Q E s := by
  obtain ⟨hfr, hff, hoff, hdict⟩ := K
  have hfr0 : ∀ b ∈ frs (env :: outer), G.h₀.get? b = none := fun b hb => (hff.mem hb).1
  have gone : ∀ b ∈ e :: frs (env :: outer), (hideAll s.heap (e :: frs (env :: outer))).get? b = none := fun b hb => hideAll_none _ hb
  have stay : ∀ b o, b ∉ e :: frs (env :: outer) → s.heap.get? b = some o → (hideAll s.heap (e :: frs (env :: outer))).get? b = some o := fun b o hb q => hideAll_get _ q hb
  have ffB := funFrames_hide (as := e :: frs (env :: outer)) hff fun en hen a ha => List.mem_cons_of_mem _ (List.mem_filterMap.mpr ⟨en, hen, ha⟩)
  have back : ∀ b o, (hideAll s.heap (e :: frs (env :: outer))).get? b = some o → s.heap.get? b = some o := fun b o q => of_hideAll _ q
  generalize hB : hideAll s.heap (e :: frs (env :: outer)) = B at gone stay ffB back
  have offE : ∀ b ∈ e :: frs (env :: outer), b ∉ ρ := fun b hb => by
    rcases List.mem_cons.mp hb with rfl | hb
    · exact heρ
    · exact hoff b hb
  have h0s : ∀ b o, G.h₀.get? b = some o → b ∉ e :: frs (env :: outer) := fun b o q hm => by
    rcases List.mem_cons.mp hm with rfl | hm
    · rw [he0] at q; cases q
    · rw [hfr0 b hm] at q; cases q
  have tupB : TupKeep s.heap B := fun a vs ⟨o, e', r⟩ => by
    refine ⟨o, stay a o (fun hm => ?_) e', r⟩
    rcases List.mem_cons.mp hm with rfl | hm
    · rw [he] at e'; cases e'
      obtain ⟨_, n, hd⟩ := r; cases hd
    · obtain ⟨o', es, n, ho', hd'⟩ := hdict a hm
      rw [e'] at ho'; cases ho'
      obtain ⟨_, n', hd⟩ := r
      rw [hd'] at hd; cases hd
  have ledB : StG G σ ρ { s with heap := B } := ⟨fun b o q => stay b o (h0s b o q) (S.base b o q), S.fresh, S.nodup, S.len,
    fun i a o hi ho => (S.objs i a o hi ho).mono (fun o' q => stay a o' (fun hm => offE a hm (List.mem_of_getElem? hi)) q) tupB (Pre.refl _), S.gens, S.os⟩
  unfold noteFrame
  simp only [hf]
  refine wpAny_bind (wpAny_field he rfl (x := .none) rfl ?_)
  rw [if_neg (by decide)]
  refine wpAny_entryW (base := B) (a0 := .ref T) hfr ffB hf he back (gone e (.head _)) rfl (by simp) rfl fun h' hN => ?_
  obtain ⟨k1, k2, k3, k4⟩ := hN
  refine h h' B ⟨ledB, pre, new, fun b o h1 h2 q => stay b o (fun hm => ?_) (keep b o h1 h2 q), fun b hb o q => ?_⟩ ⟨k1, gone e (.head _), k2, k3⟩
  · rcases List.mem_cons.mp hm with rfl | hm
    · rw [heb] at q; cases q
    · exact h2 hm
  · obtain ⟨sl, q'⟩ := slots b hb o q
    obtain ⟨o', es, n, ho', hd'⟩ := hdict b hb
    rw [q'] at ho'; cases ho'
    obtain ⟨sl', q''⟩ := k4 b _ q' (fun vs z => by rw [hd'] at z; cases z)
    exact ⟨sl', q''⟩

/-- out of a frame that has noted it -/
theorem leaves_held {base : Heap} {env : Env} {outer : List Env} {L e : Addr} {cls a0 : Value} {M : Model} {Q : Unit → Shared → Prop} (hf : env.frame = some L)
    (hh : Heap.HeldW base (env :: outer) e cls a0 L s.heap) (hQ : ∀ h', Heap.FlyingW base outer e cls a0 h' → s.heap.UpToSlots h' → Q () { s with heap := h' }) : wpAny M A (leaving env (.ref e)) Q E s := by
  unfold leaving
  refine wpAny_bind (wpAny_noteFrame_againW hf hh.2.2.2 ?_)
  refine wpAny_landsW hh fun h' hfl u => ?_
  obtain ⟨k1, k2, ⟨_, _, k3⟩, k4⟩ := hfl
  exact hQ h' ⟨k1, k2, k3, k4⟩ u
end
end Mine
end
section
open PySem PySem.W PyProof.Rows
set_option linter.unusedVariables false
set_option linter.unusedSimpArgs false
set_option maxRecDepth 100000
namespace Mine
section
variable {G : Glo} {env : Env} {d : Nat} {Γ Γ' Γ₁ Γ₂ : List (Str × AV)} {σ σ' σ₁ σ₂ σ₃ : List AObj} {ρ ρ' ρ₁ ρ₂ ρ₃ : List Addr} {s s' s₁ : Shared} {h h' h₁ h₂ h₃ : Heap}

theorem CallJ.enter (K : GloOK G) {f : Str} {fa : Addr} {fd : FuncData} {names : List Str} {body : List Stmt} (F : Fn G f fa fd names body) {args : List AV} (hlen : args.length = names.length)
    {A : Around} {s : Shared} {ρ : List Addr} {cs : List Value} {R : Result → Shared → Prop} (Rm : Room A (d + 1)) (S : StG G σ ρ s) (ra : RepL s.heap ρ cs args)
    (h : ∀ s₁, StG G σ ρ s₁ → StL G (callE fd s.heap.objs.size fa) (names.zip args) ρ s₁.heap → (∀ b o, s.heap.get? b = some o → s₁.heap.get? b = some o) → (∀ x c, (callE fd s.heap.objs.size fa).cells.lookup x = some c → s.heap.objs.size < c) →
      wpAny (model G.prog G.w) (A.deeper (callE fd s.heap.objs.size fa)) (execs body (callE fd s.heap.objs.size fa)) (fun f s' => R (.ok (.ret (match f with | .ret v => v | _ => .none))) s')
        (fun e s' => wpAny (model G.prog G.w) (A.deeper (callE fd s.heap.objs.size fa)) (leaving (callE fd s.heap.objs.size fa) e) (fun _ s'' => R (.error e) s'') (fun e' s'' => R (.error e') s'') s') s₁) :
    codeAny (model G.prog G.w) A (.call (.ref fa) ⟨cs, []⟩) R s := by
  obtain ⟨o, ho, hd⟩ := F.at_
  refine codeAny_call_function (fd := fd) (body := body) Rm.lim (S.base _ _ ho) hd F.co F.gen F.body_ (F.code.keeps S.base) ?_
  rw [F.binds cs (by rw [ra.length, hlen]), F.clos]
  refine wpAny_pure ?_
  have hkind : ∀ x ∈ names.zip cs, fd.scope.names.lookup x.1 = some .local ∨ (fd.scope.names.lookup x.1 = some .cell ∧ ((cellsFrom (s.heap.objs.size + 1) fd.scope.names []).lookup x.1).isSome = true) := fun x hx => by
    have := List.all_eq_true.mp F.kinds x.1 (List.of_mem_zip hx).1
    rcases Bool.or_eq_true_iff.mp this with q | q
    · exact .inl (by simpa using q)
    · have q' : fd.scope.names.lookup x.1 = some .cell := by simpa using q
      exact .inr ⟨q', cellsFrom_some _ _ _ (.inl q')⟩
  refine wpAny_newFunctionEnv_cells F.kind hkind fun env he s' X => ?_
  have he' : env = callE fd s.heap.objs.size fa := he
  subst he'
  refine ⟨(K.lim.keeps S.base).keeps X.toInCall.keep, codeAny_func ?_⟩
  have kp := X.toInCall.keep
  obtain ⟨hh, tk, rfl, _⟩ := X.done
  have S' : StG G σ ρ { s with heap := hh, toks := tk } := S.ext (s' := { s with heap := hh, toks := tk }) kp rfl rfl
  have tkp := S.tupKeep (KeepX.of_all (ρ := ρ) kp)
  have ra' : RepL hh ρ cs args := ra.mono tkp (Pre.refl _)
  have hnone : ∀ a, s.heap.objs.size ≤ a → s.heap.get? a = none := fun a ha => Heap.get?_none_of_le ha
  have hcells : ∀ x c, (cellsFrom (s.heap.objs.size + 1) fd.scope.names []).lookup x = some c → s.heap.objs.size < c := fun x c hc => X.above x c (mem_of_lookup hc)
  have L' : StL G (callE fd s.heap.objs.size fa) (names.zip args) ρ hh := by
    refine ⟨F.kind, F.glob, F.blt, ⟨_, X.toInCall.ns, fun x v hk hv => ?_⟩, fun x c hc => ⟨_, X.cell x c hc, fun v hk hv => ?_⟩, fun x hk => ?_, fun hm => ?_, fun x c hc => ⟨fun hm => ?_, ?_⟩, ?_, fun x c hc => ?_, fun x y c hx hy => ?_⟩
    · exact (bind_rep F.nodup ra' hv).1 hk
    · exact (bind_rep F.nodup ra' hv).2 hk
    · rcases hk with hk | hk
      · exact Option.isSome_iff_exists.mp (cellsFrom_some _ _ _ (.inl hk))
      · exfalso
        have hm := mem_of_lookup hk
        have := List.all_eq_true.mp F.nofree _ hm
        simp at this
    · exact Nat.lt_irrefl _ (S.lt hm)
    · exact Nat.lt_irrefl _ (Nat.lt_trans (S.lt hm) (hcells x c hc))
    · exact Nat.ne_of_gt (hcells x c hc)
    · exact S.new (hnone _ (Nat.le_refl _))
    · exact S.new (hnone _ (Nat.le_of_lt (hcells x c hc)))
    · exact name_of_addr X.apart (mem_of_lookup hx) (mem_of_lookup hy)
  exact h _ S' L' kp hcells

theorem Stk.push {A : Around} {outer : List Env} (K : Stk G A outer ρ h) (L : StL G env Γ ρ h) (hf : env.frame = some env.locals) : Stk G (A.deeper env) (env :: outer) ρ h := by
  obtain ⟨m, ⟨o, es, n, ho, hd, _⟩, _⟩ := L.ns
  refine ⟨by simp [Around.deeper, K.fr], ⟨by rw [L.kind]; decide, ⟨env.locals, o, hf, L.newL, ho, fun vs q => by rw [hd] at q; cases q⟩, K.ff⟩, fun b hb => ?_, fun b hb => ?_⟩
  · rw [frs_cons hf] at hb
    rcases List.mem_cons.mp hb with rfl | hb
    · exact L.offL
    · exact K.off b hb
  · rw [frs_cons hf] at hb
    rcases List.mem_cons.mp hb with rfl | hb
    · exact ⟨o, es, n, ho, hd⟩
    · exact K.dict b hb
theorem Stk.keep {A : Around} {l : List Env} (K : Stk G A l ρ h) (k : ∀ b ∈ frs l, ∀ o, h.get? b = some o → h'.get? b = some o) (new : ∀ a ∈ ρ', a ∈ ρ ∨ h.get? a = none) : Stk G A l ρ' h' := by
  refine ⟨K.fr, ?_, fun b hb hm => ?_, fun b hb => ?_⟩
  · have : ∀ {l : List Env}, (∀ b ∈ frs l, ∀ o, h.get? b = some o → h'.get? b = some o) → h.FunFrames G.h₀ l → h'.FunFrames G.h₀ l := by
      intro l
      induction l with
      | nil => intro _ _; trivial
      | cons env rest ih =>
        rintro k ⟨h1, ⟨L, o, hf, hn, ho, hd⟩, hr⟩
        rw [frs_cons hf] at k
        exact ⟨h1, ⟨L, o, hf, hn, k L (.head _) o ho, hd⟩, ih (fun b hb => k b (.tail _ hb)) hr⟩
    exact this k K.ff
  · rcases new b hm with q | q
    · exact K.off b hb q
    · obtain ⟨o, _, _, e, _⟩ := K.dict b hb
      rw [e] at q; cases q
  · obtain ⟨o, es, n, e, hd⟩ := K.dict b hb
    exact ⟨o, es, n, k b hb o e, hd⟩

/-- a for loop up to the turn that raises -/
inductive FRX (G : Glo) (env : Env) (d : Nat) (body : List Stmt) {β : Type} (bind : β → List (Str × AV) → List (Str × AV)) : List β → List (Str × AV) → List AObj → List (Str × AV) → List AObj → Prop where
  | here {b : β} {bs : List β} {Γ : List (Str × AV)} {σ : List AObj} : FRX G env d body bind (b :: bs) Γ σ (bind b Γ) σ
  | step {b : β} {bs : List β} {Γ Γ₁ Γ₂ : List (Str × AV)} {σ σ₁ σ₂ : List AObj} {g : FlowA} : SJ G env d (bind b Γ) σ (execs body env) g Γ₁ σ₁ → g = .next ∨ g = .cont → FRX G env d body bind bs Γ₁ σ₁ Γ₂ σ₂ → FRX G env d body bind (b :: bs) Γ σ Γ₂ σ₂

theorem for_loopX {β : Type} {A : Around} {target : Expr} {body : List Stmt} {I : Addr} {fp wr : List Addr} {items : List β} {bind : β → List (Str × AV) → List (Str × AV)} {St : Nat → Heap → Prop} {loc : Prop} {s₀ : Heap} {ρ₀ : List Addr} {R : Result → Shared → Prop}
    (T : Turn G env A target I s₁.heap ρ₁ fp wr items bind St loc) (Rm : Room A d) (S : StG G σ ρ₁ s₁) (L : StL G env Γ ρ₁ s₁.heap) (off : ∀ b ∈ fp, b ∉ ρ₁) (hw : ∀ b ∈ wr, s₀.get? b = none) (hb : ∀ b o, G.h₀.get? b = some o → s₀.get? b = some o) (x₀ : ExtB env s₀ ρ₀ ρ₁ s₁.heap) (st : St 0 s₁.heap)
    (F : FRX G env d body bind items Γ σ Γ₂ σ₂)
    (hX : ∀ s' ρ', StG G σ₂ ρ' s' → StL G env Γ₂ ρ' s'.heap → ExtB env s₀ ρ₀ ρ' s'.heap → wpAny (model G.prog G.w) A (execs body env) (fun _ _ => False) (notedBy (model G.prog G.w) A env fun e s' => R (.error e) s') s') :
    codeAny (model G.prog G.w) A (.forLoop target (.ref I) body [] env) R s₁ := by
  have hnew : ∀ b ∈ wr, G.h₀.get? b = none := fun b hm => by
    cases e : G.h₀.get? b with
    | none => rfl
    | some o => have := hb b o e; rw [hw b hm] at this; cases this
  refine codeAny_forLoop_any (fun n s' => ∃ i ρ' Γ' σ', n + i = items.length ∧ FRX G env d body bind (items.drop i) Γ' σ' Γ₂ σ₂ ∧ StG G σ' ρ' s' ∧ StL G env Γ' ρ' s'.heap ∧ St i s'.heap ∧ (∀ b ∈ fp, b ∉ ρ') ∧ TupKeep s₁.heap s'.heap ∧ Pre ρ₁ ρ' ∧ ExtB env s₀ ρ₀ ρ' s'.heap) ?_ items.length
    ⟨0, ρ₁, Γ, σ, rfl, F, S, L, st, off, fun _ _ h => h, Pre.refl _, x₀⟩
  rintro n s' ⟨i, ρ', Γ', σ', hn, F', S', L', st', off', tk', p', x'⟩
  cases hd : items.drop i with
  | nil => rw [hd] at F'; cases F'
  | cons b bs =>
    rw [hd] at F'
    have hib : items[i]? = some b := by have := congrArg (·[0]?) hd; simpa using this
    have hbs : items.drop (i + 1) = bs := by rw [← List.drop_drop, hd]; rfl
    have hlt : i < items.length := (List.getElem?_eq_some_iff.mp hib).1
    refine wpAny_mono (T.item i b s' σ' ρ' Γ' (fun s₂ => wpAny (model G.prog G.w) A (execs body env) (fun fl0 s₃ => match fl0 with
            | .next | .cont => ∃ m, m < n ∧ ∃ i ρ' Γ' σ', m + i = items.length ∧ FRX G env d body bind (items.drop i) Γ' σ' Γ₂ σ₂ ∧ StG G σ' ρ' s₃ ∧ StL G env Γ' ρ' s₃.heap ∧ St i s₃.heap ∧ (∀ b ∈ fp, b ∉ ρ') ∧ TupKeep s₁.heap s₃.heap ∧ Pre ρ₁ ρ' ∧ ExtB env s₀ ρ₀ ρ' s₃.heap
            | .brk => R (.ok .next) s₃
            | .ret v => R (.ok (.ret v)) s₃) (notedBy (model G.prog G.w) A env fun e s' => R (.error e) s') s₂) (notedBy (model G.prog G.w) A env fun e s' => R (.error e) s') hib st' S' L' tk' p' ⟨off', hnew⟩ fun s₂ S₂ L₂ st₂ mv => ?_) (fun r s₂ hr => ?_) fun _ _ e => e
    · have x₂ : ExtB env s₀ ρ₀ ρ' s₂.heap := ⟨x'.pre, x'.new, fun b o h1 h2 h3 e => mv.keep b o (fun hm => by rw [hw b hm] at e; cases e) h2 h3 (x'.keep b o h1 h2 h3 e)⟩
      cases F' with
      | here =>
        refine wpAny_mono (hX s₂ ρ' S₂ L₂ x₂) (fun _ _ z => z.elim) fun _ _ z => z
      | @step _ _ _ Γ₃ _ _ σ₃ _ _ hb hg hr =>
        refine hb A s₂ ρ' _ _ Rm S₂ L₂ fun fl s₃ ρ₃ S₃ L₃ x₃ r₃ => ?_
        have tk₃ := x₃.tup (fun a vs ht => S₂.tup ht) L₂
        have this : ∃ m, m < n ∧ ∃ i ρ' Γ' σ', m + i = items.length ∧ FRX G env d body bind (items.drop i) Γ' σ' Γ₂ σ₂ ∧ StG G σ' ρ' s₃ ∧ StL G env Γ' ρ' s₃.heap ∧ St i s₃.heap ∧ (∀ b ∈ fp, b ∉ ρ') ∧ TupKeep s₁.heap s₃.heap ∧ Pre ρ₁ ρ' ∧ ExtB env s₀ ρ₀ ρ' s₃.heap := by
          refine ⟨n - 1, by lia, i + 1, ρ₃, _, _, by lia, hbs ▸ hr, S₃, L₃, T.frame _ _ _ st₂ fun c hc o e => ?_, fun c hc hm => ?_, fun a vs ht => tk₃ a vs (mv.tup a vs (tk' a vs ht)), p'.trans x₃.pre, ⟨x₂.pre.trans x₃.pre, fun a ha => ?_, fun b o h1 h2 h3 e => ?_⟩⟩
          · obtain ⟨o', e', k1, k2, _⟩ := T.kinds _ _ c st₂ hc
            obtain ⟨q1, q2⟩ := kinds_off L₂ ⟨o', e', k1, k2⟩
            exact x₃.keep c o (off' c hc) q1 q2 e
          · rcases x₃.new c hm with q | q
            · exact off' c hc q
            · obtain ⟨o', e', _⟩ := T.kinds _ _ c st₂ hc
              rw [q] at e'; cases e'
          · rcases x₃.new a ha with q | q
            · exact x₂.new a q
            · by_cases hm : a ∈ ρ₀
              · exact .inl hm
              · cases e : s₀.get? a with
                | none => exact .inr rfl
                | some o =>
                  exfalso
                  by_cases hL : a = env.locals
                  · exact L₃.offL (hL ▸ ha)
                  · by_cases hc : ∃ y, env.cells.lookup y = some a
                    · obtain ⟨y, hy⟩ := hc; exact (L₃.offC y a hy).1 ha
                    · have := x₂.keep a o hm hL (fun y hy => hc ⟨y, hy⟩) e
                      rw [q] at this; cases this
          · by_cases hm : b ∈ ρ'
            · rcases x₂.new b hm with q | q
              · exact absurd q h1
              · rw [q] at e; cases e
            · exact x₃.keep b o hm h2 h3 (x₂.keep b o h1 h2 h3 e)
        rcases hg with rfl | rfl <;> cases fl <;> first | exact r₃.elim | exact this
    · cases r with
      | none => exact hr.elim
      | some v => exact hr
end
end Mine
end
section
open PySem PySem.W PyProof.Rows
set_option linter.unusedVariables false
set_option linter.unusedSimpArgs false
set_option maxRecDepth 100000
namespace Mine
/-- a call that raises the own exception -/
noncomputable def CallX (G : Glo) (C : Addr) (d : Nat) (fa : Addr) (args : List AV) (σ : List AObj) : Prop :=
  ∀ (A : Around) (s : Shared) (ρ : List Addr) (cs : List Value) (R : Result → Shared → Prop) (outer : List Env), Room A d → StG G σ ρ s → RepL s.heap ρ cs args → Stk G A outer ρ s.heap →
    (∀ e s' ρ' B a0, Fl G σ ρ ρ' outer s.heap B s' → Heap.FlyingW B outer e (.ref C) a0 s'.heap → R (.error (.ref e)) s') → codeAny (model G.prog G.w) A (.call (.ref fa) ⟨cs, []⟩) R s
section
variable {G : Glo} {env : Env} {d : Nat} {Γ Γ' Γ₁ Γ₂ : List (Str × AV)} {σ σ' σ₁ σ₂ σ₃ : List AObj} {ρ ρ' ρ₁ ρ₂ ρ₃ : List Addr} {s s' s₁ : Shared} {h h' h₁ h₂ h₃ : Heap}

theorem Stk.lt {A : Around} {l : List Env} (K : Stk G A l ρ h) {b : Addr} (hb : b ∈ frs l) : b < h.objs.size := by
  obtain ⟨o, _, _, e, _⟩ := K.dict b hb
  exact Heap.lt_size e
theorem Stk.byS {A : Around} {outer : List Env} (K : Stk G A outer ρ h) (x : ExtS env ρ ρ' h h') (hL : h.objs.size ≤ env.locals) (hc : ∀ y c, env.cells.lookup y = some c → h.objs.size ≤ c) : Stk G A outer ρ' h' :=
  K.keep (fun b hb o e => x.keep b o (K.off b hb) (fun q => by have := K.lt hb; rw [q] at this; exact absurd this (Nat.not_lt.mpr hL)) (fun y q => by have := K.lt hb; exact absurd this (Nat.not_lt.mpr (hc y b q))) e) x.new

/-- from a raise in a loop of a call's own frame to the call's end -/
theorem raise_out {A : Around} {outer : List Env} {C e T : Addr} {dct : Option Addr} {R : Result → Shared → Prop} (hf : env.frame = some env.locals) (K : Stk G A outer ρ s.heap) (S : StG G σ₁ ρ₁ s₁) (L : StL G env Γ₁ ρ₁ s₁.heap) (x : ExtS env ρ ρ₁ s.heap s₁.heap)
    (hL : s.heap.objs.size ≤ env.locals) (hc : ∀ y c, env.cells.lookup y = some c → s.heap.objs.size ≤ c) (he : s₁.heap.get? e = some { cls := .ref C, dict := dct, data := .fields #[.ref T, .none, .none, .none, .bool false, .none] }) (heρ : e ∉ ρ₁) (he0 : G.h₀.get? e = none) (hes : s.heap.get? e = none)
    (hcut : σ.length ≤ σ₁.length ∧ σ₁.take σ.length = σ ∧ ∀ o ∈ σ, o.lt σ.length = true) (hlen : ρ.length = σ.length)
    (hR : ∀ s' ρ' B a0, Fl G σ ρ ρ' outer s.heap B s' → Heap.FlyingW B outer e (.ref C) a0 s'.heap → R (.error (.ref e)) s') {M : Model} :
    notedBy M (A.deeper env) env (fun e s' => cameBackBy M (A.deeper env) env (fun e s' => wpAny M (A.deeper env) (leaving env e) (fun _ s'' => R (.error e) s'') (fun e' s'' => R (.error e') s'') s') e s') (.ref e) s₁ := by
  have K₁ := (K.byS x hL hc).push L hf
  have nf : ∀ b ∈ frs outer, ∃ o, s.heap.get? b = some o ∧ ∀ vs, o.data ≠ .fields vs := fun b hb => by
    obtain ⟨o, es, n, e, hd⟩ := K.dict b hb
    exact ⟨o, e, fun vs q => by rw [hd] at q; cases q⟩
  have hLn : s.heap.get? env.locals = none := Heap.get?_none_of_le hL
  unfold notedBy
  refine note_new (hb := s.heap) (ρ₀ := ρ) K₁ hf S he heρ he0 hes x.pre x.new (fun b o h1 h2 q => ?_) (fun b hb o q => ?_) fun h' B F hh => ?_
  · rw [frs_cons hf] at h2
    refine x.keep b o h1 (fun z => h2 (z ▸ .head _)) (fun y z => ?_) q
    exact absurd (Heap.lt_size q) (Nat.not_lt.mpr (hc y b z))
  · rw [frs_cons hf] at hb
    rcases List.mem_cons.mp hb with rfl | hb
    · rw [hLn] at q; cases q
    · refine ⟨o.slots, x.keep b o (K.off b hb) (fun z => ?_) (fun y z => ?_) q⟩
      · rw [z, hLn] at q; cases q
      · exact absurd (Heap.lt_size q) (Nat.not_lt.mpr (hc y b z))
  have F₁ := F.outer hf hLn
  refine held_back (s := { s₁ with heap := h' }) hf hh fun h₂ hh₂ u₂ => ?_
  have F₂ := F₁.step nf u₂
  refine leaves_held (s := { s₁ with heap := h₂ }) hf hh₂ fun h₃ hfl u₃ => ?_
  have F₃ := F₂.step nf u₃
  obtain ⟨c1, c2, c3⟩ := hcut
  have led := F₃.led.take σ.length c1 (by rw [c2]; exact c3)
  rw [c2] at led
  refine hR _ (ρ₁.take σ.length) B _ ⟨led, fun i a q => ?_, fun a ha => F₃.new a (List.mem_of_mem_take ha), F₃.keep, F₃.slots⟩ hfl
  have hi : i < ρ.length := (List.getElem?_eq_some_iff.mp q).1
  rw [List.getElem?_take_of_lt (by lia)]
  exact F₃.pre i a q

theorem for_stX {β : Type} {target iter : Expr} {body : List Stmt} {pos : Pos} {items : List β} {bind : β → List (Str × AV) → List (Str × AV)} {A : Around} {s : Shared} {ρ : List Addr} {Q : Flow → Shared → Prop} {E : Value → Shared → Prop} (R : Room A d) (S : StG G σ ρ s) (L : StL G env Γ ρ s.heap)
    (h1 : ItT G env d Γ σ (eval iter env) target items bind σ₁) (h2 : FRX G env d body bind items Γ σ₁ Γ₂ σ₂)
    (hX : ∀ s' ρ', StG G σ₂ ρ' s' → StL G env Γ₂ ρ' s'.heap → ExtS env ρ ρ' s.heap s'.heap → wpAny (model G.prog G.w) A (execs body env) (fun _ _ => False) (notedBy (model G.prog G.w) A env fun e s' => cameBackBy (model G.prog G.w) A env E e s') s')
    (hs : ∀ x, foldedSetIterable iter env x = pure x := by intro _; rfl) : wpAny (model G.prog G.w) A (exec (.For target iter body [] pos) env) Q E s :=
  wpAny_For (h1 A s ρ _ E R S L fun I fp wr St loc s₁ ρ₁ T st S₁ x₁ off hw => for_loopX T R S₁ (L.keep S x₁) off hw S.base ⟨x₁.pre, x₁.new, fun b o h1 _ _ e => x₁.keep b o h1 e⟩ st h2
    fun s' ρ' S' L' x' => hX s' ρ' S' L' (x'.toS S' L')) hs
end
end Mine
end
section
open PySem PySem.W PyProof.Rows
set_option linter.unusedVariables false
set_option linter.unusedSimpArgs false
set_option maxRecDepth 100000
namespace Mine
theorem work_loopX {G : Glo} {env : Env} {d : Nat} {body : List Stmt} {σ J : List AObj} {Γ : List (Str × AV)} {tab : Tab} {bind : AV → List (Str × AV) → List (Str × AV)}
    (hB : ∀ (st : WSt) (nm : Str) (t : T), lookT tab nm = some t → smallI st.sizes = true → st.sizes.length ≤ 1000 → st.depths.length ≤ 1000 → st.found.length ≤ 1000 → ¬ (szP st.sizes t > 10000 ∨ dpP st.depths t > 200) →
      SJ G env d (bind (.str nm) Γ) (σ ++ st.objs ++ J) (execs body env) .next Γ (σ ++ (WSt.mk (putT st.found nm (fillT st.found t)) (putI st.sizes nm (szP st.sizes t)) (putI st.depths nm (dpP st.depths t))).objs ++ J)) :
    ∀ (names : List Str) (st : WSt), workP tab names st = some none → ∃ (st' : WSt) (nm : Str) (t : T), FRX G env d body bind (names.map .str) Γ (σ ++ st.objs ++ J) (bind (.str nm) Γ) (σ ++ st'.objs ++ J) ∧
      lookT tab nm = some t ∧ smallI st'.sizes = true ∧ st'.sizes.length ≤ 1000 ∧ st'.depths.length ≤ 1000 ∧ st'.found.length ≤ 1000 ∧ (szP st'.sizes t > 10000 ∨ dpP st'.depths t > 200)
  | [], st, h => by rw [workP] at h; cases h
  | nm :: r, st, h => by
    rw [workP] at h
    cases e : lookT tab nm with
    | none => rw [e] at h; cases h
    | some t =>
      rw [e] at h
      dsimp only at h
      split at h
      · rename_i hb
        split at h
        · rename_i hyes
          exact ⟨st, nm, t, .here, e, hb.1, hb.2.1, hb.2.2.1, hb.2.2.2, hyes⟩
        · rename_i hno
          obtain ⟨st', nm', t', hF, r1⟩ := work_loopX hB r _ h
          exact ⟨st', nm', t', .step (hB st nm t e hb.1 hb.2.1 hb.2.2.1 hb.2.2.2 hno) (.inl rfl) hF, r1⟩
      · cases h

section
variable {G : Glo} (X : Fns G) (Y : LimF G)
include X Y
theorem x_worked {tab : Tab} (hk : tab.small = true) (hl : tab.length < 64) {σ : List AObj} {i : Nat} (hi : σ[i]? = some (AObj.sdict tab.av)) {n : Nat} {out : List Str} (ho : turnP tab n ((sortS (tab.map (·.1))).map fun s => (s, false)).reverse [] = some out) (hout : out.length ≤ 1000)
    (hw : workP tab out ⟨[], [], []⟩ = some none) : CallX G Y.C 8 X.worked.a [.ref i] σ := by
  intro A s ρ cs R outer Rm S ra K hR
  refine CallJ.enter X.T.ok X.worked.F rfl (d := 7) Rm S ra fun s₁ S₁ L₁ k₁ hc₁ => ?_
  have hσ := S.closed
  have hf : (callE (fdOf 15 X.worked.pm X.worked.code X.worked.doc) s.heap.objs.size X.worked.a).frame = some (callE (fdOf 15 X.worked.pm X.worked.code X.worked.doc) s.heap.objs.size X.worked.a).locals := rfl
  have x₁ : ExtS (callE (fdOf 15 X.worked.pm X.worked.code X.worked.doc) s.heap.objs.size X.worked.a) ρ ρ s.heap s₁.heap := ⟨Pre.refl _, fun _ h => .inl h, fun b o _ _ _ q => k₁ b o q, fun b o q => ⟨o, k₁ b o q⟩⟩
  have hJ : ∀ n, ∀ o ∈ ([AObj.sdict (trues out), AObj.list []] : List AObj), AObj.lt n o = true := fun n o ho => by
    rcases List.mem_cons.mp ho with rfl | ho
    · exact trues_lt n _
    · rw [List.mem_singleton.mp ho]; rfl
  have h0 : ∀ o ∈ σ ++ (WSt.mk [] [] []).objs, AObj.lt (σ ++ (WSt.mk [] [] []).objs).length o = true := fun o ho => by
    rcases List.mem_append.mp ho with ho | ho
    · exact AObj.lt_mono (by simp) (hσ o ho)
    · rcases List.mem_cons.mp ho with rfl | ho
      · rfl
      · rcases List.mem_cons.mp ho with rfl | ho
        · rfl
        · rw [List.mem_singleton.mp ho]; rfl
  refine wpAny_execs_cons ((SJ.unpack3 (u := .ref σ.length) (v := .ref (σ.length + 1)) (w := .ref (σ.length + 2)) (σ₁ := σ ++ (WSt.mk [] [] []).objs) (EJ.mkTuple (EsJ.cons EJ.dict0S (EsJ.cons (EJ.is EJ.dict0S (by simp)) (EsJ.cons (EJ.st (EJ.is EJ.dict0S (by simp)) (by simp [WSt.objs, Tab.av, intsD])) EsJ.nil))))) _ s₁ ρ _ _ (Rm.deeper _) S₁ L₁ fun fl s₂ ρ₂ S₂ L₂ x₂ r₂ => ?_)
  cases fl with
  | ret _ => exact r₂.elim
  | brk => exact r₂.elim
  | cont => exact r₂.elim
  | next =>
  obtain ⟨st', nm, t, hF, q1, q2, q3, q4, q5, q6⟩ := work_loopX (G := G) (env := callE (fdOf 15 X.worked.pm X.worked.code X.worked.doc) s.heap.objs.size X.worked.a) (d := 7) (body := workBody) (σ := σ) (J := [AObj.sdict (trues out), AObj.list []]) (Γ := [("table", .ref i), ("found", .ref σ.length), ("sizes", .ref (σ.length + 1)), ("depths", .ref (σ.length + 2))]) (tab := tab) (bind := fun b Γ => upd Γ "name" b) (fun st nm t q1 q2 q3 q4 q5 q6 => SJ.weaken (work_step X hk hi hσ hJ q1 q2 q3 q4 q5 q6 (lookI_put _ _ _) (lookI_put _ _ _)) (List.forall_mem_cons.mpr ⟨rfl, List.forall_mem_cons.mpr ⟨rfl, List.forall_mem_cons.mpr ⟨rfl, List.forall_mem_cons.mpr ⟨rfl, fun p hp => by cases hp⟩⟩⟩⟩)) out _ hw
  refine wpAny_execs_cons (for_stX (Rm.deeper _) S₂ L₂ (items := List.map AV.str out) (bind := fun b Γ => upd Γ "name" b) (σ₁ := σ ++ (WSt.mk [] [] []).objs ++ [AObj.sdict (trues out), AObj.list []]) (σ₂ := σ ++ st'.objs ++ [AObj.sdict (trues out), AObj.list []]) (Γ₂ := [("table", .ref i), ("found", .ref σ.length), ("sizes", .ref (σ.length + 1)), ("depths", .ref (σ.length + 2)), ("name", .str nm)]) ?h1 ?h2 ?h3)
  case h2 => exact hF
  case h1 => exact ItJ.name (ItJ.list (EJ.is (EJ.callF X.inTurn.F X.T.ok (EsJ.cons EJ.var EsJ.nil) ((c_inTurn X hk hl (σ := σ ++ (WSt.mk [] [] []).objs) (atL hi) ho hout).mono (by lia))) (by simp; lia)) (strs_lt _ _) (fun _ => closed2 h0 (trues_lt _ _) rfl) (by simp))
  intro s₄ ρ₄ S₄ L₄ x₄'
  have xa : ExtS (callE (fdOf 15 X.worked.pm X.worked.code X.worked.doc) s.heap.objs.size X.worked.a) ρ ρ₄ s.heap s₄.heap := (x₁.trans x₂).trans x₄'
  show wpAny _ _ (execs workBody _) _ _ _
  rw [← List.take_append_drop 3 workBody, execs_append]
  refine wpAny_bind (work_pre3 X hk hi hσ hJ q1 q2 q3 q4 q5 _ s₄ ρ₄ _ _ (Rm.deeper _) S₄ L₄ fun fl s₅ ρ₅ S₅ L₅ x₅ r₅ => ?_)
  cases fl with
  | ret _ => exact r₅.elim
  | brk => exact r₅.elim
  | cont => exact r₅.elim
  | next =>
  show wpAny _ _ (execs (workBody.drop 3) _) _ _ _
  have p1 := lookI_put st'.sizes nm (szP st'.sizes t)
  have p2 := lookI_put st'.depths nm (dpP st'.depths t)
  generalize szP st'.sizes t = sz at *
  generalize dpP st'.depths t = dp at *
  refine wpAny_execs_cons (wpAny_If ((TJ.is (c := true) (TJ.boolOp (TJ.or2 (TJ.cmp (EJ.sub EJ.var EJ.var (Sub.dict (v := .int sz) (atL (ix1 rfl)) (by rw [look_ints, p1]; rfl))) (ej_glob X (n := 10000) (by kernel_rfl)) O2.gtI) (fun _ => TJ.cmp (EJ.sub EJ.var EJ.var (Sub.dict (v := .int dp) (atL (ix2 rfl)) (by rw [look_ints, p2]; rfl))) (ej_glob X (n := 200) (by kernel_rfl)) O2.gtI))) ?_) _ s₅ ρ₅ _ _ (Rm.deeper _) S₅ L₅ fun s₆ ρ₆ S₆ x₆ => ?_))
  · rcases q6 with h | h
    · have : decide ((10000 : Int) < sz) = true := by simpa using h
      rw [this]; rfl
    · have : decide ((200 : Int) < dp) = true := by simpa using h
      rw [this, Bool.or_true]
  show wpAny _ _ (execs _ _) _ _ _
  have L₆ := L₅.keep S₅ x₆
  refine wpAny_execs_cons (raise_lim X Y (d := 5) (n := Str.length ("a pattern has more than " : Str) + (10 + (Str.length (" nodes, or " : Str) + (10 + (Str.length (" levels" : Str) + 0))))) ?pj ?pn rfl ((Rm.deeper _).mono (by lia)) S₆ L₆ fun s₇ e T dct S₇ k₇ hen he => ?_)
  case pj => exact PJ.str (PJ.int X (i := 10000) (by kernel_rfl) (by decide +kernel) (by decide +kernel) (PJ.str (PJ.int X (i := 200) (by kernel_rfl) (by decide +kernel) (by decide +kernel) (PJ.str PJ.nil))))
  case pn => decide +kernel
  have xb := (((xa.trans x₅).trans (ExtS.of x₆ S₆)).trans (ExtS.of (Ext.of_all k₇) S₇))
  have heρ : e ∉ ρ₆ := fun hm => by
    obtain ⟨i, o, _, _, z⟩ := S₆.mem hm
    obtain ⟨_, q, _⟩ := z.there
    rw [hen] at q; cases q
  refine raise_out hf K S₇ (L₆.at (fun o q => k₇ _ o q) (fun _ _ o _ q => k₇ _ o q) (S₆.tupKeep (KeepX.of_all k₇))) xb (Nat.le_refl _) (fun y c q => Nat.le_of_lt (hc₁ y c q)) he heρ (S₆.new hen) ?_ ⟨?_, ?_, hσ⟩ S.len (hR _)
  · cases q : s.heap.get? e with
    | none => rfl
    | some o =>
      obtain ⟨_, q'⟩ := ((xa.trans x₅).trans (ExtS.of x₆ S₆)).there e o q
      rw [hen] at q'; cases q'
  · simp only [List.append_assoc, List.length_append]; exact Nat.le_add_right _ _
  · simp only [List.append_assoc]; exact List.take_left' rfl
end
end Mine
end
section
open PySem PySem.W PyProof.Rows
set_option linter.unusedVariables false
set_option linter.unusedSimpArgs false
set_option maxRecDepth 100000
namespace Mine
section
variable {G : Glo} {env : Env} {d : Nat} {Γ Γ' Γ₁ Γ₂ : List (Str × AV)} {σ σ' σ₁ σ₂ σ₃ : List AObj} {ρ ρ' ρ₁ ρ₂ ρ₃ : List Addr} {s s' s₁ : Shared} {h h' h₁ h₂ h₃ : Heap}

theorem Fl.back {A : Around} {outer : List Env} {B : Heap} (K : Stk G A outer ρ h) (x : ExtS env ρ ρ₁ h h₁) (hf : env.frame = some env.locals) (hL : h.objs.size ≤ env.locals) (hc : ∀ y c, env.cells.lookup y = some c → h.objs.size ≤ c)
    (F : Fl G σ₁ ρ₁ ρ' (env :: outer) h₁ B s') : Fl G σ₁ ρ ρ' outer h B s' := by
  have nL : ∀ b o, h.get? b = some o → b ≠ env.locals := fun b o e q => by
    rw [q] at e; exact absurd (Heap.lt_size e) (Nat.not_lt.mpr hL)
  have nc : ∀ b o, h.get? b = some o → ∀ y, env.cells.lookup y ≠ some b := fun b o e y q => absurd (Heap.lt_size e) (Nat.not_lt.mpr (hc y b q))
  have kk : ∀ b o, b ∉ ρ → h.get? b = some o → h₁.get? b = some o := fun b o h1 e => x.keep b o h1 (nL b o e) (nc b o e) e
  refine ⟨F.led, x.pre.trans F.pre, fun a ha => ?_, fun b o h1 h2 e => F.keep b o (fun hm => ?_) (fun hm => ?_) (kk b o h1 e), fun b hb o e => F.slots b (by rw [frs_cons hf]; exact .tail _ hb) o (kk b o (K.off b hb) e)⟩
  · rcases F.new a ha with q | q
    · exact x.new a q
    · by_cases hm : a ∈ ρ
      · exact .inl hm
      · cases e : h.get? a with
        | none => exact .inr rfl
        | some o => rw [kk a o hm e] at q; cases q
  · rcases x.new b hm with q | q
    · exact h1 q
    · rw [e] at q; cases q
  · rw [frs_cons hf] at hm
    rcases List.mem_cons.mp hm with q | q
    · exact nL b o e q
    · exact h2 q
theorem Fl.cut {outer : List Env} {B : Heap} (F : Fl G σ₁ ρ ρ' outer h B s') (hcut : σ.length ≤ σ₁.length ∧ σ₁.take σ.length = σ ∧ ∀ o ∈ σ, o.lt σ.length = true) (hlen : ρ.length = σ.length) : Fl G σ ρ (ρ'.take σ.length) outer h B s' := by
  obtain ⟨c1, c2, c3⟩ := hcut
  have led := F.led.take σ.length c1 (by rw [c2]; exact c3)
  rw [c2] at led
  refine ⟨led, fun i a q => ?_, fun a ha => F.new a (List.mem_of_mem_take ha), F.keep, F.slots⟩
  have hi : i < ρ.length := (List.getElem?_eq_some_iff.mp q).1
  rw [List.getElem?_take_of_lt (by lia)]
  exact F.pre i a q
theorem Fl.ext {l : List Env} {A : Around} {B : Heap} (K : Stk G A l ρ h) (x : Ext ρ ρ₁ h h₁) (F : Fl G σ₁ ρ₁ ρ' l h₁ B s') : Fl G σ₁ ρ ρ' l h B s' := by
  refine ⟨F.led, x.pre.trans F.pre, fun a ha => ?_, fun b o h1 h2 e => F.keep b o (fun hm => ?_) h2 (x.keep b o h1 e), fun b hb o e => F.slots b hb o (x.keep b o (K.off b hb) e)⟩
  · rcases F.new a ha with q | q
    · exact x.new a q
    · by_cases hm : a ∈ ρ
      · exact .inl hm
      · cases e : h.get? a with
        | none => exact .inr rfl
        | some o => rw [x.keep a o hm e] at q; cases q
  · rcases x.new b hm with q | q
    · exact h1 q
    · rw [e] at q; cases q

theorem x_callF {f : Str} {fa C : Addr} {fd : FuncData} {names : List Str} {body : List Stmt} (F : Fn G f fa fd names body) (K : GloOK G) {e : Expr} {es : List Expr} {p pos : Pos} {args : List AV}
    (h1 : EsJ G env d Γ σ (spliced (backTo pos (starEach (e :: es) env))) args σ₁) (h2 : CallX G C d fa args σ₁) {A : Around} {s : Shared} {ρ : List Addr} {Q : Value → Shared → Prop} {E : Value → Shared → Prop} {l : List Env} (R : Room A d) (S : StG G σ ρ s) (L : StL G env Γ ρ s.heap)
    (W : Stk G A l ρ s.heap) (h : ∀ e s' ρ' B a0, Fl G σ₁ ρ ρ' l s.heap B s' → Heap.FlyingW B l e (.ref C) a0 s'.heap → E (.ref e) s')
    (hx : env.kindOf f = some .globalImplicit := by rfl) (hd : (f == ("__debug__" : Str)) = false := by decide) (he : starEach (e :: es) env = (false, eval e env) :: starEach es env := by rfl) (hpl : (backTo pos (starEach es env)).any (·.1) = false := by rfl) :
    wpAny (model G.prog G.w) A (eval (.Call (.Name f p) (e :: es) [] pos) env) Q E s := by
  obtain ⟨o, ho, hdt⟩ := F.at_
  refine Call_Name rfl (Calls.Name_function_global L.kind hx (Calls.loadGlobal_global (by rw [L.glob]; exact K.glob.keeps S.base) F.name ?_) hd)
  refine callWith_def (o := o) hdt (h1 A s ρ _ E R S L fun cvs s₁ ρ₁ S₁ x₁ r₁ => ⟨S₁.base _ _ ho, wpAny_call ?_⟩) he
  have W₁ := W.keep (h' := s₁.heap) (ρ' := ρ₁) (fun b hb o e => x₁.keep b o (W.off b hb) e) x₁.new
  exact h2 A s₁ ρ₁ cvs _ l R S₁ r₁ W₁ fun e s' ρ' B a0 FL hfl => h e s' ρ' B a0 (FL.ext W x₁) hfl

theorem SJ.goN {t : Sem Flow} {A : Around} {s : Shared} {ρ : List Addr} {Q : Flow → Shared → Prop} {E : Value → Shared → Prop} (R : Room A d) (S : StG G σ ρ s) (L : StL G env Γ ρ s.heap) (h1 : SJ G env d Γ σ t .next Γ₂ σ₂)
    (k : ∀ s' ρ', StG G σ₂ ρ' s' → StL G env Γ₂ ρ' s'.heap → ExtS env ρ ρ' s.heap s'.heap → Q .next s') : wpAny (model G.prog G.w) A t Q E s :=
  h1 A s ρ Q E R S L fun fl s' ρ' S' L' x r => by
    cases fl with
    | next => exact k s' ρ' S' L' x
    | ret _ => exact r.elim
    | brk => exact r.elim
    | cont => exact r.elim

/-- a call's end with an exception on its way -/
theorem leave_out {A : Around} {outer : List Env} {C e : Addr} {dct : Option Addr} {R : Result → Shared → Prop} {B : Heap} {a0 : Value} (hf : env.frame = some env.locals) (K : Stk G A outer ρ s.heap) (x : ExtS env ρ ρ₁ s.heap h₁)
    (hL : s.heap.objs.size ≤ env.locals) (hc : ∀ y c, env.cells.lookup y = some c → s.heap.objs.size ≤ c) (F : Fl G σ₁ ρ₁ ρ' (env :: outer) h₁ B s') (hfl : Heap.FlyingW B (env :: outer) e (.ref C) a0 s'.heap)
    (hcut : σ.length ≤ σ₁.length ∧ σ₁.take σ.length = σ ∧ ∀ o ∈ σ, o.lt σ.length = true) (hlen : ρ.length = σ.length)
    (hR : ∀ s' ρ' B a0, Fl G σ ρ ρ' outer s.heap B s' → Heap.FlyingW B outer e (.ref C) a0 s'.heap → R (.error (.ref e)) s') {M : Model} :
    wpAny M (A.deeper env) (leaving env (.ref e)) (fun _ s'' => R (.error (.ref e)) s'') (fun e' s'' => R (.error e') s'') s' := by
  have F₁ := (F.back K x hf hL hc).cut hcut hlen
  have nf : ∀ b ∈ frs outer, ∃ o, s.heap.get? b = some o ∧ ∀ vs, o.data ≠ .fields vs := fun b hb => by
    obtain ⟨o, es, n, e, hd⟩ := K.dict b hb
    exact ⟨o, e, fun vs q => by rw [hd] at q; cases q⟩
  refine wpAny_leaves_onW (by simp [Around.deeper, K.fr]) hf hfl fun h' hfl' u => ?_
  exact hR _ _ B a0 (F₁.step nf u) hfl'

end
section
variable {G : Glo} (X : Fns G) (Y : LimF G)
include X Y
theorem x_unified {σ : List AObj} {one other : T} (h1 : one.fair = true) (h2 : other.fair = true) {n n' : Nat} {tab : Tab} (hb : begunP n ⟨[], [(one, other)], []⟩ = some (some tab)) (hk : tab.small = true) (hl : tab.length < 64)
    {out : List Str} (ho : turnP tab n' ((sortS (tab.map (·.1))).map fun s => (s, false)).reverse [] = some out) (hout : out.length ≤ 1000) (hw : workP tab out ⟨[], [], []⟩ = some none) : CallX G Y.C 10 X.unified.a [one.av, other.av] σ := by
  intro A s ρ cs R outer Rm S ra K hR
  refine CallJ.enter X.T.ok X.unified.F rfl (d := 9) Rm S ra fun s₁ S₁ L₁ k₁ hc₁ => ?_
  have hσ := S.closed
  have hf : (callE (fdOf 16 X.unified.pm X.unified.code X.unified.doc) s.heap.objs.size X.unified.a).frame = some (callE (fdOf 16 X.unified.pm X.unified.code X.unified.doc) s.heap.objs.size X.unified.a).locals := rfl
  have x₁ : ExtS (callE (fdOf 16 X.unified.pm X.unified.code X.unified.doc) s.heap.objs.size X.unified.a) ρ ρ s.heap s₁.heap := ⟨Pre.refl _, fun _ h => .inl h, fun b o _ _ _ q => k₁ b o q, fun b o q => ⟨o, k₁ b o q⟩⟩
  refine wpAny_execs_cons (SJ.goN (Rm.deeper _) S₁ L₁ (SJ.assign (v := .ref σ.length) (EJ.callF X.begun.F X.T.ok (EsJ.cons EJ.var (EsJ.cons EJ.var EsJ.nil)) (c_begun X h1 h2 hb))) fun s₂ ρ₂ S₂ L₂ x₂ => ?_)
  refine wpAny_execs_cons (wpAny_Return_some (wpAny_IfExp ((TJ.is (c := false) (TJ.cmp EJ.var EJ.cNone O2.is) rfl) _ s₂ ρ₂ _ _ (Rm.deeper _) S₂ L₂ fun s₃ ρ₃ S₃ x₃ => ?_)))
  first | refine PySem.wpAny_ite_false rfl ?_ | simp only [Bool.false_eq_true, if_false]
  have L₃ := L₂.keep S₂ x₃
  have xa := ((x₁.trans x₂).trans (ExtS.of x₃ S₃))
  have hc : ∀ y c, (callE (fdOf 16 X.unified.pm X.unified.code X.unified.doc) s.heap.objs.size X.unified.a).cells.lookup y = some c → s.heap.objs.size ≤ c := fun y c q => Nat.le_of_lt (hc₁ y c q)
  have K₃ := (K.byS xa (Nat.le_refl _) hc).push L₃ hf
  refine x_callF X.worked.F X.T.ok (EsJ.cons EJ.var EsJ.nil) (fun A s ρ cs R o Rm => x_worked X Y hk hl (σ := qS σ (some tab)) (i := σ.length) (getElem?_last rfl) ho hout hw A s ρ cs R o (Rm.mono (by lia))) (Rm.deeper _) S₃ L₃ K₃ fun e s' ρ' B a0 FL hfl => ?_
  exact leave_out (dct := none) hf K xa (Nat.le_refl _) hc FL hfl ⟨by simp [qS], by simp [qS], hσ⟩ S.len (hR e)
end
end Mine
end
section
open PySem PySem.W PyProof.Rows
set_option linter.unusedVariables false
set_option linter.unusedSimpArgs false
set_option maxRecDepth 100000
namespace Mine
/-- what a caught exception leaves of the frames -/
structure ExtF (l : List Env) (ρ ρ' : List Addr) (h h' : Heap) : Prop where
  pre : Pre ρ ρ'
  new : ∀ a ∈ ρ', a ∈ ρ ∨ h.get? a = none
  keep : ∀ b o, b ∉ ρ → b ∉ frs l → h.get? b = some o → h'.get? b = some o
  slots : ∀ b ∈ frs l, ∀ o, h.get? b = some o → ∃ sl, h'.get? b = some { o with slots := sl }
/-- a call that catches -/
noncomputable def CallH (G : Glo) (d : Nat) (fa : Addr) (args : List AV) (σ : List AObj) (v : AV) (σ' : List AObj) : Prop :=
  ∀ (A : Around) (s : Shared) (ρ : List Addr) (cs : List Value) (R : Result → Shared → Prop) (outer : List Env), Room A d → StG G σ ρ s → RepL s.heap ρ cs args → Stk G A outer ρ s.heap →
    (∀ cv s' ρ', StG G σ' ρ' s' → ExtF outer ρ ρ' s.heap s'.heap → Rep s'.heap ρ' cv v → R (.ok (.ret cv)) s') → codeAny (model G.prog G.w) A (.call (.ref fa) ⟨cs, []⟩) R s
section
variable {G : Glo} {env : Env} {d : Nat} {Γ Γ' Γ₁ Γ₂ : List (Str × AV)} {σ σ' σ₁ σ₂ σ₃ : List AObj} {ρ ρ' ρ₁ ρ₂ ρ₃ : List Addr} {s s' s₁ : Shared} {h h' h₁ h₂ h₃ : Heap}
theorem SJ.tryR {body : List Stmt} {h₀ : ExceptHandler} {hs : List ExceptHandler} {pos : Pos} {v : AV} (h1 : SJ G env d Γ σ (execs body env) (.ret v) Γ₂ σ₂) : SJ G env d Γ σ (exec (.Try body (h₀ :: hs) [] [] pos) env) (.ret v) Γ₂ σ₂ := fun A s ρ Q E R S L h =>
  wpAny_Try_except (h1 A s ρ _ _ R S L fun fl s' ρ' S' L' x r => by
    cases fl with
    | next => exact r.elim
    | ret w => exact h (.ret w) s' ρ' S' L' x r
    | brk => exact r.elim
    | cont => exact r.elim)
theorem tup2 {M : Model} {A : Around} {Q : Value → Shared → Prop} {E : Value → Shared → Prop} {a b : Expr} {k : Nat} {pos : Pos} (h : wpAny M A (eval a env) (fun v s₁ => wpAny M A (eval b env) (fun w s₂ => wpAny M A (newTuple [v, w]) Q E s₂) E s₁) E s)
    (he : starEach [a, b] env = [(false, eval a env), (false, eval b env)] := by rfl) : wpAny M A (eval (.Tuple [a, b] k pos) env) Q E s := by
  show wpAny _ _ (do standAt pos; newTuple (← spliced (backTo pos (starEach [a, b] env)))) _ _ _
  rw [he]
  refine wpAny_bind (wpAny_standAt (wpAny_bind ?_))
  refine Calls.spliced_cons (wpAny_mono h (fun v s₁ h₁ => ?_) fun _ _ x => x)
  refine Calls.spliced_cons (wpAny_mono h₁ (fun v s₁ h₁ => ?_) fun _ _ x => x)
  exact Calls.spliced_nil h₁
theorem CallH.of {fa : Addr} {args : List AV} {v : AV} (h : CallJ G d fa args σ v σ') : CallH G d fa args σ v σ' := fun A s ρ cs R outer Rm S ra K hR =>
  h A s ρ cs R Rm S ra fun cv s' ρ' S' x r => hR cv s' ρ' S' ⟨x.pre, x.new, fun b o h1 _ e => x.keep b o h1 e, fun b hb o e => ⟨o.slots, x.keep b o (K.off b hb) e⟩⟩ r
end
section
variable {G : Glo} (X : Fns G) (Y : LimF G)
include X
theorem c_heard {σ σ' : List AObj} {one other v : AV} (h : CallJ G 10 X.unified.a [one, other] σ v σ') (hcut : (∀ o ∈ σ, o.lt σ.length = true) → AV.lts σ.length [one, other] = true → (∀ o ∈ σ', o.lt σ'.length = true) ∧ AV.lt σ'.length v = true ∧ σ.length ≤ σ'.length) :
    CallJ G 11 X.heard.a [one, other] σ (.tup [.bool false, v]) σ' := by
  refine CallJ.mkE X.T.ok X.heard.F rfl (fun hσ ha L => ?_) (fun hσ ha => ?_)
  · show SJE _ _ _ _ _ _ _ _
    refine SJE.of (junk := []) (SJ.last (SJ.tryR (SJ.last (SJ.ret (EJ.mkTuple (EsJ.cons EJ.cBool (EsJ.cons (EJ.callF X.unified.F X.T.ok (EsJ.cons EJ.var (EsJ.cons EJ.var EsJ.nil)) h) EsJ.nil))))))) (by simp)
  · obtain ⟨k1, k2, k3⟩ := hcut hσ ha
    exact ⟨k1, by simp [AV.lt_none, AV.lt_bool, AV.lt_int, AV.lt_str, AV.lt_tup, AV.lt_ref, AV.lts_nil, AV.lts_cons, k2], k3⟩
include Y
theorem x_heard {σ : List AObj} {one other : AV} (h : CallX G Y.C 10 X.unified.a [one, other] σ) : CallH G 11 X.heard.a [one, other] σ (.tup [.bool true, .none]) σ := by
  intro A s ρ cs R outer Rm S ra K hR
  refine CallJ.enter X.T.ok X.heard.F rfl (d := 10) Rm S ra fun s₁ S₁ L₁ k₁ hc₁ => ?_
  have hσ := S.closed
  have hf : (callE (fdOf 19 X.heard.pm X.heard.code X.heard.doc) s.heap.objs.size X.heard.a).frame = some (callE (fdOf 19 X.heard.pm X.heard.code X.heard.doc) s.heap.objs.size X.heard.a).locals := rfl
  have x₁ : ExtS (callE (fdOf 19 X.heard.pm X.heard.code X.heard.doc) s.heap.objs.size X.heard.a) ρ ρ s.heap s₁.heap := ⟨Pre.refl _, fun _ h => .inl h, fun b o _ _ _ q => k₁ b o q, fun b o q => ⟨o, k₁ b o q⟩⟩
  have hc : ∀ y c, (callE (fdOf 19 X.heard.pm X.heard.code X.heard.doc) s.heap.objs.size X.heard.a).cells.lookup y = some c → s.heap.objs.size ≤ c := fun y c q => Nat.le_of_lt (hc₁ y c q)
  have K₁ := (K.byS x₁ (Nat.le_refl _) hc).push L₁ hf
  refine wpAny_execs_cons ?_
  refine wpAny_Try_except ?_
  refine wpAny_execs_cons ?_
  refine wpAny_Return_some ?_
  refine tup2 (wpAny_Constant_bool ?_)
  refine x_callF X.unified.F X.T.ok (d := 10) (σ₁ := σ) (EsJ.cons EJ.var (EsJ.cons EJ.var EsJ.nil)) h (Rm.deeper _) (S₁.with rfl rfl rfl) L₁ K₁ fun e s₂ ρ' B a0 F hfl => ?_
  have F₂ := F.back (h := s.heap) (K) x₁ hf (Nat.le_refl _) hc
  have nf : ∀ b ∈ frs outer, ∃ o, s.heap.get? b = some o ∧ ∀ vs, o.data ≠ .fields vs := fun b hb => by
    obtain ⟨o, es, n, e, hd⟩ := K.dict b hb
    exact ⟨o, e, fun vs q => by rw [hd] at q; cases q⟩
  refine wpAny_looks_onW K₁.fr hf hfl fun h₃ hh₃ u₃ => ?_
  have F₃ := F₂.step nf u₃
  refine wpAny_landsW hh₃ fun h₄ hf₄ u₄ => ?_
  have F₄ := F₃.step nf u₄
  have b0 : ∀ b o, G.h₀.get? b = some o → h₄.get? b = some o := fun b o q => hf₄.1 b o (F.led.base b o q)
  refine wpAny_handleBy_cons (codeAny_handlers_test ?_) (by simp [byPass])
  refine Calls.Name_function_global L₁.kind rfl (Calls.loadGlobal_global (by rw [L₁.glob]; exact X.T.ok.glob.keeps b0) Y.glob ?_) (by decide)
  obtain ⟨oe, he, hcls⟩ := hf₄.there
  refine wpAny_excMatches_sub_self (b0 _ _ Y.hC) he hcls (by simp [eBm]) ?_
  first | refine PySem.wpAny_ite_true rfl ?_ | simp only [if_true]
  refine codeAny_handlers_suite (lands_againW hf₄ fun h₅ hf₅ u₅ => ?_)
  have F₅ := F₄.step nf u₅
  refine wpAny_execs_cons (wpAny_Return_some ?_)
  refine tup2 (wpAny_Constant_bool (wpAny_Constant_none ?_))
  refine wpAny_newObj_type ?_ (by show 2 ≤ sizeLine; exact Nat.le_trans (by lia) bigL)
  have k : ∀ b o, h₅.get? b = some o → (h₅.push { cls := .type "tuple", data := .seq #[.bool true, .none] }).get? b = some o := fun b o e => Heap.get?_push_of_some _ e
  have S₅ : StG G σ ρ' { s₂ with heap := h₅.push { cls := .type "tuple", data := .seq #[.bool true, .none] } } := F.led.ext (fun b o q => k b o (hf₅.1 b o q)) rfl rfl
  refine hR _ _ ρ' (S₅.with rfl rfl rfl) ⟨F₅.pre, F₅.new, fun b o h1 h2 q => k b o (hf₅.1 b o (F₅.keep b o h1 h2 q)), fun b hb o q => ?_⟩ (.tup ⟨_, Heap.get?_push_size _ rfl, rfl, _, rfl⟩ (.cons (.bool _) (.cons .none .nil)))
  obtain ⟨sl, q'⟩ := F₅.slots b hb o q
  exact ⟨sl, k b _ q'⟩
end
end Mine
end
section
open PySem PySem.W PyProof.Rows
set_option linter.unusedVariables false
set_option maxRecDepth 1000000
namespace Mine
noncomputable def vT (s : Str) : T := .nd s []
noncomputable def rowL (letter : Str) (many : Nat) : List T := (List.range many).map fun j => vT (nameS letter (j + 1))
noncomputable def rowR (letter : Str) (many : Nat) : List T := (List.range many).map fun j => .nd "f" [vT (nameS letter j), vT (nameS letter j)]
noncomputable def rowN (letter : Str) (many : Nat) : List Str := (List.range many).map fun j => nameS letter (j + 1)
noncomputable def letsOf (way : Nat) : List Str := if way = 2 then ["x", "y"] else ["x"]
noncomputable def namesP (way many : Nat) : List Str := (letsOf way).flatMap fun l => rowN l many
noncomputable def leftsP (way many : Nat) : List T := (letsOf way).flatMap fun l => rowL l many
noncomputable def rightsP (way many : Nat) : List T := (letsOf way).flatMap fun l => rowR l many
noncomputable def turned (up : Bool) (l : List T) : List T := if up then l.reverse else l
noncomputable def tops : List Nat := [12, 9, 8, 7, 3, 1, 0]
noncomputable def lHead (way many : Nat) : T := if way = 3 then vT "a" else if way = 4 then vT "?x0" else if way = 5 then vT "?t" else vT (nameS "x" many)
noncomputable def rHead (way many : Nat) (over : Bool) : T := if way = 2 then vT (nameS "y" many) else if way = 3 then vT "b" else if way = 5 then .nd "f" ((tops.map fun k => vT (nameS "x" k)) ++ (if over then [vT "a"] else [])) else vT (nameS "x" many)
noncomputable def oneP (way many : Nat) (up : Bool) : T := .nd "h" (lHead way many :: turned up (leftsP way many))
noncomputable def otherP (way many : Nat) (up over : Bool) : T := .nd "h" (rHead way many over :: turned up (rightsP way many))

inductive Out where
  | stuck | refused | none | told (tab : Tab)
noncomputable def runW (n : Nat) (tab : Tab) : Out :=
  if tab.small && decide (tab.length < 64) then
    (match turnP tab n ((sortS (tab.map (·.1))).map fun s => (s, false)).reverse [] with
    | .none => .stuck
    | .some out => if out.length ≤ 1000 then (match workP tab out ⟨[], [], []⟩ with
      | .none => .stuck
      | .some .none => .refused
      | .some (.some st) => .told st.found) else .stuck)
  else .stuck
noncomputable def runU (n : Nat) (one other : T) : Out :=
  match begunP n ⟨[], [(one, other)], []⟩ with
  | .none => .stuck
  | .some .none => .none
  | .some (.some tab) => runW n tab
noncomputable def isFull (leaf : T) : Nat → T → Bool
  | 0, t => decide (t = leaf)
  | k + 1, .nd f l => decide (f = "f") && (match l with | [u, v] => isFull leaf k u && isFull leaf k v | _ => false)
noncomputable def laidTo (leaf : T) : Nat → T
  | 0 => leaf
  | k + 1 => .nd "f" [laidTo leaf k, laidTo leaf k]
noncomputable def rowFull (told : Tab) (letter : Str) (many : Nat) (leaf : T) : Bool :=
  (List.range many).all fun j => match lookT told (nameS letter (j + 1)) with
    | .none => false
    | .some t => if j < 4 then decide (t = laidTo leaf (j + 1)) else isFull leaf (j + 1) t
noncomputable def jointOf (told : Tab) : List Str := (["?x0", "?y0"] : List Str).filter fun s => (lookT told s).isSome
noncomputable def toldOk (way many : Nat) (told : Tab) : Bool :=
  let joint := jointOf told
  let leaf : T := if way = 2 ∧ joint = (["?x0"] : List Str) then vT "?y0" else vT "?x0"
  let names := namesP way many ++ (if way = 5 then (["?t"] : List Str) else if way = 2 then joint else [])
  decide (told.length < 64) && ((told.map (·.1)).all fun s => AV.flat (.str s)) && decide (sortS (told.map (·.1)) = sortS names) && rowFull told "x" many leaf &&
    (if way = 2 then decide (joint.length = 1) && decide (joint.map (lookT told) = [some leaf]) && rowFull told "y" many leaf
    else if way = 5 then (match lookT told "?t" with
      | some (.nd f l) => decide (f = "f") && decide (l.length = 7) && ((l.zip tops).all fun p => isFull leaf p.2 p.1)
      | .none => false)
    else true)
noncomputable def checkC (way many : Nat) (up over ord : Bool) : Bool :=
  let one := oneP way many up
  let other := otherP way many up over
  one.fair && other.fair && (match runU 400 (if ord then one else other) (if ord then other else one) with
    | .stuck => false
    | .refused => (decide (12 < many) || over) && !(decide (way = 3) || decide (way = 4))
    | .none => decide (way = 3) || decide (way = 4)
    | .told told => !(decide (12 < many) || over) && !(decide (way = 3) || decide (way = 4)) && toldOk way many told)
end Mine
end
section
open PySem PySem.W PyProof.Rows
set_option linter.unusedVariables false
set_option linter.unusedSimpArgs false
set_option maxRecDepth 100000
namespace Mine
noncomputable def is34 (way : Nat) : Bool := decide (way = 3) || decide (way = 4)
theorem ltS {n k : Nat} (h : n < k + 1) : n < k ∨ n = k := Nat.lt_succ_iff_lt_or_eq.mp h
theorem lt6 {way : Nat} (h : way < 6) : way = 0 ∨ way = 1 ∨ way = 2 ∨ way = 3 ∨ way = 4 ∨ way = 5 :=
  (ltS h).elim (fun h => (ltS h).elim (fun h => (ltS h).elim (fun h => (ltS h).elim (fun h => (ltS h).elim (fun h => .inl (Nat.lt_one_iff.mp h)) (fun e => .inr (.inl e))) (fun e => .inr (.inr (.inl e)))) (fun e => .inr (.inr (.inr (.inl e))))) (fun e => .inr (.inr (.inr (.inr (.inl e)))))) (fun e => .inr (.inr (.inr (.inr (.inr e)))))
theorem isFull_leads (ways : Int) (leaf : T) : ∀ (k i : Nat) (t : T), isFull leaf k t = true → leadsP ways leaf k i t = true
  | 0, i, t, h => by rw [isFull] at h; rw [leadsP]; exact h
  | k + 1, i, .nd f l, h => by
    match l, h with
    | [], h => simp [isFull] at h
    | [_], h => simp [isFull] at h
    | _ :: _ :: _ :: _, h => simp [isFull] at h
    | [u, v], h =>
      simp only [isFull, Bool.and_eq_true, decide_eq_true_eq] at h
      obtain ⟨h1, h2⟩ := h
      rw [leadsP, if_pos ⟨rfl, h1⟩]
      have hw := wayBit_le ways i
      have : wayBit ways i = 0 ∨ wayBit ways i = 1 := by lia
      rcases this with e | e
      · rw [e]; exact isFull_leads ways leaf k (i + 1) u h2.1
      · rw [e]; exact isFull_leads ways leaf k (i + 1) v h2.2
theorem laidTo_full (leaf : T) : ∀ k, isFull leaf k (laidTo leaf k) = true
  | 0 => by rw [isFull, laidTo]; simp
  | k + 1 => by
    simp [laidTo, isFull, laidTo_full leaf k]

theorem rowFull_at {told : Tab} {letter : Str} {many : Nat} {leaf : T} (h : rowFull told letter many leaf = true) {j : Nat} (hj : j < many) : ∃ t, lookT told (nameS letter (j + 1)) = some t ∧ isFull leaf (j + 1) t = true ∧ (j < 4 → t = laidTo leaf (j + 1)) := by
  have := List.all_eq_true.mp h j (List.mem_range.mpr hj)
  revert this
  cases e : lookT told (nameS letter (j + 1)) with
  | none => intro h; cases h
  | some t =>
    intro h
    refine ⟨t, rfl, ?_⟩
    dsimp only at h
    split at h
    · rename_i h4
      have := of_decide_eq_true h
      exact ⟨by rw [this]; exact laidTo_full leaf _, fun _ => this⟩
    · rename_i h4
      exact ⟨h, fun q => absurd q h4⟩

theorem pred_succ {k : Nat} (h : 1 ≤ k) : k - 1 + 1 = k := by lia
theorem pred_lt {k j many : Nat} (h1 : 1 ≤ k) (h2 : k + (j + 1) = many + 1) : k - 1 < many := by lia
theorem min_lo {k : Nat} (h : k < 5) (h1 : 1 ≤ k) : min (k - 1) 4 = k - 1 ∧ min (k + 1 - 1) 4 = (k - 1) + 1 ∧ min (k + 1 - 1) 4 = k ∧ k - 1 < 4 :=
  have h4 : k ≤ 4 := Nat.le_of_lt_succ h
  ⟨Nat.min_eq_left (Nat.le_trans (Nat.sub_le _ _) h4), (Nat.min_eq_left h4).trans (Nat.sub_add_cancel h1).symm, Nat.min_eq_left h4, Nat.lt_of_lt_of_le (Nat.sub_lt h1 Nat.one_pos) h4⟩
theorem min_hi {k : Nat} (h : ¬ k < 5) : min (k - 1) 4 = 4 ∧ min (k + 1 - 1) 4 = 4 :=
  have h5 : 5 ≤ k := Nat.le_of_not_lt h
  ⟨Nat.min_eq_right (Nat.le_sub_of_add_le h5), Nat.min_eq_right (Nat.le_trans (by decide) h5)⟩
theorem next_row {k j many : Nat} (h2 : k + (j + 1) = many + 1) : k + 1 + j = many + 1 := by lia
theorem laid_next {k : Nat} {leaf : T} (h1 : 1 ≤ k) : laidP k (laidTo leaf (min (k - 1) 4)) = laidTo leaf (min (k + 1 - 1) 4) := by
  unfold laidP
  by_cases h5 : k < 5
  · obtain ⟨e1, e2, _⟩ := min_lo h5 h1
    rw [if_pos h5, e1, e2, laidTo]
  · obtain ⟨e1, e2⟩ := min_hi h5
    rw [if_neg h5, e1, e2]
theorem laid_same {k : Nat} {leaf t : T} (h1 : 1 ≤ k) (q : k - 1 < 4 → t = laidTo leaf k) : (!true || decide (k < 5) && !decide (t = laidP k (laidTo leaf (min (k - 1) 4)))) = false := by
  by_cases h5 : k < 5
  · obtain ⟨_, _, e3, h4⟩ := min_lo h5 h1
    have : t = laidP k (laidTo leaf (min (k - 1) 4)) := by rw [q h4, laid_next h1, e3]
    rw [← this]; simp
  · simp [h5]
theorem rowFull_rowP {told : Tab} {letter : Str} {many : Nat} {leaf : T} (h : rowFull told letter many leaf = true) (ways : Int) : ∀ (j k : Nat), 1 ≤ k → k + j = many + 1 → rowP told letter ways leaf j k (laidTo leaf (min (k - 1) 4)) = some true
  | 0, k, _, _ => by rw [rowP]
  | j + 1, k, h1, h2 => by
    obtain ⟨t, e, f, q⟩ := rowFull_at h (pred_lt h1 h2)
    rw [pred_succ h1] at e f q
    rw [rowP, e]
    dsimp only
    rw [isFull_leads ways leaf k 0 t f, laid_same h1 q]
    simp only [Bool.false_eq_true, if_false]
    rw [laid_next h1]
    exact rowFull_rowP h ways j (k + 1) (Nat.le_add_left 1 k) (next_row h2)

theorem rowFull_all {told : Tab} {letter : Str} {many : Nat} {leaf : T} (h : rowFull told letter many leaf = true) (hm : 1 ≤ many) (ways : Int) : rowAll told letter many ways leaf = some true := by
  unfold rowAll
  have := rowFull_rowP h ways many 1 (by lia) (by lia)
  have e : laidTo leaf (min (1 - 1) 4) = leaf := rfl
  rw [e] at this
  rw [this]
  obtain ⟨t, e, f, _⟩ := rowFull_at h (j := many - 1) (by lia)
  have ek : many - 1 + 1 = many := by lia
  rw [ek] at e f
  dsimp only
  rw [e]
  simp only [Option.map_some]
  rw [isFull_leads 0 leaf many 0 t f]

-- what worked_out makes is of good terms
mutual
theorem fillT_ok {found : Tab} (hf : found.ok = true) : ∀ t : T, t.ok = true → (fillT found t).ok = true
  | .nd f l, h => by
    rw [fillT]
    split
    · cases e : lookT found f with
      | none => exact h
      | some u => exact lookT_ok hf e
    · rw [T.ok] at h ⊢
      simp only [Bool.and_eq_true] at h ⊢
      refine ⟨⟨h.1.1, ?_⟩, fillL_ok hf l h.2⟩
      rw [fillL_len]; exact h.1.2
theorem fillL_ok {found : Tab} (hf : found.ok = true) : ∀ l : List T, T.ok.oks l = true → T.ok.oks (fillL found l) = true
  | [], h => by rw [fillL]; exact h
  | x :: r, h => by
    rw [T.ok.oks, Bool.and_eq_true] at h
    rw [fillL, T.ok.oks, fillT_ok hf x h.1, fillL_ok hf r h.2]; rfl
theorem fillL_len {found : Tab} : ∀ l : List T, (fillL found l).length = l.length
  | [] => by rw [fillL]
  | x :: r => by rw [fillL, List.length_cons, List.length_cons, fillL_len r]
end
theorem putT_ok {kvs : Tab} {k : Str} {t : T} (h : kvs.ok = true) (ht : t.ok = true) : (putT kvs k t).ok = true := by
  refine List.all_eq_true.mpr fun p hp => ?_
  unfold putT at hp
  split at hp
  · obtain ⟨q, hq, rfl⟩ := List.mem_map.mp hp
    split
    · exact ht
    · exact List.all_eq_true.mp h q hq
  · rcases List.mem_append.mp hp with hp | hp
    · exact List.all_eq_true.mp h p hp
    · rw [List.mem_singleton.mp hp]; exact ht
theorem workP_ok {tab : Tab} (ht : tab.ok = true) : ∀ (out : List Str) (st st' : WSt), st.found.ok = true → workP tab out st = some (some st') → st'.found.ok = true
  | [], st, st', h, e => by rw [workP] at e; cases e; exact h
  | nm :: r, st, st', h, e => by
    rw [workP] at e
    cases e1 : lookT tab nm with
    | none => rw [e1] at e; cases e
    | some t =>
      rw [e1] at e
      dsimp only at e
      split at e
      · split at e
        · cases e
        · exact workP_ok ht r _ st' (putT_ok h (fillT_ok h t (lookT_ok ht e1))) e
      · cases e
theorem small_ok {tab : Tab} (h : tab.small = true) : tab.ok = true := List.all_eq_true.mpr fun p hp => (T.small_iff.mp (List.all_eq_true.mp h p hp)).1
end Mine
end
section
open PySem PySem.W PyProof.Rows
set_option maxRecDepth 1000000
namespace Mine
theorem k0 : ((List.range 36).all fun m => checkC 0 (m + 1) false false true && checkC 0 (m + 1) false false false) = true := by decide +kernel
theorem k1 : ((List.range 14).all fun m => checkC 0 (m + 1) true false true && checkC 0 (m + 1) true false false) = true := by decide +kernel
theorem k2 : ((List.range 16).all fun m => checkC 2 (m + 1) false false true && checkC 2 (m + 1) false false false) = true := by decide +kernel
theorem k3 : ((List.range 8).all fun m => checkC 2 (m + 1) true false true && checkC 2 (m + 1) true false false) = true := by decide +kernel
theorem k4 : ((List.range 36).all fun m => checkC 3 (m + 1) false false true && checkC 3 (m + 1) false false false) = true := by decide +kernel
theorem k5 : ((List.range 14).all fun m => checkC 3 (m + 1) true false true && checkC 3 (m + 1) true false false) = true := by decide +kernel
theorem k6 : ((List.range 24).all fun m => checkC 4 (m + 1) false false true && checkC 4 (m + 1) false false false) = true := by decide +kernel
theorem k7 : ((List.range 14).all fun m => checkC 4 (m + 1) true false true && checkC 4 (m + 1) true false false) = true := by decide +kernel
theorem k8 : (([true, false] : List Bool).all fun u => ([true, false] : List Bool).all fun o => ([true, false] : List Bool).all fun v => checkC 5 12 u v o) = true := by decide +kernel
end Mine
end
section
open PySem PySem.W PyProof.Rows
set_option linter.unusedVariables false
set_option linter.unusedSimpArgs false
set_option maxRecDepth 100000
namespace Mine
noncomputable abbrev lawE (L fa : Addr) (cd : Value) : Env := envOfC "law" (df 22).scope L fa cd
noncomputable def lawBody : List Stmt := (df 22).body
noncomputable def cellsP (ns : List Int) : List Int := (ns.take 30).map fun x => x.fmod 1000003
noncomputable def selL : List Int := [36, 36, 16, 36, 24]
section
variable {G : Glo} (X : Fns G)
include X
variable {L fa : Addr} {cd : Value} {a : Addr} {vs : List Value} {ns : List Int}

theorem law_reel (hL : G.h₀.IsList a vs.toArray) (hI : IntsAre vs ns) (hn : ns.length ≤ 63) :
    SJ G (lawE L fa cd) 12 [("script", .opq a)] [] (execs (lawBody.take 1) (lawE L fa cd)) .next [("script", .opq a), ("reel", .ref 0)] [reelO 1 0, AObj.list ((cellsP ns).map .int)] := by
  refine SJ.last ?_
  refine SJ.assign (v := .ref 0) ?_
  refine EJ.dict2 (σ := []) (σ₁ := [AObj.sdict [], AObj.list ((cellsP ns).map .int)]) (σ₂ := [AObj.sdict [], AObj.list ((cellsP ns).map .int)]) (v1 := .ref 1) (v2 := .int 0) ?_ EJ.cInt rfl (by decide)
  · refine EJ.st (EJ.comp (bs := ns.take 30) (p := fun _ => true) (F := fun x => .int (x.fmod 1000003)) (Γc := []) (cl := []) (ItJ.list (EJ.uptoBase (σ₁ := [AObj.sdict []]) (b := 30) hL hI (by lia) EJ.var EJ.cInt) ?_) ?_ (Turns.nameOf AV.int) ?_ ?_ ?_ ?_) ?_
    · rw [AV.lts_iff]; intro x hx
      obtain ⟨i, _, rfl⟩ := List.mem_map.mp hx
      rfl
    · refine CompOk.of rfl rfl rfl rfl ?_ rfl ?_
      · intro p hp; cases hp
      · intro p hp; cases hp
    · intro b p hp; cases hp
    · intro b hb C; exact TsJ.nil
    · intro b hb _ C; exact EJ.binop (EJ.callT X.T.ok X.m rfl (EsJ.cons EJ.var EsJ.nil) OJ.intI) EJ.cInt (O2.modI (by decide))
    · simp; lia
    · rw [filter_tt]; simp only [cellsP, List.map_map]; rfl

theorem law_way {cells : List Int} (hl : cells.length ≤ 100) {way : Nat} (hway : clipP cells 0 6 = (way : Int)) :
    SJ G (lawE L fa cd) 12 [("script", .opq a), ("reel", .ref 0)] [reelO 1 0, AObj.list (cells.map .int)] (execs ((lawBody.drop 1).take 1) (lawE L fa cd)) .next [("script", .opq a), ("reel", .ref 0), ("way", .int way)] [reelO 1 1, AObj.list (cells.map .int)] := by
  exact SJ.last (SJ.assign (v := .int way) (EJ.st (EJ.is (EJ.callF X.clip.F X.T.ok (EsJ.cons EJ.var (EsJ.cons EJ.cInt EsJ.nil)) ((c_clip X (c := 1) (a := 0) rfl rfl hl (by lia) (by decide)).mono (by lia))) (by rw [hway])) rfl))

set_option maxHeartbeats 1000000 in
theorem law_many {cells : List Int} (hl : cells.length ≤ 100) {way m1 a1 : Nat} (hw : way < 6) (hm : (way = 5 ∧ m1 = 12 ∧ a1 = 1) ∨ (way < 5 ∧ a1 = 2 ∧ ∃ sel : Int, sel ≠ 0 ∧ selL[way]? = some sel ∧ (m1 : Int) = 1 + clipP cells 1 sel)) :
    SJ G (lawE L fa cd) 12 [("script", .opq a), ("reel", .ref 0), ("way", .int way)] [reelO 1 1, AObj.list (cells.map .int)] (execs ((lawBody.drop 2).take 1) (lawE L fa cd)) .next [("script", .opq a), ("reel", .ref 0), ("way", .int way), ("many", .int m1)] [reelO 1 a1, AObj.list (cells.map .int)] := by
  rcases hm with ⟨rfl, rfl, rfl⟩ | ⟨h5, rfl, sel, h0, hs, hm⟩
  · exact SJ.last (SJ.assign (v := .int 12) (EJ.ifT (TJ.is (TJ.cmp EJ.var EJ.cInt (O2.eq rfl rfl)) (by decide)) EJ.cInt))
  · refine SJ.last (SJ.assign (v := .int m1) (EJ.is (EJ.ifF (TJ.is (TJ.cmp (x := .int way) (y := .int 5) EJ.var EJ.cInt (O2.eq rfl rfl)) ?_) (EJ.binop EJ.cInt (EJ.st (EJ.callF X.clip.F X.T.ok (EsJ.cons EJ.var (EsJ.cons (EJ.sub (EJ.mkTuple (vs := [.int 36, .int 36, .int 16, .int 36, .int 24]) (EsJ.cons EJ.cInt (EsJ.cons EJ.cInt (EsJ.cons EJ.cInt (EsJ.cons EJ.cInt (EsJ.cons EJ.cInt EsJ.nil)))))) EJ.var (Sub.tup (j := way) (v := .int sel) ?_ ?_ ?_ ?_)) EsJ.nil)) ((c_clip X (c := 1) (a := 1) rfl rfl hl (by lia) h0).mono (by lia))) rfl) O2.addI)) (by rw [hm])))
    · have : way ≠ 5 := by lia
      simp; lia
    · show (selL.map AV.int)[way]? = _
      rw [List.getElem?_map, hs]; rfl
    · simp [seqIndex?]; lia
    · lia
    · lia
theorem law_up {cells : List Int} (hl : cells.length ≤ 100) {way m1 a1 : Nat} {up : Bool} (ha : a1 ≤ 100) (hup : up = decide (clipP cells a1 3 = 0)) :
    SJ G (lawE L fa cd) 12 [("script", .opq a), ("reel", .ref 0), ("way", .int way), ("many", .int m1)] [reelO 1 a1, AObj.list (cells.map .int)] (execs ((lawBody.drop 3).take 1) (lawE L fa cd)) .next [("script", .opq a), ("reel", .ref 0), ("way", .int way), ("many", .int m1), ("is_up", .bool up)] [reelO 1 (a1 + 1), AObj.list (cells.map .int)] := by
  refine SJ.last (SJ.assign (v := .bool up) (EJ.is (EJ.cmp (x := .int (clipP cells a1 3)) (y := .int 0) (EJ.st (EJ.callF X.clip.F X.T.ok (EsJ.cons EJ.var (EsJ.cons EJ.cInt EsJ.nil)) ((c_clip X (c := 1) (a := a1) rfl rfl hl (by lia) (by decide)).mono (by lia))) rfl) EJ.cInt (O2.eq (x := .int (clipP cells a1 3)) (y := .int 0) rfl rfl)) ?_))
  rw [hup]; simp
theorem law_min {σ : List AObj} {way m1 many : Nat} {up : Bool} (hmany : many = if up then min m1 (if way = 2 then 8 else 14) else m1) :
    SJ G (lawE L fa cd) 12 [("script", .opq a), ("reel", .ref 0), ("way", .int way), ("many", .int m1), ("is_up", .bool up)] σ (execs ((lawBody.drop 4).take 1) (lawE L fa cd)) .next [("script", .opq a), ("reel", .ref 0), ("way", .int way), ("many", .int many), ("is_up", .bool up)] σ := by
  refine SJ.last (SJ.assign (v := .int many) (EJ.is (EJ.ite (c := up) (TJ.val EJ.var B1.bool) (fun _ => EJ.callB X.T.ok X.m rfl (EsJ.cons EJ.var (EsJ.cons (EJ.is (EJ.ite (c := decide (way = 2)) (TJ.is (TJ.cmp EJ.var EJ.cInt (O2.eq rfl rfl)) ?_) (fun _ => EJ.cInt) (fun _ => EJ.cInt)) (c := .int (if way = 2 then 8 else 14)) ?_) EsJ.nil)) OJ.minI) (fun _ => EJ.var)) ?_))
  · simp; lia
  · by_cases h : way = 2 <;> simp [h]
  · rw [hmany]
    cases up with
    | false => rfl
    | true =>
      simp only [if_true]
      congr 1
      by_cases h : way = 2
      · simp only [h, if_true]; split <;> lia
      · simp only [h, if_false]; split <;> lia
end
end Mine
end
section
open PySem PySem.W PyProof.Rows
set_option linter.unusedVariables false
set_option linter.unusedSimpArgs false
set_option maxRecDepth 100000
namespace Mine
noncomputable def lawFor : Stmt := lawBody.getD 6 (.Pass ⟨0, 0, 0, 0⟩)
noncomputable def lawIn : List Stmt := (pickS lawFor).2
noncomputable def lawIn2 : List Stmt := inB lawIn 0
noncomputable def rowsO (k : Nat) (cells : List Int) (N : List Str) (A B : List T) (J : List AV) : List AObj := [reelO 1 k, AObj.list (cells.map .int), AObj.list (N.map .str), AObj.list (A.map T.av), AObj.list (B.map T.av), AObj.list J]
noncomputable def gRow (a : Addr) (way many : Nat) (up : Bool) (l : Str) : List (Str × AV) := [("script", .opq a), ("reel", .ref 0), ("way", .int way), ("many", .int many), ("is_up", .bool up), ("rights", .ref 4), ("lefts", .ref 3), ("names", .ref 2), ("letter", .str l)]
theorem O2.subJ {G : Glo} {d : Nat} {σ : List AObj} {a b : Int} : O2 G d σ (.int a) (.int b) (binaryOp .Sub) (.int (a - b)) σ := O2.subI fun _ _ _ _ _ _ h => PyProof.Rows.sub_int h
section
variable {G : Glo} (X : Fns G)
include X
variable {L fa : Addr} {cd : Value} {a : Addr}
omit X in
theorem vT_av (s : Str) : (vT s).av = .tup [.str s] := by rw [vT, T.av_nd]; rfl

theorem row_turn {k : Nat} {cells : List Int} {N : List Str} {A B : List T} {J : List AV} {way many : Nat} {up : Bool} {l : Str} (hl : l.length ≤ 10) {i : Nat} (hi : i < 100) (hN : N.length ≤ 1000) (hA : A.length ≤ 1000) (hB : B.length ≤ 1000) :
    SJ G (lawE L fa cd) 12 (upd (gRow a way many up l) "k" (.int (1 + (i : Int)))) (rowsO k cells N A B J) (execs lawIn2 (lawE L fa cd)) .next (gRow a way many up l) (rowsO k cells (N ++ [nameS l (i + 1)]) (A ++ [vT (nameS l (i + 1))]) (B ++ [.nd "f" [vT (nameS l i), vT (nameS l i)]]) J) := by
  have l1 : (("?" : Str)).length = 1 := by decide +kernel
  have l2 : ((("?" : Str)) ++ l).length ≤ 11 := by
    rw [str_append_length]; lia
  have l3 := toStr_len i (by lia)
  have l4 := toStr_len (i + 1) (by lia)
  have e1 : (1 + (i : Int)) - 1 = ((i : Nat) : Int) := by lia
  have e2 : 1 + (i : Int) = ((i + 1 : Nat) : Int) := by lia
  rw [e2]
  have e1 : ((i + 1 : Nat) : Int) - 1 = ((i : Nat) : Int) := by lia
  refine SJ.weaken (Γ₁ := upd (upd (gRow a way many up l) "k" (.int ((i + 1 : Nat) : Int))) "low" (vT (nameS l i)).av) ?_ ?_
  · refine SJ.cons (SJ.assign (v := (vT (nameS l i)).av) (EJ.is (EJ.mkTuple (vs := [.str (nameS l i)]) (EsJ.cons (EJ.binop (EJ.binop EJ.cStr EJ.var (O2.addS (by lia))) (EJ.callT X.T.ok X.m rfl (EsJ.cons (EJ.is (EJ.binop EJ.var EJ.cInt O2.subJ) (congrArg AV.int e1)) EsJ.nil) (OJ.strI (toStr_log i (by lia)))) (O2.addS (by lia))) EsJ.nil)) (vT_av _).symm)) ?_
    refine SJ.cons (SJ.st (SJ.expr (EJ.append (l := N.map .str) (v := .str (nameS l (i + 1))) (i := 2) EJ.var ⟨_, rfl⟩ (EJ.binop (EJ.binop EJ.cStr EJ.var (O2.addS (by lia))) (EJ.callT X.T.ok X.m rfl (EsJ.cons EJ.var EsJ.nil) (OJ.strI (toStr_log (i + 1) (by lia)))) (O2.addS (by lia))) rfl (by simp; lia))) (σ₂ := rowsO k cells (N ++ [nameS l (i + 1)]) A B J) ?_) ?_
    · simp [rowsO]
    refine SJ.cons (SJ.st (SJ.expr (EJ.append (l := A.map T.av) (v := (vT (nameS l (i + 1))).av) (i := 3) EJ.var ⟨_, rfl⟩ (EJ.is (EJ.mkTuple (vs := [.str (nameS l (i + 1))]) (EsJ.cons (EJ.sub EJ.var (EJ.negI EJ.cInt) (Sub.listNeg (l := (N ++ [nameS l (i + 1)]).map .str) rfl ?_ (by decide) ?_)) EsJ.nil)) (vT_av _).symm) rfl (by simp; lia))) (σ₂ := rowsO k cells (N ++ [nameS l (i + 1)]) (A ++ [vT (nameS l (i + 1))]) B J) ?_) ?_
    · have : (-1 + ((N.length : Int) + 1)).toNat = N.length := by lia
      simp [this]
    · simp; lia
    · simp [rowsO]
    refine SJ.last (SJ.st (SJ.expr (EJ.append (l := B.map T.av) (v := (T.nd "f" [vT (nameS l i), vT (nameS l i)]).av) (i := 4) EJ.var ⟨_, rfl⟩ (EJ.is (EJ.mkTuple (vs := [.str "f", (vT (nameS l i)).av, (vT (nameS l i)).av]) (EsJ.cons EJ.cStr (EsJ.cons EJ.var (EsJ.cons EJ.var EsJ.nil)))) ?_) rfl (by simp; lia))) ?_)
    · rw [T.av_nd]; rfl
    · simp [rowsO]
  · simp only [gRow, List.forall_mem_cons]
    exact ⟨rfl, rfl, rfl, rfl, rfl, rfl, rfl, rfl, rfl, fun p hp => by cases hp⟩

theorem row_turns {k : Nat} {cells : List Int} {J : List AV} {way many : Nat} {up : Bool} {l : Str} (hl : l.length ≤ 10) : ∀ (j i : Nat) (N : List Str) (A B : List T), i + j ≤ 100 → N.length + j ≤ 1000 → A.length + j ≤ 1000 → B.length + j ≤ 1000 →
    FR G (lawE L fa cd) 12 lawIn2 (fun b Γ => upd Γ "k" b) ((List.range' i j).map fun (i : Nat) => AV.int (1 + (i : Int))) (gRow a way many up l) (rowsO k cells N A B J) .next (gRow a way many up l)
      (rowsO k cells (N ++ (List.range' i j).map fun i => nameS l (i + 1)) (A ++ (List.range' i j).map fun i => vT (nameS l (i + 1))) (B ++ (List.range' i j).map fun i => .nd "f" [vT (nameS l i), vT (nameS l i)]) J)
  | 0, i, N, A, B, _, _, _, _ => by
    simp only [List.range'_zero, List.map_nil, List.append_nil]
    exact .nil
  | j + 1, i, N, A, B, h1, h2, h3, h4 => by
    rw [List.range'_succ]
    simp only [List.map_cons]
    refine .step (row_turn X hl (by lia) (by lia) (by lia) (by lia)) (.inl rfl) ?_
    have := row_turns (k := k) (cells := cells) (J := J) (way := way) (many := many) (up := up) hl j (i + 1) (N ++ [nameS l (i + 1)]) (A ++ [vT (nameS l (i + 1))]) (B ++ [.nd "f" [vT (nameS l i), vT (nameS l i)]]) (by lia) (by simp; lia) (by simp; lia) (by simp; lia)
    simp only [List.append_assoc, List.singleton_append] at this
    exact this

omit X in
theorem rowL_eq (l : Str) (many : Nat) : rowL l many = (List.range' 0 many).map fun i => vT (nameS l (i + 1)) := by rw [rowL, List.range_eq_range']
omit X in
theorem rowN_eq (l : Str) (many : Nat) : rowN l many = (List.range' 0 many).map fun i => nameS l (i + 1) := by rw [rowN, List.range_eq_range']
omit X in
theorem rowR_eq (l : Str) (many : Nat) : rowR l many = (List.range' 0 many).map fun i => .nd "f" [vT (nameS l i), vT (nameS l i)] := by rw [rowR, List.range_eq_range']

noncomputable def gBase (a : Addr) (way many : Nat) (up : Bool) : List (Str × AV) := [("script", .opq a), ("reel", .ref 0), ("way", .int way), ("many", .int many), ("is_up", .bool up), ("rights", .ref 4), ("lefts", .ref 3), ("names", .ref 2)]
theorem row_one {k : Nat} {cells : List Int} {J : List AV} {way many : Nat} {up : Bool} {l : Str} (hl : l.length ≤ 10) (hm : many ≤ 90) {N : List Str} {A B : List T} (h2 : N.length ≤ 500) (h3 : A.length ≤ 500) (h4 : B.length ≤ 500) :
    SJ G (lawE L fa cd) 12 (gRow a way many up l) (rowsO k cells N A B J) (execs lawIn (lawE L fa cd)) .next (gBase a way many up) (rowsO k cells (N ++ rowN l many) (A ++ rowL l many) (B ++ rowR l many) J) := by
  refine SJ.weaken (Γ₁ := gRow a way many up l) ?_ ?_
  · refine SJ.last (SJ.for (ItJ.name (ItJ.range2 (a := 1) (b := many + 1) (n := many) X.T.ok X.m (EsJ.cons EJ.cInt (EsJ.cons (EJ.binop EJ.var EJ.cInt O2.addI) EsJ.nil)) (by lia) (by lia) (by lia))) ?_)
    rw [List.range_eq_range', rowN_eq, rowL_eq, rowR_eq]
    exact row_turns X hl many 0 N A B (by lia) (by lia) (by lia) (by lia)
  · simp only [gBase, List.forall_mem_cons]
    exact ⟨rfl, rfl, rfl, rfl, rfl, rfl, rfl, rfl, fun p hp => by cases hp⟩

theorem lets_turns {k : Nat} {cells : List Int} {J : List AV} {way many : Nat} {up : Bool} (hm : many ≤ 90) : ∀ (ls : List Str) (N : List Str) (A B : List T), (∀ l ∈ ls, l.length ≤ 10) → N.length + 90 * ls.length ≤ 500 → A.length + 90 * ls.length ≤ 500 → B.length + 90 * ls.length ≤ 500 →
    FR G (lawE L fa cd) 12 lawIn (fun b Γ => upd Γ "letter" b) (ls.map AV.str) (gBase a way many up) (rowsO k cells N A B J) .next (gBase a way many up)
      (rowsO k cells (N ++ ls.flatMap fun l => rowN l many) (A ++ ls.flatMap fun l => rowL l many) (B ++ ls.flatMap fun l => rowR l many) J)
  | [], N, A, B, _, _, _, _ => by
    simp only [List.flatMap_nil, List.map_nil, List.append_nil]
    exact .nil
  | l :: ls, N, A, B, h1, h2, h3, h4 => by
    simp only [List.flatMap_cons, List.map_cons]
    have n1 : (rowN l many).length = many := by simp [rowN]
    have n2 : (rowL l many).length = many := by simp [rowL]
    have n3 : (rowR l many).length = many := by simp [rowR]
    simp only [List.length_cons] at h2 h3 h4
    refine .step (row_one X (h1 l (.head _)) hm (by lia) (by lia) (by lia)) (.inl rfl) ?_
    have := lets_turns (k := k) (cells := cells) (J := J) (way := way) (up := up) hm ls (N ++ rowN l many) (A ++ rowL l many) (B ++ rowR l many) (fun l h => h1 l (.tail _ h)) (by simp [n1]; lia) (by simp [n2]; lia) (by simp [n3]; lia)
    simp only [List.append_assoc] at this
    exact this

theorem law_rows {cells : List Int} {k way many : Nat} {up : Bool} (hm : many ≤ 90) :
    SJ G (lawE L fa cd) 12 [("script", .opq a), ("reel", .ref 0), ("way", .int way), ("many", .int many), ("is_up", .bool up)] [reelO 1 k, AObj.list (cells.map .int)] (execs ((lawBody.drop 5).take 2) (lawE L fa cd)) .next (gBase a way many up) (rowsO k cells (namesP way many) (leftsP way many) (rightsP way many) [.str "x", .str "y"]) := by
  refine SJ.cons (SJ.swap3 (u := .ref 2) (v := .ref 3) (w := .ref 4) (σ₁ := [reelO 1 k, AObj.list (cells.map .int), AObj.list [], AObj.list [], AObj.list []]) ?_) ?_
  · exact EJ.mkTuple (EsJ.cons (EJ.mkList EsJ.nil) (EsJ.cons (EJ.mkList EsJ.nil) (EsJ.cons (EJ.mkList EsJ.nil) EsJ.nil)))
  · refine SJ.last (SJ.for (σ₁ := rowsO k cells [] [] [] [.str "x", .str "y"]) (items := (letsOf way).map AV.str) (bind := fun b Γ => upd Γ "letter" b) (ItJ.name (ItJ.list (EJ.st (EJ.is (EJ.upto (i := 5) (l := [.str "x", .str "y"]) (b := 1 + (if way = 2 then 1 else 0)) (EJ.mkList (EsJ.cons EJ.cStr (EsJ.cons EJ.cStr EsJ.nil))) ⟨_, rfl⟩ (EJ.is (EJ.binop EJ.cInt (EJ.callT X.T.ok X.m rfl (EsJ.cons (EJ.is (EJ.cmp (x := .int way) (y := .int 2) EJ.var EJ.cInt (O2.eq (x := .int way) (y := .int 2) rfl rfl)) (c := .bool (decide (way = 2))) ?_) EsJ.nil) OJ.intB) O2.addI) ?_) rfl (by decide)) rfl) ?_) ?_ ?_ ?_)) ?_)
    · simp; lia
    · by_cases h : way = 2 <;> simp [h]
    · by_cases h : way = 2 <;> simp [h, rowsO, letsOf]
    · by_cases h : way = 2 <;> simp [h, letsOf, AV.lts_nil, AV.lts_cons, AV.lt_none, AV.lt_bool, AV.lt_int, AV.lt_str, AV.lt_tup, AV.lt_ref]
    · intro h o ho
      have hcl : AV.lts 6 (cells.map AV.int) = true := by
        rw [AV.lts_iff]; intro x hx
        obtain ⟨i, _, rfl⟩ := List.mem_map.mp hx
        rfl
      simp only [rowsO, List.mem_cons, List.not_mem_nil, or_false] at ho
      rcases ho with rfl | rfl | rfl | rfl | rfl | rfl
      · rfl
      · exact hcl
      · rfl
      · rfl
      · rfl
      · rfl
    · simp [rowsO]
    · have := lets_turns (k := k) (cells := cells) (J := [.str "x", .str "y"]) (way := way) (up := up) (a := a) (L := L) (fa := fa) (cd := cd) X hm (letsOf way) [] [] [] ?_ ?_ ?_ ?_
      · exact this
      · intro l hl
        by_cases h : way = 2
        · simp [letsOf, h] at hl; rcases hl with rfl | rfl <;> decide +kernel
        · simp [letsOf, h] at hl; rw [hl]; decide +kernel
      all_goals (by_cases h : way = 2 <;> simp [letsOf, h])
end
end Mine
end
section
open PySem PySem.W PyProof.Rows
set_option linter.unusedVariables false
set_option linter.unusedSimpArgs false
set_option maxRecDepth 100000
namespace Mine
section
variable {G : Glo} {env : Env} {d : Nat} {Γ Γ' Γ₁ Γ₂ : List (Str × AV)} {σ σ' σ₁ σ₂ σ₃ σ₄ : List AObj} {ρ ρ' ρ₁ ρ₂ ρ₃ : List Addr} {s s' s₁ : Shared} {h h' h₁ h₂ h₃ : Heap}
theorem wpAny_assign_Sub {M : Model} {A : Around} {E : Value → Shared → Prop} {o i : Expr} {pos : Pos} {v : Value} {Q : Unit → Shared → Prop}
    (h : wpAny M A (eval o env) (fun ov s₂ => wpAny M A (eval i env) (fun iv s₃ => wpAny M A (setItem ov iv v) Q E s₃) E s₂) E s) : wpAny M A (assign (.Subscript o i pos) env v) Q E s := by
  rw [assign_Subscript]
  refine wpAny_bind (wpAny_holding (wpAny_mono h (fun ov s₂ h₂ => ?_) fun _ _ h => h))
  refine wpAny_bind (wpAny_holding (wpAny_mono h₂ (fun iv s₃ h₃ => ?_) fun _ _ h => h))
  exact wpAny_bind (wpAny_standAt (wpAny_bind (wpAny_holding (wpAny_mono h₃ (fun _ _ h₄ => wpAny_release' h₄) fun _ _ h => h))))

theorem SJ.setSub2 {o i o2 i2 e : Expr} {p1 p2 pt pos : Pos} {kt : Nat} {x y x2 y2 u v : AV} (h1 : EJ G env d Γ σ (eval e env) (.tup [u, v]) σ₁) (h2 : EJ G env d Γ σ₁ (eval o env) x σ₁) (h3 : EJ G env d Γ σ₁ (eval i env) y σ₁) (h4 : SetJ G d σ₁ x y u σ₂)
    (h5 : EJ G env d Γ σ₂ (eval o2 env) x2 σ₂) (h6 : EJ G env d Γ σ₂ (eval i2 env) y2 σ₂) (h7 : SetJ G d σ₂ x2 y2 v σ₃)
    (hs : swapsWithSole [.Tuple [.Subscript o i p1, .Subscript o2 i2 p2] kt pt] e pos.line env = pure false := by rfl) (hw : swappedStores [.Tuple [.Subscript o i p1, .Subscript o2 i2 p2] kt pt] e env = pure none := by rfl) :
    SJ G env d Γ σ (exec (.Assign [.Tuple [.Subscript o i p1, .Subscript o2 i2 p2] kt pt] e pos) env) .next Γ σ₃ := fun A s ρ Q E R S L h =>
  wpAny_Assign_stores (h1 A s ρ _ E R S L fun c s₁ ρ₁ S₁ x₁ r₁ => by
    obtain ⟨t, vs, rfl, ht, rl⟩ := Rep.tup_ r₁
    obtain ⟨cu, cv, rfl, ru, rv⟩ := rl.two
    show wpAny _ A (PySem.assign (.Tuple [.Subscript o i p1, .Subscript o2 i2 p2] kt pt) env (.ref t)) _ _ _
    obtain ⟨ob, e, hc, n, hd⟩ := ht
    refine wpAny_assign_Tuple R.handled ⟨ob, e, hc, n, hd⟩ rfl rfl fun h' hx' => ?_
    have k : ∀ b o, s₁.heap.get? b = some o → h'.get? b = some o := fun b o e => hx' b o (Nat.ne_of_lt (Heap.lt_size e)) e
    have S' : StG G σ₁ ρ₁ { s₁ with heap := h' } := S₁.ext (s' := { s₁ with heap := h' }) k rfl rfl
    have tk := S₁.tupKeep (KeepX.of_all (ρ := ρ₁) k)
    have L' : StL G env Γ ρ₁ h' := (L.keep S x₁).at (fun o e => k _ o e) (fun _ _ o _ e => k _ o e) tk
    show wpAny _ A (do holding [cv] (PySem.assign (.Subscript o i p1) env cu); assignInOrder [fun v => PySem.assign (.Subscript o2 i2 p2) env v] [cv]) _ _ _
    have ru' := ru.mono tk (Pre.refl _)
    have rv' := rv.mono tk (Pre.refl _)
    refine wpAny_bind (wpAny_holding (wpAny_assign_Sub (h2 A { s₁ with heap := h' } ρ₁ _ E R S' L' fun ca s₂ ρ₂ S₂ x₂ r₂ => h3 A s₂ ρ₂ _ E R S₂ (L'.keep S' x₂) fun cb s₃ ρ₃ S₃ x₃ r₃ => ?_)))
    have L₃ := (L'.keep S' x₂).keep S₂ x₃
    refine h4 A s₃ ρ₃ ca cb cu _ E R S₃ (r₂.mono (S₂.tupKeep x₃.keep) x₃.pre) r₃ ((ru'.mono (S'.tupKeep x₂.keep) x₂.pre).mono (S₂.tupKeep x₃.keep) x₃.pre) fun s₄ S₄ x₄ => ?_
    have rv₄ := (((rv'.mono (S'.tupKeep x₂.keep) x₂.pre).mono (S₂.tupKeep x₃.keep) x₃.pre).mono (S₃.tupKeep x₄.keep) x₄.pre)
    have L₄ := L₃.keep S₃ x₄
    show wpAny _ A (do holding [] (PySem.assign (.Subscript o2 i2 p2) env cv); assignInOrder [] []) _ _ _
    refine wpAny_bind (wpAny_holding (wpAny_assign_Sub (h5 A s₄ ρ₃ _ E R S₄ L₄ fun cc s₅ ρ₅ S₅ x₅ r₅ => h6 A s₅ ρ₅ _ E R S₅ (L₄.keep S₄ x₅) fun ce s₆ ρ₆ S₆ x₆ r₆ => ?_)))
    have L₆ := (L₄.keep S₄ x₅).keep S₅ x₆
    refine h7 A s₆ ρ₆ cc ce cv _ E R S₆ (r₅.mono (S₅.tupKeep x₆.keep) x₆.pre) r₆ ((rv₄.mono (S₄.tupKeep x₅.keep) x₅.pre).mono (S₅.tupKeep x₆.keep) x₆.pre) fun s₇ S₇ x₇ => ?_
    refine wpAny_pure ?_
    have xx := ((((x₁.trans (Ext.of_all k)).trans x₂).trans x₃).trans x₄).trans ((x₅.trans x₆).trans x₇)
    exact h .next s₇ ρ₆ S₇ (L₆.keep S₆ x₇) (ExtS.of xx S₇) trivial) hs hw
end

structure LS (k : Nat) (cells : List Int) (N : List Str) (σ : List AObj) : Prop where
  r0 : σ[0]? = some (reelO 1 k)
  r1 : σ[1]? = some (AObj.list (cells.map .int))
  r2 : σ[2]? = some (AObj.list (N.map .str))
noncomputable def gTurn (a : Addr) (way many : Nat) (up : Bool) (il ir : Nat) : List (Str × AV) := [("script", .opq a), ("reel", .ref 0), ("way", .int way), ("many", .int many), ("is_up", .bool up), ("rights", .ref ir), ("lefts", .ref il), ("names", .ref 2)]
noncomputable def gLast (a : Addr) (way many : Nat) (over : Bool) (il ir : Nat) : List (Str × AV) := [("reel", .ref 0), ("way", .int way), ("many", .int many), ("rights", .ref ir), ("lefts", .ref il), ("names", .ref 2), ("last", (vT (nameS "x" many)).av), ("is_over", .bool over), ("leaf", (vT "?x0").av)]
theorem LS.append {k : Nat} {cells : List Int} {N : List Str} {σ τ : List AObj} (h : LS k cells N σ) : LS k cells N (σ ++ τ) := ⟨atL h.r0, atL h.r1, atL h.r2⟩
section
variable {G : Glo} (X : Fns G)
include X
variable {L fa : Addr} {cd : Value} {a : Addr}

theorem law_turn {k : Nat} {cells : List Int} {N : List Str} {A B : List T} {J : List AV} {way many : Nat} {up : Bool} (hA : A.length ≤ 1000) (hB : B.length ≤ 1000) :
    ∃ σ' il ir, SJ G (lawE L fa cd) 12 (gBase a way many up) (rowsO k cells N A B J) (execs ((lawBody.drop 7).take 1) (lawE L fa cd)) .next (gTurn a way many up il ir) σ' ∧ LS k cells N σ' ∧
      σ'[il]? = some (AObj.list ((turned up A).map T.av)) ∧ σ'[ir]? = some (AObj.list ((turned up B).map T.av)) := by
  cases up with
  | false => exact ⟨_, 3, 4, SJ.last (SJ.ifF (TJ.val EJ.var B1.bool) SJ.nil), ⟨rfl, rfl, rfl⟩, rfl, rfl⟩
  | true =>
    refine ⟨rowsO k cells N A B J ++ [AObj.list (A.map T.av).reverse] ++ [AObj.list (B.map T.av).reverse], 6, 7, SJ.last (SJ.ifT (TJ.val EJ.var B1.bool) (SJ.last (SJ.swap2 (u := .ref 6) (v := .ref 7) (EJ.mkTuple (EsJ.cons (EJ.is (EJ.rev (l := A.map T.av) EJ.var ⟨_, rfl⟩ (EJ.negI EJ.cInt) rfl (by simp; lia)) rfl) (EsJ.cons (EJ.is (EJ.rev (i := 4) (l := B.map T.av) EJ.var ⟨_, rfl⟩ (EJ.negI EJ.cInt) rfl (by simp; lia)) rfl) EsJ.nil)))))), ⟨rfl, rfl, rfl⟩, ?_, ?_⟩
    · show some (AObj.list (A.map T.av).reverse) = _
      rw [← List.map_reverse]; rfl
    · show some (AObj.list (B.map T.av).reverse) = _
      rw [← List.map_reverse]; rfl

theorem law_last {k : Nat} {cells : List Int} {N : List Str} {A B : List T} {way many : Nat} {up : Bool} {σ : List AObj} {il ir : Nat} (hm : many ≤ 90) (h : LS k cells N σ) (hl : σ[il]? = some (AObj.list (A.map T.av))) (hr : σ[ir]? = some (AObj.list (B.map T.av))) (hA : A.length ≤ 1000) (hB : B.length ≤ 1000) :
    ∃ σ' jl jr, SJ G (lawE L fa cd) 12 (gTurn a way many up il ir) σ (execs ((lawBody.drop 8).take 2) (lawE L fa cd)) .next (gLast a way many (decide (12 < many)) jl jr) σ' ∧ LS k cells N σ' ∧ jl ≠ jr ∧ 2 < jl ∧ 2 < jr ∧
      σ'[jl]? = some (AObj.list ((vT (nameS "x" many) :: A).map T.av)) ∧ σ'[jr]? = some (AObj.list ((vT (nameS "x" many) :: B).map T.av)) := by
  have l1 : (("?" : Str)).length = 1 := by decide +kernel
  have l2 : ((("?" : Str)) ++ ("x" : Str)).length ≤ 11 := by decide +kernel
  have l3 := toStr_len many (by lia)
  have lx : ("?x" : Str) = ("?" : Str) ++ ("x" : Str) := by decide +kernel
  have l4 : (("?x" : Str)).length ≤ 11 := by decide +kernel
  have hil := (List.getElem?_eq_some_iff.mp hl).1
  have h2 := (List.getElem?_eq_some_iff.mp h.r2).1
  refine ⟨σ ++ [AObj.list [(vT (nameS "x" many)).av]] ++ [AObj.list ((vT (nameS "x" many) :: A).map T.av)] ++ [AObj.list [(vT (nameS "x" many)).av]] ++ [AObj.list ((vT (nameS "x" many) :: B).map T.av)], σ.length + 1, σ.length + 3, ?_, h.append.append.append.append, by lia, by lia, by lia, ?_, ?_⟩
  · refine SJ.weaken (Γ₁ := upd (upd (upd (upd (upd (gTurn a way many up il ir) "last" (vT (nameS "x" many)).av) "is_over" (.bool (decide (12 < many)))) "leaf" (vT "?x0").av) "rights" (.ref (σ.length + 3))) "lefts" (.ref (σ.length + 1))) ?_ ?_
    · refine SJ.cons (SJ.unpack3 (u := (vT (nameS "x" many)).av) (v := .bool (decide (12 < many))) (w := (vT "?x0").av) (EJ.mkTuple (EsJ.cons (EJ.is (EJ.mkTuple (vs := [.str (nameS "x" many)]) (EsJ.cons (EJ.is (EJ.binop EJ.cStr (EJ.callT X.T.ok X.m rfl (EsJ.cons EJ.var EsJ.nil) (OJ.strI (toStr_log many (by lia)))) (O2.addS (by lia))) (by rw [nameS, ← lx])) EsJ.nil)) (vT_av _).symm) (EsJ.cons (EJ.is (EJ.cmp (x := .int many) (y := .int 12) EJ.var EJ.cInt O2.gtI) ?_) (EsJ.cons (EJ.is (EJ.mkTuple (vs := [.str "?x0"]) (EsJ.cons EJ.cStr EsJ.nil)) (vT_av _).symm) EsJ.nil))))) ?_
      · simp; lia
      · refine SJ.last (SJ.swap2 (u := .ref (σ.length + 1)) (v := .ref (σ.length + 3)) (EJ.mkTuple (EsJ.cons (EJ.is (EJ.binop (EJ.mkList (EsJ.cons EJ.var EsJ.nil)) EJ.var (O2.addL (i := σ.length) (j := il) (getElem?_last rfl) (atL hl) (by simp; lia))) (by simp)) (EsJ.cons (EJ.is (EJ.binop (EJ.mkList (EsJ.cons EJ.var EsJ.nil)) EJ.var (O2.addL (σ := σ ++ [AObj.list [(vT (nameS "x" many)).av]] ++ [AObj.list ((vT (nameS "x" many) :: A).map T.av)] ++ [AObj.list [(vT (nameS "x" many)).av]]) (i := (σ ++ [AObj.list [(vT (nameS "x" many)).av]] ++ [AObj.list ((vT (nameS "x" many) :: A).map T.av)]).length) (j := ir) (l := [(vT (nameS "x" many)).av]) (m := B.map T.av) (getElem?_last rfl) (atL (atL (atL hr))) (by simp; lia))) ?_) EsJ.nil))))
        simp
    · simp only [gLast, List.forall_mem_cons]
      exact ⟨rfl, rfl, rfl, rfl, rfl, rfl, rfl, rfl, rfl, fun p hp => by cases hp⟩
  · rw [List.append_assoc (_ ++ _)]
    exact atL (getElem?_last (by simp))
  · exact getElem?_last (by simp)
end
end Mine
end
section
open PySem PySem.W PyProof.Rows
set_option linter.unusedVariables false
set_option linter.unusedSimpArgs false
set_option maxRecDepth 100000
namespace Mine
theorem LS.set {k : Nat} {cells : List Int} {N : List Str} {σ : List AObj} {i : Nat} {o : AObj} (h : LS k cells N σ) (hi : 2 < i) : LS k cells N (σ.set i o) :=
  ⟨by rw [List.getElem?_set_ne (by lia)]; exact h.r0, by rw [List.getElem?_set_ne (by lia)]; exact h.r1, by rw [List.getElem?_set_ne (by lia)]; exact h.r2⟩
theorem LS.reel {k k' : Nat} {cells : List Int} {N : List Str} {σ : List AObj} (h : LS k cells N σ) : LS k' cells N (σ.set 0 (reelO 1 k')) :=
  ⟨by rw [List.getElem?_set_self (List.getElem?_eq_some_iff.mp h.r0).1], by rw [List.getElem?_set_ne (by lia)]; exact h.r1, by rw [List.getElem?_set_ne (by lia)]; exact h.r2⟩
theorem LS.names {k : Nat} {cells : List Int} {N N' : List Str} {σ : List AObj} {l : List AV} (h : LS k cells N σ) (hl : l = N'.map .str) : LS k cells N' (σ.set 2 (AObj.list l)) :=
  ⟨by rw [List.getElem?_set_ne (by lia)]; exact h.r0, by rw [List.getElem?_set_ne (by lia)]; exact h.r1, by rw [List.getElem?_set_self (List.getElem?_eq_some_iff.mp h.r2).1, hl]⟩
theorem setAt {σ : List AObj} {i : Nat} {o q : AObj} (h : σ[i]? = some q) : (σ.set i o)[i]? = some o := List.getElem?_set_self (List.getElem?_eq_some_iff.mp h).1
theorem setNe {σ : List AObj} {i j : Nat} {o q : AObj} (h : σ[j]? = some q) (hne : i ≠ j) : (σ.set i o)[j]? = some q := by rw [List.getElem?_set_ne hne]; exact h

section
variable {G : Glo} (X : Fns G)
include X
variable {L fa : Addr} {cd : Value} {a : Addr}

set_option maxHeartbeats 4000000 in
theorem law_heads {k : Nat} {cells : List Int} (hc : cells.length ≤ 100) (hk : k ≤ 100) {N : List Str} (hN : N.length ≤ 1000) {A B : List T} {way many : Nat} {over : Bool} (hw : way < 6) (h5 : way = 5 → many = 12) (hm : many ≤ 90) (ho : over = (decide (way = 5) && decide (clipP cells k 2 = 1))) {σ : List AObj} {il ir : Nat} (h : LS k cells N σ)
    (hne : il ≠ ir) (h1 : 2 < il) (h2 : 2 < ir) (hl : σ[il]? = some (AObj.list ((vT (nameS "x" many) :: A).map T.av))) (hr : σ[ir]? = some (AObj.list ((vT (nameS "x" many) :: B).map T.av))) :
    ∃ σ', SJ G (lawE L fa cd) 12 (gLast a way many (decide (12 < many)) il ir) σ (execs ((lawBody.drop 10).take 1) (lawE L fa cd)) .next (gLast a way many (decide (12 < many) || over) il ir) σ' ∧
      LS (if way = 5 then k + 1 else k) cells (N ++ if way = 5 then [("?t" : Str)] else []) σ' ∧ σ'[il]? = some (AObj.list ((lHead way many :: A).map T.av)) ∧ σ'[ir]? = some (AObj.list ((rHead way many over :: B).map T.av)) := by
  have hil := (List.getElem?_eq_some_iff.mp hl).1
  have hir := (List.getElem?_eq_some_iff.mp hr).1
  have l3 := toStr_len many (by lia)
  have lx : ("?x" : Str) = ("?" : Str) ++ ("x" : Str) := by decide +kernel
  have ly : ("?y" : Str) = ("?" : Str) ++ ("y" : Str) := by decide +kernel
  have l4 : (("?x" : Str)).length ≤ 11 := by decide +kernel
  have l5 : (("?y" : Str)).length ≤ 11 := by decide +kernel
  rcases lt6 hw with rfl | rfl | rfl | rfl | rfl | rfl
  · subst ho
    refine ⟨σ, ?_, by simpa using h, hl, hr⟩
    simp only [Bool.or_false, Nat.reduceEqDiff, decide_false, Bool.false_and]
    exact SJ.last (SJ.ifF (TJ.is (TJ.cmp EJ.var EJ.cInt (O2.eq rfl rfl)) (by decide)) (SJ.last (SJ.ifF (TJ.is (TJ.cmp EJ.var EJ.cInt (O2.eq rfl rfl)) (by decide)) (SJ.last (SJ.ifF (TJ.is (TJ.cmp EJ.var EJ.cInt (O2.eq rfl rfl)) (by decide)) (SJ.last (SJ.ifF (TJ.is (TJ.cmp EJ.var EJ.cInt (O2.eq rfl rfl)) (by decide)) SJ.nil)))))))
  · subst ho
    refine ⟨σ, ?_, by simpa using h, hl, hr⟩
    simp only [Bool.or_false, Nat.reduceEqDiff, decide_false, Bool.false_and]
    exact SJ.last (SJ.ifF (TJ.is (TJ.cmp EJ.var EJ.cInt (O2.eq rfl rfl)) (by decide)) (SJ.last (SJ.ifF (TJ.is (TJ.cmp EJ.var EJ.cInt (O2.eq rfl rfl)) (by decide)) (SJ.last (SJ.ifF (TJ.is (TJ.cmp EJ.var EJ.cInt (O2.eq rfl rfl)) (by decide)) (SJ.last (SJ.ifF (TJ.is (TJ.cmp EJ.var EJ.cInt (O2.eq rfl rfl)) (by decide)) SJ.nil)))))))
  · subst ho
    refine ⟨σ.set ir (AObj.list ((vT (nameS "y" many) :: B).map T.av)), ?_, by simpa using h.set h2, setNe hl (Ne.symm hne), setAt hr⟩
    simp only [Bool.or_false, Nat.reduceEqDiff, decide_false, Bool.false_and]
    exact SJ.last (SJ.ifT (TJ.is (TJ.cmp EJ.var EJ.cInt (O2.eq rfl rfl)) (by decide)) (SJ.last (SJ.setSub (v := (vT (nameS "y" many)).av) (EJ.is (EJ.mkTuple (vs := [.str (nameS "y" many)]) (EsJ.cons (EJ.is (EJ.binop EJ.cStr (EJ.callT X.T.ok X.m rfl (EsJ.cons EJ.var EsJ.nil) (OJ.strI (toStr_log many (by lia)))) (O2.addS (by lia))) (by rw [nameS, ← ly])) EsJ.nil)) (vT_av _).symm) EJ.var EJ.cInt (SetJ.list hr (by decide) (by decide) (by simp only [List.length_map, List.length_cons]; lia)))))
  · subst ho
    refine ⟨(σ.set il (AObj.list ((vT "a" :: A).map T.av))).set ir (AObj.list ((vT "b" :: B).map T.av)), ?_, by simpa using (h.set h1).set h2, setNe (setAt hl) (Ne.symm hne), setAt (setNe hr hne)⟩
    simp only [Bool.or_false, Nat.reduceEqDiff, decide_false, Bool.false_and]
    exact SJ.last (SJ.ifF (TJ.is (TJ.cmp EJ.var EJ.cInt (O2.eq rfl rfl)) (by decide)) (SJ.last (SJ.ifT (TJ.is (TJ.cmp EJ.var EJ.cInt (O2.eq rfl rfl)) (by decide)) (SJ.last (SJ.setSub2 (u := (vT "a").av) (v := (vT "b").av) (EJ.mkTuple (EsJ.cons (EJ.is (EJ.mkTuple (vs := [.str "a"]) (EsJ.cons EJ.cStr EsJ.nil)) (vT_av _).symm) (EsJ.cons (EJ.is (EJ.mkTuple (vs := [.str "b"]) (EsJ.cons EJ.cStr EsJ.nil)) (vT_av _).symm) EsJ.nil))) EJ.var EJ.cInt (SetJ.list hl (by decide) (by decide) (by simp only [List.length_map, List.length_cons]; lia)) EJ.var EJ.cInt (SetJ.list (setNe hr hne) (by decide) (by decide) (by simp only [List.length_map, List.length_cons]; lia)))))))
  · subst ho
    refine ⟨σ.set il (AObj.list ((vT "?x0" :: A).map T.av)), ?_, by simpa using h.set h1, setAt hl, setNe hr hne⟩
    simp only [Bool.or_false, Nat.reduceEqDiff, decide_false, Bool.false_and]
    exact SJ.last (SJ.ifF (TJ.is (TJ.cmp EJ.var EJ.cInt (O2.eq rfl rfl)) (by decide)) (SJ.last (SJ.ifF (TJ.is (TJ.cmp EJ.var EJ.cInt (O2.eq rfl rfl)) (by decide)) (SJ.last (SJ.ifT (TJ.is (TJ.cmp EJ.var EJ.cInt (O2.eq rfl rfl)) (by decide)) (SJ.last (SJ.setSub (v := (vT "?x0").av) EJ.var EJ.var EJ.cInt (SetJ.list hl (by decide) (by decide) (by simp only [List.length_map, List.length_cons]; lia)))))))))
  · obtain rfl := h5 rfl
    have e1 : (decide ((12 : Nat) < 12) || over) = over := rfl
    have e2 : (decide (12 < 12)) = false := rfl
    have eo : decide (AV.int (clipP cells k 2) = AV.int 1) = over := by rw [ho]; simp
    have q1 : LS k cells (N ++ [("?t" : Str)]) (σ.set 2 (AObj.list (N.map .str ++ [.str "?t"]))) := h.names (by simp)
    have q2 : LS (k + 1) cells (N ++ [("?t" : Str)]) ((σ.set 2 (AObj.list (N.map .str ++ [.str "?t"]))).set 0 (reelO 1 (k + 1))) := q1.reel
    have r2 : ((σ.set 2 (AObj.list (N.map .str ++ [.str "?t"]))).set 0 (reelO 1 (k + 1)))[il]? = _ := setNe (setNe hl (by lia)) (by lia)
    have t2 : ((σ.set 2 (AObj.list (N.map .str ++ [.str "?t"]))).set 0 (reelO 1 (k + 1)))[ir]? = _ := setNe (setNe hr (by lia)) (by lia)
    generalize e : (σ.set 2 (AObj.list (N.map .str ++ [.str "?t"]))).set 0 (reelO 1 (k + 1)) = σ₂ at q2 r2 t2
    have q3 := q2.set (o := AObj.list ((vT "?t" :: A).map T.av)) h1
    have r3 : (σ₂.set il (AObj.list ((vT "?t" :: A).map T.av)))[il]? = _ := setAt r2
    have t3 : (σ₂.set il (AObj.list ((vT "?t" :: A).map T.av)))[ir]? = _ := setNe t2 hne
    refine ⟨((σ₂.set il (AObj.list ((vT "?t" :: A).map T.av))) ++ [AObj.list (tops.map fun k => (vT (nameS "x" k)).av)]).set ir (AObj.list ((rHead 5 12 over :: B).map T.av)), ?_, ?_, ?_, ?_⟩
    · rw [e1, e2]
      refine SJ.last (SJ.ifF (TJ.is (TJ.cmp EJ.var EJ.cInt (O2.eq rfl rfl)) (by decide)) (SJ.last (SJ.ifF (TJ.is (TJ.cmp EJ.var EJ.cInt (O2.eq rfl rfl)) (by decide)) (SJ.last (SJ.ifF (TJ.is (TJ.cmp EJ.var EJ.cInt (O2.eq rfl rfl)) (by decide)) (SJ.last (SJ.ifT (TJ.is (TJ.cmp EJ.var EJ.cInt (O2.eq rfl rfl)) (by decide)) ?_)))))))
      refine SJ.cons (SJ.expr (EJ.append (l := N.map .str) (v := .str "?t") (i := 2) EJ.var ⟨_, h.r2⟩ EJ.cStr h.r2 (by simp; lia))) ?_
      refine SJ.cons (SJ.assign (v := .bool over) (σ₁ := σ₂) (EJ.is (EJ.cmp (x := .int (clipP cells k 2)) (y := .int 1) (EJ.st (EJ.callF X.clip.F X.T.ok (EsJ.cons EJ.var (EsJ.cons EJ.cInt EsJ.nil)) ((c_clip X (c := 1) (a := k) q1.r0 q1.r1 hc hk (by decide)).mono (by lia))) e) EJ.cInt (O2.eq (x := .int (clipP cells k 2)) (y := .int 1) rfl rfl)) (by rw [eo]))) ?_
      refine SJ.cons (SJ.setSub (v := (vT "?t").av) (EJ.is (EJ.mkTuple (vs := [.str "?t"]) (EsJ.cons EJ.cStr EsJ.nil)) (vT_av _).symm) EJ.var EJ.cInt (SetJ.list r2 (by decide) (by decide) (by simp only [List.length_map, List.length_cons]; lia))) ?_
      refine SJ.last (SJ.setSub (v := (rHead 5 12 over).av) (EJ.is (EJ.binop (EJ.binop (EJ.mkTuple (vs := [.str "f"]) (EsJ.cons EJ.cStr EsJ.nil)) (EJ.callT X.T.ok X.m rfl (EsJ.cons (EJ.st (EJ.comp (items := tops.map fun (k : Nat) => AV.int (k : Int)) (bs := tops) (p := fun _ => true) (F := fun k => (vT (nameS "x" k)).av) (Γc := []) (cl := []) (ItJ.tuple (EJ.mkTuple (vs := tops.map fun (k : Nat) => AV.int (k : Int)) (EsJ.cons EJ.cInt (EsJ.cons EJ.cInt (EsJ.cons EJ.cInt (EsJ.cons EJ.cInt (EsJ.cons EJ.cInt (EsJ.cons EJ.cInt (EsJ.cons EJ.cInt EsJ.nil))))))))) ?_ (Turns.nameOf fun (k : Nat) => AV.int (k : Int)) ?_ ?_ ?_ ?_) ?_) EsJ.nil) (OJ.tupleL (getElem?_last rfl) ?_)) (O2.addT ?_)) (EJ.binop (EJ.mkTuple (vs := [(vT "a").av]) (EsJ.cons (EJ.is (EJ.mkTuple (vs := [.str "a"]) (EsJ.cons EJ.cStr EsJ.nil)) (vT_av _).symm) EsJ.nil)) (EJ.callT X.T.ok X.m rfl (EsJ.cons EJ.var EsJ.nil) OJ.intB) (O2.mulT (b := over) (by simp))) (O2.addT ?_)) ?_) EJ.var EJ.cInt (SetJ.list (atL t3) (by decide) (by decide) (by simp only [List.length_map, List.length_cons]; lia)))
      · refine CompOk.of rfl rfl rfl rfl ?_ rfl ?_
        · intro p hp; cases hp
        · intro p hp; cases hp
      · intro b p hp; cases hp
      · intro b hb C; exact TsJ.nil
      · intro b hb _ C
        have hb90 : b < 90 := by
          have : ∀ b ∈ tops, b < 90 := by decide
          exact this b hb
        have l6 := toStr_len b (by lia)
        exact EJ.is (EJ.mkTuple (vs := [.str (nameS "x" b)]) (EsJ.cons (EJ.is (EJ.binop EJ.cStr (EJ.callT X.T.ok X.m rfl (EsJ.cons EJ.var EsJ.nil) (OJ.strI (toStr_log b (by lia)))) (O2.addS (by lia))) (by rw [nameS, ← lx])) EsJ.nil)) (vT_av _).symm
      · decide
      · rw [filter_tt]
      · simp [tops]
      · simp [tops]
      · simp [tops]; split <;> simp
      · have e : rHead 5 12 over = T.nd "f" ((tops.map fun k => vT (nameS "x" k)) ++ (if over then [vT "a"] else [])) := rfl
        rw [e, T.av_nd]
        cases over <;> simp [List.map_map, Function.comp_def]
    · simpa using (q3.append (τ := [AObj.list (tops.map fun k => (vT (nameS "x" k)).av)])).set h2
    · exact setNe (atL r3) (Ne.symm hne)
    · exact setAt (atL t3)

noncomputable def gArgs (way many : Nat) (over : Bool) (w : Int) (one other : T) : List (Str × AV) := [("reel", .ref 0), ("way", .int way), ("many", .int many), ("names", .ref 2), ("is_over", .bool over), ("leaf", (vT "?x0").av), ("ways", .int w), ("one", one.av), ("other", other.av)]

theorem law_args {k : Nat} {cells : List Int} (hc : cells.length ≤ 100) (hk : k ≤ 100) {N : List Str} {A B : List T} (hA : A.length ≤ 1000) (hB : B.length ≤ 1000) {way many : Nat} {over : Bool} {σ : List AObj} {il ir : Nat} (h : LS k cells N σ) (h1 : 2 < il) (h2 : 2 < ir) (hl : σ[il]? = some (AObj.list (A.map T.av))) (hr : σ[ir]? = some (AObj.list (B.map T.av))) :
    ∃ σ', SJ G (lawE L fa cd) 12 (gLast a way many over il ir) σ (execs ((lawBody.drop 11).take 1) (lawE L fa cd)) .next (gArgs way many over (clipP cells k 4096) (.nd "h" A) (.nd "h" B)) σ' ∧ LS (k + 1) cells N σ' := by
  have q2 : LS (k + 1) cells N (σ.set 0 (reelO 1 (k + 1))) := h.reel
  refine ⟨_, ?_, q2⟩
  refine SJ.weaken (Γ₁ := upd (upd (upd (gLast a way many over il ir) "ways" (.int (clipP cells k 4096))) "one" (T.nd "h" A).av) "other" (T.nd "h" B).av) ?_ ?_
  · refine' SJ.last ?_
    refine' SJ.unpack3 (u := .int (clipP cells k 4096)) (v := (T.nd "h" A).av) (w := (T.nd "h" B).av) ?_
    refine' EJ.mkTuple ?_
    refine' EsJ.cons (EJ.callF X.clip.F X.T.ok (EsJ.cons EJ.var (EsJ.cons EJ.cInt EsJ.nil)) ((c_clip X (c := 1) (a := k) h.r0 h.r1 hc hk (by decide)).mono (by lia))) ?_
    refine' EsJ.cons (EJ.is (EJ.binop (EJ.mkTuple (vs := [.str "h"]) (EsJ.cons EJ.cStr EsJ.nil)) (EJ.callT X.T.ok X.m rfl (EsJ.cons EJ.var EsJ.nil) (OJ.tupleL (setNe hl (by lia)) (by simp; lia))) (O2.addT (by simp; lia))) (by rw [T.av_nd]; rfl)) ?_
    exact EsJ.cons (EJ.is (EJ.binop (EJ.mkTuple (vs := [.str "h"]) (EsJ.cons EJ.cStr EsJ.nil)) (EJ.callT X.T.ok X.m rfl (EsJ.cons EJ.var EsJ.nil) (OJ.tupleL (setNe hr (by lia)) (by simp; lia))) (O2.addT (by simp; lia))) (by rw [T.av_nd]; rfl)) EsJ.nil
  · simp only [gArgs, List.forall_mem_cons]
    exact ⟨rfl, rfl, rfl, rfl, rfl, rfl, rfl, rfl, rfl, fun p hp => by cases hp⟩
end
end Mine
end
section
open PySem PySem.W PyProof.Rows
set_option linter.unusedVariables false
set_option linter.unusedSimpArgs false
set_option maxRecDepth 100000
namespace Mine
noncomputable def gH (way many : Nat) (over : Bool) (w : Int) (leaf : T) (ref : Bool) (v : AV) : List (Str × AV) := [("reel", .ref 0), ("way", .int way), ("many", .int many), ("names", .ref 2), ("is_over", .bool over), ("leaf", leaf.av), ("ways", .int w), ("is_refused", .bool ref), ("told", v)]
section
variable {G : Glo} (X : Fns G)
include X
variable {L fa : Addr} {cd : Value} {a : Addr}

omit X in
theorem in34 (way : Nat) : decide (AV.int (way : Int) ∈ [AV.int 3, AV.int 4]) = is34 way := by
  have h3 : ((way : Int) = 3) ↔ way = 3 := by lia
  have h4 : ((way : Int) = 4) ↔ way = 4 := by lia
  simp [is34, h3, h4]

theorem post_end {way many : Nat} {over : Bool} {w : Int} {leaf : T} {ref : Bool} {σ : List AObj} (h : (is34 way || over) = true) (hr : ref = !is34 way) :
    SJE G (lawE L fa cd) 12 (gH way many over w leaf ref .none) σ (execs (lawBody.drop 13) (lawE L fa cd)) (.bool true) σ := by
  refine SJE.of (junk := []) (SJ.stop (SJ.ifT (TJ.is (TJ.boolOp (TJ.or2 (TJ.is (TJ.cmp EJ.var (EJ.mkTuple (vs := [.int 3, .int 4]) (EsJ.cons EJ.cInt (EsJ.cons EJ.cInt EsJ.nil))) (O2.inT rfl rfl (Nat.le_trans (Nat.min_le_left _ _) (by decide)))) (in34 way)) (fun _ => TJ.val EJ.var B1.bool))) h) (SJ.last (SJ.ret (EJ.is (EJ.and2 (EJ.cmp EJ.var EJ.cNone O2.is) (fun _ => EJ.cmp EJ.var (EJ.cmp EJ.var (EJ.mkTuple (vs := [.int 3, .int 4]) (EsJ.cons EJ.cInt (EsJ.cons EJ.cInt EsJ.nil))) (O2.notInT rfl rfl (Nat.le_trans (Nat.min_le_left _ _) (by decide)))) O2.eqB)) ?_))))) (by simp)
  rw [in34, hr]
  cases is34 way <;> rfl
end
end Mine
end
section
open PySem PySem.W PyProof.Rows
set_option linter.unusedVariables false
set_option linter.unusedSimpArgs false
namespace Mine
section
variable {G : Glo} {env : Env} {d : Nat} {Γ Γ' Γ₁ Γ₂ : List (Str × AV)} {σ σ' σ₁ σ₂ σ₃ : List AObj} {ρ ρ' ρ₁ ρ₂ ρ₃ : List Addr} {s s' s₁ : Shared} {h h' h₁ h₂ h₃ : Heap}

/-- a comprehension whose value goes to a name -/
theorem SJ.compUse {β : Type} {elt iter target : Expr} {ifs : List Expr} {scope : Scope} {cl : List (Str × Addr)} {pos spos py : Pos} {y : Str} {bs : List β} {bind : β → List (Str × AV) → List (Str × AV)} {p : β → Bool} {F : β → AV} {Γc : List (Str × AV)} {items : List AV}
    (h1 : ItJ G env d Γ σ (eval iter env) items σ) (X : CompOk env scope cl Γ Γc)
    (hT : ∀ A I h₁ ρ₁ fp wr St C, A.handled = none → Iters G A I h₁ ρ₁ fp wr items St → ∃ loc, Turn G (compEnvC scope cl C env) A target I h₁ ρ₁ fp wr bs bind St loc ∧ loc)
    (hb : ∀ b, ∀ q ∈ Γc, (bind b Γc).lookup q.1 = some q.2)
    (ht : ∀ b ∈ bs, ∀ C, TsJ G (compEnvC scope cl C env) d (bind b Γc) σ ifs (p b))
    (he : ∀ b ∈ bs, p b = true → ∀ C, EJ G (compEnvC scope cl C env) d (bind b Γc) σ (eval elt (compEnvC scope cl C env)) (F b) σ)
    (hl : bs.length ≤ 100000) (hy : env.kindOf y = some .local := by rfl)
    (hsw : swapsWith (.ListComp elt [⟨target, iter, ifs, 0⟩] scope pos) (some (.Name y py)) spos.line env = pure true := by rfl)
    (hs : ∀ x, foldedSetIterable iter env x = pure x := by intro _; rfl) :
    SJ G env d Γ σ (exec (.Assign [.Name y py] (.ListComp elt [⟨target, iter, ifs, 0⟩] scope pos) spos) env) .next (upd Γ y (.ref σ.length)) (σ ++ [AObj.list ((bs.filter p).map F)]) := fun A s ρ Q E R S L hQ => by
  rw [exec_Assign_Name_used _ _ _ _ hsw]
  refine wpAny_bind (wpAny_standAt (wpAny_bind ?_))
  show wpAny _ A (do let _ ← comprehension (.ListComp elt [⟨target, iter, ifs, 0⟩] scope pos) scope env _ (newList []) false (eval iter env) (some (PySem.assign (.Name y py) env))) _ _ s
  refine wpAny_bind (wpAny_mono (compGen (Q := fun _ s' => Q .next s') R S L (TurnAt.of R.handled (fun Q E h => h1 A s ρ Q E R S L h) hT) X hb ht he hl (fun s' ρ' D C S' L' x' r' K => ?_) hs) (fun _ s' hq => wpAny_pure (wpAny_pure hq)) fun _ _ e => e)
  show wpAny _ A (PySem.assign (.Name y py) env (.ref D)) _ _ _
  refine wpAny_assign_Name (store S' L' (.inl hy) r' fun s₂ S₂ L₂ st => ?_)
  obtain ⟨m, hm⟩ := K.ns
  have hm₂ : s₂.heap.Ns C m := hm.at' fun o e => st.keep C o K.nL K.nc e
  have K₂ : CFr G env ρ' s.heap s₂.heap C := ⟨⟨m, hm₂⟩, K.off, K.new0, K.new, K.nL, K.nc⟩
  refine ⟨m, hm₂, fun h₃ hs₃ => ?_⟩
  obtain ⟨S₃, k₃, t₃⟩ := K₂.gone (A := A) S₂ hs₃
  refine hQ .next _ ρ' S₃ (L₂.at (fun o e => k₃ _ o (Ne.symm K.nL) e) (fun z c o hc e => k₃ _ o (fun q => K.nc z (q ▸ hc)) e) t₃) ⟨x'.pre, x'.new, fun b o h1 h2 h3 e => ?_, fun b o e => ?_⟩ trivial
  · refine k₃ b o (fun q => by rw [q, K.new] at e; cases e) (st.keep b o h2 h3 (x'.keep b o h1 e))
  · obtain ⟨o', e'⟩ := (ExtS.of (env := env) x' S').there b o e
    obtain ⟨o₂, e₂⟩ := st.ext.there b o' e'
    exact ⟨o₂, k₃ b o₂ (fun q => by rw [q, K.new] at e; cases e) e₂⟩
end
end Mine
end
section
open PySem PySem.W PyProof.Rows
set_option linter.unusedVariables false
set_option linter.unusedSimpArgs false
set_option maxRecDepth 100000
namespace Mine
noncomputable def SJR (G : Glo) (env : Env) (d : Nat) (Γ : List (Str × AV)) (σ : List AObj) (t : Sem Flow) (v : AV) : Prop := ∃ Γf σf, SJ G env d Γ σ t (.ret v) Γf σf
theorem SJR.cons {G : Glo} {env : Env} {d : Nat} {Γ Γ₁ : List (Str × AV)} {σ σ₁ : List AObj} {v : AV} {st : Stmt} {rest : List Stmt} (h1 : SJ G env d Γ σ (exec st env) .next Γ₁ σ₁) (h2 : SJR G env d Γ₁ σ₁ (execs rest env) v) : SJR G env d Γ σ (execs (st :: rest) env) v := by
  obtain ⟨Γf, σf, h⟩ := h2
  exact ⟨Γf, σf, SJ.cons h1 h⟩
theorem SJR.stop {G : Glo} {env : Env} {d : Nat} {Γ Γ₁ : List (Str × AV)} {σ σ₁ : List AObj} {v : AV} {st : Stmt} {rest : List Stmt} (h1 : SJ G env d Γ σ (exec st env) (.ret v) Γ₁ σ₁) : SJR G env d Γ σ (execs (st :: rest) env) v := ⟨_, _, SJ.stop h1⟩

theorem strs_depth : ∀ l : List Str, PyData.depthAll (AV.pys (l.map AV.str)) ≤ 200
  | [] => by decide
  | x :: r => Nat.max_le.mpr ⟨Nat.zero_le _, strs_depth r⟩
theorem strs_flats : ∀ {l : List Str}, (l.all fun s => AV.flat (.str s)) = true → AV.flats (l.map AV.str) = true
  | [], _ => rfl
  | x :: r, h => by
    rw [List.all_cons, Bool.and_eq_true] at h
    rw [List.map_cons, AV.flats_cons, h.1, strs_flats h.2]; rfl
theorem sortS_all {l : List Str} {p : Str → Bool} (h : l.all p = true) : (sortS l).all p = true :=
  List.all_eq_true.mpr fun x hx => List.all_eq_true.mp h x ((sortS_perm l).mem_iff.mp hx)
section
variable {G : Glo} (X : Fns G)
include X
variable {L fa : Addr} {cd : Value} {a : Addr}

theorem post_right {k : Nat} {cells : List Int} {N : List Str} {σ : List AObj} {j way many : Nat} {over : Bool} {w : Int} {leaf : T} {ref : Bool} {told : Tab} (h : LS k cells N σ) (hj : σ[j]? = some (AObj.sdict told.av)) (hok : told.ok = true) (hlen : told.length < 64) (hfl : ((told.map (·.1)).all fun s => AV.flat (.str s)) = true)
    (hs : sortS (told.map (·.1)) = sortS N) (hlf : leaf.ok = true) (hlh : leaf.hgt = 0) (hw : 0 ≤ w) (hm : many < 900) (hr : rowAll told "x" many w leaf = some true) :
    ∃ J, SJ G (lawE L fa cd) 12 (gH way many over w leaf ref (.ref j)) σ (execs ((lawBody.drop 16).take 1) (lawE L fa cd)) .next (gH way many over w leaf ref (.ref j)) (σ ++ J) := by
  have keys : told.av.map (·.1) = told.map (·.1) := by simp [Tab.av]
  have lN : N.length < 64 := by
    have h1 := (sortS_perm N).length_eq
    have h2 := (sortS_perm (told.map (·.1))).length_eq
    rw [hs, h1] at h2
    simp at h2; lia
  have fl : AV.flats ((sortS N).map .str) = true := by rw [← hs]; exact strs_flats (sortS_all hfl)
  refine ⟨[AObj.list ((sortS N).map .str)] ++ [AObj.list ((sortS N).map .str)], SJ.last (SJ.ifF (σ₁ := σ ++ ([AObj.list ((sortS N).map .str)] ++ [AObj.list ((sortS N).map .str)])) (TJ.boolOp (TJ.orF (σ₁ := σ ++ ([AObj.list ((sortS N).map .str)] ++ [AObj.list ((sortS N).map .str)])) (TJ.is (TJ.cmp (EJ.st (σ₂ := σ ++ [AObj.list ((sortS N).map .str)]) (EJ.callB X.T.ok X.m rfl (EsJ.cons EJ.var EsJ.nil) (OJ.sortedD X.T.ok hj (by simpa [Tab.av] using hlen))) ?_) (EJ.st (EJ.callB X.T.ok X.m rfl (EsJ.cons EJ.var EsJ.nil) (OJ.sorted (l := N) (atL h.r2) lN)) (List.append_assoc _ _ _)) (O2.neL (i := σ.length) (j := (σ ++ [AObj.list ((sortS N).map .str)]).length) ?_ ?_ fl fl (strs_depth _))) ?_) (TJ.orF (TJ.is (TJ.neg (TJ.val (EJ.callF X.right.F X.T.ok (EsJ.cons EJ.var (EsJ.cons EJ.cStr (EsJ.cons EJ.var (EsJ.cons EJ.var (EsJ.cons EJ.var EsJ.nil))))) ((c_right X (atL hj) hok (by decide +kernel) hm hw hlf hlh hr).mono (by lia))) B1.bool)) rfl) TJ.orNil))) SJ.nil)⟩
  · rw [keys, hs]
  · rw [← List.append_assoc]; exact atL (getElem?_last rfl)
  · rw [← List.append_assoc]; exact getElem?_last rfl
  · simp

theorem post_y {σ : List AObj} {j way many : Nat} {over : Bool} {w : Int} {leaf : T} {ref : Bool} {told : Tab} (hj : σ[j]? = some (AObj.sdict told.av)) (hok : told.ok = true) (hlf : leaf.ok = true) (hlh : leaf.hgt = 0) (hw : 0 ≤ w) (hm : many < 900) (h5 : way ≠ 5) (hr : way = 2 → rowAll told "y" many w leaf = some true) :
    SJR G (lawE L fa cd) 12 (gH way many over w leaf ref (.ref j)) σ (execs (lawBody.drop 17) (lawE L fa cd)) (.bool true) := by
  refine SJR.cons (SJ.ifF (TJ.is (TJ.cmp EJ.var EJ.cInt (O2.eq (x := .int way) (y := .int 5) rfl rfl)) ?_) SJ.nil) (SJR.stop (SJ.ret (EJ.is (EJ.or2 (b := !decide (way = 2)) (c := true) (EJ.is (EJ.cmp EJ.var EJ.cInt (O2.ne (x := .int way) (y := .int 2) rfl rfl)) ?_) (fun h => EJ.callF X.right.F X.T.ok (EsJ.cons EJ.var (EsJ.cons EJ.cStr (EsJ.cons EJ.var (EsJ.cons EJ.var (EsJ.cons EJ.var EsJ.nil))))) ((c_right X hj hok (by decide +kernel) hm hw hlf hlh (hr ?_)).mono (by lia)))) ?_)))
  · simp; lia
  · have : ((way : Int) = 2) ↔ way = 2 := by lia
    simp [this]
  · simpa using h
  · simp

theorem post_joint {k : Nat} {cells : List Int} {N : List Str} (hN : N.length ≤ 1000) {σ : List AObj} {j many : Nat} {over : Bool} {w : Int} {ref : Bool} {told : Tab} {x : Str} {lf : T} (h : LS k cells N σ) (hj : σ[j]? = some (AObj.sdict told.av)) (hx : jointOf told = [x]) (he : lookT told x = some lf) (hlf : lf = if x = "?x0" then vT "?y0" else vT "?x0") :
    ∃ σ', SJ G (lawE L fa cd) 12 (gH 2 many over w (vT "?x0") ref (.ref j)) σ (execs ((lawBody.drop 15).take 1) (lawE L fa cd)) .next (gH 2 many over w lf ref (.ref j)) σ' ∧ LS k cells (N ++ [x]) σ' ∧ σ'[j]? = some (AObj.sdict told.av) := by
  have hf : jointOf told = (["?x0", "?y0"] : List Str).filter fun s => (lookT told s).isSome := rfl
  have hx' := hx
  rw [hf] at hx'
  have xx : x = "?x0" ∨ x = "?y0" := by
    have : x ∈ (["?x0", "?y0"] : List Str).filter fun s => (lookT told s).isSome := by rw [hx']; exact .head _
    have := (List.mem_filter.mp this).1
    simpa using this
  have fx : AV.flats [AV.str x] = true := by rcases xx with rfl | rfl <;> decide +kernel
  have ff : lf = vT "?y0" ∨ lf = vT "?x0" := by
    rw [hlf]; split
    · exact .inl rfl
    · exact .inr rfl
  have fl : AV.flat lf.av = true := by rcases ff with rfl | rfl <;> decide +kernel
  have dl : min (depthA lf.av) (depthA lf.av) ≤ 300 := by rcases ff with rfl | rfl <;> decide +kernel
  have hjj := (List.getElem?_eq_some_iff.mp hj).1
  have j2 : 2 ≠ j := by rintro rfl; rw [h.r2] at hj; cases hj
  have q2 : LS k cells (N ++ [x]) ((σ ++ [AObj.list [AV.str x]] ++ [AObj.list [AV.str "?x0"]]).set 2 (AObj.list (N.map AV.str ++ [AV.str x]))) := (h.append.append).names (by simp)
  refine ⟨_, ?_, q2, setNe (atL (atL hj)) j2⟩
  refine SJ.weaken (Γ₁ := upd (upd (gH 2 many over w (vT "?x0") ref (.ref j)) "joint" (.ref σ.length)) "leaf" lf.av) ?_ ?_
  · refine SJ.last (SJ.ifT (TJ.is (TJ.cmp EJ.var EJ.cInt (O2.eq rfl rfl)) (by decide)) ?_)
    refine SJ.cons (SJ.st (σ₂ := σ ++ [AObj.list [.str x]]) (SJ.compUse (items := (["?x0", "?y0"] : List Str).map AV.str) (bs := (["?x0", "?y0"] : List Str)) (p := fun s => (lookT told s).isSome) (F := AV.str) (Γc := [("told", .ref j)]) (cl := [("told", L + 3)]) (ItJ.tuple (EJ.mkTuple (EsJ.cons EJ.cStr (EsJ.cons EJ.cStr EsJ.nil)))) ?_ (Turns.nameOf AV.str) ?_ ?_ ?_ ?_) ?_) ?_
    · refine CompOk.of rfl rfl rfl rfl ?_ rfl ?_
      · intro p hp; rw [List.mem_singleton.mp hp]; rfl
      · intro p hp; rw [List.mem_singleton.mp hp]; exact ⟨rfl, rfl, rfl⟩
    · intro b p hp; rw [List.mem_singleton.mp hp]; rfl
    · intro b hb C
      exact TsJ.one (TJ.is (TJ.cmp EJ.var EJ.var (O2.inD X.T.ok (kvs := told.av) hj)) (by rw [look_av]; simp))
    · intro b hb _ C; exact EJ.var
    · simp
    · rw [hx']; rfl
    refine SJ.cons (SJ.assign (v := lf.av) (σ₁ := σ ++ [AObj.list [.str x]] ++ [AObj.list [.str "?x0"]]) (EJ.is (EJ.ite (c := decide ([AV.str x] = [AV.str "?x0"])) (u := (vT "?x0").av) (v := (vT "?y0").av) (TJ.cmp EJ.var (EJ.mkList (EsJ.cons EJ.cStr EsJ.nil)) (O2.eqL (i := σ.length) (j := (σ ++ [AObj.list [.str x]]).length) (atL (getElem?_last rfl)) (getElem?_last rfl) fx (by decide +kernel) (strs_depth [x]))) (fun _ => EJ.is (EJ.mkTuple (vs := [.str "?y0"]) (EsJ.cons EJ.cStr EsJ.nil)) (vT_av _).symm) (fun _ => EJ.var)) ?_)) ?_
    · rw [hlf]
      by_cases e : x = "?x0" <;> simp [e]
    refine SJ.cons (SJ.ifF (TJ.is (TJ.boolOp (TJ.or2 (b := false) (c := false) (TJ.is (TJ.cmp (EJ.callB X.T.ok X.m rfl (EsJ.cons EJ.var EsJ.nil) (OJ.lenL (l := [.str x]) (atL (getElem?_last rfl)) (by simp))) EJ.cInt (O2.ne (x := .int 1) (y := .int 1) rfl rfl)) (by decide)) (fun _ => TJ.is (TJ.cmp (x := lf.av) (EJ.sub EJ.var (EJ.sub EJ.var EJ.cInt (Sub.list (l := [.str x]) (v := .str x) (atL (getElem?_last rfl)) rfl (by decide) (by decide))) (Sub.dict (atL (atL hj)) (by rw [look_av, he]; rfl))) EJ.var (O2.ne fl fl dl)) (by simp)))) rfl) SJ.nil) ?_
    refine SJ.last (SJ.expr (EJ.append (l := N.map .str) (v := .str x) (i := 2) EJ.var ⟨_, atL (atL h.r2)⟩ (EJ.sub EJ.var EJ.cInt (Sub.list (l := [.str x]) (v := .str x) (atL (getElem?_last rfl)) rfl (by decide) (by decide))) (atL (atL h.r2)) (by simp; lia)))
  · simp only [gH, List.forall_mem_cons]
    exact ⟨rfl, rfl, rfl, rfl, rfl, rfl, rfl, rfl, rfl, fun p hp => by cases hp⟩
end
end Mine
end
section
open PySem PySem.W PyProof.Rows
set_option linter.unusedVariables false
set_option linter.unusedSimpArgs false
set_option maxRecDepth 100000
namespace Mine
section
variable {G : Glo} {env : Env} {d : Nat} {Γ Γ' Γ₁ Γ₂ : List (Str × AV)} {σ σ' σ₁ σ₂ σ₃ : List AObj} {ρ ρ' ρ₁ ρ₂ ρ₃ : List Addr} {s s' s₁ : Shared} {h h' h₁ h₂ h₃ : Heap}
theorem and3 {M : Model} {A : Around} {E : Value → Shared → Prop} {x y z : Expr} {pos : Pos} {Q : Value → Shared → Prop}
    (h : wpAny M A (eval x env) (fun v s₁ => wpAny M A (truthy v) (fun t s₂ => if t then wpAny M A (eval (.BoolOp .And [y, z] pos) env) Q E s₂ else Q v s₂) E s₁) E s) :
    wpAny M A (eval (.BoolOp .And [x, y, z] pos) env) Q E s := by
  show wpAny M A (do
    let v ← eval x env
    standAt pos
    let t ← holding [v] (truthy v)
    match BoolOp.And, t with
    | .And, false | .Or, true => pure v
    | _, _ => boolOp pos .And [eval y env, eval z env]) Q E s
  refine wpAny_bind (wpAny_mono h (fun v s₁ h₁ => wpAny_bind (wpAny_standAt (wpAny_bind (wpAny_holding (wpAny_mono h₁ (fun t s₂ h₂ => ?_) fun _ _ x => x))))) fun _ _ x => x)
  cases t with
  | false => exact wpAny_pure h₂
  | true => exact h₂

theorem StG.bare (S : StG G σ ρ s) : StG G [] [] s := ⟨S.base, (fun a h => by cases h), .nil, rfl, (fun i a o h => by simp at h), S.gens, S.os⟩
theorem StG.bareAt {t : Shared} (S : StG G σ ρ s) (k : ∀ b o, G.h₀.get? b = some o → t.heap.get? b = some o) (hg : t.gens = s.gens) (ho : t.os = s.os) : StG G [] [] t := ⟨k, (fun a h => by cases h), .nil, rfl, (fun i a o h => by simp at h), hg.trans S.gens, ho.trans S.os⟩
theorem ZS.at {z TI TO i1 i2 l1 l2 : Addr} {xs ys : Array Value} {k : Nat} {f0 f1 : Value} (Z : ZS z TI TO i1 i2 l1 l2 xs ys k f0 f1 h) (q : ∀ b ∈ [z, TI, TO, i1, i2, l1, l2], ∀ o, h.get? b = some o → h'.get? b = some o) : ZS z TI TO i1 i2 l1 l2 xs ys k f0 f1 h' := by
  obtain ⟨a, b, e⟩ := Z.to
  exact ⟨q z (by simp) _ Z.z, q TI (by simp) _ Z.ti, ⟨a, b, q TO (by simp) _ e⟩, Z.it1.at fun o e => q i1 (by simp) o e, Z.it2.at fun o e => q i2 (by simp) o e, Z.l1.at fun o e => q l1 (by simp) o e, Z.l2.at fun o e => q l2 (by simp) o e⟩
theorem ZS.there {z TI TO i1 i2 l1 l2 : Addr} {xs ys : Array Value} {k : Nat} {f0 f1 : Value} (Z : ZS z TI TO i1 i2 l1 l2 xs ys k f0 f1 h) : ∀ b ∈ [z, TI, TO, i1, i2, l1, l2], ∃ o, h.get? b = some o := by
  obtain ⟨a, b, e⟩ := Z.to
  obtain ⟨o1, e1, _⟩ := Z.it1
  obtain ⟨o2, e2, _⟩ := Z.it2
  obtain ⟨o3, e3, _⟩ := Z.l1
  obtain ⟨o4, e4, _⟩ := Z.l2
  intro c hc
  simp only [List.mem_cons, List.not_mem_nil, or_false] at hc
  rcases hc with rfl | rfl | rfl | rfl | rfl | rfl | rfl
  · exact ⟨_, Z.z⟩
  · exact ⟨_, Z.ti⟩
  · exact ⟨_, e⟩
  · exact ⟨_, e1⟩
  · exact ⟨_, e2⟩
  · exact ⟨_, e3⟩
  · exact ⟨_, e4⟩

/-- the frame again, from what it was: the cells and the tuples stay -/
theorem StL.redo (L : StL G env Γ [] h) (hΓ : ∀ p ∈ Γ', Γ.lookup p.1 = some p.2 ∧ env.kindOf p.1 ≠ some .local) (k : ∀ b o, b ≠ env.locals → h.get? b = some o → h'.get? b = some o) (hn : ∃ m, h'.Ns env.locals m) : StL G env Γ' [] h' := by
  obtain ⟨m, hm⟩ := hn
  obtain ⟨m0, ⟨oL, es, n, eL, dL, _⟩, _⟩ := L.ns
  have tk : TupKeep h h' := fun a vs ⟨o, e, r⟩ => ⟨o, k a o (fun q => by
    subst q
    rw [eL] at e; cases e
    obtain ⟨_, n', hd⟩ := r
    rw [dL] at hd; cases hd) e, r⟩
  refine ⟨L.kind, L.glob, L.blt, ⟨m, hm, fun x v hk hv => ?_⟩, fun x c hc => ?_, L.has, L.offL, L.offC, L.newL, L.newC, L.apart⟩
  · exact absurd hk (hΓ (x, v) (mem_of_lookup hv)).2
  · obtain ⟨ov, ⟨o, e, hd⟩, hh⟩ := L.cell x c hc
    refine ⟨ov, ⟨o, k c o (L.offC x c hc).2 e, hd⟩, fun v hk hv => ?_⟩
    obtain ⟨cv, e1, r⟩ := hh v hk (hΓ (x, v) (mem_of_lookup hv)).1
    exact ⟨cv, e1, r.mono tk (Pre.refl _)⟩

/-- a walk over a zip of two tuples that finds nothing -/
theorem comp_zip {elt iter t : Expr} {x y : Str} {px py pt pos : Pos} {kt : Nat} {scope : Scope} {cl : List (Str × Addr)} {Γc : List (Str × AV)} {A : Around} {Q : Value → Shared → Prop} {E : Value → Shared → Prop} {s₀ s : Shared} {z TI TO i1 i2 l1 l2 : Addr} {xs ys : List Value} {as bs : List AV}
    (R : Room A d) (S₀ : StG G [] [] s₀) (L₀ : StL G env Γ [] s₀.heap) (S : StG G [] [] s) (k₀ : ∀ b o, b ≠ env.locals → s₀.heap.get? b = some o → s.heap.get? b = some o) (hn : ∃ m, s.heap.Ns env.locals m)
    (D : ZipApart z TI TO i1 i2 l1 l2) (Z : ZS z TI TO i1 i2 l1 l2 xs.toArray ys.toArray 0 .none (.bool false) s.heap) (new : ∀ b ∈ [z, TI, TO, i1, i2], s₀.heap.get? b = none) (r1 : RepL s₀.heap [] xs as) (r2 : RepL s₀.heap [] ys bs) (hlen : as.length = bs.length)
    (h1 : ∀ Q E, (∀ s', s'.heap = s.heap → StG G [] [] s' → Q (.ref z) s') → wpAny (model G.prog G.w) A (eval iter env) Q E s)
    (X : CompOk env scope cl Γ Γc) (hΓc : ∀ p ∈ Γc, Γc.lookup p.1 = some p.2) (hx : ∀ C, (compEnvC scope cl C env).kindOf x = some .local) (hy : ∀ C, (compEnvC scope cl C env).kindOf y = some .local)
    (hb : ∀ u v, ∀ q ∈ Γc, (upd (upd Γc x u) y v).lookup q.1 = some q.2)
    (ht : ∀ (i : Nat) u v C, as[i]? = some u → bs[i]? = some v → TsJ G (compEnvC scope cl C env) d (upd (upd Γc x u) y v) [] [t] false)
    (hQ : ∀ s' D', StG G [AObj.list []] [D'] s' → (∀ b o, b ∉ [z, TO, i1, i2] → s.heap.get? b = some o → s'.heap.get? b = some o) → Q (.ref D') s')
    (hs : ∀ x, foldedSetIterable iter env x = pure x := by intro _; rfl) :
    wpAny (model G.prog G.w) A (eval (.ListComp elt [⟨.Tuple [.Name x px, .Name y py] kt pt, iter, [t], 0⟩] scope pos) env) Q E s := by
  rw [eval_ListComp]
  refine wpAny_comprehension_free (use := none) rfl hs X.clos X.kind X.names (h1 _ E fun sa hha Sa => ?_)
  obtain ⟨ha, ga, da, tka, oa⟩ := sa
  dsimp only at hha
  subst hha
  refine wpAny_pyIter_zip Z.z ?_
  refine wpAny_newObj_type (wpAny_newFunctionEnv (fun y hy => by simpa using List.all_eq_true.mp X.nocell y hy) (by intro y hy; simp at hy) (fun h₁ hns₁ hsb₁ => ?_) X.kind)
  dsimp only at hns₁ hsb₁ ⊢
  generalize hH2 : s.heap.push { cls := .type "list", dict := none, data := .seq ([] : List Value).toArray } = H2 at hns₁ hsb₁ ⊢
  have hC : H2.objs.size = s.heap.objs.size + 1 := by rw [← hH2, Heap.size_push]
  generalize hD : s.heap.objs.size = D' at *
  generalize hCC : H2.objs.size = C at *
  have hDC : D' ≠ C := by rw [hC]; exact Nat.ne_of_lt (Nat.lt_succ_self _)
  have below : ∀ b o, s.heap.get? b = some o → b ≠ D' ∧ b ≠ C := fun b o e => by
    have := Heap.lt_size e
    rw [hD] at this
    exact ⟨Nat.ne_of_lt this, by rw [hC]; exact Nat.ne_of_lt (Nat.lt_succ_of_lt this)⟩
  have old : ∀ b o, s.heap.get? b = some o → h₁.get? b = some o := fun b o e => hsb₁.extBut b o (below b o e).2 (Heap.get?_push_of_some _ (hH2 ▸ Heap.get?_push_of_some _ e))
  have hacc : h₁.PlainList D' #[] := ⟨_, hsb₁.extBut _ _ hDC (Heap.get?_push_of_some _ (hH2 ▸ hD ▸ Heap.get?_push_size _ rfl))⟩
  have noneS : ∀ b, D' ≤ b → s.heap.get? b = none := fun b hb' => by
    cases e : s.heap.get? b with
    | none => rfl
    | some o => have := Heap.lt_size e; rw [hD] at this; exact absurd this (Nat.not_lt.mpr hb')
  have hCle : D' ≤ C := by rw [hC]; exact Nat.le_succ _
  have h0 : ∀ b, D' ≤ b → G.h₀.get? b = none := fun b hb' => S.new (noneS b hb')
  obtain ⟨mL, hnL⟩ := hn
  obtain ⟨oL, esL, nL, eL, dL, _⟩ := id hnL
  have cL : C ≠ env.locals := fun e => (below _ oL eL).2 e.symm
  have cellS : ∀ y c, env.cells.lookup y = some c → ∃ o, s.heap.get? c = some o := fun y c e => by
    obtain ⟨ov, ⟨o, e', _⟩, _⟩ := L₀.cell y c e
    exact ⟨o, k₀ c o (L₀.offC y c e).2 e'⟩
  have cc : ∀ y, env.cells.lookup y ≠ some C := fun y e => by
    obtain ⟨o, e'⟩ := cellS y C e
    exact (below _ o e').2 rfl
  have zne : ∀ b ∈ [z, TI, TO, i1, i2, l1, l2], b ≠ D' ∧ b ≠ C := fun b hb => by
    obtain ⟨o, e⟩ := Z.there b hb
    exact below b o e
  have wrs : ∀ b ∈ [z, TO, i1, i2], b ∈ [z, TI, TO, i1, i2, l1, l2] := fun b hb => by
    simp only [List.mem_cons, List.not_mem_nil, or_false] at hb ⊢
    rcases hb with rfl | rfl | rfl | rfl <;> simp
  have old₀ : ∀ b o, s₀.heap.get? b = some o → b ∉ [z, TO, i1, i2] := fun b o e hm => by
    have : b ∈ [z, TI, TO, i1, i2] := by
      simp only [List.mem_cons, List.not_mem_nil, or_false] at hm ⊢
      rcases hm with rfl | rfl | rfl | rfl <;> simp
    rw [new b this] at e; cases e
  obtain ⟨m0, ⟨oL0, es0, n0, eL0, dL0, _⟩, _⟩ := L₀.ns
  have tup₀ : ∀ {h : Heap}, (∀ b o, b ≠ env.locals → s₀.heap.get? b = some o → h.get? b = some o) → TupKeep s₀.heap h := fun k a vs ⟨o, e, r⟩ => ⟨o, k a o (fun q => by
    subst q
    rw [eL0] at e; cases e
    obtain ⟨_, n', hd⟩ := r
    rw [dL0] at hd; cases hd) e, r⟩
  have X' : CompOk env scope cl Γc Γc := ⟨X.clos, X.kind, X.nocell, X.names, X.cells, X.has, fun p hp => ⟨hΓc p hp, (X.vals p hp).2⟩⟩
  have loop : ∀ s₃ : Shared, (∃ tk, s₃ = ⟨h₁, ga, da, tk, oa⟩) →
      codeAny (model G.prog G.w) A (.compLoop (.ListComp elt [⟨.Tuple [.Name x px, .Name y py] kt pt, iter, [t], 0⟩] scope pos) 0 (.ref z) (.ref D') (compEnvC scope cl C env)) (compPost (model G.prog G.w) A E none Q (.ref D') C) s₃ := by
    rintro s₃ ⟨tk, rfl⟩
    refine compLoop_gen (fun n s' => ∃ i, n + i = as.length ∧ StG G [] [] s' ∧ (∀ b o, b ∉ [z, TO, i1, i2] → s.heap.get? b = some o → s'.heap.get? b = some o) ∧ ZS z TI TO i1 i2 l1 l2 xs.toArray ys.toArray i .none (.bool false) s'.heap ∧ s'.heap.PlainList D' #[] ∧ ∃ m, s'.heap.Ns C m) ?_ as.length
      ⟨0, rfl, Sa.bareAt (fun b o e => old b o (S.base b o e)) rfl rfl, fun b o _ e => old b o e, Z.at fun b _ o e => old b o e, hacc, ⟨_, hns₁⟩⟩
    rintro n s' ⟨i, hni, S', k', Z', acc', mC, hmC⟩
    have thereD : ∀ b ∈ [z, TO, i1, i2], b ≠ D' ∧ b ≠ C := fun b hb => zne b (wrs b hb)
    by_cases hi : i < as.length
    · have hu : as[i]? = some as[i] := by simp [hi]
      have hib : i < bs.length := by lia
      have hv : bs[i]? = some bs[i] := by simp [hib]
      obtain ⟨cu, ecu, ru⟩ := r1.get hu
      obtain ⟨cv, ecv, rv⟩ := r2.get hv
      refine next_free D Z' (x := cu) (y := cv) (by simpa using ecu) (by simpa using ecv) fun h' Z₁ P₁ hsz hk => ?_
      dsimp only
      refine wpAny_letOwnedTupleGo_zip (s := { s' with heap := h' }) Z₁.z fun h'' hz'' hs'' => ?_
      have kk : ∀ b o, b ∉ [z, TO, i1, i2] → s'.heap.get? b = some o → h''.get? b = some o := fun b o hb e => by
        simp only [List.mem_cons, List.not_mem_nil, or_false, not_or] at hb
        exact hs''.extBut b o hb.1 (hk b o hb.1 hb.2.1 hb.2.2.1 hb.2.2.2 e)
      have ks : ∀ b o, b ∉ [z, TO, i1, i2] → s.heap.get? b = some o → h''.get? b = some o := fun b o hb e => kk b o hb (k' b o hb e)
      have k0 : ∀ b o, b ≠ env.locals → s₀.heap.get? b = some o → h''.get? b = some o := fun b o hb e => ks b o (old₀ b o e) (k₀ b o hb e)
      have hLoc : env.locals ∉ [z, TO, i1, i2] := old₀ _ _ eL0
      have nsL : ∃ m, h''.Ns env.locals m := ⟨mL, hnL.at' fun o e => ks _ o hLoc e⟩
      have S₁ : StG G [] [] { s' with heap := h'' } := S'.bareAt (fun b o e => ks b o (fun hm => by
        have := S₀.base b o e
        exact old₀ b o this hm) (S.base b o e)) rfl rfl
      have nsC : h''.Ns C mC := hmC.at' fun o e => kk _ o (fun hm => (thereD C hm).2 rfl) e
      have L₁ : StL G (compEnvC scope cl C env) Γc [] h'' := X'.frame (L₀.redo (fun p hp => ⟨(X.vals p hp).1, (X.vals p hp).2.1⟩) k0 nsL) nsC (by simp) cL cc (h0 C hCle)
      have Z₂ : ZS z TI TO i1 i2 l1 l2 xs.toArray ys.toArray (i + 1) .none (.bool false) h'' := by
        obtain ⟨a, b, e⟩ := Z₁.to
        exact ⟨hz'', hs''.extBut _ _ D.TIz Z₁.ti, ⟨a, b, hs''.extBut _ _ D.TOz e⟩, Z₁.it1.extBut hs''.extBut D.i1z, Z₁.it2.extBut hs''.extBut D.i2z, Z₁.l1.extBut hs''.extBut D.l1z, Z₁.l2.extBut hs''.extBut D.l2z⟩
      have Tz : s'.heap.objs.size ≠ z := fun q => by have := Heap.lt_size Z'.z; rw [← q] at this; exact Nat.lt_irrefl _ this
      have hT : h''.IsTuple s'.heap.objs.size #[cu, cv] := ⟨_, hs''.extBut _ _ Tz P₁, rfl, _, rfl⟩
      refine assign_pair R.handled (.inl (hx C)) (.inl (hy C)) S₁ L₁ hT (ru.mono (tup₀ k0) (Pre.refl _)) (rv.mono (tup₀ k0) (Pre.refl _)) fun s₂ S₂ L₂ mv => ?_
      refine ht i _ _ C hu hv A s₂ [] _ _ R S₂ L₂ fun s₃ ρ₃ S₃ x₃ => ?_
      have eρ : ρ₃ = [] := List.eq_nil_of_length_eq_zero (by rw [S₃.len]; rfl)
      subst eρ
      first | refine PySem.wpAny_ite_false rfl ?_ | simp only [Bool.false_eq_true, if_false]
      have k2 : ∀ b o, b ≠ C → h''.get? b = some o → s₃.heap.get? b = some o := fun b o hb e => x₃.keep b o (by simp) (mv.keepL ⟨hx C, hy C⟩ b o (by simp) hb e)
      obtain ⟨m3, hm3, _⟩ := (L₂.keep S₂ x₃).ns
      obtain ⟨pn, ep⟩ := acc'
      exact ⟨n - 1, by lia, i + 1, by lia, S₃, fun b o hb e => k2 b o (below b o e).2 (ks b o hb e), Z₂.at fun b hb o e => k2 b o (zne b hb).2 e, ⟨pn, k2 _ _ hDC (kk _ _ (fun hm => (thereD D' hm).1 rfl) ep)⟩, ⟨m3, hm3⟩⟩
    · have hi' : i = as.length := by lia
      have hx0 : xs.toArray[i]? = none := by
        have := r1.length
        simp only [List.getElem?_toArray]
        rw [List.getElem?_eq_none]; lia
      refine next_end R.handled D Z' (.inl ⟨rfl, rfl⟩) (by first | exact hx0 | exact .inl hx0) fun h' hk => ?_
      have kk : ∀ b o, b ∉ [z, TO, i1, i2] → s'.heap.get? b = some o → h'.get? b = some o := fun b o hb e => by
        simp only [List.mem_cons, List.not_mem_nil, or_false, not_or] at hb
        exact hk b o hb.1 hb.2.1 hb.2.2.1 hb.2.2.2 e
      refine ⟨mC, hmC.at' fun o e => kk _ o (fun hm => (thereD C hm).2 rfl) e, fun h₆ hs₆ => ?_⟩
      have ks : ∀ b o, b ∉ [z, TO, i1, i2] → s.heap.get? b = some o → h₆.get? b = some o := fun b o hb e => hs₆.extBut b o (below b o e).2 (kk b o hb (k' b o hb e))
      obtain ⟨pn, ep⟩ := acc'
      have eD : h₆.get? D' = some _ := hs₆.extBut _ _ hDC (kk _ _ (fun hm => (thereD D' hm).1 rfl) ep)
      refine hQ _ D' ⟨fun b o e => ks b o (fun hm => old₀ b o (S₀.base b o e) hm) (S.base b o e), fun a ha => by rw [List.mem_singleton.mp ha]; exact h0 D' (Nat.le_refl _), by simp, rfl, fun j a o hj ho => ?_, S'.gens, S'.os⟩ ks
      cases j with
      | succ j => simp at hj
      | zero =>
        simp at hj ho
        subst hj; subst ho
        exact ⟨[], pn, eD, .nil⟩
  exact codeAny_compStart_list (loop _ ⟨_, rfl⟩) (wpAny_pyIter_zip (Z.at fun b _ o e => old b o e).z (loop _ ⟨_, rfl⟩))
end
end Mine
end
section
open PySem PySem.W PyProof.Rows
set_option linter.unusedVariables false
set_option linter.unusedSimpArgs false
set_option maxRecDepth 100000
namespace Mine
/-- a text that gives True back -/
noncomputable def RJ (G : Glo) (env : Env) (d : Nat) (Γ : List (Str × AV)) (σ : List AObj) (t : Sem Flow) : Prop :=
  ∀ (A : Around) (s : Shared) (ρ : List Addr) (Q : Flow → Shared → Prop) (E : Value → Shared → Prop), Room A d → StG G σ ρ s → StL G env Γ ρ s.heap → (∀ s' σ' ρ', StG G σ' ρ' s' → Q (.ret (.bool true)) s') → wpAny (model G.prog G.w) A t Q E s
theorem RJ.of {G : Glo} {env : Env} {d : Nat} {Γ : List (Str × AV)} {σ : List AObj} {t : Sem Flow} (h : SJR G env d Γ σ t (.bool true)) : RJ G env d Γ σ t := fun A s ρ Q E R S L hQ => by
  obtain ⟨Γf, σf, h⟩ := h
  refine h A s ρ Q E R S L fun fl s' ρ' S' L' x r => ?_
  cases fl with
  | ret v =>
    obtain rfl := Rep.bool_ r
    exact hQ s' _ _ S'
  | next => exact r.elim
  | brk => exact r.elim
  | cont => exact r.elim
theorem RJ.cons {G : Glo} {env : Env} {d : Nat} {Γ Γ₁ : List (Str × AV)} {σ σ₁ : List AObj} {st : Stmt} {rest : List Stmt} (h1 : SJ G env d Γ σ (exec st env) .next Γ₁ σ₁) (h2 : RJ G env d Γ₁ σ₁ (execs rest env)) : RJ G env d Γ σ (execs (st :: rest) env) := fun A s ρ Q E R S L hQ =>
  wpAny_execs_cons (SJ.goN R S L h1 fun s' ρ' S' L' x => h2 A s' ρ' Q E R S' L' hQ)
theorem ne_add {N L : Nat} (h : L < N) (k : Nat) : N + k ≠ L := by lia
section
variable {G : Glo} (X : Fns G)
include X
variable {L fa : Addr} {cd : Value} {a : Addr}

set_option maxHeartbeats 2000000 in
theorem post_tops {σ : List AObj} {j many : Nat} {over : Bool} {w : Int} {leaf : T} {ref : Bool} {told : Tab} {l : List T} (hj : σ[j]? = some (AObj.sdict told.av)) (hok : told.ok = true) (hlf : leaf.fair = true) (hw : 0 ≤ w) (ht : lookT told "?t" = some (.nd "f" l)) (hl : l.length = 7) (hlead : ∀ (i : Nat) u n, l[i]? = some u → tops[i]? = some n → leadsP w leaf n 0 u = true) :
    RJ G (lawE L fa cd) 12 (gH 5 many over w leaf ref (.ref j)) σ (execs (lawBody.drop 17) (lawE L fa cd)) := fun A s ρ Q E R S L₀ hQ => by
  have tok : (T.nd "f" l).ok = true := lookT_ok hok ht
  have kok := (T.ok_nd tok).2.2
  refine wpAny_execs_cons (wpAny_If ((TJ.is (c := true) (TJ.cmp EJ.var EJ.cInt (O2.eq rfl rfl)) (by decide)) A s ρ _ E R S L₀ fun s₁ ρ₁ S₁ x₁ => ?_))
  first | refine PySem.wpAny_ite_true rfl ?_ | simp only [if_true]
  have L₁ := L₀.keep S x₁
  refine wpAny_execs_cons (SJ.goN R S₁ L₁ (SJ.assign (v := (T.nd "f" l).av) (EJ.sub EJ.var EJ.cStr (Sub.dict hj (by rw [look_av, ht]; rfl)))) fun s₂ ρ₂ S₂ L₂ x₂ => ?_)
  have S₃ := S₂.bare
  have L₃ : StL G (lawE L fa cd) [("leaf", leaf.av), ("ways", .int w), ("t", (T.nd "f" l).av)] [] s₂.heap := by
    have := (L₂.weaken (Γ' := [("leaf", leaf.av), ("ways", .int w), ("t", (T.nd "f" l).av)]) ?_).cut (n := 0) ?_
    · simpa using this
    · intro y v hv
      have hm := mem_of_lookup hv
      simp only [List.mem_cons, List.not_mem_nil, or_false, Prod.mk.injEq] at hm
      rcases hm with ⟨rfl, rfl⟩ | ⟨rfl, rfl⟩ | ⟨rfl, rfl⟩ <;> rfl
    · intro p hp
      simp only [List.mem_cons, List.not_mem_nil, or_false] at hp
      rcases hp with rfl | rfl | rfl
      · exact T.av_lt _ _
      · rfl
      · exact T.av_lt _ _
  rw [T.av_nd] at L₃
  refine wpAny_execs_cons (wpAny_Assign_Name (callT_raw X.T.ok R S₃ L₃ (X.m) rfl ((EsJ.cons (EJ.tail EJ.var (by simp; lia)) (EsJ.cons (EJ.mkTuple (vs := tops.map fun (k : Nat) => AV.int (k : Int)) (EsJ.cons EJ.cInt (EsJ.cons EJ.cInt (EsJ.cons EJ.cInt (EsJ.cons EJ.cInt (EsJ.cons EJ.cInt (EsJ.cons EJ.cInt (EsJ.cons EJ.cInt EsJ.nil)))))))) EsJ.nil)) A s₂ [] _ E R S₃ L₃ fun cvs s₃ ρ₃ S₄ x₃ r₃ => ?_)) (by rfl))
  have e3 : ρ₃ = [] := List.eq_nil_of_length_eq_zero (by rw [S₄.len]; rfl)
  subst e3
  obtain ⟨c, c', rfl, r, r'⟩ := r₃.two
  obtain ⟨l1, xs, rfl, ht1, r1⟩ := Rep.tup_ r
  obtain ⟨l2, ys, rfl, ht2, r2⟩ := Rep.tup_ r'
  have L₄ := L₃.keep S₃ x₃
  obtain ⟨o1, q1, c1, n1, d1⟩ := ht1
  obtain ⟨o2, q2, c2, n2, d2⟩ := ht2
  have e1 := Heap.lt_size q1
  have e2 := Heap.lt_size q2
  refine call_zipT ⟨o1, q1, c1, n1, d1⟩ ⟨o2, q2, c2, n2, d2⟩ fun h' Z hsz hk => ?_
  have S₅ : StG G [] [] { s₃ with heap := h' } := S₄.ext (s' := { s₃ with heap := h' }) hk rfl rfl
  have tk : TupKeep s₃.heap h' := S₄.tupKeep (KeepX.of_all (ρ := []) hk)
  have L₅ : StL G (lawE L fa cd) _ [] h' := L₄.at (fun o e => hk _ o e) (fun _ _ o _ e => hk _ o e) tk
  refine store (x := "tops") S₅ L₅ (.inl rfl) (.opq (s₃.heap.objs.size + 4)) fun s₆ S₆ L₆ st => ?_
  have k₆ : ∀ b o, b ≠ L → s₃.heap.get? b = some o → s₆.heap.get? b = some o := fun b o hb e => st.keepL rfl b o hb (hk b o e)
  obtain ⟨mL, ⟨oL, esL, nL, eL, dL, _⟩, _⟩ := L₄.ns
  have eL' : s₃.heap.get? L = some oL := eL
  have Lsz := Heap.lt_size eL'
  have Zne : ∀ b ∈ [s₃.heap.objs.size + 4, s₃.heap.objs.size + 2, s₃.heap.objs.size + 3, s₃.heap.objs.size, s₃.heap.objs.size + 1, l1, l2], b ≠ L := fun b hb => by
    simp only [List.mem_cons, List.not_mem_nil, or_false] at hb
    rcases hb with rfl | rfl | rfl | rfl | rfl | rfl | rfl
    · exact ne_add Lsz 4
    · exact ne_add Lsz 2
    · exact ne_add Lsz 3
    · exact ne_add Lsz 0
    · exact ne_add Lsz 1
    · rintro rfl; rw [eL'] at q1; cases q1; rw [d1] at dL; cases dL
    · rintro rfl; rw [eL'] at q2; cases q2; rw [d2] at dL; cases dL
  have Z₆ := Z.at (h' := s₆.heap) fun b hb o e => st.keepL rfl b o (Zne b hb) e
  have D : ZipApart (s₃.heap.objs.size + 4) (s₃.heap.objs.size + 2) (s₃.heap.objs.size + 3) s₃.heap.objs.size (s₃.heap.objs.size + 1) l1 l2 := zipApart_new e1 e2
  refine wpAny_execs_cons (wpAny_Return_some (and3 ?_))
  refine (EJ.is (c := .bool true) (EJ.cmp (x := .str "f") (y := .str "f") (EJ.sub EJ.var EJ.cInt (Sub.tup (j := 0) rfl (by simp [seqIndex?]))) EJ.cStr (O2.eq (x := .str "f") (y := .str "f") (by decide +kernel) (by decide +kernel))) (by decide)) A s₆ [] _ E R S₆ L₆ fun cv s₇ ρ₇ S₇ x₇ r₇ => ?_
  (first | obtain ⟨_, rfl⟩ := Rep.int_ r₇ | obtain ⟨_, rfl⟩ := Rep.str_ r₇ | obtain rfl := Rep.bool_ r₇ | obtain rfl := Rep.none_ r₇ | obtain rfl := Rep.opq_ r₇ | obtain ⟨_, rfl, _⟩ := Rep.ref_ r₇ | cases r₇)
  refine wpAny_truthy_bool ?_
  first | refine PySem.wpAny_ite_true rfl ?_ | simp only [if_true]
  have e7 : ρ₇ = [] := List.eq_nil_of_length_eq_zero (by rw [S₇.len]; rfl)
  subst e7
  have L₇ := L₆.keep S₆ x₇
  refine wpAny_And2 ?_
  refine (EJ.is (c := .bool true) (EJ.cmp (EJ.callB X.T.ok X.m rfl (EsJ.cons EJ.var EsJ.nil) (OJ.lenT (by simp; lia))) EJ.cInt (O2.eq (x := .int ((AV.str "f" :: l.map T.av).length : Int)) (y := .int 8) rfl rfl)) (by simp; lia)) A s₇ [] _ E R S₇ L₇ fun cv s₈ ρ₈ S₈ x₈ r₈ => ?_
  (first | obtain ⟨_, rfl⟩ := Rep.int_ r₈ | obtain ⟨_, rfl⟩ := Rep.str_ r₈ | obtain rfl := Rep.bool_ r₈ | obtain rfl := Rep.none_ r₈ | obtain rfl := Rep.opq_ r₈ | obtain ⟨_, rfl, _⟩ := Rep.ref_ r₈ | cases r₈)
  refine wpAny_truthy_bool ?_
  first | refine PySem.wpAny_ite_true rfl ?_ | simp only [if_true]
  have e8 : ρ₈ = [] := List.eq_nil_of_length_eq_zero (by rw [S₈.len]; rfl)
  subst e8
  have L₈ := L₇.keep S₇ x₈
  have k₈ : ∀ b o, s₆.heap.get? b = some o → s₈.heap.get? b = some o := fun b o e => x₈.keep b o (by simp) (x₇.keep b o (by simp) e)
  refine wpAny_Compare1 ?_
  have hn : ∃ m, s₈.heap.Ns (lawE L fa cd).locals m := let ⟨m, hm, _⟩ := L₈.ns; ⟨m, hm⟩
  refine comp_zip (cl := [("ways", L + 2), ("leaf", L + 1)]) (Γc := [("leaf", leaf.av), ("ways", .int w)]) R S₄ L₄ S₈ (fun b o hb e => k₈ b o (k₆ b o hb e)) hn D (Z₆.at fun b _ o e => k₈ b o e) (fun b hb => Heap.get?_none_of_le (by
    simp only [List.mem_cons, List.not_mem_nil, or_false] at hb
    rcases hb with rfl | rfl | rfl | rfl | rfl <;> first | exact Nat.le_refl _ | exact Nat.le_add_right _ _)) r1 r2 (by simp [tops, hl]) ?_ ?_ ?_ (by intro C; rfl) (by intro C; rfl) ?_ ?_ fun s₉ D' S₉ k₉ => ?_
  · intro Q E h
    obtain ⟨m8, hn8, hm8⟩ := L₈.ns
    obtain ⟨cv, hcv, rcv⟩ := hm8 "tops" (.opq (s₃.heap.objs.size + 4)) rfl rfl
    cases rcv
    exact wpAny_Name (wpAny_loadName_local L₈.kind rfl hn8 hcv (h s₈ rfl S₈)) (by decide)
  · refine CompOk.of rfl rfl rfl rfl ?_ rfl ?_
    · intro p hp
      simp only [List.mem_cons, List.not_mem_nil, or_false] at hp
      rcases hp with rfl | rfl <;> rfl
    · intro p hp
      simp only [List.mem_cons, List.not_mem_nil, or_false] at hp
      rcases hp with rfl | rfl <;> exact ⟨rfl, rfl, rfl⟩
  · intro p hp
    simp only [List.mem_cons, List.not_mem_nil, or_false] at hp
    rcases hp with rfl | rfl <;> rfl
  · intro u v p hp
    simp only [List.mem_cons, List.not_mem_nil, or_false] at hp
    rcases hp with rfl | rfl <;> rfl
  · intro i u v C hu hv
    rw [List.getElem?_map] at hu hv
    obtain ⟨kid, hkid, rfl⟩ := Option.map_eq_some_iff.mp hu
    obtain ⟨n, hnn, rfl⟩ := Option.map_eq_some_iff.mp hv
    have okk : kid.ok = true := T.oks_mem kok (List.mem_of_getElem? hkid)
    have n12 : n ≤ 1000 := by
      have : ∀ n ∈ tops, n ≤ 1000 := by decide
      exact this n (List.mem_of_getElem? hnn)
    have hl := hlead i kid n hkid hnn
    exact TsJ.one (TJ.is (TJ.neg (TJ.val (EJ.callF X.leads.F X.T.ok (EsJ.cons EJ.var (EsJ.cons EJ.var (EsJ.cons EJ.var (EsJ.cons EJ.var EsJ.nil)))) ((c_leads X okk hlf n12 hw).mono (by lia))) B1.bool)) (by rw [hl]; rfl))
  · have k3 : ∀ b o, b ≠ L → s₃.heap.get? b = some o → s₉.heap.get? b = some o := fun b o hb e => k₉ b o (fun hm => by
      have lt := Heap.lt_size e
      simp only [List.mem_cons, List.not_mem_nil, or_false] at hm
      rcases hm with rfl | rfl | rfl | rfl
      · exact absurd lt (Nat.not_lt.mpr (Nat.le_add_right _ _))
      · exact absurd lt (Nat.not_lt.mpr (Nat.le_add_right _ _))
      · exact absurd lt (Nat.lt_irrefl _)
      · exact absurd lt (Nat.not_lt.mpr (Nat.le_add_right _ _))) (k₈ b o (k₆ b o hb e))
    obtain ⟨m8, hm8⟩ := hn
    have hLw : L ∉ [s₃.heap.objs.size + 4, s₃.heap.objs.size + 3, s₃.heap.objs.size, s₃.heap.objs.size + 1] := fun hm => by
      simp only [List.mem_cons, List.not_mem_nil, or_false] at hm
      rcases hm with q | q | q | q
      · exact ne_add Lsz 4 q.symm
      · exact ne_add Lsz 3 q.symm
      · exact ne_add Lsz 0 q.symm
      · exact ne_add Lsz 1 q.symm
    have hn9 : StL G (lawE L fa cd) [] [] s₉.heap := L₄.redo (by intro p hp; cases hp) k3 ⟨m8, hm8.at' fun o e => k₉ _ o hLw e⟩
    have oD := S₉.objs 0 D' (AObj.list []) rfl rfl
    obtain ⟨vsD, nD, eD, _⟩ := oD
    obtain ⟨u1, u2⟩ := kinds_off hn9 (b := D') ⟨_, eD, (fun _ _ q => by cases q), (fun _ q => by cases q)⟩
    have L₉ : StL G (lawE L fa cd) [] [D'] s₉.heap := hn9.grow u1 u2
    refine EJ.mkList (vs := []) EsJ.nil (by decide) A s₉ [D'] _ E R S₉ L₉ fun cb s₁₀ ρ₁₀ S₁₀ x₁₀ r₁₀ => ?_
    refine (O2.eqL (i := 0) (j := 1) (l := []) (m := []) rfl rfl rfl rfl (by decide)) A s₁₀ ρ₁₀ (.ref D') cb _ E R S₁₀ (.ref (x₁₀.pre 0 D' rfl)) r₁₀ fun cv s' ρ' S' x' r' => ?_
    (first | obtain ⟨_, rfl⟩ := Rep.int_ r' | obtain ⟨_, rfl⟩ := Rep.str_ r' | obtain rfl := Rep.bool_ r' | obtain rfl := Rep.none_ r' | obtain rfl := Rep.opq_ r' | obtain ⟨_, rfl, _⟩ := Rep.ref_ r' | cases r')
    exact hQ _ _ _ S'
end
end Mine
end
section
open PySem PySem.W PyProof.Rows
set_option linter.unusedVariables false
set_option linter.unusedSimpArgs false
set_option maxRecDepth 100000
namespace Mine
section
variable {G : Glo} {env : Env} {d : Nat} {Γ Γ' Γ₁ Γ₂ : List (Str × AV)} {σ σ' σ₁ σ₂ σ₃ : List AObj} {ρ ρ' ρ₁ ρ₂ ρ₃ : List Addr} {s s' s₁ : Shared} {h h' h₁ h₂ h₃ : Heap}

theorem StL.slots (L : StL G env Γ ρ s.heap) (S : StG G σ ρ s) (x : ExtF [env] ρ ρ' s.heap h') (hf : env.frame = some env.locals) : StL G env Γ ρ' h' := by
  obtain ⟨m, ⟨o, es, n, ho, hd, hk⟩, hm⟩ := L.ns
  have fr : frs [env] = [env.locals] := frs_cons hf
  have inL : env.locals ∈ frs [env] := by rw [fr]; exact .head _
  have outL : ∀ b, b ≠ env.locals → b ∉ frs [env] := fun b hb hm => by rw [fr] at hm; exact hb (List.mem_singleton.mp hm)
  obtain ⟨sl, ho'⟩ := x.slots _ inL o ho
  have tk : TupKeep s.heap h' := fun a vs ⟨oa, e, r⟩ => by
    have hn := S.tup ⟨oa, e, r⟩
    refine ⟨oa, x.keep a oa hn (outL a fun q => ?_) e, r⟩
    subst q
    rw [ho] at e; cases e
    obtain ⟨_, n', hd'⟩ := r
    rw [hd] at hd'; cases hd'
  refine ⟨L.kind, L.glob, L.blt, ⟨m, ⟨_, es, n, ho', hd, hk⟩, fun y v hk hv => ?_⟩, fun y c hc => ?_, L.has, fun hm' => ?_, fun y c hc => ⟨fun hm' => ?_, (L.offC y c hc).2⟩, L.newL, L.newC, L.apart⟩
  · obtain ⟨cv, e, r⟩ := hm y v hk hv
    exact ⟨cv, e, r.mono tk x.pre⟩
  · obtain ⟨ov, ⟨oc, e, hdc⟩, hh⟩ := L.cell y c hc
    refine ⟨ov, ⟨oc, x.keep c oc (L.offC y c hc).1 (outL c (L.offC y c hc).2) e, hdc⟩, fun v hk hv => ?_⟩
    obtain ⟨cv, e1, r⟩ := hh v hk hv
    exact ⟨cv, e1, r.mono tk x.pre⟩
  · rcases x.new _ hm' with q | q
    · exact L.offL q
    · rw [ho] at q; cases q
  · obtain ⟨ov, ⟨oc, e, hdc⟩, hh⟩ := L.cell y c hc
    rcases x.new _ hm' with q | q
    · exact (L.offC y c hc).1 q
    · rw [e] at q; cases q

theorem Stk.one {A : Around} (hfr : A.frames = some [env]) (L : StL G env Γ ρ h) (hf : env.frame = some env.locals) : Stk G A [env] ρ h := by
  obtain ⟨m, ⟨o, es, n, ho, hd, _⟩, _⟩ := L.ns
  refine ⟨hfr, ⟨by rw [L.kind]; decide, ⟨env.locals, o, hf, L.newL, ho, fun vs q => by rw [hd] at q; cases q⟩, trivial⟩, fun b hb => ?_, fun b hb => ?_⟩
  · rw [frs_cons hf] at hb
    rcases List.mem_cons.mp hb with rfl | hb
    · exact L.offL
    · cases hb
  · rw [frs_cons hf] at hb
    rcases List.mem_cons.mp hb with rfl | hb
    · exact ⟨o, es, n, ho, hd⟩
    · cases hb

theorem h_callF {f : Str} {fa : Addr} {fd : FuncData} {names : List Str} {body : List Stmt} (F : Fn G f fa fd names body) (K : GloOK G) {e : Expr} {es : List Expr} {p pos : Pos} {args : List AV} {v : AV}
    (h1 : EsJ G env d Γ σ (spliced (backTo pos (starEach (e :: es) env))) args σ₁) (h2 : CallH G d fa args σ₁ v σ₂) {A : Around} {s : Shared} {ρ : List Addr} {Q : Value → Shared → Prop} {E : Value → Shared → Prop} (R : Room A d) (S : StG G σ ρ s) (L : StL G env Γ ρ s.heap)
    (hfr : A.frames = some [env]) (hf : env.frame = some env.locals) (h : ∀ cv s' ρ', StG G σ₂ ρ' s' → StL G env Γ ρ' s'.heap → Rep s'.heap ρ' cv v → Q cv s')
    (hx : env.kindOf f = some .globalImplicit := by rfl) (hd : (f == ("__debug__" : Str)) = false := by decide) (he : starEach (e :: es) env = (false, eval e env) :: starEach es env := by rfl) (hpl : (backTo pos (starEach es env)).any (·.1) = false := by rfl) :
    wpAny (model G.prog G.w) A (eval (.Call (.Name f p) (e :: es) [] pos) env) Q E s := by
  obtain ⟨o, ho, hdt⟩ := F.at_
  refine Call_Name rfl (Calls.Name_function_global L.kind hx (Calls.loadGlobal_global (by rw [L.glob]; exact K.glob.keeps S.base) F.name ?_) hd)
  refine callWith_def (o := o) hdt (h1 A s ρ _ E R S L fun cvs s₁ ρ₁ S₁ x₁ r₁ => ⟨S₁.base _ _ ho, wpAny_call ?_⟩) he
  have L₁ := L.keep S x₁
  exact h2 A s₁ ρ₁ cvs _ [env] R S₁ r₁ (Stk.one hfr L₁ hf) fun cv s' ρ' S' x r => h cv s' ρ' S' (L₁.slots S₁ x hf) r
end

/-- a text that gives True back, run by the law's own frame -/
noncomputable def RK (G : Glo) (env : Env) (d : Nat) (Γ : List (Str × AV)) (σ : List AObj) (t : Sem Flow) : Prop :=
  ∀ (A : Around) (s : Shared) (ρ : List Addr) (Q : Flow → Shared → Prop) (E : Value → Shared → Prop), A.frames = some [env] → Room A d → StG G σ ρ s → StL G env Γ ρ s.heap → (∀ s' σ' ρ', StG G σ' ρ' s' → Q (.ret (.bool true)) s') → wpAny (model G.prog G.w) A t Q E s
theorem RK.of {G : Glo} {env : Env} {d : Nat} {Γ : List (Str × AV)} {σ : List AObj} {t : Sem Flow} (h : RJ G env d Γ σ t) : RK G env d Γ σ t := fun A s ρ Q E _ R S L hQ => h A s ρ Q E R S L hQ
theorem RK.run {G : Glo} {env : Env} {d : Nat} {Γ Γ₁ : List (Str × AV)} {σ σ₁ : List AObj} {b : List Stmt} {n : Nat} (m : Nat) (h1 : SJ G env d Γ σ (execs ((b.drop n).take m) env) .next Γ₁ σ₁) (h2 : RK G env d Γ₁ σ₁ (execs (b.drop (n + m)) env)) : RK G env d Γ σ (execs (b.drop n) env) := fun A s ρ Q E hfr R S L hQ => by
  rw [← List.take_append_drop m (b.drop n), execs_append]
  refine wpAny_bind (SJ.goN R S L h1 fun s' ρ' S' L' x => ?_)
  have := h2 A s' ρ' Q E hfr R S' L' hQ
  rw [← List.drop_drop] at this
  exact this

section
variable {G : Glo} (X : Fns G)
include X
variable {L fa : Addr} {cd : Value} {a : Addr}
theorem law_heard {k : Nat} {cells : List Int} (hc : cells.length ≤ 100) (hk : k ≤ 100) {N : List Str} {way many : Nat} {over : Bool} {w : Int} {one other : T} {σ σ' : List AObj} {ref ord : Bool} {v : AV} (h : LS k cells N σ) (ho : ord = decide (clipP cells k 2 = 0))
    (hh : CallH G 11 X.heard.a [(if ord then one else other).av, (if ord then other else one).av] (σ.set 0 (reelO 1 (k + 1))) (.tup [.bool ref, v]) σ')
    (hr : RK G (lawE L fa cd) 12 (gH way many over w (vT "?x0") ref v) σ' (execs (lawBody.drop 13) (lawE L fa cd))) :
    RK G (lawE L fa cd) 12 (gArgs way many over w one other) σ (execs (lawBody.drop 12) (lawE L fa cd)) := fun A s ρ Q E hfr R S L₀ hQ => by
  have hf : (lawE L fa cd).frame = some (lawE L fa cd).locals := rfl
  have fin : ∀ cv s' ρ', StG G σ' ρ' s' → StL G (lawE L fa cd) (gArgs way many over w one other) ρ' s'.heap → Rep s'.heap ρ' cv (.tup [.bool ref, v]) → ∀ {x y : Str} {px py pt : Pos} {kt : Nat}, x = "is_refused" → y = "told" →
      wpAny (model G.prog G.w) A (PySem.assign (.Tuple [.Name x px, .Name y py] kt pt) (lawE L fa cd) cv) (fun _ s'' => wpAny (model G.prog G.w) A (execs (lawBody.drop 13) (lawE L fa cd)) Q E s'') E s' := fun cv s' ρ' S' L' r' => by
    intro x y px py pt kt hx hy
    subst hx; subst hy
    obtain ⟨t, vs, rfl, ht, rl⟩ := Rep.tup_ r'
    obtain ⟨cu, cv, rfl, ru, rv⟩ := rl.two
    obtain ⟨o, e, hc, n, hd⟩ := ht
    refine assign_pair R.handled (.inl rfl) (.inr rfl) S' L' ⟨o, e, hc, n, hd⟩ ru rv fun s₂ S₂ L₂ mv => ?_
    refine hr A s₂ ρ' Q E hfr R S₂ (L₂.weaken fun y v hv => ?_) hQ
    have hm := mem_of_lookup hv
    simp only [gH, List.mem_cons, List.not_mem_nil, or_false, Prod.mk.injEq] at hm
    rcases hm with ⟨rfl, rfl⟩ | ⟨rfl, rfl⟩ | ⟨rfl, rfl⟩ | ⟨rfl, rfl⟩ | ⟨rfl, rfl⟩ | ⟨rfl, rfl⟩ | ⟨rfl, rfl⟩ | ⟨rfl, rfl⟩ | ⟨rfl, rfl⟩ <;> rfl
  refine wpAny_execs_cons (wpAny_Assign_stores (wpAny_IfExp ((TJ.is (c := ord) (TJ.cmp (x := .int (clipP cells k 2)) (y := .int 0) (EJ.callF X.clip.F X.T.ok (EsJ.cons EJ.var (EsJ.cons EJ.cInt EsJ.nil)) ((c_clip X (c := 1) (a := k) h.r0 h.r1 hc hk (by decide)).mono (by lia))) EJ.cInt (O2.eq (x := .int (clipP cells k 2)) (y := .int 0) rfl rfl)) (by rw [ho]; simp)) A s ρ _ E R S L₀ fun s₁ ρ₁ S₁ x₁ => ?_)) (by rfl) (by rfl))
  have L₁ := L₀.keep S x₁
  cases ord with
  | true =>
    first | refine PySem.wpAny_ite_true rfl ?_ | simp only [if_true]
    refine h_callF X.heard.F X.T.ok (d := 11) (EsJ.cons EJ.var (EsJ.cons EJ.var EsJ.nil)) hh (R.mono (by lia)) S₁ L₁ hfr hf fun cv s' ρ' S' L' r' => ?_
    exact fin cv s' ρ' S' L' r' (kt := 0) rfl rfl
  | false =>
    first | refine PySem.wpAny_ite_false rfl ?_ | simp only [Bool.false_eq_true, if_false]
    refine h_callF X.heard.F X.T.ok (d := 11) (EsJ.cons EJ.var (EsJ.cons EJ.var EsJ.nil)) hh (R.mono (by lia)) S₁ L₁ hfr hf fun cv s' ρ' S' L' r' => ?_
    exact fin cv s' ρ' S' L' r' (kt := 0) rfl rfl
end
end Mine
end
section
open PySem PySem.W PyProof.Rows
set_option linter.unusedVariables false
set_option linter.unusedSimpArgs false
set_option maxRecDepth 100000
namespace Mine

noncomputable def topMany (way : Nat) (up : Bool) : Nat := if way = 5 then 12 else if up then (if way = 2 then 8 else 14) else if way = 2 then 16 else if way = 4 then 24 else 36
theorem all_range {n : Nat} {p : Nat → Bool} (h : ((List.range n).all p) = true) {m : Nat} (h1 : 1 ≤ m) (h2 : m ≤ n) : p (m - 1) = true := List.all_eq_true.mp h _ (List.mem_range.mpr (by lia))
theorem check01 (many : Nat) (up over ord : Bool) : checkC 1 many up over ord = checkC 0 many up over ord := rfl
theorem check_all {way many : Nat} {up over ord : Bool} (hw : way < 6) (h1 : 1 ≤ many) (h2 : many ≤ topMany way up) (h5 : way = 5 → many = 12) (ho : way ≠ 5 → over = false) : checkC way many up over ord = true := by
  have em : many - 1 + 1 = many := by lia
  rcases lt6 hw with rfl | rfl | rfl | rfl | rfl | rfl
  · obtain rfl := ho (by decide)
    cases up with
    | false =>
      have := all_range k0 h1 h2
      rw [em, Bool.and_eq_true] at this
      cases ord
      · exact this.2
      · exact this.1
    | true =>
      have := all_range k1 h1 h2
      rw [em, Bool.and_eq_true] at this
      cases ord
      · exact this.2
      · exact this.1
  · rw [check01]
    obtain rfl := ho (by decide)
    cases up with
    | false =>
      have := all_range k0 h1 h2
      rw [em, Bool.and_eq_true] at this
      cases ord
      · exact this.2
      · exact this.1
    | true =>
      have := all_range k1 h1 h2
      rw [em, Bool.and_eq_true] at this
      cases ord
      · exact this.2
      · exact this.1
  · obtain rfl := ho (by decide)
    cases up with
    | false =>
      have := all_range k2 h1 h2
      rw [em, Bool.and_eq_true] at this
      cases ord
      · exact this.2
      · exact this.1
    | true =>
      have := all_range k3 h1 h2
      rw [em, Bool.and_eq_true] at this
      cases ord
      · exact this.2
      · exact this.1
  · obtain rfl := ho (by decide)
    cases up with
    | false =>
      have := all_range k4 h1 h2
      rw [em, Bool.and_eq_true] at this
      cases ord
      · exact this.2
      · exact this.1
    | true =>
      have := all_range k5 h1 h2
      rw [em, Bool.and_eq_true] at this
      cases ord
      · exact this.2
      · exact this.1
  · obtain rfl := ho (by decide)
    cases up with
    | false =>
      have := all_range k6 h1 h2
      rw [em, Bool.and_eq_true] at this
      cases ord
      · exact this.2
      · exact this.1
    | true =>
      have := all_range k7 h1 h2
      rw [em, Bool.and_eq_true] at this
      cases ord
      · exact this.2
      · exact this.1
  · obtain rfl := h5 rfl
    exact List.all_eq_true.mp (List.all_eq_true.mp (List.all_eq_true.mp k8 up (by cases up <;> simp)) ord (by cases ord <;> simp)) over (by cases over <;> simp)

theorem runW_cases {n : Nat} {tab : Tab} {o : Out} (h : runW n tab = o) : o = .stuck ∨ (tab.small = true ∧ tab.length < 64 ∧ ∃ out, turnP tab n ((sortS (tab.map (·.1))).map fun s => (s, false)).reverse [] = some out ∧ out.length ≤ 1000 ∧
    ((workP tab out ⟨[], [], []⟩ = some none ∧ o = .refused) ∨ ∃ st, workP tab out ⟨[], [], []⟩ = some (some st) ∧ o = .told st.found)) := by
  unfold runW at h
  split at h
  · rename_i hs
    simp only [Bool.and_eq_true, decide_eq_true_eq] at hs
    split at h
    · exact .inl h.symm
    · rename_i out e2
      split at h
      · rename_i ho
        split at h
        · exact .inl h.symm
        · rename_i e3
          exact .inr ⟨hs.1, hs.2, out, e2, ho, .inl ⟨e3, h.symm⟩⟩
        · rename_i st e3
          exact .inr ⟨hs.1, hs.2, out, e2, ho, .inr ⟨st, e3, h.symm⟩⟩
      · exact .inl h.symm
  · exact .inl h.symm
theorem runU_cases {n : Nat} {u u' : T} {o : Out} (h : runU n u u' = o) : o = .stuck ∨ (begunP n ⟨[], [(u, u')], []⟩ = some none ∧ o = .none) ∨ ∃ tab, begunP n ⟨[], [(u, u')], []⟩ = some (some tab) ∧ runW n tab = o := by
  unfold runU at h
  split at h
  · exact .inl h.symm
  · rename_i e
    exact .inr (.inl ⟨e, h.symm⟩)
  · rename_i tab e
    exact .inr (.inr ⟨tab, e, h⟩)

theorem check_cases {way many : Nat} {up over ord : Bool} {u u' : T} (hu : u = if ord then oneP way many up else otherP way many up over) (hu' : u' = if ord then otherP way many up over else oneP way many up) (h : checkC way many up over ord = true) :
    u.fair = true ∧ u'.fair = true ∧
      ((begunP 400 ⟨[], [(u, u')], []⟩ = some none ∧ is34 way = true) ∨
       (∃ tab out, begunP 400 ⟨[], [(u, u')], []⟩ = some (some tab) ∧ tab.small = true ∧ tab.length < 64 ∧ turnP tab 400 ((sortS (tab.map (·.1))).map fun s => (s, false)).reverse [] = some out ∧ out.length ≤ 1000 ∧
          ((workP tab out ⟨[], [], []⟩ = some none ∧ (decide (12 < many) || over) = true ∧ is34 way = false) ∨
           ∃ st, workP tab out ⟨[], [], []⟩ = some (some st) ∧ (decide (12 < many) || over) = false ∧ is34 way = false ∧ st.found.ok = true ∧ toldOk way many st.found = true))) := by
  unfold checkC at h
  simp only [Bool.and_eq_true] at h
  obtain ⟨⟨f1, f2⟩, h⟩ := h
  rw [← hu, ← hu'] at h
  refine ⟨by rw [hu]; cases ord <;> simp [f1, f2], by rw [hu']; cases ord <;> simp [f1, f2], ?_⟩
  generalize e : runU 400 u u' = o at h
  rcases runU_cases e with rfl | ⟨e1, rfl⟩ | ⟨tab, e1, e2⟩
  · cases h
  · exact .inl ⟨e1, h⟩
  · rcases runW_cases e2 with rfl | ⟨h1, h2, out, h3, h4, h5⟩
    · cases h
    · refine .inr ⟨tab, out, e1, h1, h2, h3, h4, ?_⟩
      rcases h5 with ⟨e3, rfl⟩ | ⟨st, e3, rfl⟩
      · dsimp only at h
        simp only [Bool.and_eq_true] at h
        exact .inl ⟨e3, h.1, by have := h.2; unfold is34; simpa using this⟩
      · dsimp only at h
        simp only [Bool.and_eq_true] at h
        exact .inr ⟨st, e3, by simpa using h.1.1, by have := h.1.2; unfold is34; simpa using this, workP_ok (small_ok h1) out _ st rfl e3, h.2⟩
end Mine
end
section
open PySem PySem.W PyProof.Rows
set_option linter.unusedVariables false
set_option linter.unusedSimpArgs false
set_option maxRecDepth 100000
namespace Mine
theorem RJ.run {G : Glo} {env : Env} {d : Nat} {Γ Γ₁ : List (Str × AV)} {σ σ₁ : List AObj} {b : List Stmt} {n : Nat} (m : Nat) (h1 : SJ G env d Γ σ (execs ((b.drop n).take m) env) .next Γ₁ σ₁) (h2 : RJ G env d Γ₁ σ₁ (execs (b.drop (n + m)) env)) : RJ G env d Γ σ (execs (b.drop n) env) := fun A s ρ Q E R S L hQ => by
  rw [← List.take_append_drop m (b.drop n), execs_append]
  refine wpAny_bind (SJ.goN R S L h1 fun s' ρ' S' L' x => ?_)
  have := h2 A s' ρ' Q E R S' L' hQ
  rw [← List.drop_drop] at this
  exact this
theorem clip_range (ns : List Int) (a : Nat) {m : Int} (hm : 0 < m) : 0 ≤ clipP ns a m ∧ clipP ns a m < m := by
  unfold clipP
  split
  · exact ⟨Int.fmod_nonneg_of_pos _ hm, Int.fmod_lt_of_pos _ hm⟩
  · exact ⟨Int.fmod_nonneg_of_pos _ hm, Int.fmod_lt_of_pos _ hm⟩
section
variable {G : Glo} (X : Fns G)
include X
variable {L fa : Addr} {cd : Value} {a : Addr}

theorem post_told {k : Nat} {cells : List Int} {N : List Str} {σ : List AObj} {j way many : Nat} {w : Int} {told : Tab} (h : LS k cells N σ) (hj : σ[j]? = some (AObj.sdict told.av)) (hok : told.ok = true) (hw6 : way < 6) (hw : 0 ≤ w) (h1 : 1 ≤ many) (h2 : many ≤ 90) (h34 : is34 way = false)
    (hN : N = namesP way many ++ if way = 5 then [("?t" : Str)] else []) (hNl : N.length ≤ 900) (ht : toldOk way many told = true) :
    RJ G (lawE L fa cd) 12 (gH way many false w (vT "?x0") false (.ref j)) σ (execs (lawBody.drop 13) (lawE L fa cd)) := by
  refine RJ.cons (SJ.ifF (TJ.is (TJ.boolOp (TJ.or2 (TJ.is (TJ.cmp EJ.var (EJ.mkTuple (vs := [.int 3, .int 4]) (EsJ.cons EJ.cInt (EsJ.cons EJ.cInt EsJ.nil))) (O2.inT rfl rfl (Nat.le_trans (Nat.min_le_left _ _) (by decide)))) (in34 way)) (fun _ => TJ.val EJ.var B1.bool))) (by rw [h34]; rfl)) SJ.nil) ?_
  refine RJ.cons (SJ.ifF (TJ.is (TJ.cmp EJ.var EJ.cNone O2.is) rfl) SJ.nil) ?_
  show RJ G (lawE L fa cd) 12 (gH way many false w (vT "?x0") false (.ref j)) σ (execs (lawBody.drop 15) (lawE L fa cd))
  unfold toldOk at ht
  simp only [Bool.and_eq_true, decide_eq_true_eq] at ht
  obtain ⟨⟨⟨⟨t1, t2⟩, t3⟩, t4⟩, t5⟩ := ht
  have ok0 : (vT "?x0").ok = true := by decide +kernel
  have hg0 : (vT "?x0").hgt = 0 := by decide +kernel
  have oky : (vT "?y0").ok = true := by decide +kernel
  have hgy : (vT "?y0").hgt = 0 := by decide +kernel
  by_cases w2 : way = 2
  · subst w2
    simp only [if_true, true_and] at t3 t4 t5
    simp only [Bool.and_eq_true, decide_eq_true_eq] at t5
    obtain ⟨⟨u1, u2⟩, u3⟩ := t5
    have hjo : ∃ x, jointOf told = [x] := by
      match e : jointOf told, u1 with
      | [x], _ => exact ⟨x, rfl⟩
    obtain ⟨x, hx⟩ := hjo
    rw [hx] at t3 t4 u2 u3
    have ex : ([x] = (["?x0"] : List Str)) ↔ x = "?x0" := by simp
    have he : lookT told x = some (if x = "?x0" then vT "?y0" else vT "?x0") := by
      simp only [List.map_cons, List.map_nil, List.cons.injEq, and_true] at u2
      rw [u2]
    have t4' : rowFull told "x" many (if x = "?x0" then vT "?y0" else vT "?x0") = true := by
      simpa using t4
    have u3' : rowFull told "y" many (if x = "?x0" then vT "?y0" else vT "?x0") = true := by
      simpa using u3
    generalize hlf : (if x = "?x0" then vT "?y0" else vT "?x0") = lf at he t4' u3'
    have okl : lf.ok = true ∧ lf.hgt = 0 := by
      rw [← hlf]; split
      · exact ⟨oky, hgy⟩
      · exact ⟨ok0, hg0⟩
    obtain ⟨σ', J1, J2, J3⟩ := post_joint X (L := L) (fa := fa) (cd := cd) (many := many) (over := false) (w := w) (ref := false) (by lia) h hj hx he hlf.symm
    refine RJ.run 1 J1 ?_
    have hs : sortS (told.map (·.1)) = sortS (N ++ [x]) := by
      rw [t3, hN]; simp
    obtain ⟨J, P⟩ := post_right X (L := L) (fa := fa) (cd := cd) (way := 2) (over := false) (ref := false) J2 J3 hok t1 t2 hs okl.1 okl.2 hw (by lia) (rowFull_all t4' h1 w)
    refine RJ.run 1 P (RJ.of (post_y X (atL J3) hok okl.1 okl.2 hw (by lia) (by decide) fun _ => rowFull_all u3' h1 w))
  · have e : (if way = 2 ∧ jointOf told = (["?x0"] : List Str) then vT "?y0" else vT "?x0") = vT "?x0" := if_neg (fun q => w2 q.1)
    rw [e] at t4
    refine RJ.cons (SJ.ifF (TJ.is (TJ.cmp EJ.var EJ.cInt (O2.eq (x := .int way) (y := .int 2) rfl rfl)) (by simp; lia)) SJ.nil) ?_
    show RJ G (lawE L fa cd) 12 (gH way many false w (vT "?x0") false (.ref j)) σ (execs (lawBody.drop 16) (lawE L fa cd))
    have hs : sortS (told.map (·.1)) = sortS N := by
      rw [t3, hN]
      by_cases w5 : way = 5
      · simp [w5]
      · simp [w5, w2]
    obtain ⟨J, P⟩ := post_right X (L := L) (fa := fa) (cd := cd) (way := way) (over := false) (ref := false) h hj hok t1 t2 hs ok0 hg0 hw (by lia) (rowFull_all t4 h1 w)
    refine RJ.run 1 P ?_
    by_cases w5 : way = 5
    · subst w5
      rw [if_neg (by decide), if_pos rfl] at t5
      cases et : lookT told "?t" with
      | none => rw [et] at t5; cases t5
      | some t =>
        obtain ⟨f, l⟩ := t
        rw [et] at t5
        simp only [Bool.and_eq_true, decide_eq_true_eq] at t5
        obtain ⟨⟨rfl, v2⟩, v3⟩ := t5
        refine post_tops X (atL hj) hok (T.fair_iff.mpr ⟨ok0, by lia⟩) hw et v2 fun i u n hu hn => ?_
        have hz : (l.zip tops)[i]? = some (u, n) := by rw [List.getElem?_zip_eq_some]; exact ⟨hu, hn⟩
        exact isFull_leads w _ n 0 u (List.all_eq_true.mp v3 (u, n) (List.mem_of_getElem? hz))
    · exact RJ.of (post_y X (atL hj) hok ok0 hg0 hw (by lia) w5 fun q => absurd q w2)
end
end Mine
end
section
open PySem PySem.W PyProof.Rows
set_option linter.unusedVariables false
set_option linter.unusedSimpArgs false
set_option maxRecDepth 100000
namespace Mine
theorem SJR.of {G : Glo} {env : Env} {d : Nat} {Γ : List (Str × AV)} {σ σ' : List AObj} {t : Sem Flow} {v : AV} (h : SJE G env d Γ σ t v σ') : SJR G env d Γ σ t v := by
  obtain ⟨Γf, junk, h⟩ := h
  exact ⟨Γf, _, h⟩
theorem lens (way many : Nat) : (namesP way many).length ≤ 2 * many ∧ (leftsP way many).length ≤ 2 * many ∧ (rightsP way many).length ≤ 2 * many := by
  unfold namesP leftsP rightsP letsOf
  by_cases h : way = 2
  · simp [h, rowN, rowL, rowR]; lia
  · simp [h, rowN, rowL, rowR]; lia
theorem turned_len (up : Bool) (l : List T) : (turned up l).length = l.length := by cases up <;> simp [turned]
theorem law_way_ (cells : List Int) : ∃ way : Nat, clipP cells 0 6 = (way : Int) ∧ way < 6 := by
  obtain ⟨q1, q2⟩ := clip_range cells 0 (m := 6) (by decide)
  exact ⟨(clipP cells 0 6).toNat, (Int.toNat_of_nonneg q1).symm, by lia⟩
noncomputable def SelOk (cells : List Int) (way m1 a1 : Nat) : Prop := (way = 5 ∧ m1 = 12 ∧ a1 = 1) ∨ (way < 5 ∧ a1 = 2 ∧ ∃ sel : Int, sel ≠ 0 ∧ selL[way]? = some sel ∧ (m1 : Int) = 1 + clipP cells 1 sel)
theorem law_key {cells : List Int} {way : Nat} {sel : Int} (w : way < 5) (h0 : 0 < sel) (hs : selL[way]? = some sel) (ht : sel ≤ topMany way false) : ∃ m1 a1 : Nat, SelOk cells way m1 a1 ∧ 1 ≤ m1 ∧ m1 ≤ topMany way false ∧ a1 ≤ 2 ∧ (way = 5 → m1 = 12) := by
  obtain ⟨q1, q2⟩ := clip_range cells 1 h0
  have e : ((1 + clipP cells 1 sel).toNat : Int) = 1 + clipP cells 1 sel := Int.toNat_of_nonneg (by lia)
  exact ⟨_, 2, .inr ⟨w, rfl, sel, Int.ne_of_gt h0, hs, e⟩, by lia, by lia, Nat.le_refl _, fun h => absurd h (Nat.ne_of_lt w)⟩
theorem law_sel (cells : List Int) {way : Nat} (hw : way < 6) : ∃ m1 a1 : Nat, SelOk cells way m1 a1 ∧ 1 ≤ m1 ∧ m1 ≤ topMany way false ∧ a1 ≤ 2 ∧ (way = 5 → m1 = 12) := by
  have : way = 0 ∨ way = 1 ∨ way = 2 ∨ way = 3 ∨ way = 4 ∨ way = 5 := by lia
  rcases this with rfl | rfl | rfl | rfl | rfl | rfl
  · exact law_key (sel := 36) (by decide) (by decide) rfl (by decide)
  · exact law_key (sel := 36) (by decide) (by decide) rfl (by decide)
  · exact law_key (sel := 16) (by decide) (by decide) rfl (by decide)
  · exact law_key (sel := 36) (by decide) (by decide) rfl (by decide)
  · exact law_key (sel := 24) (by decide) (by decide) rfl (by decide)
  · exact ⟨12, 1, .inl ⟨rfl, rfl, rfl⟩, by decide, by decide, by decide, fun _ => rfl⟩
theorem law_nums {way m1 many : Nat} {up : Bool} (hm1 : 1 ≤ m1) (hm2 : m1 ≤ topMany way false) (w5m : way = 5 → m1 = 12) (hmany : many = if up then min m1 (if way = 2 then 8 else 14) else m1) : 1 ≤ many ∧ many ≤ topMany way up ∧ many ≤ 36 ∧ (way = 5 → many = 12) := by
  unfold topMany at *
  by_cases w5 : way = 5
  · subst w5
    obtain rfl := w5m rfl
    cases up <;> (subst hmany; decide)
  · simp only [w5, if_false, Bool.false_eq_true, false_implies, and_true] at *
    cases up with
    | false => simp only [Bool.false_eq_true, if_false] at *; subst hmany; exact ⟨hm1, hm2, Nat.le_trans hm2 (by split <;> (try split) <;> decide)⟩
    | true =>
      simp only [if_true] at *
      subst hmany
      by_cases w2 : way = 2
      · simp only [w2, if_true]; lia
      · simp only [w2, if_false]; lia
theorem lens' {way many : Nat} (up : Bool) (h : many ≤ 36) : (namesP way many).length ≤ 800 ∧ (leftsP way many).length ≤ 1000 ∧ (rightsP way many).length ≤ 1000 ∧ (turned up (leftsP way many)).length ≤ 900 ∧ (turned up (rightsP way many)).length ≤ 900 := by
  obtain ⟨n1, n2, n3⟩ := lens way many
  rw [turned_len, turned_len]
  lia
theorem names900 {way : Nat} {l : List Str} {x : Str} (h : l.length ≤ 800) : (l ++ if way = 5 then [x] else []).length ≤ 900 := by
  rw [List.length_append]; split <;> simp <;> lia
theorem up100 {a : Nat} (h : a ≤ 10) : a ≤ 100 ∧ a + 1 ≤ 100 ∧ a + 1 + 1 ≤ 100 := by lia
theorem kk10 {a way : Nat} (h : a ≤ 2) : (if way = 5 then a + 1 + 1 else a + 1) ≤ 10 := by split <;> lia
theorem over_ {way : Nat} {b : Bool} (q : way ≠ 5) : (decide (way = 5) && b) = false := by simp [q]
theorem add1 {a : Nat} (h : a ≤ 900) : a + 1 ≤ 1000 := by lia

section
variable {G : Glo} (X : Fns G) (Y : LimF G)
include X Y
variable {L fa : Addr} {cd : Value} {a : Addr} {vs : List Value} {ns : List Int}

set_option maxHeartbeats 8000000 in
theorem law_all (hL : G.h₀.IsList a vs.toArray) (hI : IntsAre vs ns) (hn : ns.length ≤ 63) : RK G (lawE L fa cd) 12 [("script", .opq a)] [] (execs lawBody (lawE L fa cd)) := by
  have r0 : SJ G (lawE L fa cd) 12 [("script", .opq a)] [] (execs ((lawBody.drop 0).take 1) (lawE L fa cd)) .next [("script", .opq a), ("reel", .ref 0)] [reelO 1 0, AObj.list ((cellsP ns).map .int)] := by
    rw [List.drop_zero]; exact @law_reel G X L fa cd a vs ns hL hI hn
  have r1 : RK G (lawE L fa cd) 12 [("script", .opq a)] [] (execs (lawBody.drop 0) (lawE L fa cd)) := ?_
  · rw [List.drop_zero] at r1; exact r1
  refine RK.run 1 r0 ?_
  clear r0
  have hl : (cellsP ns).length ≤ 100 := by simp [cellsP]; lia
  generalize cellsP ns = cells at hl
  obtain ⟨way, hway, hw6⟩ := law_way_ cells
  refine RK.run 1 (law_way X hl hway) ?_
  obtain ⟨m1, a1, hm, hm1, hm2, ha, w5m⟩ := law_sel cells hw6
  refine RK.run 1 (law_many X hl hw6 hm) ?_
  generalize hup : decide (clipP cells a1 3 = 0) = up
  have ha10 : a1 + 1 ≤ 10 := Nat.le_trans (Nat.succ_le_succ ha) (by decide)
  obtain ⟨c1, c2, c3⟩ := up100 ha10
  refine RK.run 1 (law_up X hl (Nat.le_trans (Nat.le_succ _) c1) hup.symm) ?_
  obtain ⟨many, hmany⟩ : ∃ many, many = if up then min m1 (if way = 2 then 8 else 14) else m1 := ⟨_, rfl⟩
  refine RK.run 1 (law_min X hmany) ?_
  obtain ⟨h1, h2, h36, h5⟩ := law_nums hm1 hm2 w5m hmany
  have h90 : many ≤ 90 := Nat.le_trans h36 (by decide)
  clear hmany hm hm1 hm2 w5m hup
  obtain ⟨n1, n2, n3, n4, n5⟩ := lens' (way := way) up h36
  refine RK.run 2 (law_rows X h90) ?_
  obtain ⟨σ₁, il, ir, T1, T2, T3, T4⟩ := law_turn X (L := L) (fa := fa) (cd := cd) (a := a) (k := a1 + 1) (cells := cells) (N := namesP way many) (A := leftsP way many) (B := rightsP way many) (J := [.str "x", .str "y"]) (way := way) (many := many) (up := up) n2 n3
  refine RK.run 1 T1 ?_
  obtain ⟨σ₂, jl, jr, U1, U2, U3, U4, U5, U6, U7⟩ := law_last X (L := L) (fa := fa) (cd := cd) (a := a) (way := way) (up := up) (many := many) h90 T2 T3 T4 (Nat.le_trans n4 (by decide)) (Nat.le_trans n5 (by decide))
  refine RK.run 2 U1 ?_
  obtain ⟨over, hover⟩ : ∃ over, over = (decide (way = 5) && decide (clipP cells (a1 + 1) 2 = 1)) := ⟨_, rfl⟩
  obtain ⟨σ₃, V1, V2, V3, V4⟩ := law_heads X (L := L) (fa := fa) (cd := cd) (a := a) hl c1 (Nat.le_trans n1 (by decide)) hw6 h5 h90 hover U2 U3 U4 U5 U6 U7
  refine RK.run 1 V1 ?_
  have hkk := kk10 (way := way) ha
  generalize (if way = 5 then a1 + 1 + 1 else a1 + 1) = kk at V2 hkk
  obtain ⟨d1, d2, d3⟩ := up100 hkk
  obtain ⟨σ₄, W1, W2⟩ := law_args X (L := L) (fa := fa) (cd := cd) (a := a) (A := lHead way many :: turned up (leftsP way many)) (B := rHead way many over :: turned up (rightsP way many)) (way := way) (many := many) (over := decide (12 < many) || over) hl d1 (add1 n4) (add1 n5) V2 U4 U5 V3 V4
  refine RK.run 1 W1 ?_
  have hw0 := (clip_range cells kk (m := 4096) (by decide)).1
  generalize clipP cells kk 4096 = w at hw0
  obtain ⟨ord, hord⟩ : ∃ ord, ord = decide (clipP cells (kk + 1) 2 = 0) := ⟨_, rfl⟩
  have chk := check_all (over := over) (ord := ord) hw6 h1 h2 h5 (fun q => hover ▸ over_ q)
  obtain ⟨f1, f2, hcase⟩ := check_cases rfl rfl chk
  have Q5 : LS (kk + 1 + 1) cells _ (σ₄.set 0 (reelO 1 (kk + 1 + 1))) := W2.reel
  rcases hcase with ⟨b1, b2⟩ | ⟨tab, out, b1, b2, b3, b4, b5, ⟨b6, b7, b8⟩ | ⟨st, b6, b7, b8, b9, b10⟩⟩
  · exact law_heard X hl d2 W2 hord (CallH.of (c_heard X (c_unified_none X f1 f2 b1) (fun hσ _ => ⟨hσ, rfl, Nat.le_refl _⟩))) (RK.of (RJ.of (SJR.of (post_end X (by rw [b2]; rfl) (by rw [b2]; rfl)))))
  · exact law_heard X hl d2 W2 hord (x_heard X Y (x_unified X Y f1 f2 b1 b2 b3 b4 b5 b6)) (RK.of (RJ.of (SJR.of (post_end X (by rw [b7, Bool.or_true]) (by rw [b8]; rfl)))))
  · rw [b7]
    refine law_heard X hl d2 W2 hord (CallH.of (c_heard X (c_unified_ok X f1 f2 b1 b2 b3 b4 b5 b6) (fun hσ _ => ⟨closed_snoc (closed_snoc hσ (tab_lt _ _)) (tab_lt _ _), by simp [AV.lt_none, AV.lt_bool, AV.lt_int, AV.lt_str, AV.lt_tup, AV.lt_ref], by simp⟩))) (RK.of (post_told X (Q5.append.append) (getElem?_last (by simp)) b9 hw6 hw0 h1 h90 b8 rfl ?_ b10))
    exact names900 n1
end
end Mine
end
section
open PySem PySem.W PyProof.Rows
set_option linter.unusedVariables false
set_option linter.unusedSimpArgs false
set_option maxRecDepth 100000
namespace Mine
theorem lawE_cells (L fa : Addr) (cd : Value) : (lawE L fa cd).cells = cellsFrom (L + 1) (df 22).scope.names [] := rfl
theorem law_cellsAre (L : Addr) : ∀ p ∈ cellsFrom (L + 1) (df 22).scope.names [], p.2 = L + 1 ∨ p.2 = L + 2 ∨ p.2 = L + 3 := by
  have e : cellsFrom (L + 1) (df 22).scope.names [] = ([("told", L + 3), ("ways", L + 2), ("leaf", L + 1)] : List (Str × Addr)) := by rfl
  rw [e]
  intro p hp
  simp only [List.mem_cons, List.not_mem_nil, or_false] at hp
  rcases hp with rfl | rfl | rfl
  · exact .inr (.inr rfl)
  · exact .inr (.inl rfl)
  · exact .inl rfl
theorem law_cellsApart (L : Addr) : (cellsFrom (L + 1) (df 22).scope.names []).Pairwise fun x y => x.2 ≠ y.2 := by
  have e : cellsFrom (L + 1) (df 22).scope.names [] = ([("told", L + 3), ("ways", L + 2), ("leaf", L + 1)] : List (Str × Addr)) := by rfl
  rw [e]
  have q : ∀ {i j : Nat}, i ≠ j → (L + i : Nat) ≠ L + j := fun h e => h (Nat.add_left_cancel e)
  refine .cons (fun p hp => ?_) (.cons (fun p hp => ?_) (.cons (fun p hp => nomatch hp) .nil))
  · simp only [List.mem_cons, List.not_mem_nil, or_false] at hp
    rcases hp with rfl | rfl
    · exact q (by decide)
    · exact q (by decide)
  · simp only [List.mem_cons, List.not_mem_nil, or_false] at hp
    rcases hp with rfl
    exact q (by decide)
theorem ne_self_add {L k : Nat} (h : 0 < k) : L + k ≠ L := by lia

theorem start_L {G : Glo} {h₁ : Heap} {fa a : Addr} {cd : Value} {L : Addr} {m : Str → Option Value} (hL : L = G.h₀.objs.size) (hns : h₁.Ns L m) (hm : m "script" = some (.ref a)) (hc : ∀ c, c = L + 1 ∨ c = L + 2 ∨ c = L + 3 → ∃ v, h₁.IsCell c v) :
    StL G (lawE L fa cd) [("script", .opq a)] [] h₁ := by
  have isc : ∀ x c, (lawE L fa cd).cells.lookup x = some c → c = L + 1 ∨ c = L + 2 ∨ c = L + 3 := fun x c e => law_cellsAre L _ (mem_of_lookup e)
  have ge : ∀ x c, (lawE L fa cd).cells.lookup x = some c → G.h₀.objs.size ≤ c := fun x c e => by
    rw [← hL]
    rcases isc x c e with rfl | rfl | rfl <;> exact Nat.le_add_right _ _
  refine ⟨rfl, rfl, rfl, ⟨m, hns, fun x v hk hv => ?_⟩, fun x c e => ?_, fun x hk => ?_, (fun h => nomatch h), fun x c e => ⟨(fun h => nomatch h), ?_⟩, ?_, fun x c e => ?_, fun x y c hx hy => ?_⟩
  · have hm' := mem_of_lookup hv
    simp only [List.mem_cons, List.not_mem_nil, or_false, Prod.mk.injEq] at hm'
    obtain ⟨rfl, rfl⟩ := hm'
    exact ⟨_, hm, .opq a⟩
  · obtain ⟨v, hv⟩ := hc c (isc x c e)
    refine ⟨v, hv, fun u hk hu => ?_⟩
    have hm' := mem_of_lookup hu
    simp only [List.mem_cons, List.not_mem_nil, or_false, Prod.mk.injEq] at hm'
    obtain ⟨rfl, rfl⟩ := hm'
    exact absurd rfl hk
  · rcases hk with hk | hk
    · exact Option.isSome_iff_exists.mp (cellsFrom_some _ _ _ (.inl hk))
    · exfalso
      have nf : ((df 22).scope.names.all fun x => x.2 != .free) = true := by decide +kernel
      have := List.all_eq_true.mp nf _ (mem_of_lookup hk)
      simp at this
  · rcases isc x c e with rfl | rfl | rfl
    · exact ne_self_add (by decide)
    · exact ne_self_add (by decide)
    · exact ne_self_add (by decide)
  · exact Heap.get?_none_of_le (Nat.le_of_eq hL.symm)
  · exact Heap.get?_none_of_le (ge x c e)
  · exact name_of_addr (law_cellsApart L) (mem_of_lookup hx) (mem_of_lookup hy)

theorem RK.go {G : Glo} {env : Env} {d : Nat} {Γ : List (Str × AV)} {t : Sem Flow} (h : RK G env d Γ [] t) {A : Around} {s : Shared} {Q : Flow → Shared → Prop} {E : Value → Shared → Prop} (hfr : A.frames = some [env]) (R : Room A d)
    (k : ∀ b o, G.h₀.get? b = some o → s.heap.get? b = some o) (hg : s.gens = #[]) (ho : s.os = G.os₀) (hL : StL G env Γ [] s.heap)
    (hQ : ∀ s', (∀ b o, G.h₀.get? b = some o → s'.heap.get? b = some o) → s'.os = G.os₀ → s'.gens = #[] → Q (.ret (.bool true)) s') : wpAny (model G.prog G.w) A t Q E s :=
  h A s [] Q E hfr R ⟨k, (fun a h => by cases h), .nil, rfl, (fun i a o h => by simp at h), hg, ho⟩ hL fun s' σ' ρ' S' => hQ s' S'.base S'.os S'.gens

theorem gloOf {G : Glo} {p : Program} {loose : List Str} {mean : ExcName → Option Value} (T : Top p loose mean G.mg G.mb G.h₀) (hG : G.prog = thePr) (sys : ∃ o, G.h₀.get? sysModules = some o) (e1 : recsOf p = recsOf thePr) (e2 : ∀ (x : Str) d, x ≠ ("__name__" : Str) → valOf thePr x = some d → valOf p x = some d)
    (e3 : ((["len", "sorted", "set", "enumerate", "sum", "max", "min", "list", "tuple", "range", "int", "str", "zip", "super"] : List Str).all fun x => !startupNames.contains x && !loose.contains x && !((recsOf p).map (·.name)).contains x && !((litsOf p).map (·.1)).contains x && !((clssOf p loose).map (·.name)).contains x) = true) : TheGlo G := by
  refine ⟨⟨sys, T.g, T.b, T.nolimit, T.builtins⟩, hG, fun d hd => T.fn d (e1 ▸ hd), fun x hx => ?_, fun x d hx hv => T.const x d (e2 x d hx hv)⟩
  have := List.all_eq_true.mp e3 x hx
  simp only [Bool.and_eq_true, Bool.not_eq_true', List.contains_iff_mem, Bool.eq_false_iff, ne_eq] at this
  obtain ⟨⟨⟨⟨h1, h2⟩, h3⟩, h4⟩, h5⟩ := this
  exact T.free x h1 h2 h3 h4 h5
end Mine
end
section
open PySem PySem.W PyProof.Rows
set_option maxRecDepth 100000
set_option maxHeartbeats 2000000
namespace Mine
theorem ns_of {K : Frag} {h : Heap} (X : K.In h) {a : Addr} {o : Obj} {es : Array DictEntry} {ep : Nat} (e : K.lookup a = some o) (hd : o.data = .dict es ep) (hs : (es.all fun e => match e.key with | .str _ _ => true | _ => false) = true) : h.Ns a (nsFind es) := by
  refine ⟨o, es, ep, X _ _ e, hd, fun x hx => ?_, fun _ => rfl⟩
  obtain ⟨i, hi, rfl⟩ := Array.mem_iff_getElem.mp hx
  have := Array.all_eq_true.mp hs i hi
  cases hk : (es[i]).key with
  | str n t => exact ⟨n, t, rfl⟩
  | _ => rw [hk] at this; cases this
theorem ns_eq {K : Frag} {h : Heap} (X : K.In h) {a : Addr} {o : Obj} {es : Array DictEntry} {ep : Nat} {m : Str → Option Value} (g : h.Ns a m) (e : K.lookup a = some o) (hd : o.data = .dict es ep) (x : Str) : m x = nsFind es x := by
  obtain ⟨o', es', ep', ho, hd', _, hm⟩ := g
  rw [X _ _ e] at ho
  cases ho
  rw [hd] at hd'
  cases hd'
  exact (hm x).symm

theorem limOf {G : Glo} {P : Params} (X : (hd.heap_39 P).In G.h₀) (hg : G.h₀.Ns mainGlobals G.mg) (hp : G.prog = thePr) : Nonempty (LimF G) := by
  refine ⟨{
    C := 53, D := 40, N := 52, f := 30, cda := 29, cc := 18,
    nm := _, q := _, bs := _, sn := _, sub := _, ab := _, col := _, dd := _, k0 := _, k1 := _, k2 := _, k3 := _, k5 := _,
    oD := _, cdD := _, mN := _, mD := _, oF := _, fd := _, oc := _, vs := _, file := _, tf := _,
    hC := X 53 _ (by exact rfl)
    hD := X 40 _ (by exact rfl)
    hDd := by exact rfl
    hN := ns_of X (a := 52) (by exact rfl) (by exact rfl) (by kernel_rfl)
    hM := ns_of X (a := 39) (by exact rfl) (by exact rfl) (by kernel_rfl)
    n1 := by kernel_rfl
    n2 := by kernel_rfl
    n3 := by kernel_rfl
    d1 := by kernel_rfl
    d2 := by kernel_rfl
    d3 := by kernel_rfl
    hF := X 30 _ (by exact rfl)
    hFc := by exact rfl
    hFd := by exact rfl
    body_ := by kernel_rfl
    scope_ := by kernel_rfl
    params_ := by kernel_rfl
    glob_ := by kernel_rfl
    blt_ := by kernel_rfl
    clos_ := by kernel_rfl
    code_ := by kernel_rfl
    rec_ := ⟨29, _, _, _, by exact rfl, X 29 _ (by exact rfl), by exact rfl, by exact rfl⟩
    binds_ := fun a b => by kernel_rfl
    hcell := ⟨_, X 18 _ (by exact rfl), by exact rfl⟩
    hcode := X 29 _ (by exact rfl)
    hoc := by exact rfl
    hvs := by exact rfl
    hfile := by rw [hp]; kernel_rfl
    htop := by rw [hp]; kernel_rfl
    no := looks_opaque X (by kernel_rfl)
    CD := by decide
    glob := (ns_eq X hg (a := mainGlobals) (by exact rfl) (by exact rfl) "LimitFault").trans (by kernel_rfl) }⟩
end Mine
end
open PySem PySem.W PyProof.Rows
set_option maxRecDepth 100000
namespace Mine
theorem v_recs : recsOf hd.view_39 = recsOf thePr := by kernel_rfl
theorem v_names : valNames thePr = [Str.ofString "__name__", Str.ofString "__name__", Str.ofString "__name__", Str.ofString "MOST_SIZE", Str.ofString "MOST_LEVELS", Str.ofString "__name__"] := by kernel_rfl
theorem v_consts (x : Str) (d : PyData) (hx : x ≠ ("__name__" : Str)) (h : valOf thePr x = some d) : valOf hd.view_39 x = some d := by
  have hm := valOf_name h
  rw [v_names] at hm
  have e1 : valOf hd.view_39 (Str.ofString "MOST_SIZE") = valOf thePr (Str.ofString "MOST_SIZE") := by kernel_rfl
  have e2 : valOf hd.view_39 (Str.ofString "MOST_LEVELS") = valOf thePr (Str.ofString "MOST_LEVELS") := by kernel_rfl
  simp only [List.mem_cons, List.not_mem_nil, or_false] at hm
  rcases hm with rfl | rfl | rfl | rfl | rfl | rfl
  · exact absurd rfl hx
  · exact absurd rfl hx
  · exact absurd rfl hx
  · rw [e1]; exact h
  · rw [e2]; exact h
  · exact absurd rfl hx
theorem v_free : ((["len", "sorted", "set", "enumerate", "sum", "max", "min", "list", "tuple", "range", "int", "str", "zip", "super"] : List Str).all fun x => !startupNames.contains x && !(looseW hd.view_39 []).contains x && !((recsOf hd.view_39).map (·.name)).contains x && !((litsOf hd.view_39).map (·.1)).contains x && !((clssOf hd.view_39 (looseW hd.view_39 [])).map (·.name)).contains x) = true := by kernel_rfl
theorem lawRoom (env : Env) : Room (callerA.deeper env) 12 := ⟨rfl, Nat.le_of_ble_eq_true rfl, Nat.le_of_ble_eq_true rfl⟩
end Mine
set_option maxHeartbeats 8000000 in
theorem PySem.Challenge.cw_sa0021_01_holds : PySem.Challenge.rw_sa0021_01.Holds := by
  refine Mine.hd ?_
  w_strict k_go0
  rename_i w s0 s1 mg mb GG YY fa o pm doc ho hg KX XX V GL T B TE TW w12 w11 M cda w9 hcd ns hs hlay0 hL1 hr1 hl2 w7 w6 sl vs w3 hL ra w1 r0 hI hr hcond1 hcond K0 hD h1 tk1 F c3 c2 c1 left1 left right N0 X0
  have hG0 : Mine.TheGlo ⟨Mine.thePr, w, s1.heap, s1.os, mg, mb⟩ := Mine.gloOf T rfl (let ⟨_, ⟨o, _, _, e, _⟩, _⟩ := GL.seer.mods; ⟨o, e⟩) Mine.v_recs Mine.v_consts Mine.v_free
  obtain ⟨XF⟩ := Mine.Fns.of hG0
  obtain ⟨YF⟩ := Mine.limOf (G := ⟨Mine.thePr, w, s1.heap, s1.os, mg, mb⟩) KX T.g rfl
  have h0 := @Mine.law_all ⟨Mine.thePr, w, s1.heap, s1.os, mg, mb⟩ XF YF s1.heap.objs.size fa (.ref cda) sl vs ns hL hI (by lia)
  refine h0.go (A := callerA.deeper (Mine.lawE s1.heap.objs.size fa (.ref cda))) (s := { heap := h1, gens := s1.gens, drawn := s1.drawn, toks := tk1, os := s1.os }) (Around.frames_deeper K0.stack) (Mine.lawRoom _) F.keep hg rfl (Mine.start_L rfl F.ns (by rfl) ?_) ?_
  · rintro c (rfl | rfl | rfl)
    · exact ⟨_, _, (N0 (s1.heap.objs.size + 1, c1) (by simp)).1, right⟩
    · exact ⟨_, _, (N0 (s1.heap.objs.size + 1 + 1, c2) (by simp)).1, left⟩
    · exact ⟨_, _, (N0 (s1.heap.objs.size + 1 + 1 + 1, c3) (by simp)).1, left1⟩
  · intro s' k ho hg'
    exact ⟨.inl ⟨.bool true, .bool true, [], rfl, fun _ => rfl, .bool true, by wrow_post, fun _ => ⟨.nil, fun _ h => nomatch h⟩⟩, k, ho, hg'⟩
