import PyProof.Rows.All
import Wide.All
import OpenK.AllK
import Wide.FinOn
import Lean
import PySem.Challenge.RW_on0044_01
set_option Elab.async false
set_option maxRecDepth 100000
set_option maxHeartbeats 400000
set_option linter.all false
set_option genSizeOf false
set_option genInjectivity false
namespace Mine
open PySem PySem.W PyProof.Rows PySem.Calls PySem.Spec PySem.SeqAt
/-- values as trees -/
inductive PV where
  | none
  | bool (b : Bool)
  | int (i : Int)
  | str (l : List Nat)
  | byt (l : List Nat)
  | tup (l : List PV)
  | lst (l : List PV)
  | obj (a : Addr)
  | blt (id : String)
  | typ (n : String)
  | spc (k : Nat)
  | any

noncomputable abbrev mkStr (l : List Nat) : Str := ⟨l.toArray⟩
noncomputable abbrev mkByt (l : List Nat) : Array UInt8 := (l.map UInt8.ofNat).toArray

section
variable (aDr : Nat → Addr) (h : Heap)
mutual
/-- a value of the machine's that is a tree's -/
noncomputable def VR (v : Value) : PV → Prop
  | .none => v = .none
  | .bool b => v = .bool b
  | .int i => ∃ t, v = .int i t
  | .str l => ∃ t, v = .str (mkStr l) t
  | .byt l => ∃ t, v = .bytes (mkByt l) t
  | .tup ds => ∃ a vs, v = .ref a ∧ h.IsTuple a vs ∧ VRs vs.toList ds
  | .lst ds => ∃ a vs, v = .ref a ∧ h.IsList a vs ∧ VRs vs.toList ds
  | .obj a => v = .ref a
  | .blt i => v = .builtin i
  | .typ n => v = .type n
  | .spc k => v = .ref (aDr k)
  | .any => True
noncomputable def VRs (vs : List Value) : List PV → Prop
  | [] => vs = []
  | d :: ds => ∃ v ws, vs = v :: ws ∧ VR v d ∧ VRs ws ds
end
end

/-- what a change of the heap keeps: every sequence -/
noncomputable def KS (h h' : Heap) : Prop := ∀ a o, (∃ xs n, o.data = .seq xs n) → h.get? a = some o → h'.get? a = some o
theorem KS.of_stays {h h' : Heap} (k : h.StaysIn h') : KS h h' := fun a o _ e => k a o e
theorem KS.refl (h : Heap) : KS h h := fun _ _ _ e => e
theorem KS.trans {h h' h'' : Heap} (k : KS h h') (k' : KS h' h'') : KS h h'' := fun a o q e => k' a o q (k a o q e)
theorem KS.tuple {h h' : Heap} (k : KS h h') {a : Addr} {vs : Array Value} : h.IsTuple a vs → h'.IsTuple a vs := fun ⟨o, e, c, n, d⟩ => ⟨o, k a o ⟨_, _, d⟩ e, c, n, d⟩
theorem KS.list {h h' : Heap} (k : KS h h') {a : Addr} {vs : Array Value} : h.IsList a vs → h'.IsList a vs := fun ⟨o, e, c, n, d⟩ => ⟨o, k a o ⟨_, _, d⟩ e, c, n, d⟩
theorem VR.both {aDr : Nat → Addr} {h h' : Heap} (k : KS h h') (d : PV) : ∀ v, VR aDr h v d → VR aDr h' v d :=
  PV.rec (motive_1 := fun d => ∀ v, VR aDr h v d → VR aDr h' v d) (motive_2 := fun ds => ∀ vs, VRs aDr h vs ds → VRs aDr h' vs ds)
    (fun _ e => e) (fun _ _ e => e) (fun _ _ e => e) (fun _ _ e => e) (fun _ _ e => e)
    (fun _ ih v e => let ⟨a, vs, q, t, W⟩ := e; ⟨a, vs, q, k.tuple t, ih _ W⟩)
    (fun _ ih v e => let ⟨a, vs, q, t, W⟩ := e; ⟨a, vs, q, k.list t, ih _ W⟩)
    (fun _ _ e => e) (fun _ _ e => e) (fun _ _ e => e) (fun _ _ e => e) (fun _ _ => trivial)
    (fun _ e => e) (fun _ _ i1 i2 vs e => let ⟨v, ws, q, a, b⟩ := e; ⟨v, ws, q, i1 _ a, i2 _ b⟩) d
section
variable {aDr : Nat → Addr} {h h' : Heap}
theorem VR.mono (k : KS h h') {v : Value} {d : PV} (V : VR aDr h v d) : VR aDr h' v d := VR.both k d v V
theorem VRs.mono (k : KS h h') {ds : List PV} : ∀ {vs : List Value}, VRs aDr h vs ds → VRs aDr h' vs ds := by
  induction ds with
  | nil => exact fun e => e
  | cons d ds ih => exact fun ⟨v, ws, q, a, b⟩ => ⟨v, ws, q, a.mono k, ih b⟩
theorem VRs.length {ds : List PV} : ∀ {vs : List Value}, VRs aDr h vs ds → vs.length = ds.length := by
  induction ds with
  | nil => exact fun e => by rw [show _ = [] from e]; rfl
  | cons d ds ih => exact fun ⟨v, ws, q, a, b⟩ => by rw [q, List.length_cons, List.length_cons, ih b]
theorem VRs.get {ds : List PV} : ∀ {vs : List Value}, VRs aDr h vs ds → ∀ {j : Nat} {d : PV}, ds[j]? = some d → ∃ v, vs[j]? = some v ∧ VR aDr h v d := by
  induction ds with
  | nil => intro vs _ j d e; cases e
  | cons c ds ih =>
    rintro vs ⟨v, ws, rfl, a, b⟩ j d e
    cases j with
    | zero => exact ⟨v, rfl, Option.some.inj e ▸ a⟩
    | succ j => exact ih b e
theorem VRs.append {ds es : List PV} : ∀ {vs ws : List Value}, VRs aDr h vs ds → VRs aDr h ws es → VRs aDr h (vs ++ ws) (ds ++ es) := by
  induction ds with
  | nil => intro vs ws e b; rw [show vs = [] from e]; exact b
  | cons c ds ih => rintro vs ws ⟨v, us, rfl, a, b⟩ W; exact ⟨v, us ++ ws, rfl, a, ih b W⟩
theorem VRs.mem {ds : List PV} : ∀ {vs : List Value}, VRs aDr h vs ds → ∀ v ∈ vs, ∃ d ∈ ds, VR aDr h v d := by
  induction ds with
  | nil => intro vs e v hv; rw [show vs = [] from e] at hv; cases hv
  | cons c ds ih =>
    rintro vs ⟨u, ws, rfl, a, b⟩ v hv
    rcases List.mem_cons.mp hv with rfl | hv
    · exact ⟨c, .head _, a⟩
    · obtain ⟨d, h1, h2⟩ := ih b v hv; exact ⟨d, .tail _ h1, h2⟩
theorem VRs.size {vs : Array Value} {ds : List PV} (W : VRs aDr h vs.toList ds) : vs.size = ds.length := by
  have := W.length; rwa [Array.length_toList] at this
end

/-- equality of lists of numbers, kernel-light -/
noncomputable def eqN (a : List Nat) : List Nat → Bool := List.rec (motive := fun _ => List Nat → Bool) (fun b => List.rec (motive := fun _ => Bool) true (fun _ _ _ => false) b)
  (fun x _ ih b => List.rec (motive := fun _ => Bool) false (fun y t _ => cond (Nat.beq x y) (ih t) false) b) a
theorem eqN_iff : ∀ {a b : List Nat}, eqN a b = decide (a = b) := by
  intro a
  induction a with
  | nil => intro b; cases b <;> rfl
  | cons x a ih =>
    intro b
    cases b with
    | nil => rfl
    | cons y b =>
      show cond (Nat.beq x y) (eqN a b) false = _
      cases h : Nat.beq x y with
      | true => have := Nat.eq_of_beq_eq_true h; subst this; simp [ih]
      | false => have := Nat.ne_of_beq_eq_false h; simp [this]
theorem mkStr_inj {a b : List Nat} (h : mkStr a = mkStr b) : a = b := by injection h with h; exact List.toArray_inj h
theorem mkStr_eq {a b : List Nat} : (mkStr a == mkStr b) = eqN a b := by
  rw [eqN_iff, Bool.eq_iff_iff, beq_iff_eq, decide_eq_true_eq]
  exact ⟨mkStr_inj, fun h => h ▸ rfl⟩

noncomputable def eqL (f : PV → PV → Option Bool) (xs : List PV) : List PV → Option Bool := List.rec (motive := fun _ => List PV → Option Bool) (fun b => List.rec (motive := fun _ => Option Bool) (some true) (fun _ _ _ => some false) b)
  (fun x _ ih b => List.rec (motive := fun _ => Option Bool) (some false) (fun y t _ => (f x y).bind fun p => (ih t).bind fun q => some (p && q)) b) xs

/-- equality as Python's ==, where it is served -/
noncomputable def eqf : Nat → PV → PV → Option Bool
  | 0 => fun _ _ => none
  | n + 1 => fun a b => match a, b with
    | .none, .none => some true
    | .bool x, .bool y => some (x == y)
    | .int x, .int y => some (x == y)
    | .str x, .str y => some (eqN x y)
    | .byt x, .byt y => cond (eqN x y) (some true) none
    | .tup xs, .tup ys => eqL (eqf n) xs ys
    | .str _, .tup _ => some false
    | .tup _, .str _ => some false
    | .str _, .int _ => some false
    | .int _, .str _ => some false
    | .tup _, .int _ => some false
    | .int _, .tup _ => some false
    | _, _ => none
/-- what the equality serves -/
inductive EqR (f : PV → PV → Option Bool) : PV → PV → Bool → Prop
  | none : EqR f .none .none true
  | bool (x y : Bool) : EqR f (.bool x) (.bool y) (x == y)
  | int (x y : Int) : EqR f (.int x) (.int y) (x == y)
  | str (x y : List Nat) : EqR f (.str x) (.str y) (eqN x y)
  | byt (x : List Nat) : EqR f (.byt x) (.byt x) true
  | tup (xs ys : List PV) (r : Bool) : eqL f xs ys = some r → EqR f (.tup xs) (.tup ys) r
  | st (x : List Nat) (y : List PV) : EqR f (.str x) (.tup y) false
  | ts (x : List PV) (y : List Nat) : EqR f (.tup x) (.str y) false
  | si (x : List Nat) (y : Int) : EqR f (.str x) (.int y) false
  | is (x : Int) (y : List Nat) : EqR f (.int x) (.str y) false
  | ti (x : List PV) (y : Int) : EqR f (.tup x) (.int y) false
  | it (x : Int) (y : List PV) : EqR f (.int x) (.tup y) false
theorem cond_some {α : Type} {b : Bool} {o : Option α} {d : α} (h : cond b o none = some d) : b = true ∧ o = some d := by
  cases b with
  | true => exact ⟨rfl, h⟩
  | false => cases h
theorem bind_some {α β : Type} {o : Option α} {f : α → Option β} {d : β} (h : o.bind f = some d) : ∃ a, o = some a ∧ f a = some d := by
  cases o with
  | none => cases h
  | some a => exact ⟨a, rfl, h⟩
theorem some_inj {α : Type} {a b : α} (h : some a = some b) : a = b := Option.some.inj h
theorem eqR_of {n : Nat} {a b : PV} {r : Bool} (e : eqf (n + 1) a b = some r) : EqR (eqf n) a b r := by
  unfold eqf at e
  split at e <;> first
    | (cases some_inj e; constructor; done)
    | (obtain ⟨q, e⟩ := cond_some e; cases some_inj e; rw [eqN_iff] at q; rw [of_decide_eq_true q]; exact .byt _)
    | exact .tup _ _ _ e
    | cases e
end Mine
namespace Mine
open PySem PySem.W PyProof.Rows PySem.Calls PySem.Spec PySem.SeqAt
open PySem PySem.W PyProof.Rows PySem.Calls PySem.Spec PySem.SeqAt
open Classical in
section
variable {aDr : Nat → Addr} {h : Heap}
theorem tup_one {a : Addr} {vs ws : Array Value} (x : h.IsTuple a vs) (y : h.IsTuple a ws) : vs = ws := by
  obtain ⟨o, e, _, n, d⟩ := x
  obtain ⟨o', e', _, n', d'⟩ := y
  rw [e] at e'; cases Option.some.inj e'
  rw [d] at d'; injection d'
theorem str_one {a b : List Nat} {t u : Tok} (h : Value.str (mkStr a) t = .str (mkStr b) u) : a = b := by injection h with h _; exact mkStr_inj h
theorem eqL_same {f : PV → PV → Option Bool} (hf : ∀ v x y b, VR aDr h v x → VR aDr h v y → f x y = some b → b = true) {xs : List PV} : ∀ {vs : List Value} {ys : List PV} {r : Bool}, VRs aDr h vs xs → VRs aDr h vs ys → eqL f xs ys = some r → r = true := by
  induction xs with
  | nil =>
    intro vs ys r a b e
    cases ys with
    | nil => exact (some_inj e).symm
    | cons y ys => obtain ⟨v, ws, q, _⟩ := b; rw [show vs = [] from a] at q; cases q
  | cons x xs ih =>
    rintro vs ys r ⟨v, ws, rfl, a, a'⟩ b e
    cases ys with
    | nil => cases (show v :: ws = [] from b)
    | cons y ys =>
      obtain ⟨v', ws', q, b, b'⟩ := b
      cases q
      obtain ⟨p, e1, e⟩ := bind_some e
      obtain ⟨q, e2, e⟩ := bind_some e
      rw [← some_inj e, hf v x y p a b e1, ih a' b' e2]; rfl
theorem eqf_same (n : Nat) : ∀ {v : Value} {x y : PV} {r : Bool}, VR aDr h v x → VR aDr h v y → eqf n x y = some r → r = true := by
  induction n with
  | zero => intro v x y r _ _ e; cases e
  | succ n ih =>
    intro v x y r a b e
    cases eqR_of e with
    | none => rfl
    | bool => cases a.symm.trans b; exact beq_self_eq_true _
    | int => obtain ⟨t, a⟩ := a; obtain ⟨u, b⟩ := b; cases a.symm.trans b; exact beq_self_eq_true _
    | str => obtain ⟨t, a⟩ := a; obtain ⟨u, b⟩ := b; rw [eqN_iff, str_one (a.symm.trans b)]; exact decide_eq_true rfl
    | byt => rfl
    | tup xs ys r e =>
      obtain ⟨l, vs, q, t, W⟩ := a
      obtain ⟨l', vs', q', t', W'⟩ := b
      cases q.symm.trans q'
      cases tup_one t t'
      exact eqL_same (fun v x y b p q => ih p q) W W' e
    | st => obtain ⟨t, a⟩ := a; obtain ⟨_, _, b, _⟩ := b; cases a.symm.trans b
    | ts => obtain ⟨t, b⟩ := b; obtain ⟨_, _, a, _⟩ := a; cases a.symm.trans b
    | si => obtain ⟨t, a⟩ := a; obtain ⟨_, b⟩ := b; cases a.symm.trans b
    | is => obtain ⟨t, a⟩ := a; obtain ⟨_, b⟩ := b; cases a.symm.trans b
    | ti => obtain ⟨_, _, a, _⟩ := a; obtain ⟨_, b⟩ := b; cases a.symm.trans b
    | it => obtain ⟨_, a⟩ := a; obtain ⟨_, _, b, _⟩ := b; cases a.symm.trans b

theorem eqL_spec {f : PV → PV → Option Bool} {xs : List PV} : ∀ {ys : List PV} {r : Bool}, eqL f xs ys = some r →
    ∃ e : Nat → Bool, (∀ j x y, xs[j]? = some x → ys[j]? = some y → f x y = some (e j)) ∧ r = ((List.range (min xs.length ys.length)).all e && xs.length == ys.length) := by
  induction xs with
  | nil =>
    intro ys r h
    cases ys with
    | nil => exact ⟨fun _ => true, (fun j x y q => by cases q), (some_inj h).symm⟩
    | cons y ys => exact ⟨fun _ => true, (fun j x y q => by cases q), by rw [← some_inj h]; simp⟩
  | cons a xs ih =>
    intro ys r h
    cases ys with
    | nil => exact ⟨fun _ => true, (fun j x y _ q => by cases q), by rw [← some_inj h]; simp⟩
    | cons b ys =>
      obtain ⟨p, h1, h⟩ := bind_some h
      obtain ⟨q, h2, h⟩ := bind_some h
      obtain ⟨e, he, hr⟩ := ih h2
      refine ⟨fun j => Nat.casesOn j p e, fun j x y hx hy => ?_, ?_⟩
      · cases j with
        | zero => cases some_inj hx; cases some_inj hy; exact h1
        | succ j => exact he j x y hx hy
      · rw [← some_inj h, hr]
        have e1 : min (a :: xs).length (b :: ys).length = min xs.length ys.length + 1 := by rw [List.length_cons, List.length_cons, Nat.succ_min_succ]
        rw [e1, List.range_succ_eq_map, List.all_cons, List.all_map, ← Bool.and_assoc]
        congr 1
        simp
end
section
variable {aDr : Nat → Addr} {prog : Program} {w : World} {A : Around} {E : Value → Shared → Prop} {s : Shared}
theorem EqAt.bytes_same (b : Array UInt8) (t u : Tok) : EqAt A s (.bytes b t) (.bytes b u) true := fun prog w E Q h => by
  unfold eqBool
  refine wpAny_holding ?_
  refine wpAny_ite_split (fun hab => ?_) (fun _ => ?_)
  · exact wpAny_bind (wpAny_rule (wpAny_pure h))
  · exact wpAny_bind (eq_bytes (wpAny_truthy_bool (by simpa using h)))
/-- what a compared pair of tuples' items give -/
theorem items_at {f : PV → PV → Option Bool} {xs ys : List PV} {r : Bool} {vs vs' : Array Value} (e : eqL f xs ys = some r) (a : VRs aDr s.heap vs.toList xs) (b : VRs aDr s.heap vs'.toList ys)
    (hf : ∀ {u u' : Value} {x y : PV} {c : Bool}, VR aDr s.heap u x → VR aDr s.heap u' y → f x y = some c → EqAt A.in1 s u u' c) :
    ∃ f : Nat → Bool, (∀ j (h1 : j < vs.size) (h2 : j < vs'.size), EqAt A.in1 s vs[j] vs'[j] (f j)) ∧ r = ((List.range (min vs.size vs'.size)).all f && vs.size == vs'.size) := by
  obtain ⟨g, hg, hr⟩ := eqL_spec e
  refine ⟨g, fun j j1 j2 => ?_, by rw [a.size, b.size]; exact hr⟩
  have h1 : j < xs.length := a.size ▸ j1
  have h2 : j < ys.length := b.size ▸ j2
  obtain ⟨u, q1, V⟩ := a.get (List.getElem?_eq_getElem h1)
  obtain ⟨u', q2, V'⟩ := b.get (List.getElem?_eq_getElem h2)
  have e1 : vs[j] = u := by rw [Array.getElem?_toList, Array.getElem?_eq_getElem j1] at q1; exact some_inj q1
  have e2 : vs'[j] = u' := by rw [Array.getElem?_toList, Array.getElem?_eq_getElem j2] at q2; exact some_inj q2
  rw [e1, e2]
  exact hf V V' (hg j _ _ (List.getElem?_eq_getElem h1) (List.getElem?_eq_getElem h2))
theorem u_in {A : Around} {n : Nat} (h : A.units + (n + 1) < cLine) : A.in1.units + n < cLine := by show A.units + 1 + n < cLine; rw [Nat.add_assoc, Nat.add_comm 1 n]; exact h
theorem u_0 {A : Around} {n : Nat} (h : A.units + n < cLine) : A.units < cLine := Nat.lt_of_le_of_lt (Nat.le_add_right _ _) h
theorem eqf_at (n : Nat) : ∀ {A : Around} {a b : Value} {x y : PV} {r : Bool}, VR aDr s.heap a x → VR aDr s.heap b y → eqf n x y = some r → A.units + n < cLine → EqAt A s a b r := by
  induction n with
  | zero => intro A a b x y r _ _ e; cases e
  | succ n ih =>
    intro A v v' x y r a b e hu
    have hu0 := u_0 hu
    cases eqR_of e with
    | none => rw [show v = _ from a, show v' = _ from b]; exact EqAt.same _
    | bool => rw [show v = _ from a, show v' = _ from b]; exact EqAt.bool_bool _ _
    | int => obtain ⟨t, rfl⟩ := a; obtain ⟨u, rfl⟩ := b; exact EqAt.int_int _ _ _ _
    | str => obtain ⟨t, rfl⟩ := a; obtain ⟨u, rfl⟩ := b; rw [← mkStr_eq]; exact EqAt.str_str _ _ _ _
    | byt => obtain ⟨t, rfl⟩ := a; obtain ⟨u, rfl⟩ := b; exact EqAt.bytes_same _ _ _
    | tup xs ys r e' =>
      have a' := a
      have b' := b
      obtain ⟨l, vs, rfl, t, W⟩ := a'
      obtain ⟨l', vs', rfl, t', W'⟩ := b'
      by_cases hll : l = l'
      · subst hll
        rw [eqf_same (n + 1) a b e]
        exact EqAt.same _
      · obtain ⟨f, hf, hr⟩ := items_at e' W W' fun p q c => ih p q c (u_in hu)
        rw [hr]
        exact EqAt.of_refs hll (RcAt.tuples t t' hu0 hf)
    | st => obtain ⟨t, rfl⟩ := a; obtain ⟨_, _, rfl, u, _⟩ := b; exact EqAt.str_tuple _ _ u hu0
    | ts => obtain ⟨t, rfl⟩ := b; obtain ⟨_, _, rfl, u, _⟩ := a; exact EqAt.tuple_str _ _ u hu0
    | si => obtain ⟨t, rfl⟩ := a; obtain ⟨u, rfl⟩ := b; exact EqAt.str_int _ _ _ _
    | is => obtain ⟨t, rfl⟩ := a; obtain ⟨u, rfl⟩ := b; exact EqAt.int_str _ _ _ _
    | ti => obtain ⟨_, _, rfl, u, _⟩ := a; obtain ⟨_, rfl⟩ := b; exact EqAt.tuple_int _ _ u hu0
    | it => obtain ⟨_, rfl⟩ := a; obtain ⟨_, _, rfl, u, _⟩ := b; exact EqAt.int_tuple _ _ u hu0
/-- both comparisons of two values -/
theorem rc_both {n : Nat} {a b : Value} {x y : PV} {r : Bool} (va : VR aDr s.heap a x) (vb : VR aDr s.heap b y) (e : eqf n x y = some r) (hu : A.units + n < cLine) : RcAt A s a b r ∧ RcNeAt A s a b (!r) := by
  cases n with
  | zero => cases e
  | succ n =>
    have hu0 := u_0 hu
    cases eqR_of e with
    | none => rw [show a = _ from va, show b = _ from vb]; exact ⟨RcAt.none_none, RcNeAt.none_none⟩
    | bool => rw [show a = _ from va, show b = _ from vb]; exact ⟨RcAt.bool_bool _ _, RcNeAt.bool_bool _ _⟩
    | int => obtain ⟨t, rfl⟩ := va; obtain ⟨u, rfl⟩ := vb; exact ⟨RcAt.int_int _ _ _ _, RcNeAt.int_int _ _ _ _⟩
    | str => obtain ⟨t, rfl⟩ := va; obtain ⟨u, rfl⟩ := vb; rw [← mkStr_eq]; exact ⟨RcAt.str_str _ _ _ _, RcNeAt.str_str _ _ _ _⟩
    | byt => obtain ⟨t, rfl⟩ := va; obtain ⟨u, rfl⟩ := vb; exact ⟨fun prog w E Q h => eq_bytes (by simpa using h), fun prog w E Q h => ne_bytes (by simpa using h)⟩
    | tup xs ys r e' =>
      obtain ⟨l, vs, rfl, t, W⟩ := va
      obtain ⟨l', vs', rfl, t', W'⟩ := vb
      obtain ⟨f, hf, hr⟩ := items_at e' W W' fun p q c => eqf_at n p q c (u_in hu)
      rw [hr]
      exact ⟨RcAt.tuples t t' hu0 hf, RcNeAt.tuples t t' hu0 hf⟩
    | st => obtain ⟨t, rfl⟩ := va; obtain ⟨_, _, rfl, u, _⟩ := vb; exact ⟨RcAt.str_tuple _ _ u hu0, RcNeAt.str_tuple _ _ u hu0⟩
    | ts => obtain ⟨t, rfl⟩ := vb; obtain ⟨_, _, rfl, u, _⟩ := va; exact ⟨RcAt.tuple_str _ _ u hu0, RcNeAt.tuple_str _ _ u hu0⟩
    | si => obtain ⟨t, rfl⟩ := va; obtain ⟨u, rfl⟩ := vb; exact ⟨RcAt.str_int _ _ _ _, RcNeAt.str_int _ _ _ _⟩
    | is => obtain ⟨t, rfl⟩ := va; obtain ⟨u, rfl⟩ := vb; exact ⟨RcAt.int_str _ _ _ _, RcNeAt.int_str _ _ _ _⟩
    | ti => obtain ⟨_, _, rfl, u, _⟩ := va; obtain ⟨_, rfl⟩ := vb; exact ⟨RcAt.tuple_int _ _ u hu0, RcNeAt.tuple_int _ _ u hu0⟩
    | it => obtain ⟨_, rfl⟩ := va; obtain ⟨_, _, rfl, u, _⟩ := vb; exact ⟨RcAt.int_tuple _ _ u hu0, RcNeAt.int_tuple _ _ u hu0⟩
theorem eq_any {n : Nat} {a b : Value} {x y : PV} {r : Bool} {Q : Value → Shared → Prop} (va : VR aDr s.heap a x) (vb : VR aDr s.heap b y) (e : eqf n x y = some r) (hu : A.units + n < cLine) (h : Q (.bool r) s) :
    wpAny (model prog w) A (compareOp .Eq a b) Q E s := (rc_both va vb e hu).1 prog w E Q h
theorem ne_any {n : Nat} {a b : Value} {x y : PV} {r : Bool} {Q : Value → Shared → Prop} (va : VR aDr s.heap a x) (vb : VR aDr s.heap b y) (e : eqf n x y = some r) (hu : A.units + n < cLine) (h : Q (.bool (!r)) s) :
    wpAny (model prog w) A (compareOp .NotEq a b) Q E s := (rc_both va vb e hu).2 prog w E Q h
end
section
variable {aDr : Nat → Addr} {h : Heap}
theorem eqL_tr {f : PV → PV → Option Bool} (hf : ∀ v x y b, VR aDr h v x → f x y = some b → b = true → VR aDr h v y) {xs : List PV} : ∀ {vs : List Value} {ys : List PV} {r : Bool}, VRs aDr h vs xs → eqL f xs ys = some r → r = true → VRs aDr h vs ys := by
  induction xs with
  | nil =>
    intro vs ys r a e hr
    cases ys with
    | nil => exact a
    | cons y ys => cases (some_inj e).trans hr
  | cons x xs ih =>
    rintro vs ys r ⟨v, ws, rfl, a, a'⟩ e hr
    cases ys with
    | nil => cases (some_inj e).trans hr
    | cons y ys =>
      obtain ⟨p, e1, e⟩ := bind_some e
      obtain ⟨q, e2, e⟩ := bind_some e
      obtain ⟨hp, hq⟩ : p = true ∧ q = true := by have z := (some_inj e).trans hr; revert z; cases p <;> cases q <;> decide
      exact ⟨v, ws, rfl, hf v x y p a e1 hp, ih a' e2 hq⟩
theorem eqf_tr (n : Nat) : ∀ {v : Value} {x y : PV} {r : Bool}, VR aDr h v x → eqf n x y = some r → r = true → VR aDr h v y := by
  induction n with
  | zero => intro v x y r _ e; cases e
  | succ n ih =>
    intro v x y r a e hr
    cases eqR_of e with
    | none => exact a
    | bool => rw [eq_of_beq hr] at a; exact a
    | int => rw [eq_of_beq hr] at a; exact a
    | str => rw [eqN_iff] at hr; rw [of_decide_eq_true hr] at a; exact a
    | byt => exact a
    | tup xs ys r e =>
      obtain ⟨l, vs, q, t, W⟩ := a
      exact ⟨l, vs, q, t, eqL_tr (fun v x y b p q w => ih p q w) W e hr⟩
    | _ => cases hr
open Classical in
noncomputable def hit (aDr : Nat → Addr) (h : Heap) (x : PV) (v : Value) : Bool := decide (VR aDr h v x)
theorem hit_is {x d : PV} {v : Value} {b : Bool} (V : VR aDr h v d) (e : eqf 8 d x = some b) : hit aDr h x v = b := by
  cases b with
  | true => exact @decide_eq_true _ (Classical.propDecidable _) (eqf_tr 8 V e rfl)
  | false => exact @decide_eq_false _ (Classical.propDecidable _) fun W => Bool.noConfusion (eqf_same 8 V W e)
end
end Mine
namespace Mine
open PySem PySem.W PyProof.Rows PySem.Calls PySem.Spec
inductive IC where
  | none | bool (b : Bool) | int (i : Int) | str (x : Str) (l : List Nat) (h : x = mkStr l) | byt (l : List Nat)
noncomputable def IC.emb : IC → Const
  | .none => .none | .bool b => .bool b | .int i => .int i | .str x _ _ => .str x | .byt l => .bytes (l.map UInt8.ofNat)
noncomputable def IC.pv : IC → PV
  | .none => .none | .bool b => .bool b | .int i => .int i | .str _ l _ => .str l | .byt l => .byt l
inductive IE where
  | con (c : IC) (p : Pos)
  | loc (x : Nat) (p : Pos)
  | glo (x : Nat) (p : Pos)
  | tup (es : List IE) (k : Nat) (p : Pos)
  | lst (es : List IE) (p : Pos)
  | sub (e i : IE) (p : Pos)
  | slc (e : IE) (lo hi : Option (Int × Pos)) (ps p : Pos)
  | cmp (l : IE) (op : CmpOp) (r : IE) (p : Pos)
  | cm2 (l : IE) (o1 : CmpOp) (m : IE) (o2 : CmpOp) (r : IE) (p : Pos)
  | boo (op : BoolOp) (es : List IE) (p : Pos)
  | una (op : UnaryOp) (e : IE) (p : Pos)
  | ite (t b o : IE) (p : Pos)
  | bin (l : IE) (op : Operator) (r : IE) (p : Pos)
  | att (e : IE) (x : Nat) (p : Pos)
  | cal (f : IE) (as : List IE) (p : Pos)
  | mca (o : IE) (x : Nat) (pa : Pos) (as : List IE) (p : Pos)
  | hol (k : Nat)
/-- the expressions that a configuration answers for -/
inductive HX where
  | dct (ks : List (Option Expr)) (vs : List Expr) (p : Pos)
  | lcp (elt : Expr) (gens : List Comprehension) (sc : Scope) (p : Pos)
  | cal (f : Expr) (as : List Expr) (p : Pos)
  | sbs (e i : Expr) (p : Pos)
noncomputable def HX.emb : HX → Expr
  | .dct ks vs p => .Dict ks vs p
  | .lcp elt gens sc p => .ListComp elt gens sc p
  | .cal f as p => .Call f as [] p
  | .sbs e i p => .Subscript e i p
noncomputable def embB : Option (Int × Pos) → Option Expr
  | none => none
  | some (i, p) => some (.Constant (.int i) 0 p)
section
variable (nm : Nat → Str) (hx : Nat → HX)
mutual
noncomputable def IE.embW : IE → Expr
  | .con c p => .Constant c.emb 0 p
  | .loc x p => .Name (nm x) p
  | .glo x p => .Name (nm x) p
  | .tup es k p => .Tuple (embsW es) k p
  | .lst es p => .List (embsW es) p
  | .sub e i p => .Subscript e.embW i.embW p
  | .slc e lo hi ps p => .Subscript e.embW (.Slice (embB lo) (embB hi) none ps) p
  | .cmp l op r p => .Compare l.embW [op] [r.embW] p
  | .cm2 l o1 m o2 r p => .Compare l.embW [o1, o2] [m.embW, r.embW] p
  | .boo op es p => .BoolOp op (embsW es) p
  | .una op e p => .UnaryOp op e.embW p
  | .ite t b o p => .IfExp t.embW b.embW o.embW p
  | .bin l op r p => .BinOp l.embW op r.embW p
  | .att e x p => .Attribute e.embW (nm x) p
  | .cal f as p => .Call f.embW (embsW as) [] p
  | .mca o x pa as p => .Call (.Attribute o.embW (nm x) pa) (embsW as) [] p
  | .hol k => (hx k).emb
noncomputable def embsW : List IE → List Expr
  | [] => []
  | e :: r => e.embW :: embsW r
end
end
inductive IS where
  | ret (e : IE) (p : Pos)
  | iff (t : IE) (b o : List IS) (p : Pos)
  | asg (x : Nat) (px : Pos) (e : IE) (p : Pos)
  | unp (x y : Nat) (px py : Pos) (k : Nat) (pt : Pos) (e : IE) (p : Pos)
  | swp (x y : Nat) (px py : Pos) (k : Nat) (pt : Pos) (a b : IE) (k' : Nat) (pv p : Pos)
  | whl (t : IE) (b : List IS) (p : Pos)
  | fr0 (t : Expr) (e : IE) (b : List Stmt) (p : Pos)
  | raw (s : Stmt)

/-- a frame's own ids -/
structure FI where
  locs : List Nat
  glos : List Nat
noncomputable def hasN (x : Nat) : List Nat → Bool
  | [] => false
  | y :: r => cond (Nat.beq x y) true (hasN x r)
structure Fe where
  fi : FI
  ρ : List (Nat × PV)
noncomputable def lk (x : Nat) : List (Nat × PV) → Option PV
  | [] => none
  | d :: r => cond (Nat.beq x d.1) (some d.2) (lk x r)
inductive SO where
  | nxt (ρ : List (Nat × PV))
  | ret (d : PV)
  | hit (ρ : List (Nat × PV)) (s : Stmt)
structure Cfg where
  glob : Nat → Option PV
  att : PV → Nat → Option PV
  met : PV → Nat → Option Addr
  prim : Nat → Addr → List PV → Option PV
  fn : Addr → List PV → Option (Fe × List IS)
  blt : String → List PV → Option PV
  bmet : PV → Nat → List PV → Option PV
  sget : PV → List Nat → Option PV
  cin : Nat → List Nat → Option Bool
  spf : Nat → List PV → Option PV
  hol : Nat → Fe → Option PV
structure Rec where
  ex : Fe → IE → Option PV
  tr : Fe → IE → Option Bool
  st : Fe → List IS → Option SO
  ca : Addr → List PV → Option PV

noncomputable def asBool : PV → Option Bool
  | .bool b => some b
  | _ => none
noncomputable def asInt : PV → Option Int
  | .int i => some i
  | _ => none
noncomputable def asNat : PV → Option Nat
  | .int (.ofNat i) => cond (Nat.blt i 1000) (some i) none
  | _ => none
noncomputable def asStr : PV → Option (List Nat)
  | .str l => some l
  | _ => none
noncomputable def asTup : PV → Option (List PV)
  | .tup l => some l
  | _ => none
noncomputable def asLst : PV → Option (List PV)
  | .lst l => some l
  | _ => none
noncomputable def evs (r : Rec) (f : Fe) : List IE → Option (List PV)
  | [] => some []
  | e :: es => (r.ex f e).bind fun a => (evs r f es).bind fun b => some (a :: b)
noncomputable def allA (r : Rec) (f : Fe) : List IE → Option Bool
  | [] => some true
  | e :: es => (r.tr f e).bind fun t => cond t (allA r f es) (some false)
noncomputable def anyO (r : Rec) (f : Fe) : List IE → Option Bool
  | [] => some false
  | e :: es => (r.tr f e).bind fun t => cond t (some true) (anyO r f es)
noncomputable def booA (r : Rec) (f : Fe) (e : IE) (es : List IE) : Option PV := List.rec (motive := fun _ => IE → Option PV) (fun e => r.ex f e) (fun x _ ih e => ((r.ex f e).bind asBool).bind fun t => cond t (ih x) (some (.bool false))) es e
noncomputable def booO (r : Rec) (f : Fe) (e : IE) (es : List IE) : Option PV := List.rec (motive := fun _ => IE → Option PV) (fun e => r.ex f e) (fun x _ ih e => ((r.ex f e).bind asBool).bind fun t => cond t (some (.bool true)) (ih x)) es e
noncomputable def nth : List PV → Nat → Option PV
  | [], _ => none
  | d :: r, n => Nat.casesOn (motive := fun _ => Option PV) n (some d) fun m => nth r m
noncomputable def nthN : List Nat → Nat → Option Nat
  | [], _ => none
  | d :: r, n => Nat.casesOn (motive := fun _ => Option Nat) n (some d) fun m => nthN r m
noncomputable def subv (a b : PV) : Option PV := (asNat b).bind fun i => match a with
  | .tup l => nth l i
  | .lst l => nth l i
  | .str l => (nthN l i).bind fun c => some (.str [c])
  | _ => none
noncomputable def anyL (x : PV) : List PV → Option Bool
  | [] => some false
  | y :: r => (eqf 8 y x).bind fun a => (anyL x r).bind fun b => some (a || b)
noncomputable def leI (a b : Int) : Bool := Decidable.rec (motive := fun _ => Bool) (fun _ => false) (fun _ => true) (Int.decLe a b)
noncomputable def ltI (a b : Int) : Bool := Decidable.rec (motive := fun _ => Bool) (fun _ => false) (fun _ => true) (Int.decLt a b)
noncomputable def nul : PV → Bool
  | .lst l => l.isEmpty
  | _ => false
noncomputable def isV (a b : PV) : Option Bool := match b with
  | .none => match a with
    | .none => some true
    | .str _ => some false
    | .tup _ => some false
    | _ => none
  | _ => none
noncomputable def inV (Γ : Cfg) (a b : PV) : Option Bool := match b with
  | .tup l => anyL a l
  | .lst l => anyL a l
  | .spc k => (asStr a).bind fun l => Γ.cin k l
  | _ => none
noncomputable def cmpC (Γ : Cfg) (op : CmpOp) (a b : PV) : Option Bool := match op with
  | .Eq => eqf 8 a b
  | .NotEq => cond (nul a && nul b) (some false) ((eqf 8 a b).bind fun x => some !x)
  | .In => inV Γ a b
  | .NotIn => (inV Γ a b).bind fun x => some !x
  | .Is => isV a b
  | .Lt => (asInt a).bind fun i => (asInt b).bind fun j => some (ltI i j)
  | .LtE => (asInt a).bind fun i => (asInt b).bind fun j => some (leI i j)
  | _ => none
noncomputable def addv (a b : PV) : Option PV := match a with
  | .tup x => (asTup b).bind fun y => cond (Nat.ble 1 x.length && (Nat.ble 1 y.length && Nat.ble (x.length + y.length) 1000)) (some (.tup (x ++ y))) none
  | .lst x => (asLst b).bind fun y => cond (Nat.ble (x.length + y.length) 1000) (some (.lst (x ++ y))) none
  | .str x => (asStr b).bind fun y => cond (Nat.ble (x.length + y.length) 1000) (some (.str (x ++ y))) none
  | _ => none
noncomputable def binv (op : Operator) (a b : PV) : Option PV := match op with
  | .Add => addv a b
  | .Sub => (asInt a).bind fun i => (asInt b).bind fun j => some (.int (i - j))
  | .Pow => (asNat a).bind fun i => (asNat b).bind fun k => cond (Nat.beq i 2) (some (.int (.ofNat (2 ^ k)))) none
  | _ => none
/-- l[:hi], l[lo:] -/
noncomputable def cutv (l : List PV) (lo hi : Option (Int × Pos)) : Option (List PV) := match lo with
  | none => match hi with
    | some (i, _) => (asNat (.int i)).bind fun i => cond (Nat.blt i l.length && Nat.blt l.length 1000) (some (l.take i)) none
    | none => none
  | some (i, _) => match hi with
    | none => (asNat (.int i)).bind fun i => cond (Nat.ble 1 i && (Nat.ble i l.length && Nat.blt l.length 1000)) (some (l.drop i)) none
    | some _ => none
noncomputable def plainBase : IE → Bool
  | .cal _ (_ :: _) _ => true
  | .cal _ _ _ => false
  | .hol .. => false
  | _ => true
noncomputable def plainFn : IE → Bool
  | .att .. => false
  | .hol .. => false
  | _ => true
noncomputable def isCal : IE → Bool
  | .cal .. => true
  | _ => false
noncomputable def okA : IE → Bool
  | .hol k => Nat.blt k 8
  | _ => true
noncomputable def isCalH : IE → Bool
  | .cal .. => true
  | .hol _ => true
  | _ => false
noncomputable def nxtOf : SO → Option (List (Nat × PV))
  | .nxt ρ => some ρ
  | _ => none
noncomputable def retOf : SO → Option PV
  | .ret d => some d
  | .nxt _ => some .none
  | .hit .. => none
/-- on with what is behind -/
noncomputable def SO.on (k : List (Nat × PV) → Option SO) : SO → Option SO
  | .nxt ρ => k ρ
  | .ret d => some (.ret d)
  | .hit ρ s => some (.hit ρ s)
noncomputable def wloop (r : Rec) (t : IE) (b : List IS) (fi : FI) (k : Nat) : List (Nat × PV) → Option (List (Nat × PV)) := Nat.rec (motive := fun _ => List (Nat × PV) → Option (List (Nat × PV))) (fun _ => none)
  (fun _ ih ρ => (r.tr ⟨fi, ρ⟩ t).bind fun c => cond c ((r.st ⟨fi, ρ⟩ b).bind fun o => (nxtOf o).bind ih) (some ρ)) k
noncomputable def pair2 : List PV → Option (PV × PV)
  | [a, b] => some (a, b)
  | _ => none
noncomputable def emptyV : PV → Bool
  | .tup l => l.isEmpty
  | .lst l => l.isEmpty
  | _ => false
section
variable (Γ : Cfg) (n : Nat) (r : Rec)
noncomputable def callv (g : PV) (vs : List PV) : Option PV := match g with
  | .obj a => r.ca a vs
  | .blt i => Γ.blt i vs
  | .spc k => cond (Nat.ble 20 n) (Γ.spf k vs) none
  | _ => none
noncomputable def sgetv (a b : PV) : Option PV := match a with
  | .obj g => (asStr b).bind fun l => Γ.sget (.obj g) l
  | .spc k => (asStr b).bind fun l => Γ.sget (.spc k) l
  | _ => subv a b
noncomputable def exS (f : Fe) (e : IE) : Option PV := match e with
  | .con c _ => some c.pv
  | .loc x _ => cond (hasN x f.fi.locs) (lk x f.ρ) none
  | .glo x _ => cond (hasN x f.fi.glos) (Γ.glob x) none
  | .tup es _ _ => cond (Nat.ble es.length 1000) ((evs r f es).bind fun l => some (.tup l)) none
  | .lst es _ => cond (Nat.ble es.length 1000) ((evs r f es).bind fun l => some (.lst l)) none
  | .sub e i _ => (r.ex f e).bind fun a => (r.ex f i).bind fun b => sgetv Γ a b
  | .slc e lo hi _ _ => ((r.ex f e).bind asTup).bind fun l => (cutv l lo hi).bind fun l => some (.tup l)
  | .cmp l op q _ => (r.ex f l).bind fun a => (r.ex f q).bind fun b => (cmpC Γ op a b).bind fun x => some (.bool x)
  | .cm2 l o1 m o2 q _ => (r.ex f l).bind fun a => (r.ex f m).bind fun b => (cmpC Γ o1 a b).bind fun x => cond x ((r.ex f q).bind fun c => (cmpC Γ o2 b c).bind fun y => some (.bool y)) (some (.bool false))
  | .boo op es _ => List.casesOn (motive := fun _ => Option PV) es none fun e es => BoolOp.casesOn (motive := fun _ => Option PV) op (booA r f e es) (booO r f e es)
  | .una op e _ => match op with
    | .Not => ((r.ex f e).bind asBool).bind fun b => some (.bool !b)
    | .USub => ((r.ex f e).bind asInt).bind fun b => some (.int (-b))
    | _ => none
  | .ite t b o _ => (r.tr f t).bind fun c => cond c (r.ex f b) (r.ex f o)
  | .bin l op q _ => (r.ex f l).bind fun a => (r.ex f q).bind fun b => binv op a b
  | .att e x _ => cond (plainBase e) ((r.ex f e).bind fun a => Γ.att a x) none
  | .cal g as _ => cond (plainFn g) ((r.ex f g).bind fun gv => (evs r f as).bind fun vs => callv Γ n r gv vs) none
  | .mca o x pa as p => cond (plainBase o && (Nat.beq pa.endLine p.line && Nat.blt as.length 30)) ((r.ex f o).bind fun a => (evs r f as).bind fun vs => Option.casesOn (motive := fun _ => Option PV) (Γ.met a x) (Γ.bmet a x vs) fun g => r.ca g (a :: vs)) none
  | .hol k => cond (Nat.ble 20 n) (Γ.hol k f) none
noncomputable def trS (f : Fe) (e : IE) : Option Bool := match e with
  | .una op x _ => match op with
    | .Not => (r.tr f x).bind fun b => some !b
    | _ => (r.ex f e).bind asBool
  | .boo op es _ => BoolOp.casesOn (motive := fun _ => Option Bool) op (allA r f es) (anyO r f es)
  | .ite t b o _ => (r.tr f t).bind fun c => cond c (r.tr f b) (r.tr f o)
  | .cmp l op q _ => (r.ex f l).bind fun a => (r.ex f q).bind fun b => cmpC Γ op a b
  | .cm2 l o1 m o2 q _ => (r.ex f l).bind fun a => (r.ex f m).bind fun b => (cmpC Γ o1 a b).bind fun x => cond x ((r.ex f q).bind fun c => cmpC Γ o2 b c) (some false)
  | _ => (r.ex f e).bind asBool
noncomputable def oneS (f : Fe) (s : IS) : Option SO := match s with
  | .ret e _ => (r.ex f e).bind fun d => some (.ret d)
  | .iff t b o _ => (r.tr f t).bind fun c => cond c (r.st f b) (r.st f o)
  | .asg x _ e _ => cond (hasN x f.fi.locs && okA e) ((r.ex f e).bind fun d => some (.nxt ((x, d) :: f.ρ))) none
  | .unp x y _ _ _ _ e _ => cond (isCal e && (hasN x f.fi.locs && hasN y f.fi.locs)) (((r.ex f e).bind asTup).bind fun l => (pair2 l).bind fun q => some (.nxt ((y, q.2) :: (x, q.1) :: f.ρ))) none
  | .swp x y px py _ _ a b _ _ _ => cond ((isCal a && (isCalH b && (Nat.beq px.line py.line && !Nat.beq x y))) && (hasN x f.fi.locs && hasN y f.fi.locs)) ((r.ex f a).bind fun d => (r.ex f b).bind fun e => some (.nxt ((x, d) :: (y, e) :: f.ρ))) none
  | .whl t b _ => (wloop r t b f.fi 3 f.ρ).bind fun ρ => some (.nxt ρ)
  | .fr0 _ e _ _ => (r.ex f e).bind fun d => cond (emptyV d) (some (.nxt f.ρ)) none
  | .raw s => some (.hit f.ρ s)
noncomputable def stS (f : Fe) (ss : List IS) : Option SO := List.casesOn (motive := fun _ => Option SO) ss (some (.nxt f.ρ)) fun s rest => (oneS r f s).bind fun o => o.on fun ρ => r.st ⟨f.fi, ρ⟩ rest
noncomputable def caS (a : Addr) (vs : List PV) : Option PV := Option.casesOn (motive := fun _ => Option PV) (Γ.prim n a vs) ((Γ.fn a vs).bind fun q => (r.st q.1 q.2).bind retOf) some
end
noncomputable def ev (Γ : Cfg) (n : Nat) : Rec := Nat.rec (motive := fun _ => Rec) ⟨fun _ _ => none, fun _ _ => none, fun _ _ => none, fun _ _ => none⟩ (fun n r => ⟨exS Γ n r, trS Γ r, stS r, caS Γ n r⟩) n

-- what the readers of a value say
theorem asBool_some {d : PV} {b : Bool} (h : asBool d = some b) : d = .bool b := by unfold asBool at h; split at h <;> cases h; rfl
theorem asInt_some {d : PV} {b : Int} (h : asInt d = some b) : d = .int b := by unfold asInt at h; split at h <;> cases h; rfl
theorem asNat_some {d : PV} {b : Nat} (h : asNat d = some b) : d = .int (.ofNat b) ∧ b < 1000 := by
  unfold asNat at h
  split at h
  · obtain ⟨h1, h2⟩ := cond_some h; cases h2; exact ⟨rfl, Nat.le_of_ble_eq_true h1⟩
  · cases h
theorem asStr_some {d : PV} {b : List Nat} (h : asStr d = some b) : d = .str b := by unfold asStr at h; split at h <;> cases h; rfl
theorem asTup_some {d : PV} {b : List PV} (h : asTup d = some b) : d = .tup b := by unfold asTup at h; split at h <;> cases h; rfl
theorem asLst_some {d : PV} {b : List PV} (h : asLst d = some b) : d = .lst b := by unfold asLst at h; split at h <;> cases h; rfl
theorem bind2 {α β γ : Type} {o : Option α} {g : α → Option β} {f : β → Option γ} {d : γ} (h : (o.bind g).bind f = some d) : ∃ a b, o = some a ∧ g a = some b ∧ f b = some d :=
  let ⟨b, h1, h2⟩ := bind_some h
  let ⟨a, h3, h4⟩ := bind_some h1
  ⟨a, b, h3, h4, h2⟩
theorem cond_or {α : Type} {b : Bool} {o o' : Option α} {d : α} (h : cond b o o' = some d) : (b = true ∧ o = some d) ∨ (b = false ∧ o' = some d) := by
  cases b with
  | true => exact .inl ⟨rfl, h⟩
  | false => exact .inr ⟨rfl, h⟩
theorem and_both {a b : Bool} (h : (a && b) = true) : a = true ∧ b = true := by simpa using h
end Mine
namespace Mine
open PySem PySem.W PyProof.Rows PySem.Calls PySem.Spec
noncomputable def nmTab : List Str := [Str.ofString "kind", Str.ofString "is_unsigned", Str.ofString "BITS", Str.ofString "MOST_BITS", Str.ofString "number", Str.ofString "low", Str.ofString "high", Str.ofString "int_range", Str.ofString "word", Str.ofString "told", Str.ofString "value", Str.ofString "bool", Str.ofString "isinstance", Str.ofString "bytes", Str.ofString "int", Str.ofString "is_in_range", Str.ofString "WRONG_RUNE", Str.ofString "chr", Str.ofString "encode", Str.ofString "sort_of_const", Str.ofString "rune_octets", Str.ofString "representable", Str.ofString "T", Str.ofString "type_text", Str.ofString "str", Str.ofString "chan_text", Str.ofString "signature_text", Str.ofString "joined_texts", Str.ofString "world", Str.ofString "base_of", Str.ofString "is_untyped", Str.ofString "UNTYPED_DEFAULTS", Str.ofString "underlying_of", Str.ofString "NILABLE", Str.ofString "OCTET", Str.ofString "RUNE", Str.ofString "here", Str.ofString "there", Str.ofString "one", Str.ofString "other", Str.ofString "is_named", Str.ofString "is_interface", Str.ofString "implements", Str.ofString "is_nil", Str.ofString "NIL", Str.ofString "has_nil", Str.ofString "is_truth", Str.ofString "default_type", Str.ofString "meets_face", Str.ofString "is_like_chan", Str.ofString "inner", Str.ofString "is_text", Str.ofString "is_integer", Str.ofString "is_byte_slice", Str.ofString "is_rune_slice", Str.ofString "is_assignable", Str.ofString "is_text_turned", Str.ofString "beneath_pointers", Str.ofString "es", Str.ofString "len", Str.ofString "is_spread", Str.ofString "made", Str.ofString "checker", Str.ofString "expr", Str.ofString "is_convertible", Str.ofString "PLAIN_KINDS", Str.ofString "spot", Str.ofString "coerce", Str.ofString "self", Str.ofString "takes_type", Str.ofString "is_face", Str.ofString "is_const_assignable", Str.ofString "UNTYPED_TRUTH", Str.ofString "e", Str.ofString "_law_sort", Str.ofString "_law_default", Str.ofString "_law_has_room", Str.ofString "named", Str.ofString "row", Str.ofString "underlying", Str.ofString "settle", Str.ofString "node", Str.ofString "wanted", Str.ofString "readers", Str.ofString "methods", Str.ofString "method_set", Str.ofString "begun", Str.ofString "found", Str.ofString "start_type", Str.ofString "base", Str.ofString "names", Str.ofString "bits", Str.ofString "ConstFault", Str.ofString "braced_text", Str.ofString "fault", Str.ofString "TypeFault", Str.ofString "const_convert", Str.ofString "NameFault", Str.ofString "name", Str.ofString "func", Str.ofString "lack_of", Str.ofString "member", Str.ofString "key", Str.ofString "names_of_methods", Str.ofString "member_or_none", Str.ofString "is_in_set", Str.ofString "rows", Str.ofString "join", Str.ofString "text", Str.ofString "adding", Str.ofString "held", Str.ofString "locks", Str.ofString "waits", Str.ofString "PLAIN", Str.ofString "NamedRow"]
noncomputable def nmOf (n : Nat) : Str := nmTab.getD n (Str.ofString "")
noncomputable abbrev S0 : Str := Str.ofString "u"
noncomputable abbrev L0 : List Nat := [117]
theorem s0 : S0 = mkStr L0 := by decide +kernel
noncomputable abbrev S1 : Str := Str.ofString "bool"
noncomputable abbrev L1 : List Nat := [98, 111, 111, 108]
theorem s1 : S1 = mkStr L1 := by decide +kernel
noncomputable abbrev S2 : Str := Str.ofString "untyped"
noncomputable abbrev L2 : List Nat := [117, 110, 116, 121, 112, 101, 100]
theorem s2 : S2 = mkStr L2 := by decide +kernel
noncomputable abbrev S3 : Str := Str.ofString "string"
noncomputable abbrev L3 : List Nat := [115, 116, 114, 105, 110, 103]
theorem s3 : S3 = mkStr L3 := by decide +kernel
noncomputable abbrev S4 : Str := Str.ofString "int"
noncomputable abbrev L4 : List Nat := [105, 110, 116]
theorem s4 : S4 = mkStr L4 := by decide +kernel
noncomputable abbrev S5 : Str := Str.ofString "utf-8"
noncomputable abbrev L5 : List Nat := [117, 116, 102, 45, 56]
theorem s5 : S5 = mkStr L5 := by decide +kernel
noncomputable abbrev S6 : Str := Str.ofString " { "
noncomputable abbrev L6 : List Nat := [32, 123, 32]
theorem s6 : S6 = mkStr L6 := by decide +kernel
noncomputable abbrev S7 : Str := Str.ofString "; "
noncomputable abbrev L7 : List Nat := [59, 32]
theorem s7 : S7 = mkStr L7 := by decide +kernel
noncomputable abbrev S8 : Str := Str.ofString " }"
noncomputable abbrev L8 : List Nat := [32, 125]
theorem s8 : S8 = mkStr L8 := by decide +kernel
noncomputable abbrev S9 : Str := Str.ofString " {}"
noncomputable abbrev L9 : List Nat := [32, 123, 125]
theorem s9 : S9 = mkStr L9 := by decide +kernel
noncomputable abbrev S10 : Str := Str.ofString "named"
noncomputable abbrev L10 : List Nat := [110, 97, 109, 101, 100]
theorem s10 : S10 = mkStr L10 := by decide +kernel
noncomputable abbrev S11 : Str := Str.ofString "untyped "
noncomputable abbrev L11 : List Nat := [117, 110, 116, 121, 112, 101, 100, 32]
theorem s11 : S11 = mkStr L11 := by decide +kernel
noncomputable abbrev S12 : Str := Str.ofString "ptr"
noncomputable abbrev L12 : List Nat := [112, 116, 114]
theorem s12 : S12 = mkStr L12 := by decide +kernel
noncomputable abbrev S13 : Str := Str.ofString "*"
noncomputable abbrev L13 : List Nat := [42]
theorem s13 : S13 = mkStr L13 := by decide +kernel
noncomputable abbrev S14 : Str := Str.ofString "array"
noncomputable abbrev L14 : List Nat := [97, 114, 114, 97, 121]
theorem s14 : S14 = mkStr L14 := by decide +kernel
noncomputable abbrev S15 : Str := Str.ofString "["
noncomputable abbrev L15 : List Nat := [91]
theorem s15 : S15 = mkStr L15 := by decide +kernel
noncomputable abbrev S16 : Str := Str.ofString "]"
noncomputable abbrev L16 : List Nat := [93]
theorem s16 : S16 = mkStr L16 := by decide +kernel
noncomputable abbrev S17 : Str := Str.ofString "slice"
noncomputable abbrev L17 : List Nat := [115, 108, 105, 99, 101]
theorem s17 : S17 = mkStr L17 := by decide +kernel
noncomputable abbrev S18 : Str := Str.ofString "[]"
noncomputable abbrev L18 : List Nat := [91, 93]
theorem s18 : S18 = mkStr L18 := by decide +kernel
noncomputable abbrev S19 : Str := Str.ofString "map"
noncomputable abbrev L19 : List Nat := [109, 97, 112]
theorem s19 : S19 = mkStr L19 := by decide +kernel
noncomputable abbrev S20 : Str := Str.ofString "map["
noncomputable abbrev L20 : List Nat := [109, 97, 112, 91]
theorem s20 : S20 = mkStr L20 := by decide +kernel
noncomputable abbrev S21 : Str := Str.ofString "chan"
noncomputable abbrev L21 : List Nat := [99, 104, 97, 110]
theorem s21 : S21 = mkStr L21 := by decide +kernel
noncomputable abbrev S22 : Str := Str.ofString "func"
noncomputable abbrev L22 : List Nat := [102, 117, 110, 99]
theorem s22 : S22 = mkStr L22 := by decide +kernel
noncomputable abbrev S23 : Str := Str.ofString "struct"
noncomputable abbrev L23 : List Nat := [115, 116, 114, 117, 99, 116]
theorem s23 : S23 = mkStr L23 := by decide +kernel
noncomputable abbrev S24 : Str := Str.ofString "interface"
noncomputable abbrev L24 : List Nat := [105, 110, 116, 101, 114, 102, 97, 99, 101]
theorem s24 : S24 = mkStr L24 := by decide +kernel
noncomputable abbrev S25 : Str := Str.ofString "tuple"
noncomputable abbrev L25 : List Nat := [116, 117, 112, 108, 101]
theorem s25 : S25 = mkStr L25 := by decide +kernel
noncomputable abbrev S26 : Str := Str.ofString "("
noncomputable abbrev L26 : List Nat := [40]
theorem s26 : S26 = mkStr L26 := by decide +kernel
noncomputable abbrev S27 : Str := Str.ofString ")"
noncomputable abbrev L27 : List Nat := [41]
theorem s27 : S27 = mkStr L27 := by decide +kernel
noncomputable abbrev S28 : Str := Str.ofString "rune"
noncomputable abbrev L28 : List Nat := [114, 117, 110, 101]
theorem s28 : S28 = mkStr L28 := by decide +kernel
noncomputable abbrev S29 : Str := Str.ofString "both"
noncomputable abbrev L29 : List Nat := [98, 111, 116, 104]
theorem s29 : S29 = mkStr L29 := by decide +kernel
noncomputable abbrev S30 : Str := Str.ofString "const"
noncomputable abbrev L30 : List Nat := [99, 111, 110, 115, 116]
theorem s30 : S30 = mkStr L30 := by decide +kernel
noncomputable abbrev S31 : Str := Str.ofString "nil"
noncomputable abbrev L31 : List Nat := [110, 105, 108]
theorem s31 : S31 = mkStr L31 := by decide +kernel
noncomputable abbrev S32 : Str := Str.ofString "convert"
noncomputable abbrev L32 : List Nat := [99, 111, 110, 118, 101, 114, 116]
theorem s32 : S32 = mkStr L32 := by decide +kernel
noncomputable abbrev S33 : Str := Str.ofString "face"
noncomputable abbrev L33 : List Nat := [102, 97, 99, 101]
theorem s33 : S33 = mkStr L33 := by decide +kernel
noncomputable abbrev S34 : Str := Str.ofString "any"
noncomputable abbrev L34 : List Nat := [97, 110, 121]
theorem s34 : S34 = mkStr L34 := by decide +kernel
noncomputable abbrev S35 : Str := Str.ofString "octets"
noncomputable abbrev L35 : List Nat := [111, 99, 116, 101, 116, 115]
theorem s35 : S35 = mkStr L35 := by decide +kernel
noncomputable abbrev S36 : Str := Str.ofString "type"
noncomputable abbrev L36 : List Nat := [116, 121, 112, 101]
theorem s36 : S36 = mkStr L36 := by decide +kernel
noncomputable abbrev S37 : Str := Str.ofString "int8"
noncomputable abbrev L37 : List Nat := [105, 110, 116, 56]
theorem s37 : S37 = mkStr L37 := by decide +kernel
noncomputable abbrev S38 : Str := Str.ofString "m.N"
noncomputable abbrev L38 : List Nat := [109, 46, 78]
theorem s38 : S38 = mkStr L38 := by decide +kernel
noncomputable abbrev S39 : Str := Str.ofString "uint16"
noncomputable abbrev L39 : List Nat := [117, 105, 110, 116, 49, 54]
theorem s39 : S39 = mkStr L39 := by decide +kernel
noncomputable abbrev S40 : Str := Str.ofString "m.S"
noncomputable abbrev L40 : List Nat := [109, 46, 83]
theorem s40 : S40 = mkStr L40 := by decide +kernel
noncomputable def fi98 : FI := ⟨[0], []⟩
/-- is_unsigned -/
noncomputable def ir98 : List IS := [(.ret (.cmp (.sub (.loc 0 ⟨24, 11, 24, 15⟩) (.con (.int 0) ⟨24, 16, 24, 17⟩) ⟨24, 11, 24, 18⟩) .Eq (.con (.str S0 L0 s0) ⟨24, 22, 24, 25⟩) ⟨24, 11, 24, 25⟩) ⟨24, 4, 24, 25⟩)]
noncomputable def ps98 : List Nat := [0]
noncomputable def fi105 : FI := ⟨[0], [1, 2]⟩
/-- int_range -/
noncomputable def ir105 : List IS := [(.iff (.cal (.glo 1 ⟨26, 7, 26, 18⟩) [(.loc 0 ⟨26, 19, 26, 23⟩)] ⟨26, 7, 26, 24⟩) [(.ret (.tup [(.con (.int 0) ⟨27, 16, 27, 17⟩), (.bin (.bin (.con (.int 2) ⟨27, 19, 27, 20⟩) .Pow (.sub (.glo 2 ⟨27, 24, 27, 28⟩) (.loc 0 ⟨27, 29, 27, 33⟩) ⟨27, 24, 27, 34⟩) ⟨27, 19, 27, 34⟩) .Sub (.con (.int 1) ⟨27, 37, 27, 38⟩) ⟨27, 19, 27, 38⟩)] 0 ⟨27, 15, 27, 39⟩) ⟨27, 8, 27, 39⟩)] [] ⟨26, 4, 27, 39⟩), (.ret (.tup [(.bin (.con (.int 0) ⟨28, 12, 28, 13⟩) .Sub (.bin (.con (.int 2) ⟨28, 16, 28, 17⟩) .Pow (.bin (.sub (.glo 2 ⟨28, 22, 28, 26⟩) (.loc 0 ⟨28, 27, 28, 31⟩) ⟨28, 22, 28, 32⟩) .Sub (.con (.int 1) ⟨28, 35, 28, 36⟩) ⟨28, 22, 28, 36⟩) ⟨28, 16, 28, 37⟩) ⟨28, 12, 28, 37⟩), (.bin (.bin (.con (.int 2) ⟨28, 39, 28, 40⟩) .Pow (.bin (.sub (.glo 2 ⟨28, 45, 28, 49⟩) (.loc 0 ⟨28, 50, 28, 54⟩) ⟨28, 45, 28, 55⟩) .Sub (.con (.int 1) ⟨28, 58, 28, 59⟩) ⟨28, 45, 28, 59⟩) ⟨28, 39, 28, 60⟩) .Sub (.con (.int 1) ⟨28, 63, 28, 64⟩) ⟨28, 39, 28, 64⟩)] 0 ⟨28, 11, 28, 65⟩) ⟨28, 4, 28, 65⟩)]
noncomputable def ps105 : List Nat := [0]
noncomputable def fi112 : FI := ⟨[4, 0, 5, 6], [3, 7]⟩
/-- is_in_range -/
noncomputable def ir112 : List IS := [(.iff (.cmp (.loc 0 ⟨30, 7, 30, 11⟩) .Is (.con .none ⟨30, 15, 30, 19⟩) ⟨30, 7, 30, 19⟩) [(.ret (.cm2 (.bin (.con (.int 0) ⟨31, 15, 31, 16⟩) .Sub (.bin (.con (.int 2) ⟨31, 19, 31, 20⟩) .Pow (.glo 3 ⟨31, 24, 31, 33⟩) ⟨31, 19, 31, 33⟩) ⟨31, 15, 31, 33⟩) .Lt (.loc 4 ⟨31, 36, 31, 42⟩) .Lt (.bin (.con (.int 2) ⟨31, 45, 31, 46⟩) .Pow (.glo 3 ⟨31, 50, 31, 59⟩) ⟨31, 45, 31, 59⟩) ⟨31, 15, 31, 59⟩) ⟨31, 8, 31, 59⟩)] [] ⟨30, 4, 31, 59⟩), (.unp 5 6 ⟨32, 4, 32, 7⟩ ⟨32, 9, 32, 13⟩ 0 ⟨32, 4, 32, 13⟩ (.cal (.glo 7 ⟨32, 16, 32, 25⟩) [(.loc 0 ⟨32, 26, 32, 30⟩)] ⟨32, 16, 32, 31⟩) ⟨32, 4, 32, 31⟩), (.ret (.cm2 (.loc 5 ⟨33, 11, 33, 14⟩) .LtE (.loc 4 ⟨33, 18, 33, 24⟩) .LtE (.loc 6 ⟨33, 28, 33, 32⟩) ⟨33, 11, 33, 32⟩) ⟨33, 4, 33, 32⟩)]
noncomputable def ps112 : List Nat := [4, 0]
noncomputable def fi119 : FI := ⟨[10, 9, 8], [12, 11, 13, 14, 15]⟩
/-- representable -/
noncomputable def ir119 : List IS := [(.asg 8 ⟨35, 4, 35, 8⟩ (.sub (.loc 9 ⟨35, 11, 35, 15⟩) (.con (.int 0) ⟨35, 16, 35, 17⟩) ⟨35, 11, 35, 18⟩) ⟨35, 4, 35, 18⟩), (.iff (.boo .Or [(.cmp (.loc 8 ⟨36, 7, 36, 11⟩) .Eq (.con (.str S1 L1 s1) ⟨36, 15, 36, 21⟩) ⟨36, 7, 36, 21⟩), (.cmp (.loc 9 ⟨36, 25, 36, 29⟩) .Eq (.tup [(.con (.str S2 L2 s2) ⟨36, 34, 36, 43⟩), (.con (.str S1 L1 s1) ⟨36, 45, 36, 51⟩)] 0 ⟨36, 33, 36, 52⟩) ⟨36, 25, 36, 52⟩)] ⟨36, 7, 36, 52⟩) [(.ret (.cal (.glo 12 ⟨37, 15, 37, 25⟩) [(.loc 10 ⟨37, 26, 37, 31⟩), (.glo 11 ⟨37, 33, 37, 37⟩)] ⟨37, 15, 37, 38⟩) ⟨37, 8, 37, 38⟩)] [] ⟨36, 4, 37, 38⟩), (.iff (.cal (.glo 12 ⟨38, 7, 38, 17⟩) [(.loc 10 ⟨38, 18, 38, 23⟩), (.glo 11 ⟨38, 25, 38, 29⟩)] ⟨38, 7, 38, 30⟩) [(.ret (.con (.bool false) ⟨39, 15, 39, 20⟩) ⟨39, 8, 39, 20⟩)] [] ⟨38, 4, 39, 20⟩), (.iff (.boo .Or [(.cmp (.loc 8 ⟨40, 7, 40, 11⟩) .Eq (.con (.str S3 L3 s3) ⟨40, 15, 40, 23⟩) ⟨40, 7, 40, 23⟩), (.cmp (.loc 9 ⟨40, 27, 40, 31⟩) .Eq (.tup [(.con (.str S2 L2 s2) ⟨40, 36, 40, 45⟩), (.con (.str S3 L3 s3) ⟨40, 47, 40, 55⟩)] 0 ⟨40, 35, 40, 56⟩) ⟨40, 27, 40, 56⟩)] ⟨40, 7, 40, 56⟩) [(.ret (.cal (.glo 12 ⟨41, 15, 41, 25⟩) [(.loc 10 ⟨41, 26, 41, 31⟩), (.glo 13 ⟨41, 33, 41, 38⟩)] ⟨41, 15, 41, 39⟩) ⟨41, 8, 41, 39⟩)] [] ⟨40, 4, 41, 39⟩), (.iff (.una .Not (.cal (.glo 12 ⟨42, 11, 42, 21⟩) [(.loc 10 ⟨42, 22, 42, 27⟩), (.glo 14 ⟨42, 29, 42, 32⟩)] ⟨42, 11, 42, 33⟩) ⟨42, 7, 42, 33⟩) [(.ret (.con (.bool false) ⟨43, 15, 43, 20⟩) ⟨43, 8, 43, 20⟩)] [] ⟨42, 4, 43, 20⟩), (.iff (.cmp (.loc 8 ⟨44, 7, 44, 11⟩) .Eq (.con (.str S2 L2 s2) ⟨44, 15, 44, 24⟩) ⟨44, 7, 44, 24⟩) [(.ret (.cal (.glo 15 ⟨45, 15, 45, 26⟩) [(.loc 10 ⟨45, 27, 45, 32⟩), (.con .none ⟨45, 34, 45, 38⟩)] ⟨45, 15, 45, 39⟩) ⟨45, 8, 45, 39⟩)] [] ⟨44, 4, 45, 39⟩), (.ret (.boo .And [(.cmp (.loc 8 ⟨46, 11, 46, 15⟩) .Eq (.con (.str S4 L4 s4) ⟨46, 19, 46, 24⟩) ⟨46, 11, 46, 24⟩), (.cal (.glo 15 ⟨46, 29, 46, 40⟩) [(.loc 10 ⟨46, 41, 46, 46⟩), (.sub (.loc 9 ⟨46, 48, 46, 52⟩) (.con (.int 1) ⟨46, 53, 46, 54⟩) ⟨46, 48, 46, 55⟩)] ⟨46, 29, 46, 56⟩)] ⟨46, 11, 46, 56⟩) ⟨46, 4, 46, 56⟩)]
noncomputable def ps119 : List Nat := [10, 9]
noncomputable def fi126 : FI := ⟨[10], [12, 11, 13]⟩
/-- sort_of_const -/
noncomputable def ir126 : List IS := [(.iff (.cal (.glo 12 ⟨48, 7, 48, 17⟩) [(.loc 10 ⟨48, 18, 48, 23⟩), (.glo 11 ⟨48, 25, 48, 29⟩)] ⟨48, 7, 48, 30⟩) [(.ret (.con (.str S1 L1 s1) ⟨49, 15, 49, 21⟩) ⟨49, 8, 49, 21⟩)] [] ⟨48, 4, 49, 21⟩), (.ret (.ite (.cal (.glo 12 ⟨50, 23, 50, 33⟩) [(.loc 10 ⟨50, 34, 50, 39⟩), (.glo 13 ⟨50, 41, 50, 46⟩)] ⟨50, 23, 50, 47⟩) (.con (.str S3 L3 s3) ⟨50, 11, 50, 19⟩) (.con (.str S4 L4 s4) ⟨50, 53, 50, 58⟩) ⟨50, 11, 50, 58⟩) ⟨50, 4, 50, 58⟩)]
noncomputable def ps126 : List Nat := [10]
noncomputable def fi133 : FI := ⟨[4], [16, 17]⟩
/-- rune_octets -/
noncomputable def ir133 : List IS := [(.iff (.boo .Or [(.una .Not (.cm2 (.con (.int 0) ⟨52, 11, 52, 12⟩) .LtE (.loc 4 ⟨52, 16, 52, 22⟩) .Lt (.con (.int 1114112) ⟨52, 25, 52, 32⟩) ⟨52, 11, 52, 32⟩) ⟨52, 7, 52, 32⟩), (.cm2 (.con (.int 55296) ⟨52, 36, 52, 41⟩) .LtE (.loc 4 ⟨52, 45, 52, 51⟩) .Lt (.con (.int 57344) ⟨52, 54, 52, 59⟩) ⟨52, 36, 52, 59⟩)] ⟨52, 7, 52, 59⟩) [(.ret (.glo 16 ⟨53, 15, 53, 25⟩) ⟨53, 8, 53, 25⟩)] [] ⟨52, 4, 53, 25⟩), (.ret (.mca (.cal (.glo 17 ⟨54, 11, 54, 14⟩) [(.loc 4 ⟨54, 15, 54, 21⟩)] ⟨54, 11, 54, 22⟩) 18 ⟨54, 11, 54, 29⟩ [(.con (.str S5 L5 s5) ⟨54, 30, 54, 37⟩)] ⟨54, 11, 54, 38⟩) ⟨54, 4, 54, 38⟩)]
noncomputable def ps133 : List Nat := [4]
noncomputable def fi140 : FI := ⟨[10, 9], [19, 20, 21, 92]⟩
/-- const_convert -/
noncomputable def ir140 : List IS := [(.iff (.boo .And [(.cmp (.loc 9 ⟨56, 7, 56, 11⟩) .Eq (.tup [(.con (.str S3 L3 s3) ⟨56, 16, 56, 24⟩)] 0 ⟨56, 15, 56, 26⟩) ⟨56, 7, 56, 26⟩), (.cmp (.cal (.glo 19 ⟨56, 31, 56, 44⟩) [(.loc 10 ⟨56, 45, 56, 50⟩)] ⟨56, 31, 56, 51⟩) .Eq (.con (.str S4 L4 s4) ⟨56, 55, 56, 60⟩) ⟨56, 31, 56, 60⟩)] ⟨56, 7, 56, 60⟩) [(.ret (.cal (.glo 20 ⟨57, 15, 57, 26⟩) [(.loc 10 ⟨57, 27, 57, 32⟩)] ⟨57, 15, 57, 33⟩) ⟨57, 8, 57, 33⟩)] [] ⟨56, 4, 57, 33⟩), (.iff (.una .Not (.cal (.glo 21 ⟨58, 11, 58, 24⟩) [(.loc 10 ⟨58, 25, 58, 30⟩), (.loc 9 ⟨58, 32, 58, 36⟩)] ⟨58, 11, 58, 37⟩) ⟨58, 7, 58, 37⟩) [(.raw (PySem.Stmt.Raise (some (PySem.Expr.Call (PySem.Expr.Name (Str.ofString "ConstFault") ⟨59, 14, 59, 24⟩) [(PySem.Expr.Constant (PySem.Const.str (Str.ofString "a constant is no value of its type")) 0 ⟨59, 25, 59, 61⟩)] [] ⟨59, 14, 59, 62⟩)) none ⟨59, 8, 59, 62⟩))] [] ⟨58, 4, 59, 62⟩), (.ret (.loc 10 ⟨60, 11, 60, 16⟩) ⟨60, 4, 60, 16⟩)]
noncomputable def ps140 : List Nat := [10, 9]
noncomputable def fi301 : FI := ⟨[8, 106], []⟩
/-- braced_text -/
noncomputable def ir301 : List IS := [(.ret (.ite (.cmp (.loc 106 ⟨201, 52, 201, 56⟩) .NotEq (.lst [] ⟨201, 60, 201, 62⟩) ⟨201, 52, 201, 62⟩) (.bin (.bin (.bin (.loc 8 ⟨201, 11, 201, 15⟩) .Add (.con (.str S6 L6 s6) ⟨201, 18, 201, 23⟩) ⟨201, 11, 201, 23⟩) .Add (.mca (.con (.str S7 L7 s7) ⟨201, 26, 201, 30⟩) 107 ⟨201, 26, 201, 35⟩ [(.loc 106 ⟨201, 36, 201, 40⟩)] ⟨201, 26, 201, 41⟩) ⟨201, 11, 201, 41⟩) .Add (.con (.str S8 L8 s8) ⟨201, 44, 201, 48⟩) ⟨201, 11, 201, 48⟩) (.bin (.loc 8 ⟨201, 68, 201, 72⟩) .Add (.con (.str S9 L9 s9) ⟨201, 75, 201, 80⟩) ⟨201, 68, 201, 80⟩) ⟨201, 11, 201, 80⟩) ⟨201, 4, 201, 80⟩)]
noncomputable def ps301 : List Nat := [8, 106]
noncomputable def fi313 : FI := ⟨[22, 0], [23, 24, 25, 26, 93, 27]⟩
/-- type_text -/
noncomputable def ir313 : List IS := [(.asg 0 ⟨209, 4, 209, 8⟩ (.sub (.loc 22 ⟨209, 11, 209, 12⟩) (.con (.int 0) ⟨209, 13, 209, 14⟩) ⟨209, 11, 209, 15⟩) ⟨209, 4, 209, 15⟩), (.iff (.boo .Or [(.cmp (.loc 0 ⟨210, 7, 210, 11⟩) .Eq (.con (.str S10 L10 s10) ⟨210, 15, 210, 22⟩) ⟨210, 7, 210, 22⟩), (.cmp (.loc 0 ⟨210, 26, 210, 30⟩) .Eq (.con (.str S4 L4 s4) ⟨210, 34, 210, 39⟩) ⟨210, 26, 210, 39⟩)] ⟨210, 7, 210, 39⟩) [(.ret (.sub (.loc 22 ⟨211, 15, 211, 16⟩) (.con (.int 1) ⟨211, 17, 211, 18⟩) ⟨211, 15, 211, 19⟩) ⟨211, 8, 211, 19⟩)] [] ⟨210, 4, 211, 19⟩), (.iff (.cmp (.loc 0 ⟨212, 7, 212, 11⟩) .Eq (.con (.str S2 L2 s2) ⟨212, 15, 212, 24⟩) ⟨212, 7, 212, 24⟩) [(.ret (.bin (.con (.str S11 L11 s11) ⟨213, 15, 213, 25⟩) .Add (.sub (.loc 22 ⟨213, 28, 213, 29⟩) (.con (.int 1) ⟨213, 30, 213, 31⟩) ⟨213, 28, 213, 32⟩) ⟨213, 15, 213, 32⟩) ⟨213, 8, 213, 32⟩)] [] ⟨212, 4, 213, 32⟩), (.iff (.cmp (.loc 0 ⟨214, 7, 214, 11⟩) .Eq (.con (.str S12 L12 s12) ⟨214, 15, 214, 20⟩) ⟨214, 7, 214, 20⟩) [(.ret (.bin (.con (.str S13 L13 s13) ⟨215, 15, 215, 18⟩) .Add (.cal (.glo 23 ⟨215, 21, 215, 30⟩) [(.sub (.loc 22 ⟨215, 31, 215, 32⟩) (.con (.int 1) ⟨215, 33, 215, 34⟩) ⟨215, 31, 215, 35⟩)] ⟨215, 21, 215, 36⟩) ⟨215, 15, 215, 36⟩) ⟨215, 8, 215, 36⟩)] [] ⟨214, 4, 215, 36⟩), (.iff (.cmp (.loc 0 ⟨216, 7, 216, 11⟩) .Eq (.con (.str S14 L14 s14) ⟨216, 15, 216, 22⟩) ⟨216, 7, 216, 22⟩) [(.ret (.bin (.bin (.bin (.con (.str S15 L15 s15) ⟨217, 15, 217, 18⟩) .Add (.cal (.glo 24 ⟨217, 21, 217, 24⟩) [(.sub (.loc 22 ⟨217, 25, 217, 26⟩) (.con (.int 1) ⟨217, 27, 217, 28⟩) ⟨217, 25, 217, 29⟩)] ⟨217, 21, 217, 30⟩) ⟨217, 15, 217, 30⟩) .Add (.con (.str S16 L16 s16) ⟨217, 33, 217, 36⟩) ⟨217, 15, 217, 36⟩) .Add (.cal (.glo 23 ⟨217, 39, 217, 48⟩) [(.sub (.loc 22 ⟨217, 49, 217, 50⟩) (.con (.int 2) ⟨217, 51, 217, 52⟩) ⟨217, 49, 217, 53⟩)] ⟨217, 39, 217, 54⟩) ⟨217, 15, 217, 54⟩) ⟨217, 8, 217, 54⟩)] [] ⟨216, 4, 217, 54⟩), (.iff (.cmp (.loc 0 ⟨218, 7, 218, 11⟩) .Eq (.con (.str S17 L17 s17) ⟨218, 15, 218, 22⟩) ⟨218, 7, 218, 22⟩) [(.ret (.bin (.con (.str S18 L18 s18) ⟨219, 15, 219, 19⟩) .Add (.cal (.glo 23 ⟨219, 22, 219, 31⟩) [(.sub (.loc 22 ⟨219, 32, 219, 33⟩) (.con (.int 1) ⟨219, 34, 219, 35⟩) ⟨219, 32, 219, 36⟩)] ⟨219, 22, 219, 37⟩) ⟨219, 15, 219, 37⟩) ⟨219, 8, 219, 37⟩)] [] ⟨218, 4, 219, 37⟩), (.iff (.cmp (.loc 0 ⟨220, 7, 220, 11⟩) .Eq (.con (.str S19 L19 s19) ⟨220, 15, 220, 20⟩) ⟨220, 7, 220, 20⟩) [(.ret (.bin (.bin (.bin (.con (.str S20 L20 s20) ⟨221, 15, 221, 21⟩) .Add (.cal (.glo 23 ⟨221, 24, 221, 33⟩) [(.sub (.loc 22 ⟨221, 34, 221, 35⟩) (.con (.int 1) ⟨221, 36, 221, 37⟩) ⟨221, 34, 221, 38⟩)] ⟨221, 24, 221, 39⟩) ⟨221, 15, 221, 39⟩) .Add (.con (.str S16 L16 s16) ⟨221, 42, 221, 45⟩) ⟨221, 15, 221, 45⟩) .Add (.cal (.glo 23 ⟨221, 48, 221, 57⟩) [(.sub (.loc 22 ⟨221, 58, 221, 59⟩) (.con (.int 2) ⟨221, 60, 221, 61⟩) ⟨221, 58, 221, 62⟩)] ⟨221, 48, 221, 63⟩) ⟨221, 15, 221, 63⟩) ⟨221, 8, 221, 63⟩)] [] ⟨220, 4, 221, 63⟩), (.iff (.cmp (.loc 0 ⟨222, 7, 222, 11⟩) .Eq (.con (.str S21 L21 s21) ⟨222, 15, 222, 21⟩) ⟨222, 7, 222, 21⟩) [(.ret (.cal (.glo 25 ⟨223, 15, 223, 24⟩) [(.loc 22 ⟨223, 25, 223, 26⟩)] ⟨223, 15, 223, 27⟩) ⟨223, 8, 223, 27⟩)] [] ⟨222, 4, 223, 27⟩), (.iff (.cmp (.loc 0 ⟨224, 7, 224, 11⟩) .Eq (.con (.str S22 L22 s22) ⟨224, 15, 224, 21⟩) ⟨224, 7, 224, 21⟩) [(.ret (.bin (.con (.str S22 L22 s22) ⟨225, 15, 225, 21⟩) .Add (.cal (.glo 26 ⟨225, 24, 225, 38⟩) [(.loc 22 ⟨225, 39, 225, 40⟩)] ⟨225, 24, 225, 41⟩) ⟨225, 15, 225, 41⟩) ⟨225, 8, 225, 41⟩)] [] ⟨224, 4, 225, 41⟩), (.iff (.cmp (.loc 0 ⟨226, 7, 226, 11⟩) .Eq (.con (.str S23 L23 s23) ⟨226, 15, 226, 23⟩) ⟨226, 7, 226, 23⟩) [(.ret (.cal (.glo 93 ⟨227, 15, 227, 26⟩) [(.con (.str S23 L23 s23) ⟨227, 27, 227, 35⟩), (.hol 8)] ⟨227, 15, 227, 71⟩) ⟨227, 8, 227, 71⟩)] [] ⟨226, 4, 227, 71⟩), (.iff (.cmp (.loc 0 ⟨228, 7, 228, 11⟩) .Eq (.con (.str S24 L24 s24) ⟨228, 15, 228, 26⟩) ⟨228, 7, 228, 26⟩) [(.ret (.cal (.glo 93 ⟨229, 15, 229, 26⟩) [(.con (.str S24 L24 s24) ⟨229, 27, 229, 38⟩), (.hol 9)] ⟨229, 15, 229, 93⟩) ⟨229, 8, 229, 93⟩)] [] ⟨228, 4, 229, 93⟩), (.ret (.ite (.cmp (.loc 0 ⟨230, 45, 230, 49⟩) .Eq (.con (.str S25 L25 s25) ⟨230, 53, 230, 60⟩) ⟨230, 45, 230, 60⟩) (.bin (.bin (.con (.str S26 L26 s26) ⟨230, 11, 230, 14⟩) .Add (.cal (.glo 27 ⟨230, 17, 230, 29⟩) [(.sub (.loc 22 ⟨230, 30, 230, 31⟩) (.con (.int 1) ⟨230, 32, 230, 33⟩) ⟨230, 30, 230, 34⟩)] ⟨230, 17, 230, 35⟩) ⟨230, 11, 230, 35⟩) .Add (.con (.str S27 L27 s27) ⟨230, 38, 230, 41⟩) ⟨230, 11, 230, 41⟩) (.loc 0 ⟨230, 66, 230, 70⟩) ⟨230, 11, 230, 70⟩) ⟨230, 4, 230, 70⟩)]
noncomputable def ps313 : List Nat := [22]
noncomputable def fi320 : FI := ⟨[28, 22], []⟩
/-- underlying_of -/
noncomputable def ir320 : List IS := [(.ret (.mca (.loc 28 ⟨232, 11, 232, 16⟩) 29 ⟨232, 11, 232, 24⟩ [(.loc 22 ⟨232, 25, 232, 26⟩)] ⟨232, 11, 232, 27⟩) ⟨232, 4, 232, 27⟩)]
noncomputable def ps320 : List Nat := [28, 22]
noncomputable def fi327 : FI := ⟨[22], []⟩
/-- is_named -/
noncomputable def ir327 : List IS := [(.ret (.cmp (.sub (.loc 22 ⟨234, 11, 234, 12⟩) (.con (.int 0) ⟨234, 13, 234, 14⟩) ⟨234, 11, 234, 15⟩) .In (.tup [(.con (.str S10 L10 s10) ⟨234, 20, 234, 27⟩), (.con (.str S1 L1 s1) ⟨234, 29, 234, 35⟩), (.con (.str S4 L4 s4) ⟨234, 37, 234, 42⟩), (.con (.str S3 L3 s3) ⟨234, 44, 234, 52⟩)] 0 ⟨234, 19, 234, 53⟩) ⟨234, 11, 234, 53⟩) ⟨234, 4, 234, 53⟩)]
noncomputable def ps327 : List Nat := [22]
noncomputable def fi334 : FI := ⟨[22], []⟩
/-- is_untyped -/
noncomputable def ir334 : List IS := [(.ret (.cmp (.sub (.loc 22 ⟨236, 11, 236, 12⟩) (.con (.int 0) ⟨236, 13, 236, 14⟩) ⟨236, 11, 236, 15⟩) .Eq (.con (.str S2 L2 s2) ⟨236, 19, 236, 28⟩) ⟨236, 11, 236, 28⟩) ⟨236, 4, 236, 28⟩)]
noncomputable def ps334 : List Nat := [22]
noncomputable def fi341 : FI := ⟨[22], [30, 31]⟩
/-- default_type -/
noncomputable def ir341 : List IS := [(.ret (.ite (.cal (.glo 30 ⟨238, 37, 238, 47⟩) [(.loc 22 ⟨238, 48, 238, 49⟩)] ⟨238, 37, 238, 50⟩) (.sub (.glo 31 ⟨238, 11, 238, 27⟩) (.sub (.loc 22 ⟨238, 28, 238, 29⟩) (.con (.int 1) ⟨238, 30, 238, 31⟩) ⟨238, 28, 238, 32⟩) ⟨238, 11, 238, 33⟩) (.loc 22 ⟨238, 56, 238, 57⟩) ⟨238, 11, 238, 57⟩) ⟨238, 4, 238, 57⟩)]
noncomputable def ps341 : List Nat := [22]
noncomputable def fi348 : FI := ⟨[28, 22], [32]⟩
/-- is_interface -/
noncomputable def ir348 : List IS := [(.ret (.cmp (.sub (.cal (.glo 32 ⟨240, 11, 240, 24⟩) [(.loc 28 ⟨240, 25, 240, 30⟩), (.loc 22 ⟨240, 32, 240, 33⟩)] ⟨240, 11, 240, 34⟩) (.con (.int 0) ⟨240, 35, 240, 36⟩) ⟨240, 11, 240, 37⟩) .Eq (.con (.str S24 L24 s24) ⟨240, 41, 240, 52⟩) ⟨240, 11, 240, 52⟩) ⟨240, 4, 240, 52⟩)]
noncomputable def ps348 : List Nat := [28, 22]
noncomputable def fi355 : FI := ⟨[28, 22], [30, 32]⟩
/-- is_integer -/
noncomputable def ir355 : List IS := [(.iff (.cal (.glo 30 ⟨242, 7, 242, 17⟩) [(.loc 22 ⟨242, 18, 242, 19⟩)] ⟨242, 7, 242, 20⟩) [(.ret (.cmp (.sub (.loc 22 ⟨243, 15, 243, 16⟩) (.con (.int 1) ⟨243, 17, 243, 18⟩) ⟨243, 15, 243, 19⟩) .In (.tup [(.con (.str S4 L4 s4) ⟨243, 24, 243, 29⟩), (.con (.str S28 L28 s28) ⟨243, 31, 243, 37⟩)] 0 ⟨243, 23, 243, 38⟩) ⟨243, 15, 243, 38⟩) ⟨243, 8, 243, 38⟩)] [] ⟨242, 4, 243, 38⟩), (.ret (.cmp (.sub (.cal (.glo 32 ⟨244, 11, 244, 24⟩) [(.loc 28 ⟨244, 25, 244, 30⟩), (.loc 22 ⟨244, 32, 244, 33⟩)] ⟨244, 11, 244, 34⟩) (.con (.int 0) ⟨244, 35, 244, 36⟩) ⟨244, 11, 244, 37⟩) .Eq (.con (.str S4 L4 s4) ⟨244, 41, 244, 46⟩) ⟨244, 11, 244, 46⟩) ⟨244, 4, 244, 46⟩)]
noncomputable def ps355 : List Nat := [28, 22]
noncomputable def fi362 : FI := ⟨[28, 22], [32]⟩
/-- is_text -/
noncomputable def ir362 : List IS := [(.ret (.boo .Or [(.cmp (.loc 22 ⟨246, 11, 246, 12⟩) .Eq (.tup [(.con (.str S2 L2 s2) ⟨246, 17, 246, 26⟩), (.con (.str S3 L3 s3) ⟨246, 28, 246, 36⟩)] 0 ⟨246, 16, 246, 37⟩) ⟨246, 11, 246, 37⟩), (.cmp (.sub (.cal (.glo 32 ⟨246, 41, 246, 54⟩) [(.loc 28 ⟨246, 55, 246, 60⟩), (.loc 22 ⟨246, 62, 246, 63⟩)] ⟨246, 41, 246, 64⟩) (.con (.int 0) ⟨246, 65, 246, 66⟩) ⟨246, 41, 246, 67⟩) .Eq (.con (.str S3 L3 s3) ⟨246, 71, 246, 79⟩) ⟨246, 41, 246, 79⟩)] ⟨246, 11, 246, 79⟩) ⟨246, 4, 246, 79⟩)]
noncomputable def ps362 : List Nat := [28, 22]
noncomputable def fi369 : FI := ⟨[28, 22], [32]⟩
/-- is_truth -/
noncomputable def ir369 : List IS := [(.ret (.boo .Or [(.cmp (.loc 22 ⟨248, 11, 248, 12⟩) .Eq (.tup [(.con (.str S2 L2 s2) ⟨248, 17, 248, 26⟩), (.con (.str S1 L1 s1) ⟨248, 28, 248, 34⟩)] 0 ⟨248, 16, 248, 35⟩) ⟨248, 11, 248, 35⟩), (.cmp (.sub (.cal (.glo 32 ⟨248, 39, 248, 52⟩) [(.loc 28 ⟨248, 53, 248, 58⟩), (.loc 22 ⟨248, 60, 248, 61⟩)] ⟨248, 39, 248, 62⟩) (.con (.int 0) ⟨248, 63, 248, 64⟩) ⟨248, 39, 248, 65⟩) .Eq (.con (.str S1 L1 s1) ⟨248, 69, 248, 75⟩) ⟨248, 39, 248, 75⟩)] ⟨248, 11, 248, 75⟩) ⟨248, 4, 248, 75⟩)]
noncomputable def ps369 : List Nat := [28, 22]
noncomputable def fi376 : FI := ⟨[28, 22], [32, 33]⟩
/-- has_nil -/
noncomputable def ir376 : List IS := [(.ret (.cmp (.sub (.cal (.glo 32 ⟨250, 11, 250, 24⟩) [(.loc 28 ⟨250, 25, 250, 30⟩), (.loc 22 ⟨250, 32, 250, 33⟩)] ⟨250, 11, 250, 34⟩) (.con (.int 0) ⟨250, 35, 250, 36⟩) ⟨250, 11, 250, 37⟩) .In (.glo 33 ⟨250, 41, 250, 48⟩) ⟨250, 11, 250, 48⟩) ⟨250, 4, 250, 48⟩)]
noncomputable def ps376 : List Nat := [28, 22]
noncomputable def fi383 : FI := ⟨[28, 22], [32, 34]⟩
/-- is_byte_slice -/
noncomputable def ir383 : List IS := [(.asg 22 ⟨252, 4, 252, 5⟩ (.cal (.glo 32 ⟨252, 8, 252, 21⟩) [(.loc 28 ⟨252, 22, 252, 27⟩), (.loc 22 ⟨252, 29, 252, 30⟩)] ⟨252, 8, 252, 31⟩) ⟨252, 4, 252, 31⟩), (.ret (.boo .And [(.cmp (.sub (.loc 22 ⟨253, 11, 253, 12⟩) (.con (.int 0) ⟨253, 13, 253, 14⟩) ⟨253, 11, 253, 15⟩) .Eq (.con (.str S17 L17 s17) ⟨253, 19, 253, 26⟩) ⟨253, 11, 253, 26⟩), (.cmp (.cal (.glo 32 ⟨253, 31, 253, 44⟩) [(.loc 28 ⟨253, 45, 253, 50⟩), (.sub (.loc 22 ⟨253, 52, 253, 53⟩) (.con (.int 1) ⟨253, 54, 253, 55⟩) ⟨253, 52, 253, 56⟩)] ⟨253, 31, 253, 57⟩) .Eq (.glo 34 ⟨253, 61, 253, 66⟩) ⟨253, 31, 253, 66⟩)] ⟨253, 11, 253, 66⟩) ⟨253, 4, 253, 66⟩)]
noncomputable def ps383 : List Nat := [28, 22]
noncomputable def fi390 : FI := ⟨[28, 22], [32, 35]⟩
/-- is_rune_slice -/
noncomputable def ir390 : List IS := [(.asg 22 ⟨255, 4, 255, 5⟩ (.cal (.glo 32 ⟨255, 8, 255, 21⟩) [(.loc 28 ⟨255, 22, 255, 27⟩), (.loc 22 ⟨255, 29, 255, 30⟩)] ⟨255, 8, 255, 31⟩) ⟨255, 4, 255, 31⟩), (.ret (.boo .And [(.cmp (.sub (.loc 22 ⟨256, 11, 256, 12⟩) (.con (.int 0) ⟨256, 13, 256, 14⟩) ⟨256, 11, 256, 15⟩) .Eq (.con (.str S17 L17 s17) ⟨256, 19, 256, 26⟩) ⟨256, 11, 256, 26⟩), (.cmp (.cal (.glo 32 ⟨256, 31, 256, 44⟩) [(.loc 28 ⟨256, 45, 256, 50⟩), (.sub (.loc 22 ⟨256, 52, 256, 53⟩) (.con (.int 1) ⟨256, 54, 256, 55⟩) ⟨256, 52, 256, 56⟩)] ⟨256, 31, 256, 57⟩) .Eq (.glo 35 ⟨256, 61, 256, 65⟩) ⟨256, 31, 256, 65⟩)] ⟨256, 11, 256, 65⟩) ⟨256, 4, 256, 65⟩)]
noncomputable def ps390 : List Nat := [28, 22]
noncomputable def fi397 : FI := ⟨[28, 38, 39, 36, 37], [32, 40]⟩
/-- is_like_chan -/
noncomputable def ir397 : List IS := [(.swp 36 37 ⟨259, 4, 259, 8⟩ ⟨259, 10, 259, 15⟩ 0 ⟨259, 4, 259, 15⟩ (.cal (.glo 32 ⟨259, 19, 259, 32⟩) [(.loc 28 ⟨259, 33, 259, 38⟩), (.loc 38 ⟨259, 40, 259, 43⟩)] ⟨259, 19, 259, 44⟩) (.cal (.glo 32 ⟨259, 46, 259, 59⟩) [(.loc 28 ⟨259, 60, 259, 65⟩), (.loc 39 ⟨259, 67, 259, 72⟩)] ⟨259, 46, 259, 73⟩) 0 ⟨259, 18, 259, 74⟩ ⟨259, 4, 259, 74⟩), (.iff (.boo .Or [(.cmp (.sub (.loc 36 ⟨260, 7, 260, 11⟩) (.con (.int 0) ⟨260, 12, 260, 13⟩) ⟨260, 7, 260, 14⟩) .NotEq (.con (.str S21 L21 s21) ⟨260, 18, 260, 24⟩) ⟨260, 7, 260, 24⟩), (.cmp (.sub (.loc 37 ⟨260, 28, 260, 33⟩) (.con (.int 0) ⟨260, 34, 260, 35⟩) ⟨260, 28, 260, 36⟩) .NotEq (.con (.str S21 L21 s21) ⟨260, 40, 260, 46⟩) ⟨260, 28, 260, 46⟩), (.cmp (.sub (.loc 36 ⟨260, 50, 260, 54⟩) (.con (.int 2) ⟨260, 55, 260, 56⟩) ⟨260, 50, 260, 57⟩) .NotEq (.sub (.loc 37 ⟨260, 61, 260, 66⟩) (.con (.int 2) ⟨260, 67, 260, 68⟩) ⟨260, 61, 260, 69⟩) ⟨260, 50, 260, 69⟩), (.cmp (.sub (.loc 36 ⟨260, 74, 260, 78⟩) (.con (.int 1) ⟨260, 79, 260, 80⟩) ⟨260, 74, 260, 81⟩) .NotEq (.con (.str S29 L29 s29) ⟨260, 85, 260, 91⟩) ⟨260, 74, 260, 91⟩)] ⟨260, 7, 260, 92⟩) [(.ret (.con (.bool false) ⟨261, 15, 261, 20⟩) ⟨261, 8, 261, 20⟩)] [] ⟨260, 4, 261, 20⟩), (.ret (.boo .Or [(.una .Not (.cal (.glo 40 ⟨262, 15, 262, 23⟩) [(.loc 38 ⟨262, 24, 262, 27⟩)] ⟨262, 15, 262, 28⟩) ⟨262, 11, 262, 28⟩), (.una .Not (.cal (.glo 40 ⟨262, 36, 262, 44⟩) [(.loc 39 ⟨262, 45, 262, 50⟩)] ⟨262, 36, 262, 51⟩) ⟨262, 32, 262, 51⟩)] ⟨262, 11, 262, 51⟩) ⟨262, 4, 262, 51⟩)]
noncomputable def ps397 : List Nat := [28, 38, 39]
noncomputable def fi404 : FI := ⟨[28, 38, 39], [41, 42, 32]⟩
/-- meets_face -/
noncomputable def ir404 : List IS := [(.ret (.boo .And [(.cal (.glo 41 ⟨264, 11, 264, 23⟩) [(.loc 28 ⟨264, 24, 264, 29⟩), (.loc 39 ⟨264, 31, 264, 36⟩)] ⟨264, 11, 264, 37⟩), (.cmp (.cal (.glo 42 ⟨264, 42, 264, 52⟩) [(.loc 28 ⟨264, 53, 264, 58⟩), (.loc 38 ⟨264, 60, 264, 63⟩), (.cal (.glo 32 ⟨264, 65, 264, 78⟩) [(.loc 28 ⟨264, 79, 264, 84⟩), (.loc 39 ⟨264, 86, 264, 91⟩)] ⟨264, 65, 264, 92⟩)] ⟨264, 42, 264, 93⟩) .Is (.con .none ⟨264, 97, 264, 101⟩) ⟨264, 42, 264, 101⟩)] ⟨264, 11, 264, 101⟩) ⟨264, 4, 264, 101⟩)]
noncomputable def ps404 : List Nat := [28, 38, 39]
noncomputable def fi412 : FI := ⟨[28, 38, 39, 43], [44, 45, 46, 48, 47, 32, 40, 49]⟩
/-- is_assignable -/
noncomputable def ir412 : List IS := [(.iff (.boo .Or [(.loc 43 ⟨266, 7, 266, 13⟩), (.cmp (.loc 38 ⟨266, 17, 266, 20⟩) .Eq (.glo 44 ⟨266, 24, 266, 27⟩) ⟨266, 17, 266, 27⟩)] ⟨266, 7, 266, 27⟩) [(.ret (.cal (.glo 45 ⟨267, 15, 267, 22⟩) [(.loc 28 ⟨267, 23, 267, 28⟩), (.loc 39 ⟨267, 30, 267, 35⟩)] ⟨267, 15, 267, 36⟩) ⟨267, 8, 267, 36⟩)] [] ⟨266, 4, 267, 36⟩), (.iff (.cmp (.loc 38 ⟨268, 7, 268, 10⟩) .Eq (.loc 39 ⟨268, 14, 268, 19⟩) ⟨268, 7, 268, 19⟩) [(.ret (.con (.bool true) ⟨269, 15, 269, 19⟩) ⟨269, 8, 269, 19⟩)] [] ⟨268, 4, 269, 19⟩), (.iff (.boo .Or [(.cmp (.sub (.loc 38 ⟨270, 7, 270, 10⟩) (.con (.int 0) ⟨270, 11, 270, 12⟩) ⟨270, 7, 270, 13⟩) .In (.tup [(.con (.str S25 L25 s25) ⟨270, 18, 270, 25⟩), (.con (.str S2 L2 s2) ⟨270, 27, 270, 36⟩)] 0 ⟨270, 17, 270, 37⟩) ⟨270, 7, 270, 37⟩), (.cmp (.sub (.loc 39 ⟨270, 41, 270, 46⟩) (.con (.int 0) ⟨270, 47, 270, 48⟩) ⟨270, 41, 270, 49⟩) .Eq (.con (.str S25 L25 s25) ⟨270, 53, 270, 60⟩) ⟨270, 41, 270, 60⟩)] ⟨270, 7, 270, 60⟩) [(.ret (.boo .And [(.cmp (.loc 38 ⟨271, 15, 271, 18⟩) .Eq (.tup [(.con (.str S2 L2 s2) ⟨271, 23, 271, 32⟩), (.con (.str S1 L1 s1) ⟨271, 34, 271, 40⟩)] 0 ⟨271, 22, 271, 41⟩) ⟨271, 15, 271, 41⟩), (.boo .Or [(.cal (.glo 46 ⟨271, 47, 271, 55⟩) [(.loc 28 ⟨271, 56, 271, 61⟩), (.loc 39 ⟨271, 63, 271, 68⟩)] ⟨271, 47, 271, 69⟩), (.cal (.glo 48 ⟨271, 73, 271, 83⟩) [(.loc 28 ⟨271, 84, 271, 89⟩), (.cal (.glo 47 ⟨271, 91, 271, 103⟩) [(.loc 38 ⟨271, 104, 271, 107⟩)] ⟨271, 91, 271, 108⟩), (.loc 39 ⟨271, 110, 271, 115⟩)] ⟨271, 73, 271, 116⟩)] ⟨271, 47, 271, 116⟩)] ⟨271, 15, 271, 117⟩) ⟨271, 8, 271, 117⟩)] [] ⟨270, 4, 271, 117⟩), (.iff (.boo .And [(.cmp (.cal (.glo 32 ⟨272, 7, 272, 20⟩) [(.loc 28 ⟨272, 21, 272, 26⟩), (.loc 38 ⟨272, 28, 272, 31⟩)] ⟨272, 7, 272, 32⟩) .Eq (.cal (.glo 32 ⟨272, 36, 272, 49⟩) [(.loc 28 ⟨272, 50, 272, 55⟩), (.loc 39 ⟨272, 57, 272, 62⟩)] ⟨272, 36, 272, 63⟩) ⟨272, 7, 272, 63⟩), (.una .Not (.boo .And [(.cal (.glo 40 ⟨272, 74, 272, 82⟩) [(.loc 38 ⟨272, 83, 272, 86⟩)] ⟨272, 74, 272, 87⟩), (.cal (.glo 40 ⟨272, 92, 272, 100⟩) [(.loc 39 ⟨272, 101, 272, 106⟩)] ⟨272, 92, 272, 107⟩)] ⟨272, 74, 272, 107⟩) ⟨272, 69, 272, 108⟩)] ⟨272, 7, 272, 109⟩) [(.ret (.con (.bool true) ⟨273, 15, 273, 19⟩) ⟨273, 8, 273, 19⟩)] [] ⟨272, 4, 273, 19⟩), (.ret (.boo .Or [(.cal (.glo 49 ⟨274, 11, 274, 23⟩) [(.loc 28 ⟨274, 24, 274, 29⟩), (.loc 38 ⟨274, 31, 274, 34⟩), (.loc 39 ⟨274, 36, 274, 41⟩)] ⟨274, 11, 274, 42⟩), (.cal (.glo 48 ⟨274, 46, 274, 56⟩) [(.loc 28 ⟨274, 57, 274, 62⟩), (.loc 38 ⟨274, 64, 274, 67⟩), (.loc 39 ⟨274, 69, 274, 74⟩)] ⟨274, 46, 274, 75⟩)] ⟨274, 11, 274, 75⟩) ⟨274, 4, 274, 75⟩)]
noncomputable def ps412 : List Nat := [28, 38, 39, 43]
noncomputable def fi419 : FI := ⟨[28, 10, 38, 39, 50], [41, 48, 47, 21, 32]⟩
/-- is_const_assignable -/
noncomputable def ir419 : List IS := [(.iff (.cal (.glo 41 ⟨276, 7, 276, 19⟩) [(.loc 28 ⟨276, 20, 276, 25⟩), (.loc 39 ⟨276, 27, 276, 32⟩)] ⟨276, 7, 276, 33⟩) [(.ret (.boo .And [(.cal (.glo 48 ⟨277, 15, 277, 25⟩) [(.loc 28 ⟨277, 26, 277, 31⟩), (.cal (.glo 47 ⟨277, 33, 277, 45⟩) [(.loc 38 ⟨277, 46, 277, 49⟩)] ⟨277, 33, 277, 50⟩), (.loc 39 ⟨277, 52, 277, 57⟩)] ⟨277, 15, 277, 58⟩), (.cal (.glo 21 ⟨277, 63, 277, 76⟩) [(.loc 10 ⟨277, 77, 277, 82⟩), (.cal (.glo 47 ⟨277, 84, 277, 96⟩) [(.loc 38 ⟨277, 97, 277, 100⟩)] ⟨277, 84, 277, 101⟩)] ⟨277, 63, 277, 102⟩)] ⟨277, 15, 277, 102⟩) ⟨277, 8, 277, 102⟩)] [] ⟨276, 4, 277, 102⟩), (.asg 50 ⟨278, 4, 278, 9⟩ (.cal (.glo 32 ⟨278, 12, 278, 25⟩) [(.loc 28 ⟨278, 26, 278, 31⟩), (.loc 39 ⟨278, 33, 278, 38⟩)] ⟨278, 12, 278, 39⟩) ⟨278, 4, 278, 39⟩), (.iff (.cmp (.sub (.loc 38 ⟨279, 7, 279, 10⟩) (.con (.int 1) ⟨279, 11, 279, 12⟩) ⟨279, 7, 279, 13⟩) .Eq (.con (.str S1 L1 s1) ⟨279, 17, 279, 23⟩) ⟨279, 7, 279, 23⟩) [(.ret (.cmp (.sub (.loc 50 ⟨280, 15, 280, 20⟩) (.con (.int 0) ⟨280, 21, 280, 22⟩) ⟨280, 15, 280, 23⟩) .Eq (.con (.str S1 L1 s1) ⟨280, 27, 280, 33⟩) ⟨280, 15, 280, 33⟩) ⟨280, 8, 280, 33⟩)] [] ⟨279, 4, 280, 33⟩), (.iff (.cmp (.sub (.loc 38 ⟨281, 7, 281, 10⟩) (.con (.int 1) ⟨281, 11, 281, 12⟩) ⟨281, 7, 281, 13⟩) .Eq (.con (.str S3 L3 s3) ⟨281, 17, 281, 25⟩) ⟨281, 7, 281, 25⟩) [(.ret (.cmp (.sub (.loc 50 ⟨282, 15, 282, 20⟩) (.con (.int 0) ⟨282, 21, 282, 22⟩) ⟨282, 15, 282, 23⟩) .Eq (.con (.str S3 L3 s3) ⟨282, 27, 282, 35⟩) ⟨282, 15, 282, 35⟩) ⟨282, 8, 282, 35⟩)] [] ⟨281, 4, 282, 35⟩), (.ret (.boo .And [(.cmp (.sub (.loc 50 ⟨283, 11, 283, 16⟩) (.con (.int 0) ⟨283, 17, 283, 18⟩) ⟨283, 11, 283, 19⟩) .Eq (.con (.str S4 L4 s4) ⟨283, 23, 283, 28⟩) ⟨283, 11, 283, 28⟩), (.cal (.glo 21 ⟨283, 33, 283, 46⟩) [(.loc 10 ⟨283, 47, 283, 52⟩), (.loc 50 ⟨283, 54, 283, 59⟩)] ⟨283, 33, 283, 60⟩)] ⟨283, 11, 283, 60⟩) ⟨283, 4, 283, 60⟩)]
noncomputable def ps419 : List Nat := [28, 10, 38, 39]
noncomputable def fi426 : FI := ⟨[28, 38, 39], [32]⟩
/-- beneath_pointers -/
noncomputable def ir426 : List IS := [(.iff (.boo .Or [(.cmp (.sub (.loc 38 ⟨285, 7, 285, 10⟩) (.con (.int 0) ⟨285, 11, 285, 12⟩) ⟨285, 7, 285, 13⟩) .NotEq (.con (.str S12 L12 s12) ⟨285, 17, 285, 22⟩) ⟨285, 7, 285, 22⟩), (.cmp (.sub (.loc 39 ⟨285, 26, 285, 31⟩) (.con (.int 0) ⟨285, 32, 285, 33⟩) ⟨285, 26, 285, 34⟩) .NotEq (.con (.str S12 L12 s12) ⟨285, 38, 285, 43⟩) ⟨285, 26, 285, 43⟩)] ⟨285, 7, 285, 43⟩) [(.ret (.con (.bool false) ⟨286, 15, 286, 20⟩) ⟨286, 8, 286, 20⟩)] [] ⟨285, 4, 286, 20⟩), (.ret (.cmp (.cal (.glo 32 ⟨287, 11, 287, 24⟩) [(.loc 28 ⟨287, 25, 287, 30⟩), (.sub (.loc 38 ⟨287, 32, 287, 35⟩) (.con (.int 1) ⟨287, 36, 287, 37⟩) ⟨287, 32, 287, 38⟩)] ⟨287, 11, 287, 39⟩) .Eq (.cal (.glo 32 ⟨287, 43, 287, 56⟩) [(.loc 28 ⟨287, 57, 287, 62⟩), (.sub (.loc 39 ⟨287, 64, 287, 69⟩) (.con (.int 1) ⟨287, 70, 287, 71⟩) ⟨287, 64, 287, 72⟩)] ⟨287, 43, 287, 73⟩) ⟨287, 11, 287, 73⟩) ⟨287, 4, 287, 73⟩)]
noncomputable def ps426 : List Nat := [28, 38, 39]
noncomputable def fi433 : FI := ⟨[28, 38, 39], [51, 52, 53, 54]⟩
/-- is_text_turned -/
noncomputable def ir433 : List IS := [(.iff (.cal (.glo 51 ⟨289, 7, 289, 14⟩) [(.loc 28 ⟨289, 15, 289, 20⟩), (.loc 39 ⟨289, 22, 289, 27⟩)] ⟨289, 7, 289, 28⟩) [(.ret (.boo .Or [(.cal (.glo 52 ⟨290, 15, 290, 25⟩) [(.loc 28 ⟨290, 26, 290, 31⟩), (.loc 38 ⟨290, 33, 290, 36⟩)] ⟨290, 15, 290, 37⟩), (.cal (.glo 53 ⟨290, 41, 290, 54⟩) [(.loc 28 ⟨290, 55, 290, 60⟩), (.loc 38 ⟨290, 62, 290, 65⟩)] ⟨290, 41, 290, 66⟩), (.cal (.glo 54 ⟨290, 70, 290, 83⟩) [(.loc 28 ⟨290, 84, 290, 89⟩), (.loc 38 ⟨290, 91, 290, 94⟩)] ⟨290, 70, 290, 95⟩)] ⟨290, 15, 290, 95⟩) ⟨290, 8, 290, 95⟩)] [] ⟨289, 4, 290, 95⟩), (.ret (.boo .And [(.cal (.glo 51 ⟨291, 11, 291, 18⟩) [(.loc 28 ⟨291, 19, 291, 24⟩), (.loc 38 ⟨291, 26, 291, 29⟩)] ⟨291, 11, 291, 30⟩), (.boo .Or [(.cal (.glo 53 ⟨291, 36, 291, 49⟩) [(.loc 28 ⟨291, 50, 291, 55⟩), (.loc 39 ⟨291, 57, 291, 62⟩)] ⟨291, 36, 291, 63⟩), (.cal (.glo 54 ⟨291, 67, 291, 80⟩) [(.loc 28 ⟨291, 81, 291, 86⟩), (.loc 39 ⟨291, 88, 291, 93⟩)] ⟨291, 67, 291, 94⟩)] ⟨291, 36, 291, 94⟩)] ⟨291, 11, 291, 95⟩) ⟨291, 4, 291, 95⟩)]
noncomputable def ps433 : List Nat := [28, 38, 39]
noncomputable def fi440 : FI := ⟨[28, 38, 39], [30, 47, 55, 56, 44, 52, 32, 57]⟩
/-- is_convertible -/
noncomputable def ir440 : List IS := [(.iff (.cal (.glo 30 ⟨293, 7, 293, 17⟩) [(.loc 38 ⟨293, 18, 293, 21⟩)] ⟨293, 7, 293, 22⟩) [(.asg 38 ⟨294, 8, 294, 11⟩ (.cal (.glo 47 ⟨294, 14, 294, 26⟩) [(.loc 38 ⟨294, 27, 294, 30⟩)] ⟨294, 14, 294, 31⟩) ⟨294, 8, 294, 31⟩)] [] ⟨293, 4, 294, 31⟩), (.iff (.boo .Or [(.cal (.glo 55 ⟨295, 7, 295, 20⟩) [(.loc 28 ⟨295, 21, 295, 26⟩), (.loc 38 ⟨295, 28, 295, 31⟩), (.loc 39 ⟨295, 33, 295, 38⟩)] ⟨295, 7, 295, 39⟩), (.cal (.glo 56 ⟨295, 43, 295, 57⟩) [(.loc 28 ⟨295, 58, 295, 63⟩), (.loc 38 ⟨295, 65, 295, 68⟩), (.loc 39 ⟨295, 70, 295, 75⟩)] ⟨295, 43, 295, 76⟩)] ⟨295, 7, 295, 76⟩) [(.ret (.con (.bool true) ⟨296, 15, 296, 19⟩) ⟨296, 8, 296, 19⟩)] [] ⟨295, 4, 296, 19⟩), (.iff (.boo .Or [(.cmp (.sub (.loc 38 ⟨297, 7, 297, 10⟩) (.con (.int 0) ⟨297, 11, 297, 12⟩) ⟨297, 7, 297, 13⟩) .Eq (.con (.str S25 L25 s25) ⟨297, 17, 297, 24⟩) ⟨297, 7, 297, 24⟩), (.cmp (.loc 38 ⟨297, 28, 297, 31⟩) .Eq (.glo 44 ⟨297, 35, 297, 38⟩) ⟨297, 28, 297, 38⟩)] ⟨297, 7, 297, 38⟩) [(.ret (.con (.bool false) ⟨298, 15, 298, 20⟩) ⟨298, 8, 298, 20⟩)] [] ⟨297, 4, 298, 20⟩), (.iff (.boo .And [(.cal (.glo 52 ⟨299, 7, 299, 17⟩) [(.loc 28 ⟨299, 18, 299, 23⟩), (.loc 38 ⟨299, 25, 299, 28⟩)] ⟨299, 7, 299, 29⟩), (.cal (.glo 52 ⟨299, 34, 299, 44⟩) [(.loc 28 ⟨299, 45, 299, 50⟩), (.loc 39 ⟨299, 52, 299, 57⟩)] ⟨299, 34, 299, 58⟩)] ⟨299, 7, 299, 58⟩) [(.ret (.con (.bool true) ⟨300, 15, 300, 19⟩) ⟨300, 8, 300, 19⟩)] [] ⟨299, 4, 300, 19⟩), (.ret (.boo .Or [(.cmp (.cal (.glo 32 ⟨301, 11, 301, 24⟩) [(.loc 28 ⟨301, 25, 301, 30⟩), (.loc 38 ⟨301, 32, 301, 35⟩)] ⟨301, 11, 301, 36⟩) .Eq (.cal (.glo 32 ⟨301, 40, 301, 53⟩) [(.loc 28 ⟨301, 54, 301, 59⟩), (.loc 39 ⟨301, 61, 301, 66⟩)] ⟨301, 40, 301, 67⟩) ⟨301, 11, 301, 67⟩), (.cal (.glo 57 ⟨301, 71, 301, 87⟩) [(.loc 28 ⟨301, 88, 301, 93⟩), (.loc 38 ⟨301, 95, 301, 98⟩), (.loc 39 ⟨301, 100, 301, 105⟩)] ⟨301, 71, 301, 106⟩)] ⟨301, 11, 301, 106⟩) ⟨301, 4, 301, 106⟩)]
noncomputable def ps440 : List Nat := [28, 38, 39]
noncomputable def fi448 : FI := ⟨[62, 22, 58, 60, 66, 61, 50, 94], [59, 95, 23, 32, 64, 65, 96, 92, 30, 47]⟩
/-- check_conversion -/
noncomputable def ir448 : List IS := [(.iff (.boo .Or [(.cmp (.cal (.glo 59 ⟨305, 7, 305, 10⟩) [(.loc 58 ⟨305, 11, 305, 13⟩)] ⟨305, 7, 305, 14⟩) .NotEq (.con (.int 1) ⟨305, 18, 305, 19⟩) ⟨305, 7, 305, 19⟩), (.loc 60 ⟨305, 23, 305, 32⟩)] ⟨305, 7, 305, 32⟩) [(.raw (PySem.Stmt.Raise (some (PySem.Expr.Call (PySem.Expr.Name (Str.ofString "TypeFault") ⟨306, 14, 306, 23⟩) [(PySem.Expr.BinOp (PySem.Expr.Constant (PySem.Const.str (Str.ofString "one value is turned into ")) 0 ⟨306, 24, 306, 51⟩) PySem.Operator.Add (PySem.Expr.Call (PySem.Expr.Name (Str.ofString "type_text") ⟨306, 54, 306, 63⟩) [(PySem.Expr.Name (Str.ofString "T") ⟨306, 64, 306, 65⟩)] [] ⟨306, 54, 306, 66⟩) ⟨306, 24, 306, 66⟩), (PySem.Expr.Name (Str.ofString "spot") ⟨306, 68, 306, 72⟩)] [] ⟨306, 14, 306, 73⟩)) none ⟨306, 8, 306, 73⟩))] [] ⟨305, 4, 306, 73⟩), (.asg 61 ⟨307, 4, 307, 8⟩ (.mca (.loc 62 ⟨307, 11, 307, 18⟩) 63 ⟨307, 11, 307, 23⟩ [(.sub (.loc 58 ⟨307, 24, 307, 26⟩) (.con (.int 0) ⟨307, 27, 307, 28⟩) ⟨307, 24, 307, 29⟩), (.loc 22 ⟨307, 31, 307, 32⟩)] ⟨307, 11, 307, 33⟩) ⟨307, 4, 307, 33⟩), (.asg 50 ⟨308, 4, 308, 9⟩ (.cal (.glo 32 ⟨308, 12, 308, 25⟩) [(.att (.loc 62 ⟨308, 26, 308, 33⟩) 28 ⟨308, 26, 308, 39⟩), (.loc 22 ⟨308, 41, 308, 42⟩)] ⟨308, 12, 308, 43⟩) ⟨308, 4, 308, 43⟩), (.iff (.una .Not (.cal (.glo 64 ⟨309, 11, 309, 25⟩) [(.att (.loc 62 ⟨309, 26, 309, 33⟩) 28 ⟨309, 26, 309, 39⟩), (.sub (.loc 61 ⟨309, 41, 309, 45⟩) (.con (.int 1) ⟨309, 46, 309, 47⟩) ⟨309, 41, 309, 48⟩), (.loc 22 ⟨309, 50, 309, 51⟩)] ⟨309, 11, 309, 52⟩) ⟨309, 7, 309, 52⟩) [(.raw (PySem.Stmt.Raise (some (PySem.Expr.Call (PySem.Expr.Name (Str.ofString "TypeFault") ⟨310, 14, 310, 23⟩) [(PySem.Expr.BinOp (PySem.Expr.BinOp (PySem.Expr.Call (PySem.Expr.Name (Str.ofString "type_text") ⟨310, 24, 310, 33⟩) [(PySem.Expr.Subscript (PySem.Expr.Name (Str.ofString "made") ⟨310, 34, 310, 38⟩) (PySem.Expr.Constant (PySem.Const.int 1) 0 ⟨310, 39, 310, 40⟩) ⟨310, 34, 310, 41⟩)] [] ⟨310, 24, 310, 42⟩) PySem.Operator.Add (PySem.Expr.Constant (PySem.Const.str (Str.ofString " is not turned into ")) 0 ⟨310, 45, 310, 67⟩) ⟨310, 24, 310, 67⟩) PySem.Operator.Add (PySem.Expr.Call (PySem.Expr.Name (Str.ofString "type_text") ⟨310, 70, 310, 79⟩) [(PySem.Expr.Name (Str.ofString "T") ⟨310, 80, 310, 81⟩)] [] ⟨310, 70, 310, 82⟩) ⟨310, 24, 310, 82⟩), (PySem.Expr.Name (Str.ofString "spot") ⟨310, 84, 310, 88⟩)] [] ⟨310, 14, 310, 89⟩)) none ⟨310, 8, 310, 89⟩))] [] ⟨309, 4, 310, 89⟩), (.iff (.boo .And [(.cmp (.sub (.loc 61 ⟨311, 7, 311, 11⟩) (.con (.int 0) ⟨311, 12, 311, 13⟩) ⟨311, 7, 311, 14⟩) .Eq (.con (.str S30 L30 s30) ⟨311, 18, 311, 25⟩) ⟨311, 7, 311, 25⟩), (.cmp (.sub (.loc 50 ⟨311, 30, 311, 35⟩) (.con (.int 0) ⟨311, 36, 311, 37⟩) ⟨311, 30, 311, 38⟩) .In (.glo 65 ⟨311, 42, 311, 53⟩) ⟨311, 30, 311, 53⟩)] ⟨311, 7, 311, 53⟩) [(.raw (PySem.Stmt.Try [(PySem.Stmt.Return (some (PySem.Expr.Tuple [(PySem.Expr.Constant (PySem.Const.str (Str.ofString "const")) 0 ⟨313, 20, 313, 27⟩), (PySem.Expr.Name (Str.ofString "T") ⟨313, 29, 313, 30⟩), (PySem.Expr.Name (Str.ofString "spot") ⟨313, 32, 313, 36⟩), (PySem.Expr.Call (PySem.Expr.Name (Str.ofString "const_convert") ⟨313, 38, 313, 51⟩) [(PySem.Expr.Subscript (PySem.Expr.Name (Str.ofString "made") ⟨313, 52, 313, 56⟩) (PySem.Expr.Constant (PySem.Const.int 3) 0 ⟨313, 57, 313, 58⟩) ⟨313, 52, 313, 59⟩), (PySem.Expr.Name (Str.ofString "inner") ⟨313, 61, 313, 66⟩)] [] ⟨313, 38, 313, 67⟩)] 0 ⟨313, 19, 313, 68⟩)) ⟨313, 12, 313, 68⟩)] [(PySem.ExceptHandler.ExceptHandler (some (PySem.Expr.Name (Str.ofString "ConstFault") ⟨314, 15, 314, 25⟩)) (some (Str.ofString "fault")) [(PySem.Stmt.Raise (some (PySem.Expr.Call (PySem.Expr.Name (Str.ofString "ConstFault") ⟨315, 18, 315, 28⟩) [(PySem.Expr.Attribute (PySem.Expr.Name (Str.ofString "fault") ⟨315, 29, 315, 34⟩) (Str.ofString "message") ⟨315, 29, 315, 42⟩), (PySem.Expr.Name (Str.ofString "spot") ⟨315, 44, 315, 48⟩)] [] ⟨315, 18, 315, 49⟩)) (some (PySem.Expr.Constant PySem.Const.none 0 ⟨315, 55, 315, 59⟩)) ⟨315, 12, 315, 59⟩)] ⟨314, 8, 315, 59⟩)] [] [] ⟨312, 8, 315, 59⟩))] [] ⟨311, 4, 315, 59⟩), (.iff (.boo .Or [(.cmp (.sub (.loc 61 ⟨316, 7, 316, 11⟩) (.con (.int 1) ⟨316, 12, 316, 13⟩) ⟨316, 7, 316, 14⟩) .Eq (.tup [(.con (.str S31 L31 s31) ⟨316, 19, 316, 24⟩)] 0 ⟨316, 18, 316, 26⟩) ⟨316, 7, 316, 26⟩), (.cmp (.sub (.loc 50 ⟨316, 30, 316, 35⟩) (.con (.int 0) ⟨316, 36, 316, 37⟩) ⟨316, 30, 316, 38⟩) .Eq (.con (.str S24 L24 s24) ⟨316, 42, 316, 53⟩) ⟨316, 30, 316, 53⟩)] ⟨316, 7, 316, 53⟩) [(.ret (.mca (.loc 62 ⟨317, 15, 317, 22⟩) 67 ⟨317, 15, 317, 29⟩ [(.loc 61 ⟨317, 30, 317, 34⟩), (.loc 22 ⟨317, 36, 317, 37⟩), (.loc 66 ⟨317, 39, 317, 43⟩)] ⟨317, 15, 317, 44⟩) ⟨317, 8, 317, 44⟩)] [] ⟨316, 4, 317, 44⟩), (.iff (.cal (.glo 30 ⟨318, 7, 318, 17⟩) [(.sub (.loc 61 ⟨318, 18, 318, 22⟩) (.con (.int 1) ⟨318, 23, 318, 24⟩) ⟨318, 18, 318, 25⟩)] ⟨318, 7, 318, 26⟩) [(.asg 61 ⟨319, 8, 319, 12⟩ (.mca (.loc 62 ⟨319, 15, 319, 22⟩) 67 ⟨319, 15, 319, 29⟩ [(.loc 61 ⟨319, 30, 319, 34⟩), (.cal (.glo 47 ⟨319, 36, 319, 48⟩) [(.sub (.loc 61 ⟨319, 49, 319, 53⟩) (.con (.int 1) ⟨319, 54, 319, 55⟩) ⟨319, 49, 319, 56⟩)] ⟨319, 36, 319, 57⟩), (.loc 66 ⟨319, 59, 319, 63⟩)] ⟨319, 15, 319, 64⟩) ⟨319, 8, 319, 64⟩)] [] ⟨318, 4, 319, 64⟩), (.ret (.ite (.cmp (.sub (.loc 61 ⟨320, 19, 320, 23⟩) (.con (.int 1) ⟨320, 24, 320, 25⟩) ⟨320, 19, 320, 26⟩) .Eq (.loc 22 ⟨320, 30, 320, 31⟩) ⟨320, 19, 320, 31⟩) (.loc 61 ⟨320, 11, 320, 15⟩) (.tup [(.con (.str S32 L32 s32) ⟨320, 38, 320, 47⟩), (.loc 22 ⟨320, 49, 320, 50⟩), (.loc 66 ⟨320, 52, 320, 56⟩), (.loc 61 ⟨320, 58, 320, 62⟩)] 0 ⟨320, 37, 320, 63⟩) ⟨320, 11, 320, 63⟩) ⟨320, 4, 320, 63⟩)]
noncomputable def ps448 : List Nat := [62, 22, 58, 60, 66]
noncomputable def fi494 : FI := ⟨[68, 61, 22, 66, 38, 70], [44, 45, 30, 41, 47, 55, 95, 23]⟩
/-- coerce -/
noncomputable def ir494 : List IS := [(.asg 38 ⟨357, 8, 357, 11⟩ (.sub (.loc 61 ⟨357, 14, 357, 18⟩) (.con (.int 1) ⟨357, 19, 357, 20⟩) ⟨357, 14, 357, 21⟩) ⟨357, 8, 357, 21⟩), (.iff (.cmp (.loc 38 ⟨358, 11, 358, 14⟩) .Eq (.loc 22 ⟨358, 18, 358, 19⟩) ⟨358, 11, 358, 19⟩) [(.ret (.loc 61 ⟨359, 19, 359, 23⟩) ⟨359, 12, 359, 23⟩)] [] ⟨358, 8, 359, 23⟩), (.iff (.boo .And [(.cmp (.loc 38 ⟨360, 11, 360, 14⟩) .Eq (.glo 44 ⟨360, 18, 360, 21⟩) ⟨360, 11, 360, 21⟩), (.cal (.glo 45 ⟨360, 26, 360, 33⟩) [(.att (.loc 68 ⟨360, 34, 360, 38⟩) 28 ⟨360, 34, 360, 44⟩), (.loc 22 ⟨360, 46, 360, 47⟩)] ⟨360, 26, 360, 48⟩)] ⟨360, 11, 360, 48⟩) [(.ret (.tup [(.con (.str S31 L31 s31) ⟨361, 20, 361, 25⟩), (.loc 22 ⟨361, 27, 361, 28⟩), (.sub (.loc 61 ⟨361, 30, 361, 34⟩) (.con (.int 2) ⟨361, 35, 361, 36⟩) ⟨361, 30, 361, 37⟩)] 0 ⟨361, 19, 361, 38⟩) ⟨361, 12, 361, 38⟩)] [] ⟨360, 8, 361, 38⟩), (.iff (.boo .And [(.cal (.glo 30 ⟨362, 11, 362, 21⟩) [(.loc 38 ⟨362, 22, 362, 25⟩)] ⟨362, 11, 362, 26⟩), (.mca (.loc 68 ⟨362, 31, 362, 35⟩) 69 ⟨362, 31, 362, 46⟩ [(.loc 61 ⟨362, 47, 362, 51⟩), (.loc 22 ⟨362, 53, 362, 54⟩)] ⟨362, 31, 362, 55⟩)] ⟨362, 11, 362, 55⟩) [(.iff (.una .Not (.cal (.glo 41 ⟨363, 19, 363, 31⟩) [(.att (.loc 68 ⟨363, 32, 363, 36⟩) 28 ⟨363, 32, 363, 42⟩), (.loc 22 ⟨363, 44, 363, 45⟩)] ⟨363, 19, 363, 46⟩) ⟨363, 15, 363, 46⟩) [(.ret (.bin (.bin (.slc (.loc 61 ⟨364, 23, 364, 27⟩) none (some (1, ⟨364, 29, 364, 30⟩)) ⟨364, 28, 364, 30⟩ ⟨364, 23, 364, 31⟩) .Add (.tup [(.loc 22 ⟨364, 35, 364, 36⟩)] 0 ⟨364, 34, 364, 38⟩) ⟨364, 23, 364, 38⟩) .Add (.slc (.loc 61 ⟨364, 41, 364, 45⟩) (some (2, ⟨364, 46, 364, 47⟩)) none ⟨364, 46, 364, 48⟩ ⟨364, 41, 364, 49⟩) ⟨364, 23, 364, 49⟩) ⟨364, 16, 364, 49⟩)] [] ⟨363, 12, 364, 49⟩), (.ret (.tup [(.con (.str S33 L33 s33) ⟨365, 20, 365, 26⟩), (.loc 22 ⟨365, 28, 365, 29⟩), (.sub (.loc 61 ⟨365, 31, 365, 35⟩) (.con (.int 2) ⟨365, 36, 365, 37⟩) ⟨365, 31, 365, 38⟩), (.bin (.bin (.slc (.loc 61 ⟨365, 40, 365, 44⟩) none (some (1, ⟨365, 46, 365, 47⟩)) ⟨365, 45, 365, 47⟩ ⟨365, 40, 365, 48⟩) .Add (.tup [(.cal (.glo 47 ⟨365, 52, 365, 64⟩) [(.loc 38 ⟨365, 65, 365, 68⟩)] ⟨365, 52, 365, 69⟩)] 0 ⟨365, 51, 365, 71⟩) ⟨365, 40, 365, 71⟩) .Add (.slc (.loc 61 ⟨365, 74, 365, 78⟩) (some (2, ⟨365, 79, 365, 80⟩)) none ⟨365, 79, 365, 81⟩ ⟨365, 74, 365, 82⟩) ⟨365, 40, 365, 82⟩)] 0 ⟨365, 19, 365, 83⟩) ⟨365, 12, 365, 83⟩)] [] ⟨362, 8, 365, 83⟩), (.iff (.boo .And [(.una .Not (.cal (.glo 30 ⟨366, 15, 366, 25⟩) [(.loc 38 ⟨366, 26, 366, 29⟩)] ⟨366, 15, 366, 30⟩) ⟨366, 11, 366, 30⟩), (.cmp (.loc 38 ⟨366, 35, 366, 38⟩) .NotEq (.glo 44 ⟨366, 42, 366, 45⟩) ⟨366, 35, 366, 45⟩), (.cal (.glo 55 ⟨366, 50, 366, 63⟩) [(.att (.loc 68 ⟨366, 64, 366, 68⟩) 28 ⟨366, 64, 366, 74⟩), (.loc 38 ⟨366, 76, 366, 79⟩), (.loc 22 ⟨366, 81, 366, 82⟩)] ⟨366, 50, 366, 83⟩)] ⟨366, 11, 366, 83⟩) [(.asg 70 ⟨367, 12, 367, 19⟩ (.boo .And [(.cal (.glo 41 ⟨367, 22, 367, 34⟩) [(.att (.loc 68 ⟨367, 35, 367, 39⟩) 28 ⟨367, 35, 367, 45⟩), (.loc 22 ⟨367, 47, 367, 48⟩)] ⟨367, 22, 367, 49⟩), (.una .Not (.cal (.glo 41 ⟨367, 59, 367, 71⟩) [(.att (.loc 68 ⟨367, 72, 367, 76⟩) 28 ⟨367, 72, 367, 82⟩), (.loc 38 ⟨367, 84, 367, 87⟩)] ⟨367, 59, 367, 88⟩) ⟨367, 55, 367, 88⟩)] ⟨367, 22, 367, 89⟩) ⟨367, 12, 367, 89⟩), (.ret (.tup [(.ite (.loc 70 ⟨368, 30, 368, 37⟩) (.con (.str S33 L33 s33) ⟨368, 20, 368, 26⟩) (.con (.str S32 L32 s32) ⟨368, 43, 368, 52⟩) ⟨368, 20, 368, 52⟩), (.loc 22 ⟨368, 54, 368, 55⟩), (.sub (.loc 61 ⟨368, 57, 368, 61⟩) (.con (.int 2) ⟨368, 62, 368, 63⟩) ⟨368, 57, 368, 64⟩), (.loc 61 ⟨368, 66, 368, 70⟩)] 0 ⟨368, 19, 368, 71⟩) ⟨368, 12, 368, 71⟩)] [] ⟨366, 8, 368, 71⟩), (.raw (PySem.Stmt.Raise (some (PySem.Expr.Call (PySem.Expr.Name (Str.ofString "TypeFault") ⟨369, 14, 369, 23⟩) [(PySem.Expr.BinOp (PySem.Expr.BinOp (PySem.Expr.Call (PySem.Expr.Name (Str.ofString "type_text") ⟨369, 24, 369, 33⟩) [(PySem.Expr.Name (Str.ofString "one") ⟨369, 34, 369, 37⟩)] [] ⟨369, 24, 369, 38⟩) PySem.Operator.Add (PySem.Expr.Constant (PySem.Const.str (Str.ofString " does not go into ")) 0 ⟨369, 41, 369, 61⟩) ⟨369, 24, 369, 61⟩) PySem.Operator.Add (PySem.Expr.Call (PySem.Expr.Name (Str.ofString "type_text") ⟨369, 64, 369, 73⟩) [(PySem.Expr.Name (Str.ofString "T") ⟨369, 74, 369, 75⟩)] [] ⟨369, 64, 369, 76⟩) ⟨369, 24, 369, 76⟩), (PySem.Expr.Name (Str.ofString "spot") ⟨369, 78, 369, 82⟩)] [] ⟨369, 14, 369, 83⟩)) none ⟨369, 8, 369, 83⟩))]
noncomputable def ps494 : List Nat := [68, 61, 22, 66]
noncomputable def fi501 : FI := ⟨[68, 61, 22], [71, 72, 55]⟩
/-- takes_type -/
noncomputable def ir501 : List IS := [(.iff (.cmp (.sub (.loc 61 ⟨372, 11, 372, 15⟩) (.con (.int 0) ⟨372, 16, 372, 17⟩) ⟨372, 11, 372, 18⟩) .Eq (.con (.str S30 L30 s30) ⟨372, 22, 372, 29⟩) ⟨372, 11, 372, 29⟩) [(.ret (.cal (.glo 71 ⟨373, 19, 373, 38⟩) [(.att (.loc 68 ⟨373, 39, 373, 43⟩) 28 ⟨373, 39, 373, 49⟩), (.sub (.loc 61 ⟨373, 51, 373, 55⟩) (.con (.int 3) ⟨373, 56, 373, 57⟩) ⟨373, 51, 373, 58⟩), (.sub (.loc 61 ⟨373, 60, 373, 64⟩) (.con (.int 1) ⟨373, 65, 373, 66⟩) ⟨373, 60, 373, 67⟩), (.loc 22 ⟨373, 69, 373, 70⟩)] ⟨373, 19, 373, 71⟩) ⟨373, 12, 373, 71⟩)] [] ⟨372, 8, 373, 71⟩), (.ret (.boo .And [(.cmp (.sub (.loc 61 ⟨374, 15, 374, 19⟩) (.con (.int 1) ⟨374, 20, 374, 21⟩) ⟨374, 15, 374, 22⟩) .Eq (.glo 72 ⟨374, 26, 374, 39⟩) ⟨374, 15, 374, 39⟩), (.cal (.glo 55 ⟨374, 44, 374, 57⟩) [(.att (.loc 68 ⟨374, 58, 374, 62⟩) 28 ⟨374, 58, 374, 68⟩), (.sub (.loc 61 ⟨374, 70, 374, 74⟩) (.con (.int 1) ⟨374, 75, 374, 76⟩) ⟨374, 70, 374, 77⟩), (.loc 22 ⟨374, 79, 374, 80⟩)] ⟨374, 44, 374, 81⟩)] ⟨374, 15, 374, 81⟩) ⟨374, 8, 374, 81⟩)]
noncomputable def ps501 : List Nat := [68, 61, 22]
noncomputable def fi687 : FI := ⟨[73], []⟩
/-- _law_default -/
noncomputable def ir687 : List IS := [(.iff (.cmp (.sub (.sub (.loc 73 ⟨486, 7, 486, 8⟩) (.con (.int 1) ⟨486, 9, 486, 10⟩) ⟨486, 7, 486, 11⟩) (.con (.int 0) ⟨486, 12, 486, 13⟩) ⟨486, 7, 486, 14⟩) .NotEq (.con (.str S2 L2 s2) ⟨486, 18, 486, 27⟩) ⟨486, 7, 486, 27⟩) [(.ret (.loc 73 ⟨487, 15, 487, 16⟩) ⟨487, 8, 487, 16⟩)] [] ⟨486, 4, 487, 16⟩), (.ret (.bin (.bin (.slc (.loc 73 ⟨488, 11, 488, 12⟩) none (some (1, ⟨488, 14, 488, 15⟩)) ⟨488, 13, 488, 15⟩ ⟨488, 11, 488, 16⟩) .Add (.tup [(.hol 0)] 0 ⟨488, 19, 488, 96⟩) ⟨488, 11, 488, 96⟩) .Add (.slc (.loc 73 ⟨488, 99, 488, 100⟩) (some (2, ⟨488, 101, 488, 102⟩)) none ⟨488, 101, 488, 103⟩ ⟨488, 99, 488, 104⟩) ⟨488, 11, 488, 104⟩) ⟨488, 4, 488, 104⟩)]
noncomputable def ps687 : List Nat := [73]
noncomputable def fi694 : FI := ⟨[22, 73, 36, 37], [74, 75, 76, 17]⟩
/-- _law_due -/
noncomputable def ir694 : List IS := [(.swp 36 37 ⟨490, 4, 490, 8⟩ ⟨490, 10, 490, 15⟩ 0 ⟨490, 4, 490, 15⟩ (.cal (.glo 74 ⟨490, 19, 490, 28⟩) [(.sub (.loc 73 ⟨490, 29, 490, 30⟩) (.con (.int 1) ⟨490, 31, 490, 32⟩) ⟨490, 29, 490, 33⟩)] ⟨490, 19, 490, 34⟩) (.cal (.glo 74 ⟨490, 36, 490, 45⟩) [(.loc 22 ⟨490, 46, 490, 47⟩)] ⟨490, 36, 490, 48⟩) 0 ⟨490, 18, 490, 49⟩ ⟨490, 4, 490, 49⟩), (.iff (.cmp (.loc 37 ⟨491, 7, 491, 12⟩) .Eq (.con (.str S34 L34 s34) ⟨491, 16, 491, 21⟩) ⟨491, 7, 491, 21⟩) [(.asg 73 ⟨492, 8, 492, 9⟩ (.cal (.glo 75 ⟨492, 12, 492, 24⟩) [(.loc 73 ⟨492, 25, 492, 26⟩)] ⟨492, 12, 492, 27⟩) ⟨492, 8, 492, 27⟩), (.ret (.tup [(.con (.str S33 L33 s33) ⟨493, 16, 493, 22⟩), (.loc 22 ⟨493, 24, 493, 25⟩), (.con (.int 4) ⟨493, 27, 493, 28⟩), (.loc 73 ⟨493, 30, 493, 31⟩)] 0 ⟨493, 15, 493, 32⟩) ⟨493, 8, 493, 32⟩)] [] ⟨491, 4, 493, 32⟩), (.iff (.boo .And [(.cmp (.loc 36 ⟨494, 7, 494, 11⟩) .NotEq (.loc 37 ⟨494, 15, 494, 20⟩) ⟨494, 7, 494, 20⟩), (.cmp (.tup [(.loc 36 ⟨494, 26, 494, 30⟩), (.loc 37 ⟨494, 32, 494, 37⟩)] 0 ⟨494, 25, 494, 38⟩) .NotIn (.lst [(.tup [(.con (.str S4 L4 s4) ⟨494, 48, 494, 53⟩), (.con (.str S3 L3 s3) ⟨494, 55, 494, 63⟩)] 0 ⟨494, 47, 494, 64⟩), (.tup [(.con (.str S3 L3 s3) ⟨494, 67, 494, 75⟩), (.con (.str S35 L35 s35) ⟨494, 77, 494, 85⟩)] 0 ⟨494, 66, 494, 86⟩), (.tup [(.con (.str S35 L35 s35) ⟨494, 89, 494, 97⟩), (.con (.str S3 L3 s3) ⟨494, 99, 494, 107⟩)] 0 ⟨494, 88, 494, 108⟩)] ⟨494, 46, 494, 109⟩) ⟨494, 25, 494, 109⟩)] ⟨494, 7, 494, 109⟩) [(.ret (.con (.str S36 L36 s36) ⟨495, 15, 495, 21⟩) ⟨495, 8, 495, 21⟩)] [] ⟨494, 4, 495, 21⟩), (.iff (.boo .And [(.cmp (.sub (.loc 73 ⟨496, 7, 496, 8⟩) (.con (.int 0) ⟨496, 9, 496, 10⟩) ⟨496, 7, 496, 11⟩) .Eq (.con (.str S30 L30 s30) ⟨496, 15, 496, 22⟩) ⟨496, 7, 496, 22⟩), (.cmp (.loc 37 ⟨496, 27, 496, 32⟩) .Eq (.con (.str S4 L4 s4) ⟨496, 36, 496, 41⟩) ⟨496, 27, 496, 41⟩)] ⟨496, 7, 496, 41⟩) [(.ret (.ite (.cal (.glo 76 ⟨497, 40, 497, 53⟩) [(.loc 22 ⟨497, 54, 497, 55⟩), (.sub (.loc 73 ⟨497, 57, 497, 58⟩) (.con (.int 3) ⟨497, 59, 497, 60⟩) ⟨497, 57, 497, 61⟩)] ⟨497, 40, 497, 62⟩) (.tup [(.con (.str S30 L30 s30) ⟨497, 16, 497, 23⟩), (.loc 22 ⟨497, 25, 497, 26⟩), (.con (.int 7) ⟨497, 28, 497, 29⟩), (.sub (.loc 73 ⟨497, 31, 497, 32⟩) (.con (.int 3) ⟨497, 33, 497, 34⟩) ⟨497, 31, 497, 35⟩)] 0 ⟨497, 15, 497, 36⟩) (.con (.str S30 L30 s30) ⟨497, 68, 497, 75⟩) ⟨497, 15, 497, 75⟩) ⟨497, 8, 497, 75⟩)] [] ⟨496, 4, 497, 75⟩), (.iff (.boo .And [(.cmp (.sub (.loc 73 ⟨498, 7, 498, 8⟩) (.con (.int 0) ⟨498, 9, 498, 10⟩) ⟨498, 7, 498, 11⟩) .Eq (.con (.str S30 L30 s30) ⟨498, 15, 498, 22⟩) ⟨498, 7, 498, 22⟩), (.cmp (.loc 37 ⟨498, 27, 498, 32⟩) .Eq (.con (.str S3 L3 s3) ⟨498, 36, 498, 44⟩) ⟨498, 27, 498, 44⟩)] ⟨498, 7, 498, 44⟩) [(.ret (.tup [(.con (.str S30 L30 s30) ⟨499, 16, 499, 23⟩), (.loc 22 ⟨499, 25, 499, 26⟩), (.con (.int 7) ⟨499, 28, 499, 29⟩), (.ite (.cmp (.loc 36 ⟨499, 39, 499, 43⟩) .Eq (.con (.str S3 L3 s3) ⟨499, 47, 499, 55⟩) ⟨499, 39, 499, 55⟩) (.sub (.loc 73 ⟨499, 31, 499, 32⟩) (.con (.int 3) ⟨499, 33, 499, 34⟩) ⟨499, 31, 499, 35⟩) (.mca (.cal (.glo 17 ⟨499, 61, 499, 64⟩) [(.sub (.loc 73 ⟨499, 65, 499, 66⟩) (.con (.int 3) ⟨499, 67, 499, 68⟩) ⟨499, 65, 499, 69⟩)] ⟨499, 61, 499, 70⟩) 18 ⟨499, 61, 499, 77⟩ [(.con (.str S5 L5 s5) ⟨499, 78, 499, 85⟩)] ⟨499, 61, 499, 86⟩) ⟨499, 31, 499, 86⟩)] 0 ⟨499, 15, 499, 87⟩) ⟨499, 8, 499, 87⟩)] [] ⟨498, 4, 499, 87⟩), (.iff (.boo .And [(.cmp (.sub (.loc 73 ⟨500, 7, 500, 8⟩) (.con (.int 0) ⟨500, 9, 500, 10⟩) ⟨500, 7, 500, 11⟩) .Eq (.con (.str S30 L30 s30) ⟨500, 15, 500, 22⟩) ⟨500, 7, 500, 22⟩), (.cmp (.loc 37 ⟨500, 27, 500, 32⟩) .Eq (.con (.str S1 L1 s1) ⟨500, 36, 500, 42⟩) ⟨500, 27, 500, 42⟩)] ⟨500, 7, 500, 42⟩) [(.ret (.tup [(.con (.str S30 L30 s30) ⟨501, 16, 501, 23⟩), (.loc 22 ⟨501, 25, 501, 26⟩), (.con (.int 7) ⟨501, 28, 501, 29⟩), (.sub (.loc 73 ⟨501, 31, 501, 32⟩) (.con (.int 3) ⟨501, 33, 501, 34⟩) ⟨501, 31, 501, 35⟩)] 0 ⟨501, 15, 501, 36⟩) ⟨501, 8, 501, 36⟩)] [] ⟨500, 4, 501, 36⟩), (.asg 73 ⟨502, 4, 502, 5⟩ (.cal (.glo 75 ⟨502, 8, 502, 20⟩) [(.loc 73 ⟨502, 21, 502, 22⟩)] ⟨502, 8, 502, 23⟩) ⟨502, 4, 502, 23⟩), (.ret (.ite (.cmp (.sub (.loc 73 ⟨503, 16, 503, 17⟩) (.con (.int 1) ⟨503, 18, 503, 19⟩) ⟨503, 16, 503, 20⟩) .Eq (.loc 22 ⟨503, 24, 503, 25⟩) ⟨503, 16, 503, 25⟩) (.loc 73 ⟨503, 11, 503, 12⟩) (.tup [(.con (.str S32 L32 s32) ⟨503, 32, 503, 41⟩), (.loc 22 ⟨503, 43, 503, 44⟩), (.con (.int 7) ⟨503, 46, 503, 47⟩), (.loc 73 ⟨503, 49, 503, 50⟩)] 0 ⟨503, 31, 503, 51⟩) ⟨503, 11, 503, 51⟩) ⟨503, 4, 503, 51⟩)]
noncomputable def ps694 : List Nat := [22, 73]
noncomputable def fi612 : FI := ⟨[68, 9, 78], [97, 95]⟩
/-- base_of -/
noncomputable def ir612 : List IS := [(.whl (.cmp (.sub (.loc 9 ⟨433, 14, 433, 18⟩) (.con (.int 0) ⟨433, 19, 433, 20⟩) ⟨433, 14, 433, 21⟩) .Eq (.con (.str S10 L10 s10) ⟨433, 25, 433, 32⟩) ⟨433, 14, 433, 32⟩) [(.iff (.cmp (.sub (.loc 9 ⟨434, 15, 434, 19⟩) (.con (.int 1) ⟨434, 20, 434, 21⟩) ⟨434, 15, 434, 22⟩) .NotIn (.att (.loc 68 ⟨434, 30, 434, 34⟩) 77 ⟨434, 30, 434, 40⟩) ⟨434, 15, 434, 40⟩) [(.raw (PySem.Stmt.Raise (some (PySem.Expr.Call (PySem.Expr.Name (Str.ofString "NameFault") ⟨435, 22, 435, 31⟩) [(PySem.Expr.BinOp (PySem.Expr.Constant (PySem.Const.str (Str.ofString "there is no type ")) 0 ⟨435, 32, 435, 51⟩) PySem.Operator.Add (PySem.Expr.Subscript (PySem.Expr.Name (Str.ofString "told") ⟨435, 54, 435, 58⟩) (PySem.Expr.Constant (PySem.Const.int 1) 0 ⟨435, 59, 435, 60⟩) ⟨435, 54, 435, 61⟩) ⟨435, 32, 435, 61⟩)] [] ⟨435, 22, 435, 62⟩)) none ⟨435, 16, 435, 62⟩))] [] ⟨434, 12, 435, 62⟩), (.asg 78 ⟨436, 12, 436, 15⟩ (.sub (.att (.loc 68 ⟨436, 18, 436, 22⟩) 77 ⟨436, 18, 436, 28⟩) (.sub (.loc 9 ⟨436, 29, 436, 33⟩) (.con (.int 1) ⟨436, 34, 436, 35⟩) ⟨436, 29, 436, 36⟩) ⟨436, 18, 436, 37⟩) ⟨436, 12, 436, 37⟩), (.iff (.cmp (.att (.loc 78 ⟨437, 15, 437, 18⟩) 79 ⟨437, 15, 437, 29⟩) .Is (.con .none ⟨437, 33, 437, 37⟩) ⟨437, 15, 437, 37⟩) [(.iff (.cmp (.att (.loc 68 ⟨438, 19, 438, 23⟩) 80 ⟨438, 19, 438, 30⟩) .Is (.con .none ⟨438, 34, 438, 38⟩) ⟨438, 19, 438, 38⟩) [(.raw (PySem.Stmt.Raise (some (PySem.Expr.Call (PySem.Expr.Name (Str.ofString "TypeFault") ⟨439, 26, 439, 35⟩) [(PySem.Expr.BinOp (PySem.Expr.BinOp (PySem.Expr.Constant (PySem.Const.str (Str.ofString "the type ")) 0 ⟨439, 36, 439, 47⟩) PySem.Operator.Add (PySem.Expr.Subscript (PySem.Expr.Name (Str.ofString "told") ⟨439, 50, 439, 54⟩) (PySem.Expr.Constant (PySem.Const.int 1) 0 ⟨439, 55, 439, 56⟩) ⟨439, 50, 439, 57⟩) ⟨439, 36, 439, 57⟩) PySem.Operator.Add (PySem.Expr.Constant (PySem.Const.str (Str.ofString " is told by itself")) 0 ⟨439, 60, 439, 80⟩) ⟨439, 36, 439, 80⟩)] [] ⟨439, 26, 439, 81⟩)) none ⟨439, 20, 439, 81⟩))] [] ⟨438, 16, 439, 81⟩), (.raw (PySem.Stmt.Expr (PySem.Expr.Call (PySem.Expr.Attribute (PySem.Expr.Name (Str.ofString "self") ⟨440, 16, 440, 20⟩) (Str.ofString "settle") ⟨440, 16, 440, 27⟩) [(PySem.Expr.Subscript (PySem.Expr.Name (Str.ofString "told") ⟨440, 28, 440, 32⟩) (PySem.Expr.Constant (PySem.Const.int 1) 0 ⟨440, 33, 440, 34⟩) ⟨440, 28, 440, 35⟩)] [] ⟨440, 16, 440, 36⟩) ⟨440, 16, 440, 36⟩))] [] ⟨437, 12, 440, 36⟩), (.asg 9 ⟨441, 12, 441, 16⟩ (.att (.loc 78 ⟨441, 19, 441, 22⟩) 79 ⟨441, 19, 441, 33⟩) ⟨441, 12, 441, 33⟩)] ⟨433, 8, 441, 33⟩), (.ret (.loc 9 ⟨442, 15, 442, 19⟩) ⟨442, 8, 442, 19⟩)]
noncomputable def ps612 : List Nat := [68, 9]
noncomputable def fi472 : FI := ⟨[68, 81, 82], []⟩
/-- expr -/
noncomputable def ir472 : List IS := [(.ret (.cal (.sub (.att (.loc 68 ⟨343, 15, 343, 19⟩) 83 ⟨343, 15, 343, 27⟩) (.sub (.loc 81 ⟨343, 28, 343, 32⟩) (.con (.int 0) ⟨343, 33, 343, 34⟩) ⟨343, 28, 343, 35⟩) ⟨343, 15, 343, 36⟩) [(.loc 68 ⟨343, 37, 343, 41⟩), (.loc 81 ⟨343, 43, 343, 47⟩), (.loc 82 ⟨343, 49, 343, 55⟩)] ⟨343, 15, 343, 56⟩) ⟨343, 8, 343, 56⟩)]
noncomputable def ps472 : List Nat := [68, 81, 82]
noncomputable def fi269 : FI := ⟨[28, 9, 82, 84, 98, 99], [85, 100]⟩
/-- implements -/
noncomputable def ir269 : List IS := [(.asg 84 ⟨171, 4, 171, 11⟩ (.cal (.glo 85 ⟨171, 14, 171, 24⟩) [(.loc 28 ⟨171, 25, 171, 30⟩), (.loc 9 ⟨171, 32, 171, 36⟩)] ⟨171, 14, 171, 37⟩) ⟨171, 4, 171, 37⟩), (.fr0 (PySem.Expr.Tuple [(PySem.Expr.Name (Str.ofString "name") ⟨172, 8, 172, 12⟩), (PySem.Expr.Name (Str.ofString "func") ⟨172, 14, 172, 18⟩)] 0 ⟨172, 8, 172, 18⟩) (.sub (.mca (.loc 28 ⟨172, 22, 172, 27⟩) 29 ⟨172, 22, 172, 35⟩ [(.loc 82 ⟨172, 36, 172, 42⟩)] ⟨172, 22, 172, 43⟩) (.con (.int 1) ⟨172, 44, 172, 45⟩) ⟨172, 22, 172, 46⟩) [(PySem.Stmt.If (PySem.Expr.Compare (PySem.Expr.Name (Str.ofString "name") ⟨173, 11, 173, 15⟩) [PySem.CmpOp.NotIn] [(PySem.Expr.Name (Str.ofString "methods") ⟨173, 23, 173, 30⟩)] ⟨173, 11, 173, 30⟩) [(PySem.Stmt.Return (some (PySem.Expr.Tuple [(PySem.Expr.Name (Str.ofString "name") ⟨174, 20, 174, 24⟩), (PySem.Expr.Call (PySem.Expr.Name (Str.ofString "lack_of") ⟨174, 26, 174, 33⟩) [(PySem.Expr.Name (Str.ofString "world") ⟨174, 34, 174, 39⟩), (PySem.Expr.Name (Str.ofString "told") ⟨174, 41, 174, 45⟩), (PySem.Expr.Name (Str.ofString "name") ⟨174, 47, 174, 51⟩), (PySem.Expr.Name (Str.ofString "func") ⟨174, 53, 174, 57⟩)] [] ⟨174, 26, 174, 58⟩)] 0 ⟨174, 19, 174, 59⟩)) ⟨174, 12, 174, 59⟩)] [] ⟨173, 8, 174, 59⟩), (PySem.Stmt.If (PySem.Expr.Compare (PySem.Expr.Subscript (PySem.Expr.Subscript (PySem.Expr.Name (Str.ofString "methods") ⟨175, 11, 175, 18⟩) (PySem.Expr.Name (Str.ofString "name") ⟨175, 19, 175, 23⟩) ⟨175, 11, 175, 24⟩) (PySem.Expr.Constant (PySem.Const.int 2) 0 ⟨175, 25, 175, 26⟩) ⟨175, 11, 175, 27⟩) [PySem.CmpOp.NotEq] [(PySem.Expr.Name (Str.ofString "func") ⟨175, 31, 175, 35⟩)] ⟨175, 11, 175, 35⟩) [(PySem.Stmt.Return (some (PySem.Expr.Tuple [(PySem.Expr.Name (Str.ofString "name") ⟨176, 20, 176, 24⟩), (PySem.Expr.Constant (PySem.Const.str (Str.ofString "other type")) 0 ⟨176, 26, 176, 38⟩)] 0 ⟨176, 19, 176, 39⟩)) ⟨176, 12, 176, 39⟩)] [] ⟨175, 8, 176, 39⟩)] ⟨172, 4, 176, 39⟩), (.ret (.con .none ⟨177, 11, 177, 15⟩) ⟨177, 4, 177, 15⟩)]
noncomputable def ps269 : List Nat := [28, 9, 82]
noncomputable def fi255 : FI := ⟨[28, 9, 86, 87, 98, 101, 102], [88, 103, 104, 105]⟩
/-- method_set -/
noncomputable def ir255 : List IS := [(.swp 86 87 ⟨155, 4, 155, 9⟩ ⟨155, 11, 155, 16⟩ 0 ⟨155, 4, 155, 16⟩ (.cal (.glo 88 ⟨155, 20, 155, 30⟩) [(.loc 28 ⟨155, 31, 155, 36⟩), (.loc 9 ⟨155, 38, 155, 42⟩)] ⟨155, 20, 155, 43⟩) (.hol 1) 0 ⟨155, 19, 155, 48⟩ ⟨155, 4, 155, 48⟩), (.iff (.boo .Or [(.cmp (.loc 86 ⟨156, 7, 156, 12⟩) .Is (.con .none ⟨156, 16, 156, 20⟩) ⟨156, 7, 156, 20⟩), (.sub (.loc 86 ⟨156, 24, 156, 29⟩) (.con (.int 1) ⟨156, 30, 156, 31⟩) ⟨156, 24, 156, 32⟩)] ⟨156, 7, 156, 32⟩) [(.ret (.loc 87 ⟨157, 15, 157, 20⟩) ⟨157, 8, 157, 20⟩)] [] ⟨156, 4, 157, 20⟩), (.fr0 (PySem.Expr.Name (Str.ofString "name") ⟨158, 8, 158, 12⟩) (.cal (.glo 103 ⟨158, 16, 158, 32⟩) [(.loc 28 ⟨158, 33, 158, 38⟩), (.sub (.loc 86 ⟨158, 40, 158, 45⟩) (.con (.int 0) ⟨158, 46, 158, 47⟩) ⟨158, 40, 158, 48⟩)] ⟨158, 16, 158, 49⟩) [(PySem.Stmt.Assign [(PySem.Expr.Name (Str.ofString "member") ⟨159, 8, 159, 14⟩)] (PySem.Expr.Call (PySem.Expr.Name (Str.ofString "member_or_none") ⟨159, 17, 159, 31⟩) [(PySem.Expr.Name (Str.ofString "world") ⟨159, 32, 159, 37⟩), (PySem.Expr.Name (Str.ofString "told") ⟨159, 39, 159, 43⟩), (PySem.Expr.Name (Str.ofString "name") ⟨159, 45, 159, 49⟩)] [] ⟨159, 17, 159, 50⟩) ⟨159, 8, 159, 50⟩), (PySem.Stmt.If (PySem.Expr.BoolOp PySem.BoolOp.And [(PySem.Expr.Compare (PySem.Expr.Name (Str.ofString "member") ⟨160, 11, 160, 17⟩) [PySem.CmpOp.IsNot] [(PySem.Expr.Constant PySem.Const.none 0 ⟨160, 25, 160, 29⟩)] ⟨160, 11, 160, 29⟩), (PySem.Expr.Compare (PySem.Expr.Subscript (PySem.Expr.Name (Str.ofString "member") ⟨160, 34, 160, 40⟩) (PySem.Expr.Constant (PySem.Const.int 0) 0 ⟨160, 41, 160, 42⟩) ⟨160, 34, 160, 43⟩) [PySem.CmpOp.NotEq] [(PySem.Expr.Constant (PySem.Const.str (Str.ofString "field")) 0 ⟨160, 47, 160, 54⟩)] ⟨160, 34, 160, 54⟩), (PySem.Expr.Call (PySem.Expr.Name (Str.ofString "is_in_set") ⟨160, 59, 160, 68⟩) [(PySem.Expr.Name (Str.ofString "told") ⟨160, 69, 160, 73⟩), (PySem.Expr.Name (Str.ofString "member") ⟨160, 75, 160, 81⟩)] [] ⟨160, 59, 160, 82⟩)] ⟨160, 11, 160, 82⟩) [(PySem.Stmt.Assign [(PySem.Expr.Name (Str.ofString "key") ⟨161, 12, 161, 15⟩)] (PySem.Expr.IfExp (PySem.Expr.Compare (PySem.Expr.Subscript (PySem.Expr.Name (Str.ofString "member") ⟨161, 31, 161, 37⟩) (PySem.Expr.Constant (PySem.Const.int 0) 0 ⟨161, 38, 161, 39⟩) ⟨161, 31, 161, 40⟩) [PySem.CmpOp.Eq] [(PySem.Expr.Constant (PySem.Const.str (Str.ofString "method")) 0 ⟨161, 44, 161, 52⟩)] ⟨161, 31, 161, 52⟩) (PySem.Expr.Subscript (PySem.Expr.Name (Str.ofString "member") ⟨161, 18, 161, 24⟩) (PySem.Expr.Constant (PySem.Const.int 2) 0 ⟨161, 25, 161, 26⟩) ⟨161, 18, 161, 27⟩) (PySem.Expr.Constant PySem.Const.none 0 ⟨161, 58, 161, 62⟩) ⟨161, 18, 161, 62⟩) ⟨161, 12, 161, 62⟩), (PySem.Stmt.Assign [(PySem.Expr.Subscript (PySem.Expr.Name (Str.ofString "found") ⟨162, 12, 162, 17⟩) (PySem.Expr.Name (Str.ofString "name") ⟨162, 18, 162, 22⟩) ⟨162, 12, 162, 23⟩)] (PySem.Expr.Tuple [(PySem.Expr.Subscript (PySem.Expr.Name (Str.ofString "member") ⟨162, 27, 162, 33⟩) (PySem.Expr.Constant (PySem.Const.int 1) 0 ⟨162, 34, 162, 35⟩) ⟨162, 27, 162, 36⟩), (PySem.Expr.Name (Str.ofString "key") ⟨162, 38, 162, 41⟩), (PySem.Expr.Subscript (PySem.Expr.Name (Str.ofString "member") ⟨162, 43, 162, 49⟩) (PySem.Expr.UnaryOp PySem.UnaryOp.USub (PySem.Expr.Constant (PySem.Const.int 1) 0 ⟨162, 51, 162, 52⟩) ⟨162, 50, 162, 52⟩) ⟨162, 43, 162, 53⟩)] 0 ⟨162, 26, 162, 54⟩) ⟨162, 12, 162, 54⟩)] [] ⟨160, 8, 162, 54⟩)] ⟨158, 4, 162, 54⟩), (.ret (.loc 87 ⟨163, 11, 163, 16⟩) ⟨163, 4, 163, 16⟩)]
noncomputable def ps255 : List Nat := [28, 9]
noncomputable def fi222 : FI := ⟨[28, 9, 50, 89], []⟩
/-- start_type -/
noncomputable def ir222 : List IS := [(.iff (.cmp (.sub (.loc 9 ⟨111, 7, 111, 11⟩) (.con (.int 0) ⟨111, 12, 111, 13⟩) ⟨111, 7, 111, 14⟩) .Eq (.con (.str S12 L12 s12) ⟨111, 18, 111, 23⟩) ⟨111, 7, 111, 23⟩) [(.asg 50 ⟨112, 8, 112, 13⟩ (.sub (.loc 9 ⟨112, 16, 112, 20⟩) (.con (.int 1) ⟨112, 21, 112, 22⟩) ⟨112, 16, 112, 23⟩) ⟨112, 8, 112, 23⟩), (.ret (.ite (.cmp (.sub (.mca (.loc 28 ⟨113, 23, 113, 28⟩) 29 ⟨113, 23, 113, 36⟩ [(.loc 50 ⟨113, 37, 113, 42⟩)] ⟨113, 23, 113, 43⟩) (.con (.int 0) ⟨113, 44, 113, 45⟩) ⟨113, 23, 113, 46⟩) .In (.tup [(.con (.str S12 L12 s12) ⟨113, 51, 113, 56⟩), (.con (.str S24 L24 s24) ⟨113, 58, 113, 69⟩)] 0 ⟨113, 50, 113, 70⟩) ⟨113, 23, 113, 70⟩) (.con .none ⟨113, 15, 113, 19⟩) (.tup [(.loc 50 ⟨113, 77, 113, 82⟩), (.con (.bool false) ⟨113, 84, 113, 89⟩)] 0 ⟨113, 76, 113, 90⟩) ⟨113, 15, 113, 90⟩) ⟨113, 8, 113, 90⟩)] [] ⟨111, 4, 113, 90⟩), (.asg 89 ⟨114, 4, 114, 8⟩ (.ite (.cmp (.sub (.loc 9 ⟨114, 34, 114, 38⟩) (.con (.int 0) ⟨114, 39, 114, 40⟩) ⟨114, 34, 114, 41⟩) .Eq (.con (.str S10 L10 s10) ⟨114, 45, 114, 52⟩) ⟨114, 34, 114, 52⟩) (.mca (.loc 28 ⟨114, 11, 114, 16⟩) 29 ⟨114, 11, 114, 24⟩ [(.loc 9 ⟨114, 25, 114, 29⟩)] ⟨114, 11, 114, 30⟩) (.loc 9 ⟨114, 58, 114, 62⟩) ⟨114, 11, 114, 62⟩) ⟨114, 4, 114, 62⟩), (.iff (.boo .And [(.cmp (.sub (.loc 9 ⟨115, 7, 115, 11⟩) (.con (.int 0) ⟨115, 12, 115, 13⟩) ⟨115, 7, 115, 14⟩) .Eq (.con (.str S10 L10 s10) ⟨115, 18, 115, 25⟩) ⟨115, 7, 115, 25⟩), (.cmp (.sub (.loc 89 ⟨115, 30, 115, 34⟩) (.con (.int 0) ⟨115, 35, 115, 36⟩) ⟨115, 30, 115, 37⟩) .Eq (.con (.str S12 L12 s12) ⟨115, 41, 115, 46⟩) ⟨115, 30, 115, 46⟩)] ⟨115, 7, 115, 46⟩) [(.ret (.tup [(.sub (.loc 89 ⟨116, 16, 116, 20⟩) (.con (.int 1) ⟨116, 21, 116, 22⟩) ⟨116, 16, 116, 23⟩), (.con (.bool true) ⟨116, 25, 116, 29⟩)] 0 ⟨116, 15, 116, 30⟩) ⟨116, 8, 116, 30⟩)] [] ⟨115, 4, 116, 30⟩), (.ret (.tup [(.loc 9 ⟨117, 12, 117, 16⟩), (.con (.bool false) ⟨117, 18, 117, 23⟩)] 0 ⟨117, 11, 117, 24⟩) ⟨117, 4, 117, 24⟩)]
noncomputable def ps222 : List Nat := [28, 9]
noncomputable def fi680 : FI := ⟨[22, 4, 91], []⟩
/-- _law_has_room -/
noncomputable def ir680 : List IS := [(.asg 91 ⟨481, 4, 481, 8⟩ (.hol 2) ⟨481, 4, 481, 86⟩), (.iff (.cmp (.sub (.sub (.loc 22 ⟨482, 7, 482, 8⟩) (.con (.int 1) ⟨482, 9, 482, 10⟩) ⟨482, 7, 482, 11⟩) (.con (.int 0) ⟨482, 12, 482, 13⟩) ⟨482, 7, 482, 14⟩) .Eq (.con (.str S0 L0 s0) ⟨482, 18, 482, 21⟩) ⟨482, 7, 482, 21⟩) [(.ret (.cm2 (.con (.int 0) ⟨483, 15, 483, 16⟩) .LtE (.loc 4 ⟨483, 20, 483, 26⟩) .Lt (.bin (.con (.int 2) ⟨483, 29, 483, 30⟩) .Pow (.loc 91 ⟨483, 34, 483, 38⟩) ⟨483, 29, 483, 38⟩) ⟨483, 15, 483, 38⟩) ⟨483, 8, 483, 38⟩)] [] ⟨482, 4, 483, 38⟩), (.ret (.cm2 (.una .USub (.bin (.con (.int 2) ⟨484, 12, 484, 13⟩) .Pow (.bin (.loc 91 ⟨484, 18, 484, 22⟩) .Sub (.con (.int 1) ⟨484, 25, 484, 26⟩) ⟨484, 18, 484, 26⟩) ⟨484, 12, 484, 27⟩) ⟨484, 11, 484, 27⟩) .LtE (.loc 4 ⟨484, 31, 484, 37⟩) .Lt (.bin (.con (.int 2) ⟨484, 40, 484, 41⟩) .Pow (.bin (.loc 91 ⟨484, 46, 484, 50⟩) .Sub (.con (.int 1) ⟨484, 53, 484, 54⟩) ⟨484, 46, 484, 54⟩) ⟨484, 40, 484, 55⟩) ⟨484, 11, 484, 55⟩) ⟨484, 4, 484, 55⟩)]
noncomputable def ps680 : List Nat := [22, 4]
noncomputable def fi666 : FI := ⟨[22, 90], []⟩
/-- _law_sort -/
noncomputable def ir666 : List IS := [(.asg 90 ⟨474, 4, 474, 9⟩ (.hol 3) ⟨474, 4, 474, 91⟩), (.raw (PySem.Stmt.Assign [(PySem.Expr.Subscript (PySem.Expr.Name (Str.ofString "names") ⟨475, 4, 475, 9⟩) (PySem.Expr.Tuple [(PySem.Expr.Constant (PySem.Const.str (Str.ofString "slice")) 0 ⟨475, 10, 475, 17⟩), (PySem.Expr.Tuple [(PySem.Expr.Constant (PySem.Const.str (Str.ofString "int")) 0 ⟨475, 20, 475, 25⟩), (PySem.Expr.Constant (PySem.Const.str (Str.ofString "uint8")) 0 ⟨475, 27, 475, 34⟩)] 0 ⟨475, 19, 475, 35⟩)] 0 ⟨475, 10, 475, 35⟩) ⟨475, 4, 475, 36⟩)] (PySem.Expr.Constant (PySem.Const.str (Str.ofString "octets")) 0 ⟨475, 39, 475, 47⟩) ⟨475, 4, 475, 47⟩)), (.ret (.ite (.cmp (.loc 22 ⟨476, 23, 476, 24⟩) .In (.loc 90 ⟨476, 28, 476, 33⟩) ⟨476, 23, 476, 33⟩) (.sub (.loc 90 ⟨476, 11, 476, 16⟩) (.loc 22 ⟨476, 17, 476, 18⟩) ⟨476, 11, 476, 19⟩) (.ite (.cmp (.sub (.loc 22 ⟨476, 47, 476, 48⟩) (.con (.int 0) ⟨476, 49, 476, 50⟩) ⟨476, 47, 476, 51⟩) .Eq (.con (.str S2 L2 s2) ⟨476, 55, 476, 64⟩) ⟨476, 47, 476, 64⟩) (.sub (.loc 22 ⟨476, 39, 476, 40⟩) (.con (.int 1) ⟨476, 41, 476, 42⟩) ⟨476, 39, 476, 43⟩) (.sub (.loc 22 ⟨476, 70, 476, 71⟩) (.con (.int 0) ⟨476, 72, 476, 73⟩) ⟨476, 70, 476, 74⟩) ⟨476, 39, 476, 74⟩) ⟨476, 11, 476, 74⟩) ⟨476, 4, 476, 74⟩)]
noncomputable def ps666 : List Nat := [22]
noncomputable def hxOf : Nat → HX
  | 0 => .sbs (PySem.Expr.Dict [(some (PySem.Expr.Constant (PySem.Const.str (Str.ofString "int")) 0 ⟨488, 21, 488, 26⟩)), (some (PySem.Expr.Constant (PySem.Const.str (Str.ofString "string")) 0 ⟨488, 44, 488, 52⟩)), (some (PySem.Expr.Constant (PySem.Const.str (Str.ofString "bool")) 0 ⟨488, 67, 488, 73⟩))] [(PySem.Expr.Tuple [(PySem.Expr.Constant (PySem.Const.str (Str.ofString "int")) 0 ⟨488, 29, 488, 34⟩), (PySem.Expr.Constant (PySem.Const.str (Str.ofString "int")) 0 ⟨488, 36, 488, 41⟩)] 0 ⟨488, 28, 488, 42⟩), (PySem.Expr.Tuple [(PySem.Expr.Constant (PySem.Const.str (Str.ofString "string")) 0 ⟨488, 55, 488, 63⟩)] 0 ⟨488, 54, 488, 65⟩), (PySem.Expr.Tuple [(PySem.Expr.Constant (PySem.Const.str (Str.ofString "bool")) 0 ⟨488, 76, 488, 82⟩)] 0 ⟨488, 75, 488, 84⟩)] ⟨488, 20, 488, 85⟩) (PySem.Expr.Subscript (PySem.Expr.Subscript (PySem.Expr.Name (Str.ofString "e") ⟨488, 86, 488, 87⟩) (PySem.Expr.Constant (PySem.Const.int 1) 0 ⟨488, 88, 488, 89⟩) ⟨488, 86, 488, 90⟩) (PySem.Expr.Constant (PySem.Const.int 1) 0 ⟨488, 91, 488, 92⟩) ⟨488, 86, 488, 93⟩) ⟨488, 20, 488, 94⟩
  | 1 => .dct [] [] ⟨155, 45, 155, 47⟩
  | 2 => .cal (PySem.Expr.Attribute (PySem.Expr.Dict [(some (PySem.Expr.Tuple [(PySem.Expr.Constant (PySem.Const.str (Str.ofString "int")) 0 ⟨481, 13, 481, 18⟩), (PySem.Expr.Constant (PySem.Const.str (Str.ofString "int8")) 0 ⟨481, 20, 481, 26⟩)] 0 ⟨481, 12, 481, 27⟩)), (some (PySem.Expr.Tuple [(PySem.Expr.Constant (PySem.Const.str (Str.ofString "named")) 0 ⟨481, 33, 481, 40⟩), (PySem.Expr.Constant (PySem.Const.str (Str.ofString "m.N")) 0 ⟨481, 42, 481, 47⟩)] 0 ⟨481, 32, 481, 48⟩)), (some (PySem.Expr.Tuple [(PySem.Expr.Constant (PySem.Const.str (Str.ofString "int")) 0 ⟨481, 54, 481, 59⟩), (PySem.Expr.Constant (PySem.Const.str (Str.ofString "uint16")) 0 ⟨481, 61, 481, 69⟩)] 0 ⟨481, 53, 481, 70⟩))] [(PySem.Expr.Constant (PySem.Const.int 8) 0 ⟨481, 29, 481, 30⟩), (PySem.Expr.Constant (PySem.Const.int 8) 0 ⟨481, 50, 481, 51⟩), (PySem.Expr.Constant (PySem.Const.int 16) 0 ⟨481, 72, 481, 74⟩)] ⟨481, 11, 481, 75⟩) (Str.ofString "get") ⟨481, 11, 481, 79⟩) [(PySem.Expr.Name (Str.ofString "T") ⟨481, 80, 481, 81⟩), (PySem.Expr.Constant (PySem.Const.int 64) 0 ⟨481, 83, 481, 85⟩)] ⟨481, 11, 481, 86⟩
  | 3 => .dct [(some (PySem.Expr.Tuple [(PySem.Expr.Constant (PySem.Const.str (Str.ofString "named")) 0 ⟨474, 14, 474, 21⟩), (PySem.Expr.Constant (PySem.Const.str (Str.ofString "m.N")) 0 ⟨474, 23, 474, 28⟩)] 0 ⟨474, 13, 474, 29⟩)), (some (PySem.Expr.Tuple [(PySem.Expr.Constant (PySem.Const.str (Str.ofString "named")) 0 ⟨474, 39, 474, 46⟩), (PySem.Expr.Constant (PySem.Const.str (Str.ofString "m.S")) 0 ⟨474, 48, 474, 53⟩)] 0 ⟨474, 38, 474, 54⟩)), (some (PySem.Expr.Tuple [(PySem.Expr.Constant (PySem.Const.str (Str.ofString "interface")) 0 ⟨474, 67, 474, 78⟩), (PySem.Expr.Tuple [] 0 ⟨474, 80, 474, 82⟩)] 0 ⟨474, 66, 474, 83⟩))] [(PySem.Expr.Constant (PySem.Const.str (Str.ofString "int")) 0 ⟨474, 31, 474, 36⟩), (PySem.Expr.Constant (PySem.Const.str (Str.ofString "string")) 0 ⟨474, 56, 474, 64⟩), (PySem.Expr.Constant (PySem.Const.str (Str.ofString "any")) 0 ⟨474, 85, 474, 90⟩)] ⟨474, 12, 474, 91⟩
  | 8 => .lcp (PySem.Expr.Call (PySem.Expr.Name (Str.ofString "field_text") ⟨227, 38, 227, 48⟩) [(PySem.Expr.Name (Str.ofString "row") ⟨227, 49, 227, 52⟩)] [] ⟨227, 38, 227, 53⟩) [(PySem.Comprehension.mk (PySem.Expr.Name (Str.ofString "row") ⟨227, 58, 227, 61⟩) (PySem.Expr.Subscript (PySem.Expr.Name (Str.ofString "T") ⟨227, 65, 227, 66⟩) (PySem.Expr.Constant (PySem.Const.int 1) 0 ⟨227, 67, 227, 68⟩) ⟨227, 65, 227, 69⟩) [] 0)] (PySem.Scope.mk PySem.ScopeKind.function [((Str.ofString ".0"), PySem.NameKind.local), ((Str.ofString "row"), PySem.NameKind.local), ((Str.ofString "field_text"), PySem.NameKind.globalImplicit)] false false []) ⟨227, 37, 227, 70⟩
  | 9 => .lcp (PySem.Expr.BinOp (PySem.Expr.Name (Str.ofString "name") ⟨229, 41, 229, 45⟩) PySem.Operator.Add (PySem.Expr.Call (PySem.Expr.Name (Str.ofString "signature_text") ⟨229, 48, 229, 62⟩) [(PySem.Expr.Name (Str.ofString "told") ⟨229, 63, 229, 67⟩)] [] ⟨229, 48, 229, 68⟩) ⟨229, 41, 229, 68⟩) [(PySem.Comprehension.mk (PySem.Expr.Tuple [(PySem.Expr.Name (Str.ofString "name") ⟨229, 73, 229, 77⟩), (PySem.Expr.Name (Str.ofString "told") ⟨229, 79, 229, 83⟩)] 0 ⟨229, 73, 229, 83⟩) (PySem.Expr.Subscript (PySem.Expr.Name (Str.ofString "T") ⟨229, 87, 229, 88⟩) (PySem.Expr.Constant (PySem.Const.int 1) 0 ⟨229, 89, 229, 90⟩) ⟨229, 87, 229, 91⟩) [] 0)] (PySem.Scope.mk PySem.ScopeKind.function [((Str.ofString ".0"), PySem.NameKind.local), ((Str.ofString "name"), PySem.NameKind.local), ((Str.ofString "told"), PySem.NameKind.local), ((Str.ofString "signature_text"), PySem.NameKind.globalImplicit)] false false []) ⟨229, 40, 229, 92⟩
  | _ => .dct [] [] ⟨0, 0, 0, 0⟩
noncomputable def hp0 : List (IE × IE) := [((.con (.str S4 L4 s4) ⟨488, 21, 488, 26⟩), (.tup [(.con (.str S4 L4 s4) ⟨488, 29, 488, 34⟩), (.con (.str S4 L4 s4) ⟨488, 36, 488, 41⟩)] 0 ⟨488, 28, 488, 42⟩)), ((.con (.str S3 L3 s3) ⟨488, 44, 488, 52⟩), (.tup [(.con (.str S3 L3 s3) ⟨488, 55, 488, 63⟩)] 0 ⟨488, 54, 488, 65⟩)), ((.con (.str S1 L1 s1) ⟨488, 67, 488, 73⟩), (.tup [(.con (.str S1 L1 s1) ⟨488, 76, 488, 82⟩)] 0 ⟨488, 75, 488, 84⟩))]
noncomputable def hi0 : IE := (.sub (.sub (.loc 73 ⟨488, 86, 488, 87⟩) (.con (.int 1) ⟨488, 88, 488, 89⟩) ⟨488, 86, 488, 90⟩) (.con (.int 1) ⟨488, 91, 488, 92⟩) ⟨488, 86, 488, 93⟩)
noncomputable def hp2 : List (IE × IE) := [((.tup [(.con (.str S4 L4 s4) ⟨481, 13, 481, 18⟩), (.con (.str S37 L37 s37) ⟨481, 20, 481, 26⟩)] 0 ⟨481, 12, 481, 27⟩), (.con (.int 8) ⟨481, 29, 481, 30⟩)), ((.tup [(.con (.str S10 L10 s10) ⟨481, 33, 481, 40⟩), (.con (.str S38 L38 s38) ⟨481, 42, 481, 47⟩)] 0 ⟨481, 32, 481, 48⟩), (.con (.int 8) ⟨481, 50, 481, 51⟩)), ((.tup [(.con (.str S4 L4 s4) ⟨481, 54, 481, 59⟩), (.con (.str S39 L39 s39) ⟨481, 61, 481, 69⟩)] 0 ⟨481, 53, 481, 70⟩), (.con (.int 16) ⟨481, 72, 481, 74⟩))]
noncomputable def hi2 : IE := .tup [(.loc 22 ⟨481, 80, 481, 81⟩), (.con (.int 64) ⟨481, 83, 481, 85⟩)] 0 ⟨0, 0, 0, 0⟩
noncomputable def hp3 : List (IE × IE) := [((.tup [(.con (.str S10 L10 s10) ⟨474, 14, 474, 21⟩), (.con (.str S38 L38 s38) ⟨474, 23, 474, 28⟩)] 0 ⟨474, 13, 474, 29⟩), (.con (.str S4 L4 s4) ⟨474, 31, 474, 36⟩)), ((.tup [(.con (.str S10 L10 s10) ⟨474, 39, 474, 46⟩), (.con (.str S40 L40 s40) ⟨474, 48, 474, 53⟩)] 0 ⟨474, 38, 474, 54⟩), (.con (.str S3 L3 s3) ⟨474, 56, 474, 64⟩)), ((.tup [(.con (.str S24 L24 s24) ⟨474, 67, 474, 78⟩), (.tup [] 0 ⟨474, 80, 474, 82⟩)] 0 ⟨474, 66, 474, 83⟩), (.con (.str S34 L34 s34) ⟨474, 85, 474, 90⟩))]
noncomputable def IE.emb (e : IE) : Expr := e.embW nmOf hxOf
noncomputable def embs (es : List IE) : List Expr := embsW nmOf hxOf es
mutual
noncomputable def IS.emb : IS → Stmt
  | .ret e p => .Return (some e.emb) p
  | .iff t b o p => .If t.emb (embS b) (embS o) p
  | .asg x px e p => .Assign [.Name (nmOf x) px] e.emb p
  | .unp x y px py k pt e p => .Assign [.Tuple [.Name (nmOf x) px, .Name (nmOf y) py] k pt] e.emb p
  | .swp x y px py k pt a b k' pv p => .Assign [.Tuple [.Name (nmOf x) px, .Name (nmOf y) py] k pt] (.Tuple [a.emb, b.emb] k' pv) p
  | .whl t b p => .While t.emb (embS b) [] p
  | .fr0 t e b p => .For t e.emb b [] p
  | .raw s => s
noncomputable def embS : List IS → List Stmt
  | [] => []
  | s :: r => s.emb :: embS r
end
end Mine
namespace Mine
open PySem PySem.W PyProof.Rows PySem.Calls PySem.Spec
noncomputable def tInt : PV := .str [105, 110, 116]
noncomputable def tStr : PV := .str [115, 116, 114, 105, 110, 103]
noncomputable def tBool : PV := .str [98, 111, 111, 108]
noncomputable def tNamed : PV := .str [110, 97, 109, 101, 100]
noncomputable def tFace : PV := .str [105, 110, 116, 101, 114, 102, 97, 99, 101]
noncomputable def tInt8 : PV := .str [105, 110, 116, 56]
noncomputable def tSlice : PV := .str [115, 108, 105, 99, 101]
noncomputable def tMN : PV := .str [109, 46, 78]
noncomputable def tMS : PV := .str [109, 46, 83]
noncomputable def pInt8 : PV := .tup [tInt, tInt8]
noncomputable def pInt32 : PV := .tup [tInt, .str [105, 110, 116, 51, 50]]
noncomputable def pUint8 : PV := .tup [tInt, .str [117, 105, 110, 116, 56]]
noncomputable def pUint16 : PV := .tup [tInt, .str [117, 105, 110, 116, 49, 54]]
noncomputable def pUint64 : PV := .tup [tInt, .str [117, 105, 110, 116, 54, 52]]
noncomputable def pInt : PV := .tup [tInt, tInt]
noncomputable def pMN : PV := .tup [tNamed, tMN]
noncomputable def pMS : PV := .tup [tNamed, tMS]
noncomputable def pStr : PV := .tup [tStr]
noncomputable def pBool : PV := .tup [tBool]
noncomputable def pBytes : PV := .tup [tSlice, pUint8]
noncomputable def pFace : PV := .tup [tFace, .tup []]
noncomputable def pNil : PV := .tup [.str [110, 105, 108]]
noncomputable def tUnt : PV := .str [117, 110, 116, 121, 112, 101, 100]
noncomputable def pUBool : PV := .tup [tUnt, tBool]
noncomputable def pUInt : PV := .tup [tUnt, tInt]
noncomputable def pUStr : PV := .tup [tUnt, tStr]

noncomputable def gGlobs : List (Nat × PV) := [(1, .obj 98), (2, .obj 91), (3, .int 512), (7, .obj 105), (11, .typ "bool"), (12, .blt "isinstance"), (13, .typ "bytes"), (14, .typ "int"), (15, .obj 112), (16, .byt [239, 191, 189]), (17, .blt "chr"),
  (19, .obj 126), (20, .obj 133), (21, .obj 119), (23, .obj 313), (30, .obj 334), (31, .obj 276), (32, .obj 320), (33, .tup [.str [112, 116, 114], .str [102, 117, 110, 99], tSlice, .str [109, 97, 112], .str [99, 104, 97, 110], tFace]),
  (34, pUint8), (35, pInt32), (40, .obj 327), (41, .obj 348), (42, .obj 269), (44, pNil), (45, .obj 376), (46, .obj 369), (47, .obj 341), (48, .obj 404), (49, .obj 397), (51, .obj 362), (52, .obj 355), (53, .obj 383), (54, .obj 390), (55, .obj 412), (56, .obj 433), (57, .obj 426),
  (59, .blt "len"), (64, .obj 440), (65, .tup [tBool, tInt, tStr]), (71, .obj 419), (72, pUBool), (74, .obj 666), (75, .obj 687), (76, .obj 680), (96, .obj 140), (85, .obj 255), (88, .obj 222), (93, .obj 301), (103, .obj 236), (113, .tup [.str [102, 117, 110, 99], .tup [], .tup [], .bool false])]

structure FnRow where
  g : Addr
  fi : FI
  ps : List Nat
  ex : List (Nat × Bool)
  body : List IS
noncomputable def fnTab : List FnRow := [⟨98, fi98, ps98, [], ir98⟩,
  ⟨105, fi105, ps105, [], ir105⟩,
  ⟨112, fi112, ps112, [], ir112⟩,
  ⟨119, fi119, ps119, [], ir119⟩,
  ⟨126, fi126, ps126, [], ir126⟩,
  ⟨133, fi133, ps133, [], ir133⟩,
  ⟨140, fi140, ps140, [], ir140⟩,
  ⟨313, fi313, ps313, [], ir313⟩,
  ⟨320, fi320, ps320, [], ir320⟩,
  ⟨327, fi327, ps327, [], ir327⟩,
  ⟨334, fi334, ps334, [], ir334⟩,
  ⟨341, fi341, ps341, [], ir341⟩,
  ⟨348, fi348, ps348, [], ir348⟩,
  ⟨355, fi355, ps355, [], ir355⟩,
  ⟨362, fi362, ps362, [], ir362⟩,
  ⟨369, fi369, ps369, [], ir369⟩,
  ⟨376, fi376, ps376, [], ir376⟩,
  ⟨383, fi383, ps383, [], ir383⟩,
  ⟨390, fi390, ps390, [], ir390⟩,
  ⟨397, fi397, ps397, [], ir397⟩,
  ⟨404, fi404, ps404, [], ir404⟩,
  ⟨412, fi412, [28, 38, 39], [(43, false)], ir412⟩,
  ⟨419, fi419, ps419, [], ir419⟩,
  ⟨426, fi426, ps426, [], ir426⟩,
  ⟨433, fi433, ps433, [], ir433⟩,
  ⟨440, fi440, ps440, [], ir440⟩,
  ⟨494, fi494, ps494, [], ir494⟩,
  ⟨501, fi501, ps501, [], ir501⟩,
  ⟨301, fi301, ps301, [], ir301⟩,
  ⟨687, fi687, ps687, [], ir687⟩,
  ⟨612, fi612, ps612, [], ir612⟩,
  ⟨472, fi472, ps472, [], ir472⟩,
  ⟨255, fi255, ps255, [], ir255⟩,
  ⟨222, fi222, ps222, [], ir222⟩,
  ⟨269, fi269, ps269, [], ir269⟩,
  ⟨680, fi680, ps680, [], ir680⟩,
  ⟨694, fi694, ps694, [], ir694⟩]
noncomputable def fnRow (g : Nat) : List FnRow → Option FnRow
  | [] => none
  | r :: l => cond (Nat.beq g r.g) (some r) (fnRow g l)
noncomputable def FnRow.ρ (r : FnRow) (ds : List PV) : List (Nat × PV) := (r.ps.zip ds ++ r.ex.map fun (x : Nat × Bool) => (x.1, PV.bool x.2)).reverse
noncomputable def gFn (g : Addr) (ds : List PV) : Option (Fe × List IS) := (fnRow g fnTab).bind fun r => cond (Nat.beq r.ps.length ds.length) (some (⟨r.fi, r.ρ ds⟩, r.body)) none

noncomputable def asSpc : PV → Option Nat
  | .spc k => some k
  | _ => none
noncomputable def l1 : List PV → Option PV
  | [a] => some a
  | _ => none
noncomputable def l3 : List PV → Option (PV × PV × PV)
  | [a, b, c] => some (a, b, c)
  | _ => none
noncomputable def l4 : List PV → Option (PV × PV × PV × PV)
  | [a, b, c, d] => some (a, b, c, d)
  | _ => none
noncomputable def look2 {β : Type} (k x : Nat) : List (Nat × Nat × β) → Option β
  | [] => none
  | e :: l => cond (Nat.beq k e.1 && Nat.beq x e.2.1) (some e.2.2) (look2 k x l)
noncomputable def metT : List (Nat × Nat × Addr) := [(1, 29, 612), (0, 63, 472), (0, 67, 494), (0, 69, 501)]
noncomputable def attT : List (Nat × Nat × PV) := [(0, 28, .spc 1), (0, 83, .spc 5), (1, 77, .spc 2), (3, 79, pInt8), (4, 79, pStr)]
noncomputable def gMet (a : PV) (x : Nat) : Option Addr := (asSpc a).bind fun k => look2 k x metT
noncomputable def gAtt (a : PV) (x : Nat) : Option PV := (asSpc a).bind fun k => look2 k x attT
/-- the types that the law asks of -/
noncomputable def okTypes : List PV := [pInt8, pUint16, pInt, pUint64, pMN, pStr, pMS, pBool, pBytes, pFace]
noncomputable def isT (o : Option Bool) : Bool := Option.casesOn (motive := fun _ => Bool) o false fun b => b
noncomputable def eqPV (a b : PV) : Bool := isT (eqf 8 a b)
noncomputable def lkPV (d : PV) : List (PV × PV) → Option PV
  | [] => none
  | e :: r => cond (eqPV d e.1) (some e.2) (lkPV d r)
noncomputable def sortTab : List (PV × PV) := [(pInt8, tInt), (pUint16, tInt), (pInt, tInt), (pUint64, tInt), (pMN, tInt), (pStr, tStr), (pMS, tStr), (pBool, tBool), (pBytes, .str [111, 99, 116, 101, 116, 115]), (pFace, .str [97, 110, 121]), (pUInt, tInt), (pUStr, tStr), (pUBool, tBool)]
noncomputable def sortV (d : PV) : Option PV := lkPV d sortTab
noncomputable def anyPV (d : PV) : List PV → Bool
  | [] => false
  | x :: r => cond (eqPV d x) true (anyPV d r)
noncomputable def namedOK : List PV := [pInt8, pUint16, pInt, pUint64, pMN, pStr, pMS, pBool, pBytes]
noncomputable def prim236 (ds : List PV) : Option PV := (pair2 ds).bind fun q => (asSpc q.1).bind fun k => cond (Nat.beq k 1 && anyPV q.2 namedOK) (some (.lst [])) none
noncomputable def prim666 (ds : List PV) : Option PV := (l1 ds).bind sortV
noncomputable def gPrim (n : Nat) (g : Addr) (ds : List PV) : Option PV := cond (Nat.ble 20 n) (cond (Nat.beq g 236) (prim236 ds) (cond (Nat.beq g 666) (prim666 ds) none)) none
noncomputable def gPrimL (n : Nat) (g : Addr) (ds : List PV) : Option PV := cond (Nat.ble 20 n) (cond (Nat.beq g 666) (prim666 ds) none) none
noncomputable def lkT {β : Type} (t : String) : List (String × β) → Option β
  | [] => none
  | e :: l => cond (decide (t = e.1)) (some e.2) (lkT t l)
noncomputable def asTyp : PV → Option String
  | .typ t => some t
  | _ => none
noncomputable def isiB : List (String × Bool) := [("bool", true), ("int", true), ("bytes", false)]
noncomputable def isiI : List (String × Bool) := [("bool", false), ("int", true), ("bytes", false)]
noncomputable def isiY : List (String × Bool) := [("bool", false), ("int", false), ("bytes", true)]
noncomputable def isiV (v : PV) (t : String) : Option Bool := match v with
  | .bool _ => lkT t isiB
  | .int _ => lkT t isiI
  | .byt _ => lkT t isiY
  | _ => none
noncomputable def bIsi (ds : List PV) : Option PV := (pair2 ds).bind fun q => (asTyp q.2).bind fun t => (isiV q.1 t).bind fun b => some (.bool b)
noncomputable def chrV (a : PV) : Option PV := match a with
  | .int (.ofNat i) => cond (Nat.ble i 1114111) (some (.str [i])) none
  | _ => none
noncomputable def bChr (ds : List PV) : Option PV := (l1 ds).bind chrV
noncomputable def bLen (ds : List PV) : Option PV := (l1 ds).bind fun a => (asTup a).bind fun l => cond (Nat.ble l.length 1000) (some (.int (.ofNat l.length))) none
noncomputable def gBlt (i : String) (ds : List PV) : Option PV := cond (decide (i = "isinstance")) (bIsi ds) (cond (decide (i = "chr")) (bChr ds) (cond (decide (i = "len")) (bLen ds) none))
noncomputable def utf8V : List (Nat × List Nat) := [(0, [0]), (65, [65]), (127, [127]), (128, [194, 128]), (300, [196, 172]), (65535, [239, 191, 191]), (65536, [240, 144, 128, 128])]
noncomputable def lkN {β : Type} (x : Nat) : List (Nat × β) → Option β
  | [] => none
  | e :: r => cond (Nat.beq x e.1) (some e.2) (lkN x r)
noncomputable def lN1 : List Nat → Option Nat
  | [a] => some a
  | _ => none
noncomputable def gBmet (a : PV) (x : Nat) (ds : List PV) : Option PV := (asStr a).bind fun c => (lN1 c).bind fun c => (l1 ds).bind fun d => (asStr d).bind fun l => cond (Nat.beq x 18 && eqN l [117, 116, 102, 45, 56]) ((lkN c utf8V).bind fun b => some (.byt b)) none
noncomputable def lkS {β : Type} (x : List Nat) : List (List Nat × β) → Option β
  | [] => none
  | e :: r => cond (eqN x e.1) (some e.2) (lkS x r)
noncomputable def bitsT : List (List Nat × PV) := [([105, 110, 116], .int 64), ([105, 110, 116, 56], .int 8), ([117, 105, 110, 116, 49, 54], .int 16), ([117, 105, 110, 116, 54, 52], .int 64)]
noncomputable def defsT : List (List Nat × PV) := [([98, 111, 111, 108], pBool), ([105, 110, 116], pInt), ([115, 116, 114, 105, 110, 103], pStr)]
noncomputable def lMN : List Nat := [109, 46, 78]
noncomputable def lMS : List Nat := [109, 46, 83]
noncomputable def lTold : List Nat := [116, 111, 108, 100]
noncomputable def gSgO (g : Nat) (l : List Nat) : Option PV := cond (Nat.beq g 91) (lkS l bitsT) (cond (Nat.beq g 276) (lkS l defsT) none)
noncomputable def gSget (g : PV) (l : List Nat) : Option PV := match g with
  | .obj g => gSgO g l
  | .spc k => cond (Nat.beq k 2) (cond (eqN l lMN) (some (.spc 3)) (cond (eqN l lMS) (some (.spc 4)) none)) (cond (Nat.beq k 5 && eqN l lTold) (some (.spc 6)) none)
  | _ => none
noncomputable def gSgetL (g : PV) (l : List Nat) : Option PV := match g with
  | .obj g => gSgO g l
  | _ => none
noncomputable def gCin (k : Nat) (l : List Nat) : Option Bool := cond (Nat.beq k 2 && (eqN l lMN || eqN l lMS)) (some true) none
noncomputable def gSpf (k : Nat) (ds : List PV) : Option PV := cond (Nat.beq k 6) ((l3 ds).bind fun q => (asTup q.2.1).bind fun t => (l3 t).bind fun r => some r.2.2) none
noncomputable def locV (x : Nat) (f : Fe) : Option PV := cond (hasN x f.fi.locs) (lk x f.ρ) none
noncomputable def h0T : List (PV × PV) := [(pUInt, pInt), (pUStr, pStr), (pUBool, pBool)]
noncomputable def h2T : List (PV × PV) := [(pInt8, .int 8), (pMN, .int 8), (pUint16, .int 16), (pInt, .int 64), (pUint64, .int 64)]
noncomputable def gHol (k : Nat) (f : Fe) : Option PV := cond (Nat.beq k 0) ((locV 73 f).bind fun e => (asTup e).bind fun l => (l4 l).bind fun q => lkPV q.2.1 h0T)
  (cond (Nat.beq k 1) (some .any) (cond (Nat.beq k 2) ((locV 22 f).bind fun t => lkPV t h2T) (cond (Nat.beq k 9) ((locV 22 f).bind fun t => cond (eqPV t pFace) (some (.lst [])) none) none)))
noncomputable def G : Cfg := ⟨fun x => lk x gGlobs, gAtt, gMet, gPrim, gFn, gBlt, gBmet, gSget, gCin, gSpf, gHol⟩
/-- the configuration without a checker -/
noncomputable def GL : Cfg := ⟨fun x => lk x gGlobs, fun _ _ => none, fun _ _ => none, gPrimL, gFn, gBlt, gBmet, gSgetL, fun _ _ => none, fun _ _ => none, gHol⟩

noncomputable def nums : List Int := [0, 127, 128, -128, -129, 65535, 65536, 300, 65]
noncomputable def tConst : PV := .str [99, 111, 110, 115, 116]
noncomputable def tType : PV := .str [116, 121, 112, 101]
noncomputable def es1 : List PV := (nums.map fun i => .tup [tConst, pUInt, .int 4, .int i]) ++ [.tup [tConst, pUStr, .int 4, .byt [97, 98]], .tup [tConst, pUBool, .int 4, .bool true], .tup [tConst, pStr, .int 4, .byt [120]]] ++
  (nums.map fun i => .tup [tConst, pInt, .int 4, .int i]) ++ ((okTypes.take 9).map fun t => .tup [.str [108, 111, 99, 97, 108], t, .int 4, .int 3])
end Mine
namespace Mine
open PySem PySem.W PyProof.Rows PySem.Calls PySem.Spec
mutual
/-- the statements that are left as they lie -/
noncomputable def IS.raws : IS → List Stmt
  | .iff _ b o _ => rawsL b ++ rawsL o
  | .raw s => [s]
  | _ => []
noncomputable def rawsL : List IS → List Stmt
  | [] => []
  | s :: r => s.raws ++ rawsL r
end
theorem hit_in {Γ : Cfg} (n : Nat) : ∀ {f : Fe} {ss : List IS} {ρ : List (Nat × PV)} {s : Stmt}, (ev Γ n).st f ss = some (.hit ρ s) → s ∈ rawsL ss := by
  induction n with
  | zero => intro f ss ρ s h; cases h
  | succ n ih =>
    intro f ss ρ s h
    cases ss with
    | nil => cases some_inj h
    | cons x r =>
      obtain ⟨o, h1, h2⟩ := bind_some h
      cases o with
      | nxt ρ' => exact List.mem_append_right _ (ih h2)
      | ret d => cases some_inj h2
      | hit ρ' s' =>
        cases some_inj h2
        refine List.mem_append_left _ ?_
        cases x with
        | iff t b o p =>
          obtain ⟨c, h3, h4⟩ := bind_some h1
          cases c with
          | true => exact List.mem_append_left _ (ih h4)
          | false => exact List.mem_append_right _ (ih h4)
        | raw s' => cases some_inj h1; exact .head _
        | ret e p => obtain ⟨c, h3, h4⟩ := bind_some h1; cases some_inj h4
        | asg x px e p => obtain ⟨c, h3⟩ := cond_some h1; obtain ⟨d, h4, h5⟩ := bind_some h3; cases some_inj h5
        | unp x y px py k pt e p => obtain ⟨c, h3⟩ := cond_some h1; obtain ⟨d, h4, h5⟩ := bind_some h3; obtain ⟨d', h6, h7⟩ := bind_some h5; cases some_inj h7
        | swp x y px py k pt a b k' pv p => obtain ⟨c, h3⟩ := cond_some h1; obtain ⟨d, h4, h5⟩ := bind_some h3; obtain ⟨d', h6, h7⟩ := bind_some h5; cases some_inj h7
        | whl t b p => obtain ⟨c, h3, h4⟩ := bind_some h1; cases some_inj h4
        | fr0 t e b p => obtain ⟨c, h3, h4⟩ := bind_some h1; obtain ⟨h5, h6⟩ := cond_some h4; cases some_inj h6
mutual
noncomputable def pureP : PV → Bool
  | .tup l => pureL l
  | .lst _ => false
  | .spc _ => false
  | .any => false
  | _ => true
noncomputable def pureL : List PV → Bool
  | [] => true
  | d :: r => pureP d && pureL r
end
noncomputable def es306 : List IE := [.bin (.con (.str (Str.ofString "one value is turned into ") [111, 110, 101, 32, 118, 97, 108, 117, 101, 32, 105, 115, 32, 116, 117, 114, 110, 101, 100, 32, 105, 110, 116, 111, 32] (by decide +kernel)) ⟨306, 24, 306, 51⟩) .Add (.cal (.glo 23 ⟨306, 54, 306, 63⟩) [.loc 22 ⟨306, 64, 306, 65⟩] ⟨306, 54, 306, 66⟩) ⟨306, 24, 306, 66⟩, .loc 66 ⟨306, 68, 306, 72⟩]
noncomputable def es310 : List IE := [.bin (.bin (.cal (.glo 23 ⟨310, 24, 310, 33⟩) [.sub (.loc 61 ⟨310, 34, 310, 38⟩) (.con (.int 1) ⟨310, 39, 310, 40⟩) ⟨310, 34, 310, 41⟩] ⟨310, 24, 310, 42⟩) .Add (.con (.str (Str.ofString " is not turned into ") [32, 105, 115, 32, 110, 111, 116, 32, 116, 117, 114, 110, 101, 100, 32, 105, 110, 116, 111, 32] (by decide +kernel)) ⟨310, 45, 310, 67⟩) ⟨310, 24, 310, 67⟩) .Add (.cal (.glo 23 ⟨310, 70, 310, 79⟩) [.loc 22 ⟨310, 80, 310, 81⟩] ⟨310, 70, 310, 82⟩) ⟨310, 24, 310, 82⟩, .loc 66 ⟨310, 84, 310, 88⟩]
noncomputable def msg59 : List Nat := [97, 32, 99, 111, 110, 115, 116, 97, 110, 116, 32, 105, 115, 32, 110, 111, 32, 118, 97, 108, 117, 101, 32, 111, 102, 32, 105, 116, 115, 32, 116, 121, 112, 101]
noncomputable def es59 : List IE := [.con (.str (Str.ofString "a constant is no value of its type") msg59 (by decide +kernel)) ⟨59, 25, 59, 61⟩]
noncomputable def es3 : List IE := [.con (.str S30 L30 s30) ⟨313, 20, 313, 27⟩, .loc 22 ⟨313, 29, 313, 30⟩, .loc 66 ⟨313, 32, 313, 36⟩]
noncomputable def ecall : List IE := [.sub (.loc 61 ⟨313, 52, 313, 56⟩) (.con (.int 3) ⟨313, 57, 313, 58⟩) ⟨313, 52, 313, 59⟩, .loc 50 ⟨313, 61, 313, 66⟩]
noncomputable def xcall : IE := .cal (.glo 96 ⟨313, 38, 313, 51⟩) ecall ⟨313, 38, 313, 67⟩
noncomputable def etry : IE := .tup (es3 ++ [xcall]) 0 ⟨313, 19, 313, 68⟩
noncomputable def st306 : Stmt := .Raise (some (.Call (.Name (nmOf 95) ⟨306, 14, 306, 23⟩) (embs es306) [] ⟨306, 14, 306, 73⟩)) none ⟨306, 8, 306, 73⟩
noncomputable def st310 : Stmt := .Raise (some (.Call (.Name (nmOf 95) ⟨310, 14, 310, 23⟩) (embs es310) [] ⟨310, 14, 310, 89⟩)) none ⟨310, 8, 310, 89⟩
noncomputable def st59 : Stmt := .Raise (some (.Call (.Name (nmOf 92) ⟨59, 14, 59, 24⟩) (embs es59) [] ⟨59, 14, 59, 62⟩)) none ⟨59, 8, 59, 62⟩
noncomputable def hd314 : List ExceptHandler := [.ExceptHandler (some (.Name (nmOf 92) ⟨314, 15, 314, 25⟩)) (some (Str.ofString "fault")) [.Raise (some (.Call (.Name (nmOf 92) ⟨315, 18, 315, 28⟩) [.Attribute (.Name (Str.ofString "fault") ⟨315, 29, 315, 34⟩) (Str.ofString "message") ⟨315, 29, 315, 42⟩, .Name (nmOf 66) ⟨315, 44, 315, 48⟩] [] ⟨315, 18, 315, 49⟩)) (some (.Constant .none 0 ⟨315, 55, 315, 59⟩)) ⟨315, 12, 315, 59⟩] ⟨314, 8, 315, 59⟩]
noncomputable def st312 : Stmt := .Try [.Return (some etry.emb) ⟨313, 12, 313, 68⟩] hd314 [] [] ⟨312, 8, 315, 59⟩
/-- the three statements -/
theorem raws448 : rawsL ir448 = [st306, st310, st312] := rfl
theorem raws140 : rawsL ir140 = [st59] := rfl

/-- which of the statements it is -/
noncomputable def stLine : Stmt → Nat
  | .Raise _ _ p => p.line
  | .Try _ _ _ _ p => p.line
  | _ => 0
noncomputable def two (o : Option (List PV)) : Bool := isT (o.bind fun l => (pair2 l).bind fun q => (asStr q.1).bind fun _ => some true)
noncomputable def hitOf : SO → Option (List (Nat × PV) × Stmt)
  | .hit ρ s => some (ρ, s)
  | _ => none
noncomputable def convS (v k : PV) : Option SO := (gFn 140 [v, k]).bind fun q => (ev G 50).st q.1 q.2
noncomputable def raisesB (o : Option SO) : Bool := isT ((o.bind hitOf).bind fun _ => some true)
noncomputable def okRaise (ρ : List (Nat × PV)) (st : Stmt) : Bool := cond (Nat.beq (stLine st) 306) (two (evs (ev G 40) ⟨fi448, ρ⟩ es306)) (cond (Nat.beq (stLine st) 310) (two (evs (ev G 40) ⟨fi448, ρ⟩ es310)) false)
noncomputable def tryF (ρ : List (Nat × PV)) : Bool := isT ((evs (ev G 48) ⟨fi448, ρ⟩ es3).bind fun a => (l3 a).bind fun _ => (evs (ev G 48) ⟨fi448, ρ⟩ ecall).bind fun b => (pair2 b).bind fun q => some (raisesB (convS q.1 q.2)))
noncomputable def tryOK (d : PV) (ρ : List (Nat × PV)) : Bool := isT ((lk 66 ρ).bind fun _ => some true) && Option.casesOn (motive := fun _ => Bool) ((ev G 49).ex ⟨fi448, ρ⟩ etry) (tryF ρ && eqPV d tConst) fun x => eqPV x d
noncomputable def goodO (d : PV) : SO → Bool
  | .ret x => eqPV x d
  | .hit ρ st => cond (Nat.beq (stLine st) 312) (tryOK d ρ) (okRaise ρ st && eqPV d tType)
  | .nxt _ => false
noncomputable def fe448 (T : PV) (es : List PV) (b : Bool) : Fe := ⟨fi448, (ps448.zip [.spc 0, T, .tup es, .bool b, .int 7]).reverse⟩
noncomputable def toldP (e : PV) : PV := .tup [.str [116, 111, 108, 100], .int 5, e]
noncomputable def dueL (T e : PV) : Option PV := (ev GL 60).ca 694 [T, e]
noncomputable def skip (T e : PV) : Bool := isT ((sortV T).bind fun s => (asTup e).bind fun l => (l4 l).bind fun q => (asInt q.2.2.2).bind fun i => some (eqPV s tStr && (eqPV q.1 tConst && (isT ((sortV q.2.1).bind fun s' => some (eqPV s' tInt)) && ltI i 0))))
/-- what is told of one value is what is due -/
noncomputable def good (T e : PV) : Bool := isT ((dueL T e).bind fun d => ((ev G 60).st (fe448 T [toldP e] false) ir448).bind fun o => some (goodO d o && (eqPV d d && (pureP d && (pureP T && pureP e)))))
noncomputable def bad (T : PV) (es : List PV) (b : Bool) : Bool := isT (((ev G 60).st (fe448 T es b) ir448).bind fun o => some (goodO tType o && Option.casesOn (motive := fun _ => Bool) (hitOf o) false fun q => Nat.beq (stLine q.2) 306 || Nat.beq (stLine q.2) 310))
noncomputable def allP (p : PV → Bool) : List PV → Bool
  | [] => true
  | x :: r => cond (p x) (allP p r) false
theorem allP_cons {p : PV → Bool} {x : PV} {r : List PV} (h : p x = true) (h' : allP p r = true) : allP p (x :: r) = true := by
  show cond (p x) (allP p r) false = true
  rw [h, h']; rfl
noncomputable def goodT (T : PV) : Bool := allP (fun e => good T e || skip T e) es1
theorem good_pInt8 : goodT pInt8 = true := by decide +kernel
theorem good_pUint16 : goodT pUint16 = true := by decide +kernel
theorem good_pInt : goodT pInt = true := by decide +kernel
theorem good_pUint64 : goodT pUint64 = true := by decide +kernel
theorem good_pMN : goodT pMN = true := by decide +kernel
theorem good_pStr : goodT pStr = true := by decide +kernel
theorem good_pMS : goodT pMS = true := by decide +kernel
theorem good_pBool : goodT pBool = true := by decide +kernel
theorem good_pBytes : goodT pBytes = true := by decide +kernel
theorem good_pFace : goodT pFace = true := by decide +kernel
theorem all_good : allP (fun T => allP (fun e => good T e || skip T e) es1) okTypes = true :=
  allP_cons (p := goodT) good_pInt8 <| allP_cons (p := goodT) good_pUint16 <| allP_cons (p := goodT) good_pInt <| allP_cons (p := goodT) good_pUint64 <| allP_cons (p := goodT) good_pMN <| allP_cons (p := goodT) good_pStr <| allP_cons (p := goodT) good_pMS <| allP_cons (p := goodT) good_pBool <| allP_cons (p := goodT) good_pBytes <| allP_cons (p := goodT) good_pFace <| rfl
theorem all_bad : allP (fun T => bad T [] false && (bad T [.any, .any] false && bad T [.any] true)) okTypes = true := by decide +kernel
end Mine
namespace Mine
open PySem PySem.W PyProof.Rows PySem.Calls PySem.Spec PySem.SeqAt
noncomputable abbrev PRG : Program := PySem.Challenge.rw_on0044_01.row.prog
/-- what is fixed in the whole law -/
structure Un where
  w : World
  p : Program
  loose : List Str
  mean : ExcName → Option Value
  mg : Str → Option Value
  mb : Str → Option Value
  K : Frag
  base : Heap
noncomputable def w0 : World := ⟨fun _ _ => 0, { strHash := fun _ => 0, shareClass := fun _ => 0, mergeTok := fun t => t, idOf := fun _ => 0, idOfShared := fun _ _ => 0, followText := fun _ => false, idOfImm := fun _ => 0 }⟩
noncomputable def u0 : Un := ⟨w0, PRG, [], fun _ => none, fun _ => none, fun _ => none, [], default⟩
end Mine
namespace Mine
open PySem PySem.W PyProof.Rows PySem.Calls PySem.Spec PySem.SeqAt
/-- a function of the written part -/
structure FnDU (u : Un) (g : Addr) (o : Obj) (fd : FuncData) : Prop where
  at_ : u.K.lookup g = some o
  data : o.data = .func fd
  code : codeIn u.K fd.code fd.qualname = true
  env : ∀ L a, callEnv fd L a = envOf fd.qualname fd.scope L a fd.code
  co : fd.scope.isCoroutine = false
  gen : fd.scope.isGenerator = false
  kind : fd.scope.kind = .function
  cell : ∀ x ∈ fd.scope.names, x.2 ≠ .cell
end Mine
namespace Mine
open PySem PySem.W PyProof.Rows PySem.Calls PySem.Spec
noncomputable def lamP : Arguments := .mk [] [.mk (nmOf 62) none ⟨465, 60, 465, 67⟩, .mk (nmOf 81) none ⟨465, 69, 465, 73⟩, .mk (nmOf 82) none ⟨465, 75, 465, 81⟩] none [] [] none []
noncomputable def lamE : IE := .sub (.loc 81 ⟨465, 83, 465, 87⟩) (.con (.int 2) ⟨465, 88, 465, 89⟩) ⟨465, 83, 465, 90⟩
noncomputable def lamS : Scope := .mk .function [(nmOf 62, .local), (nmOf 81, .local), (nmOf 82, .local)] false false []
noncomputable def clsOf (k : Nat) : Addr := cond (Nat.beq k 0) 555 (cond (Nat.beq k 1) 622 579)
noncomputable def fdAtU (u : Un) (g : Addr) : FuncData := Option.casesOn (motive := fun _ => FuncData) (u.K.lookup g) default fun o => match o.data with | .func fd => fd | _ => default
noncomputable def chkFn (names : List (Str × NameKind)) (fi : FI) (ps : List Nat) (ex : List (Nat × Bool)) : Bool :=
  fi.locs.all (fun x => names.lookup (nmOf x) == some .local) && (fi.glos.all (fun x => names.lookup (nmOf x) == some .globalImplicit) && (fi.locs.all (fun x => !(nmOf x == ("__debug__" : Str))) && (fi.glos.all (fun x => !(nmOf x == ("__debug__" : Str))) &&
  (fi.locs.all (fun x => fi.locs.all (fun y => Nat.beq x y || !(nmOf x == nmOf y))) && (ps.all (fun x => hasN x fi.locs) && ex.all (fun x => hasN x.1 fi.locs))))))
/-- a function of the written part and its frame's names -/
structure FnKU (u : Un) (g : Addr) (fi : FI) (ps : List Nat) (ex : List (Nat × Bool)) (body : List Stmt) : Prop where
  D : ∃ o, (FnDU u) g o ((fdAtU u) g)
  body : ((fdAtU u) g).body = .stmts body
  names : chkFn ((fdAtU u) g).scope.names fi ps ex = true
  kind : ((fdAtU u) g).scope.kind = .function
  binds : ∀ {s : Shared} {vs : List Value}, u.K.In s.heap → vs.length = ps.length → BindsTo s ((fdAtU u) g) ⟨vs, []⟩ ((ps.map nmOf).zip vs ++ ex.map fun x => (nmOf x.1, .bool x.2))
noncomputable def AllL {α : Type} (P : α → Prop) : List α → Prop
  | [] => True
  | x :: r => P x ∧ AllL P r
/-- a value of the written part -/
def KVU (u : Un) (v : Value) (d : PV) : Prop := ∀ {aDr : Nat → Addr} {h : Heap}, u.K.In h → VR aDr h v d
def GlobKU (u : Un) (q : Nat × PV) : Prop := ∃ v, (nsIn u.K mainGlobals (nmOf q.1) = some (some v) ∨ (nsIn u.K mainGlobals (nmOf q.1) = some none ∧ bootBuiltins (nmOf q.1) = some v ∧ nmOf q.1 ≠ "__name__")) ∧ (KVU u) v q.2
def TabKU (u : Un) (g : Addr) (t : List (List Nat × PV)) : Prop := (∃ es k, u.K.lookup g = some ⟨.type "dict", none, .dict es k, #[]⟩ ∧ KeysLit u.w.params es.toList) ∧ AllL (fun q => ∃ v, nsIn u.K g (mkStr q.1) = some (some v) ∧ (KVU u) v q.2) t
structure KFU (u : Un) : Prop where
  fns : AllL (fun r => (FnKU u) r.g r.fi r.ps r.ex (embS r.body)) fnTab
  glob : AllL (GlobKU u) gGlobs
  att : AllL (fun q => plainGet u.K (clsOf q.1) (nmOf q.2.1) = true ∧ hasDictIn u.K (clsOf q.1) = true ∧ ∃ a, findIn u.K (.ref (clsOf q.1)) (nmOf q.2.1) = some a ∧ noGet u.K a = true) attT
  met : AllL (fun q => plainGet u.K (clsOf q.1) (nmOf q.2.1) = true ∧ findIn u.K (.ref (clsOf q.1)) (nmOf q.2.1) = some (some (.ref q.2.2)) ∧ typeIn u.K (.ref q.2.2) = some (.type "function")) metT
  bits : (TabKU u) 91 bitsT
  defs : (TabKU u) 276 defsT

end Mine
namespace Mine
open PySem PySem.W PyProof.Rows PySem.Calls PySem.Spec PySem.SeqAt
noncomputable abbrev no : Nat → Addr := fun _ => 0
end Mine
namespace Mine
open PySem PySem.W PyProof.Rows PySem.Calls PySem.Spec PySem.SeqAt
noncomputable def keysE (es : List (IE × IE)) : List (Option Expr) := es.map fun e => some e.1.emb
noncomputable def valsE (es : List (IE × IE)) : List Expr := es.map fun e => e.2.emb
noncomputable def keysX (l : List (Expr × Expr)) : List (Option Expr) := l.map fun p => some p.1
noncomputable def valsX (l : List (Expr × Expr)) : List Expr := l.map fun p => p.2
end Mine
namespace Mine
open PySem PySem.W PyProof.Rows PySem.Calls PySem.Spec
open Builtin Builtin.ObjectAttr
noncomputable abbrev bmE : List Value := [.type "Exception", .type "BaseException", .type "object"]
noncomputable abbrev mroE (C : Addr) : List Value := .ref C :: .ref 39 :: bmE
/-- a class that Exception lies above -/
structure EP where
  nm : Str
  q : Str
  N : Addr
  bs : List Value
  sn : List Str
  sub : List Value
  ab : Bool
  col : Option Bool
  dd : Option Addr
  k0 : Option Value
  k1 : Option Value
  k2 : Option Value
  k3 : Option Value
  k5 : Option Value
noncomputable abbrev EP.ob (p : EP) (C : Addr) : Obj := excClassObj p.nm p.q C p.N p.bs (.ref 39 :: bmE) true p.sn p.sub p.ab p.col p.dd p.k0 p.k1 p.k2 p.k3 p.k5 "Exception.__new__"
def IsExcO (C : Addr) (o : Obj) : Prop := ∃ p : EP, o = p.ob C
/-- what is known of an exception's class -/
structure ExcKU (u : Un) (C : Addr) : Prop where
  cls : ∃ cd, clsIn u.K C = some cd ∧ cd.mro = mroE C ∧ cd.hasDict = true
  taker : ∀ name, name = Str.ofString "message" ∨ name = Str.ofString "spot" → takerIn u.K C name = some none
  setter : findIn u.K (.ref C) "__setattr__" = some (some (.builtin "object.__setattr__"))
  obj : ∃ o, u.K.lookup C = some o ∧ IsExcO C o
  init : findIn u.K (.ref C) "__init__" = some (some (.ref 36))
end Mine
namespace Mine
open PySem PySem.W PyProof.Rows PySem.Calls PySem.Spec
open Builtin Builtin.ObjectAttr
noncomputable abbrev sSelf : Str := Str.ofString "self"
noncomputable abbrev sMsg : Str := Str.ofString "message"
noncomputable abbrev sSpot : Str := Str.ofString "spot"
noncomputable abbrev sExc : Str := Str.ofString "Exception"
noncomputable def body36 : List Stmt := [.Expr (.Call (.Attribute (.Name sExc ⟨8, 8, 8, 17⟩) (Str.ofString "__init__") ⟨8, 8, 8, 26⟩) [.Name sSelf ⟨8, 27, 8, 31⟩, .Name sMsg ⟨8, 33, 8, 40⟩] [] ⟨8, 8, 8, 41⟩) ⟨8, 8, 8, 41⟩,
  .Assign [.Attribute (.Name sSelf ⟨9, 8, 9, 12⟩) sMsg ⟨9, 8, 9, 20⟩] (.Name sMsg ⟨9, 23, 9, 30⟩) ⟨9, 8, 9, 30⟩,
  .Assign [.Attribute (.Name sSelf ⟨10, 8, 10, 12⟩) sSpot ⟨10, 8, 10, 17⟩] (.Name sSpot ⟨10, 20, 10, 24⟩) ⟨10, 8, 10, 24⟩]
noncomputable def sc36 : Scope := { kind := .function, names := [(sSelf, .local), (sMsg, .local), (sSpot, .local), (sExc, .globalImplicit)], isGenerator := false, isCoroutine := false }
noncomputable abbrev bind36 (a b c : Value) : List (Str × Value) := [(sSelf, a), (sMsg, b), (sSpot, c)]
/-- a class of exceptions and its name -/
structure ExcNmU (u : Un) (k : Nat) (C : Addr) : Prop where
  K : (ExcKU u) C
  ns : nsIn u.K mainGlobals (nmOf k) = some (some (.ref C))
  db : (nmOf k == ("__debug__" : Str)) = false
/-- what is known of the exceptions' classes and of their __init__ -/
structure KXU (u : Un) : Prop where
  D : ∃ o, (FnDU u) 36 o ((fdAtU u) 36)
  fn : ∃ o, u.K.lookup 36 = some o ∧ o.cls = .type "function"
  body : ((fdAtU u) 36).body = .stmts body36
  scope : ((fdAtU u) 36).scope = sc36
  b3 : ∀ {s : Shared} {a b c : Value}, u.K.In s.heap → BindsTo s ((fdAtU u) 36) ⟨[a, b, c], []⟩ (bind36 a b c)
  b2 : ∃ sv : Value, ∀ {s : Shared} {a b : Value}, u.K.In s.heap → BindsTo s ((fdAtU u) 36) ⟨[a, b], []⟩ (bind36 a b sv)
  ex : nsIn u.K mainGlobals "Exception" = some none
  fc : findCls u.K (.type "Exception") (.type "type") (Str.ofString "__init__") = some (.val (.builtin "Exception.__init__"))
  x64 : (ExcNmU u) 95 64
  x76 : (ExcNmU u) 92 76
  ga : findIn u.K (.ref 76) "__getattribute__" = some (some (.builtin "BaseException.__getattribute__"))
  gt : findIn u.K (.ref 76) "__getattr__" = some none
  mro : mroIn u.K 76 (.type "BaseException") = some true
  d76 : hasDictIn u.K 76 = true
  m76 : findIn u.K (.ref 76) sMsg = some none
  f448 : (FnKU u) 448 fi448 ps448 [] (embS ir448)
end Mine
namespace Mine
open PySem PySem.W PyProof.Rows PySem.Calls PySem.Spec
noncomputable abbrev sE : Str := Str.ofString "e"
noncomputable def tsc : Scope := { kind := .function, names := [(Str.ofString ".0", .local), (sE, .local)], isGenerator := false, isCoroutine := false }
noncomputable def telt (p1 p2 p3 p4 : Pos) : Expr := .Tuple [.Constant (.str (Str.ofString "told")) 0 p1, .Constant (.int 5) 0 p2, .Name sE p3] 0 p4
end Mine
namespace Mine
open PySem PySem.W PyProof.Rows PySem.Calls PySem.Spec
open Builtin Builtin.ObjectAttr
/-- what is known of a class of the program's own -/
structure ClsKU (u : Un) (C fI : Addr) (names : List Str) : Prop where
  makes : makesIn u.K C = true
  init : findIn u.K (.ref C) "__init__" = some (some (.ref fI))
  isf : typeIn u.K (.ref fI) = some (.type "function")
  plain : plainOver u.K C = true
  dict : (clsIn u.K C).any (·.hasDict) = true
  setter : findIn u.K (.ref C) "__setattr__" = some (some (.builtin "object.__setattr__"))
  taker : AllL (fun nm => takerIn u.K C nm = some none) names
end Mine
namespace Mine
open PySem PySem.W PyProof.Rows PySem.Calls PySem.Spec
/-- what an __init__ stores -/
inductive AK where
  | loc (x : Str)
  | non
  | tru (b : Bool)
  | lis
  | tup
  | dic
noncomputable def AK.emb (p : Pos) : AK → Expr
  | .loc x => .Name x p
  | .non => .Constant .none 0 p
  | .tru b => .Constant (.bool b) 0 p
  | .lis => .List [] p
  | .tup => .Tuple [] 0 p
  | .dic => .Dict [] [] p
structure AS where
  a : Str
  k : AK
  p1 : Pos
  p2 : Pos
  p3 : Pos
  p4 : Pos
noncomputable def AS.emb (t : AS) : Stmt := .Assign [.Attribute (.Name sSelf t.p1) t.a t.p2] (t.k.emb t.p3) t.p4
noncomputable def okN (nms : List (Str × NameKind)) (y : Str) : Bool := nms.lookup y == some .local && !(y == ("__debug__" : Str))
noncomputable def AK.ok (nms : List (Str × NameKind)) (m : Str → Option Value) : AK → Bool
  | .loc y => okN nms y && (m y).isSome
  | _ => true
end Mine
namespace Mine
open PySem PySem.W PyProof.Rows PySem.Calls PySem.Spec
/-- what is known of an __init__ -/
structure InKU (u : Un) (g : Addr) (nms : List (Str × NameKind)) (ps : List Str) (ex : List (Str × Value)) (body : List Stmt) : Prop where
  D : ∃ o, (FnDU u) g o ((fdAtU u) g)
  body : ((fdAtU u) g).body = .stmts body
  names : ((fdAtU u) g).scope.names = nms
  kind : ((fdAtU u) g).scope.kind = .function
  binds : ∀ {s : Shared} {vs : List Value}, u.K.In s.heap → vs.length = ps.length → BindsTo s ((fdAtU u) g) ⟨vs, []⟩ (ps.zip vs ++ ex)
  locs : (ps ++ ex.map (·.1)).all (okN nms) = true
end Mine
namespace Mine
open PySem PySem.W PyProof.Rows PySem.Calls PySem.Spec PySem.SeqAt
noncomputable def nms154 : List (Str × NameKind) := [(Str.ofString "self", .local), (Str.ofString "told", .local), (Str.ofString "steps", .local)]
noncomputable def ps154 : List Str := [Str.ofString "self", Str.ofString "told", Str.ofString "steps"]
noncomputable def at154 : List Str := [(Str.ofString "told"), (Str.ofString "steps")]
noncomputable def as154 : List AS := [⟨(Str.ofString "told"), .loc (Str.ofString "told"), ⟨65, 8, 65, 12⟩, ⟨65, 8, 65, 17⟩, ⟨65, 20, 65, 24⟩, ⟨65, 8, 65, 24⟩⟩,
  ⟨(Str.ofString "steps"), .loc (Str.ofString "steps"), ⟨66, 8, 66, 12⟩, ⟨66, 8, 66, 18⟩, ⟨66, 21, 66, 26⟩, ⟨66, 8, 66, 26⟩⟩]
noncomputable def nms201 : List (Str × NameKind) := [(Str.ofString "self", .local), (Str.ofString "world", .local), (Str.ofString "told", .local), (Str.ofString "Reached", .globalImplicit)]
noncomputable def ps201 : List Str := [Str.ofString "self", Str.ofString "world", Str.ofString "told"]
noncomputable def at201 : List Str := [(Str.ofString "world"), (Str.ofString "here"), (Str.ofString "seen")]
noncomputable def as201a : List AS := [⟨(Str.ofString "world"), .loc (Str.ofString "world"), ⟨96, 8, 96, 12⟩, ⟨96, 8, 96, 18⟩, ⟨96, 21, 96, 26⟩, ⟨96, 8, 96, 26⟩⟩]
noncomputable def st201 : Stmt := .Assign [.Attribute (.Name sSelf ⟨97, 8, 97, 12⟩) (Str.ofString "here") ⟨97, 8, 97, 17⟩] (.List [.Call (.Name (Str.ofString "Reached") ⟨97, 21, 97, 28⟩) [(.Name (Str.ofString "told") ⟨97, 29, 97, 33⟩), (.Tuple [] 0 ⟨97, 35, 97, 37⟩)] [] ⟨97, 21, 97, 38⟩] ⟨97, 20, 97, 39⟩) ⟨97, 8, 97, 39⟩
noncomputable def as201b : List AS := [⟨(Str.ofString "seen"), .dic, ⟨98, 8, 98, 12⟩, ⟨98, 8, 98, 17⟩, ⟨98, 20, 98, 22⟩, ⟨98, 8, 98, 22⟩⟩]
noncomputable def nms576 : List (Str × NameKind) := [(Str.ofString "self", .local), (Str.ofString "path", .local), (Str.ofString "package", .local), (Str.ofString "underlying", .local), (Str.ofString "methods", .local)]
noncomputable def ps576 : List Str := [Str.ofString "self", Str.ofString "path", Str.ofString "package", Str.ofString "underlying", Str.ofString "methods"]
noncomputable def at576 : List Str := [(Str.ofString "path"), (Str.ofString "package"), (Str.ofString "underlying"), (Str.ofString "methods")]
noncomputable def as576 : List AS := [⟨(Str.ofString "path"), .loc (Str.ofString "path"), ⟨403, 8, 403, 12⟩, ⟨403, 8, 403, 17⟩, ⟨403, 20, 403, 24⟩, ⟨403, 8, 403, 24⟩⟩,
  ⟨(Str.ofString "package"), .loc (Str.ofString "package"), ⟨404, 8, 404, 12⟩, ⟨404, 8, 404, 20⟩, ⟨404, 23, 404, 30⟩, ⟨404, 8, 404, 30⟩⟩,
  ⟨(Str.ofString "underlying"), .loc (Str.ofString "underlying"), ⟨405, 8, 405, 12⟩, ⟨405, 8, 405, 23⟩, ⟨405, 26, 405, 36⟩, ⟨405, 8, 405, 36⟩⟩,
  ⟨(Str.ofString "methods"), .loc (Str.ofString "methods"), ⟨406, 8, 406, 12⟩, ⟨406, 8, 406, 20⟩, ⟨406, 23, 406, 30⟩, ⟨406, 8, 406, 30⟩⟩]
noncomputable def nms464 : List (Str × NameKind) := [(Str.ofString "self", .local), (Str.ofString "world", .local), (Str.ofString "package", .local), (Str.ofString "scope", .local), (Str.ofString "key", .local), (Str.ofString "readers", .local), (Str.ofString "run_body", .local), (Str.ofString "outer", .local)]
noncomputable def ps464 : List Str := [Str.ofString "self", Str.ofString "world", Str.ofString "package", Str.ofString "scope", Str.ofString "key", Str.ofString "readers", Str.ofString "run_body", Str.ofString "outer"]
noncomputable def at464 : List Str := [(Str.ofString "world"), (Str.ofString "package"), (Str.ofString "scope"), (Str.ofString "key"), (Str.ofString "readers"), (Str.ofString "run_body"), (Str.ofString "outer"), (Str.ofString "locals"), (Str.ofString "params"), (Str.ofString "results"), (Str.ofString "result_locals"), (Str.ofString "has_result_names"), (Str.ofString "captured"), (Str.ofString "literals"), (Str.ofString "loops")]
noncomputable def as464 : List AS := [⟨(Str.ofString "world"), .loc (Str.ofString "world"), ⟨326, 8, 326, 12⟩, ⟨326, 8, 326, 18⟩, ⟨326, 21, 326, 26⟩, ⟨326, 8, 326, 26⟩⟩,
  ⟨(Str.ofString "package"), .loc (Str.ofString "package"), ⟨327, 8, 327, 12⟩, ⟨327, 8, 327, 20⟩, ⟨327, 23, 327, 30⟩, ⟨327, 8, 327, 30⟩⟩,
  ⟨(Str.ofString "scope"), .loc (Str.ofString "scope"), ⟨328, 8, 328, 12⟩, ⟨328, 8, 328, 18⟩, ⟨328, 21, 328, 26⟩, ⟨328, 8, 328, 26⟩⟩,
  ⟨(Str.ofString "key"), .loc (Str.ofString "key"), ⟨329, 8, 329, 12⟩, ⟨329, 8, 329, 16⟩, ⟨329, 19, 329, 22⟩, ⟨329, 8, 329, 22⟩⟩,
  ⟨(Str.ofString "readers"), .loc (Str.ofString "readers"), ⟨330, 8, 330, 12⟩, ⟨330, 8, 330, 20⟩, ⟨330, 23, 330, 30⟩, ⟨330, 8, 330, 30⟩⟩,
  ⟨(Str.ofString "run_body"), .loc (Str.ofString "run_body"), ⟨331, 8, 331, 12⟩, ⟨331, 8, 331, 21⟩, ⟨331, 24, 331, 32⟩, ⟨331, 8, 331, 32⟩⟩,
  ⟨(Str.ofString "outer"), .loc (Str.ofString "outer"), ⟨332, 8, 332, 12⟩, ⟨332, 8, 332, 18⟩, ⟨332, 21, 332, 26⟩, ⟨332, 8, 332, 26⟩⟩,
  ⟨(Str.ofString "locals"), .lis, ⟨333, 8, 333, 12⟩, ⟨333, 8, 333, 19⟩, ⟨333, 22, 333, 24⟩, ⟨333, 8, 333, 24⟩⟩,
  ⟨(Str.ofString "params"), .tup, ⟨334, 8, 334, 12⟩, ⟨334, 8, 334, 19⟩, ⟨334, 22, 334, 24⟩, ⟨334, 8, 334, 24⟩⟩,
  ⟨(Str.ofString "results"), .tup, ⟨335, 8, 335, 12⟩, ⟨335, 8, 335, 20⟩, ⟨335, 23, 335, 25⟩, ⟨335, 8, 335, 25⟩⟩,
  ⟨(Str.ofString "result_locals"), .tup, ⟨336, 8, 336, 12⟩, ⟨336, 8, 336, 26⟩, ⟨336, 29, 336, 31⟩, ⟨336, 8, 336, 31⟩⟩,
  ⟨(Str.ofString "has_result_names"), .tru false, ⟨337, 8, 337, 12⟩, ⟨337, 8, 337, 29⟩, ⟨337, 32, 337, 37⟩, ⟨337, 8, 337, 37⟩⟩,
  ⟨(Str.ofString "captured"), .lis, ⟨338, 8, 338, 12⟩, ⟨338, 8, 338, 21⟩, ⟨338, 24, 338, 26⟩, ⟨338, 8, 338, 26⟩⟩,
  ⟨(Str.ofString "literals"), .dic, ⟨339, 8, 339, 12⟩, ⟨339, 8, 339, 21⟩, ⟨339, 24, 339, 26⟩, ⟨339, 8, 339, 26⟩⟩,
  ⟨(Str.ofString "loops"), .lis, ⟨340, 8, 340, 12⟩, ⟨340, 8, 340, 18⟩, ⟨340, 21, 340, 23⟩, ⟨340, 8, 340, 23⟩⟩]
noncomputable def nms605 : List (Str × NameKind) := [(Str.ofString "self", .local), (Str.ofString "packages", .local), (Str.ofString "known_rows", .globalImplicit)]
noncomputable def at605 : List Str := [(Str.ofString "packages"), (Str.ofString "named"), (Str.ofString "globals"), (Str.ofString "consts"), (Str.ofString "funcs"), (Str.ofString "bodies"), (Str.ofString "files"), (Str.ofString "scopes"), (Str.ofString "order"), (Str.ofString "starts"), (Str.ofString "settle"), (Str.ofString "late_keys"), (Str.ofString "is_whole")]
noncomputable def as605a : List AS := [⟨(Str.ofString "packages"), .loc (Str.ofString "packages"), ⟨418, 8, 418, 12⟩, ⟨418, 8, 418, 21⟩, ⟨418, 24, 418, 32⟩, ⟨418, 8, 418, 32⟩⟩]
noncomputable def st605 : Stmt := .Assign [.Attribute (.Name sSelf ⟨419, 8, 419, 12⟩) (Str.ofString "named") ⟨419, 8, 419, 18⟩] (.Call (.Name (Str.ofString "known_rows") ⟨419, 21, 419, 31⟩) [] [] ⟨419, 21, 419, 33⟩) ⟨419, 8, 419, 33⟩
noncomputable def as605b : List AS := [⟨(Str.ofString "globals"), .dic, ⟨420, 8, 420, 12⟩, ⟨420, 8, 420, 20⟩, ⟨420, 23, 420, 25⟩, ⟨420, 8, 420, 25⟩⟩,
  ⟨(Str.ofString "consts"), .dic, ⟨421, 8, 421, 12⟩, ⟨421, 8, 421, 19⟩, ⟨421, 22, 421, 24⟩, ⟨421, 8, 421, 24⟩⟩,
  ⟨(Str.ofString "funcs"), .dic, ⟨422, 8, 422, 12⟩, ⟨422, 8, 422, 18⟩, ⟨422, 21, 422, 23⟩, ⟨422, 8, 422, 23⟩⟩,
  ⟨(Str.ofString "bodies"), .dic, ⟨423, 8, 423, 12⟩, ⟨423, 8, 423, 19⟩, ⟨423, 22, 423, 24⟩, ⟨423, 8, 423, 24⟩⟩,
  ⟨(Str.ofString "files"), .dic, ⟨424, 8, 424, 12⟩, ⟨424, 8, 424, 18⟩, ⟨424, 21, 424, 23⟩, ⟨424, 8, 424, 23⟩⟩,
  ⟨(Str.ofString "scopes"), .dic, ⟨425, 8, 425, 12⟩, ⟨425, 8, 425, 19⟩, ⟨425, 22, 425, 24⟩, ⟨425, 8, 425, 24⟩⟩,
  ⟨(Str.ofString "order"), .lis, ⟨426, 8, 426, 12⟩, ⟨426, 8, 426, 18⟩, ⟨426, 21, 426, 23⟩, ⟨426, 8, 426, 23⟩⟩,
  ⟨(Str.ofString "starts"), .lis, ⟨427, 8, 427, 12⟩, ⟨427, 8, 427, 19⟩, ⟨427, 22, 427, 24⟩, ⟨427, 8, 427, 24⟩⟩,
  ⟨(Str.ofString "settle"), .non, ⟨428, 8, 428, 12⟩, ⟨428, 8, 428, 19⟩, ⟨428, 22, 428, 26⟩, ⟨428, 8, 428, 26⟩⟩,
  ⟨(Str.ofString "late_keys"), .lis, ⟨429, 8, 429, 12⟩, ⟨429, 8, 429, 22⟩, ⟨429, 25, 429, 27⟩, ⟨429, 8, 429, 27⟩⟩,
  ⟨(Str.ofString "is_whole"), .tru true, ⟨430, 8, 430, 12⟩, ⟨430, 8, 430, 21⟩, ⟨430, 24, 430, 28⟩, ⟨430, 8, 430, 28⟩⟩]
noncomputable def kr_text : IE := (.tup [(.con (.str S22 L22 s22) ⟨408, 12, 408, 18⟩), (.tup [] 0 ⟨408, 20, 408, 22⟩), (.tup [(.tup [(.con (.str S3 L3 s3) ⟨408, 26, 408, 34⟩)] 0 ⟨408, 25, 408, 36⟩)] 0 ⟨408, 24, 408, 38⟩), (.con (.bool false) ⟨408, 40, 408, 45⟩)] 0 ⟨408, 11, 408, 46⟩)
noncomputable def kr_adding : IE := (.tup [(.con (.str S22 L22 s22) ⟨409, 14, 409, 20⟩), (.tup [(.tup [(.con (.str S4 L4 s4) ⟨409, 24, 409, 29⟩), (.con (.str S4 L4 s4) ⟨409, 31, 409, 36⟩)] 0 ⟨409, 23, 409, 37⟩)] 0 ⟨409, 22, 409, 39⟩), (.tup [] 0 ⟨409, 41, 409, 43⟩), (.con (.bool false) ⟨409, 45, 409, 50⟩)] 0 ⟨409, 13, 409, 51⟩)
noncomputable def kr_held : IE := (.tup [(.con (.str S23 L23 s23) ⟨410, 12, 410, 20⟩), (.tup [(.tup [(.con (.str (Str.ofString "state") [115, 116, 97, 116, 101] (by decide +kernel)) ⟨410, 24, 410, 31⟩), (.tup [(.con (.str S4 L4 s4) ⟨410, 34, 410, 39⟩), (.con (.str S4 L4 s4) ⟨410, 41, 410, 46⟩)] 0 ⟨410, 33, 410, 47⟩), (.con (.bool false) ⟨410, 49, 410, 54⟩)] 0 ⟨410, 23, 410, 55⟩)] 0 ⟨410, 22, 410, 57⟩)] 0 ⟨410, 11, 410, 58⟩)
noncomputable def kr_told : List (IE × IE) := [((.con (.str (Str.ofString "Error") [69, 114, 114, 111, 114] (by decide +kernel)) ⟨411, 12, 411, 19⟩), (.tup [(.con (.bool false) ⟨411, 22, 411, 27⟩), (.loc 108 ⟨411, 29, 411, 33⟩), (.con (.str (Str.ofString "runtime.Error.Error") [114, 117, 110, 116, 105, 109, 101, 46, 69, 114, 114, 111, 114, 46, 69, 114, 114, 111, 114] (by decide +kernel)) ⟨411, 35, 411, 56⟩)] 0 ⟨411, 21, 411, 57⟩))]
noncomputable def kr_locks : List (IE × IE) := [((.con (.str (Str.ofString "Lock") [76, 111, 99, 107] (by decide +kernel)) ⟨412, 13, 412, 19⟩), (.tup [(.con (.bool true) ⟨412, 22, 412, 26⟩), (.glo 113 ⟨412, 28, 412, 33⟩), (.con (.str (Str.ofString "sync.Mutex.Lock") [115, 121, 110, 99, 46, 77, 117, 116, 101, 120, 46, 76, 111, 99, 107] (by decide +kernel)) ⟨412, 35, 412, 52⟩)] 0 ⟨412, 21, 412, 53⟩)), ((.con (.str (Str.ofString "Unlock") [85, 110, 108, 111, 99, 107] (by decide +kernel)) ⟨412, 55, 412, 63⟩), (.tup [(.con (.bool true) ⟨412, 66, 412, 70⟩), (.glo 113 ⟨412, 72, 412, 77⟩), (.con (.str (Str.ofString "sync.Mutex.Unlock") [115, 121, 110, 99, 46, 77, 117, 116, 101, 120, 46, 85, 110, 108, 111, 99, 107] (by decide +kernel)) ⟨412, 79, 412, 98⟩)] 0 ⟨412, 65, 412, 99⟩))]
noncomputable def kr_waits : List (IE × IE) := [((.con (.str (Str.ofString "Add") [65, 100, 100] (by decide +kernel)) ⟨413, 13, 413, 18⟩), (.tup [(.con (.bool true) ⟨413, 21, 413, 25⟩), (.loc 109 ⟨413, 27, 413, 33⟩), (.con (.str (Str.ofString "sync.WaitGroup.Add") [115, 121, 110, 99, 46, 87, 97, 105, 116, 71, 114, 111, 117, 112, 46, 65, 100, 100] (by decide +kernel)) ⟨413, 35, 413, 55⟩)] 0 ⟨413, 20, 413, 56⟩)), ((.con (.str (Str.ofString "Done") [68, 111, 110, 101] (by decide +kernel)) ⟨413, 58, 413, 64⟩), (.tup [(.con (.bool true) ⟨413, 67, 413, 71⟩), (.glo 113 ⟨413, 73, 413, 78⟩), (.con (.str (Str.ofString "sync.WaitGroup.Done") [115, 121, 110, 99, 46, 87, 97, 105, 116, 71, 114, 111, 117, 112, 46, 68, 111, 110, 101] (by decide +kernel)) ⟨413, 80, 413, 101⟩)] 0 ⟨413, 66, 413, 102⟩)), ((.con (.str (Str.ofString "Wait") [87, 97, 105, 116] (by decide +kernel)) ⟨413, 104, 413, 110⟩), (.tup [(.con (.bool true) ⟨413, 113, 413, 117⟩), (.glo 113 ⟨413, 119, 413, 124⟩), (.con (.str (Str.ofString "sync.WaitGroup.Wait") [115, 121, 110, 99, 46, 87, 97, 105, 116, 71, 114, 111, 117, 112, 46, 87, 97, 105, 116] (by decide +kernel)) ⟨413, 126, 413, 147⟩)] 0 ⟨413, 112, 413, 148⟩))]
noncomputable def kr_r0 : List IE := [(.con (.str (Str.ofString "error") [101, 114, 114, 111, 114] (by decide +kernel)) ⟨414, 30, 414, 37⟩), (.con (.str (Str.ofString "") [] (by decide +kernel)) ⟨414, 39, 414, 41⟩), (.tup [(.con (.str S24 L24 s24) ⟨414, 44, 414, 55⟩), (.tup [(.tup [(.con (.str (Str.ofString "Error") [69, 114, 114, 111, 114] (by decide +kernel)) ⟨414, 59, 414, 66⟩), (.loc 108 ⟨414, 68, 414, 72⟩)] 0 ⟨414, 58, 414, 73⟩)] 0 ⟨414, 57, 414, 75⟩)] 0 ⟨414, 43, 414, 76⟩)]
noncomputable def kr_r1 : List IE := [(.con (.str (Str.ofString "runtime.Error") [114, 117, 110, 116, 105, 109, 101, 46, 69, 114, 114, 111, 114] (by decide +kernel)) ⟨414, 109, 414, 124⟩), (.con (.str (Str.ofString "runtime") [114, 117, 110, 116, 105, 109, 101] (by decide +kernel)) ⟨414, 126, 414, 135⟩), (.tup [(.con (.str S3 L3 s3) ⟨414, 138, 414, 146⟩)] 0 ⟨414, 137, 414, 148⟩), (.loc 9 ⟨414, 150, 414, 154⟩)]
noncomputable def kr_r2 : List IE := [(.con (.str (Str.ofString "sync.Mutex") [115, 121, 110, 99, 46, 77, 117, 116, 101, 120] (by decide +kernel)) ⟨414, 180, 414, 192⟩), (.con (.str (Str.ofString "sync") [115, 121, 110, 99] (by decide +kernel)) ⟨414, 194, 414, 200⟩), (.loc 110 ⟨414, 202, 414, 206⟩), (.loc 111 ⟨414, 208, 414, 213⟩)]
noncomputable def kr_r3 : List IE := [(.con (.str (Str.ofString "sync.WaitGroup") [115, 121, 110, 99, 46, 87, 97, 105, 116, 71, 114, 111, 117, 112] (by decide +kernel)) ⟨414, 243, 414, 259⟩), (.con (.str (Str.ofString "sync") [115, 121, 110, 99] (by decide +kernel)) ⟨414, 261, 414, 267⟩), (.loc 110 ⟨414, 269, 414, 273⟩), (.loc 112 ⟨414, 275, 414, 280⟩)]
noncomputable abbrev sRow : Str := Str.ofString "NamedRow"
noncomputable def kr_rows (r0 r1 r2 r3 : List IE) : List (Expr × Expr) := [((.Constant (.str (Str.ofString "error")) 0 ⟨414, 12, 414, 19⟩), .Call (.Name sRow ⟨414, 21, 414, 29⟩) (embs r0 ++ [.Dict [] [] ⟨414, 78, 414, 80⟩]) [] ⟨414, 21, 414, 81⟩), ((.Constant (.str (Str.ofString "runtime.Error")) 0 ⟨414, 83, 414, 98⟩), .Call (.Name sRow ⟨414, 100, 414, 108⟩) (embs r1) [] ⟨414, 100, 414, 155⟩), ((.Constant (.str (Str.ofString "sync.Mutex")) 0 ⟨414, 157, 414, 169⟩), .Call (.Name sRow ⟨414, 171, 414, 179⟩) (embs r2) [] ⟨414, 171, 414, 214⟩), ((.Constant (.str (Str.ofString "sync.WaitGroup")) 0 ⟨414, 216, 414, 232⟩), .Call (.Name sRow ⟨414, 234, 414, 242⟩) (embs r3) [] ⟨414, 234, 414, 281⟩)]
noncomputable def body590 : List Stmt := [.Assign [.Name (nmOf 108) ⟨408, 4, 408, 8⟩] kr_text.emb ⟨408, 4, 408, 46⟩,
  .Assign [.Name (nmOf 109) ⟨409, 4, 409, 10⟩] kr_adding.emb ⟨409, 4, 409, 51⟩,
  .Assign [.Name (nmOf 110) ⟨410, 4, 410, 8⟩] kr_held.emb ⟨410, 4, 410, 58⟩,
  .Assign [.Name (nmOf 9) ⟨411, 4, 411, 8⟩] (.Dict (keysE kr_told) (valsE kr_told) ⟨411, 11, 411, 58⟩) ⟨411, 4, 411, 58⟩,
  .Assign [.Name (nmOf 111) ⟨412, 4, 412, 9⟩] (.Dict (keysE kr_locks) (valsE kr_locks) ⟨412, 12, 412, 100⟩) ⟨412, 4, 412, 100⟩,
  .Assign [.Name (nmOf 112) ⟨413, 4, 413, 9⟩] (.Dict (keysE kr_waits) (valsE kr_waits) ⟨413, 12, 413, 149⟩) ⟨413, 4, 413, 149⟩,
  .Return (some (.Dict (keysX (kr_rows kr_r0 kr_r1 kr_r2 kr_r3)) (valsX (kr_rows kr_r0 kr_r1 kr_r2 kr_r3)) ⟨414, 11, 414, 282⟩)) ⟨414, 4, 414, 282⟩]
noncomputable def fi590 : FI := ⟨[108, 109, 110, 9, 111, 112], [113, 114]⟩
/-- a function or class of the written part, by its name -/
structure GNmU (u : Un) (x : Str) (g : Addr) : Prop where
  ns : nsIn u.K mainGlobals x = some (some (.ref g))
  keep : keepIn u.K (.ref g) = true
  db : (x == ("__debug__" : Str)) = false
noncomputable abbrev sMet : Str := Str.ofString "methods"
/-- an attribute of a class's objects is their own -/
def AttFU (u : Un) (C : Addr) (nm : Str) : Prop := plainGet u.K C nm = true ∧ hasDictIn u.K C = true ∧ ∃ a, findIn u.K (.ref C) nm = some a ∧ noGet u.K a = true
/-- what is known of the classes -/
structure KOU (u : Un) : Prop where
  c579 : (ClsKU u) 579 576 at576
  i576 : (InKU u) 576 nms576 ps576 [] (as576.map AS.emb)
  gRow : (GNmU u) sRow 579
  c622 : (ClsKU u) 622 605 at605
  i605s : (InKU u) 605 nms605 [sSelf] [(Str.ofString "packages", .none)] (as605a.map AS.emb ++ st605 :: as605b.map AS.emb)
  gWorld : (GNmU u) (Str.ofString "World") 622
  c555 : (ClsKU u) 555 464 at464
  i464 : (InKU u) 464 nms464 (ps464.take 7) [(Str.ofString "outer", .none)] (as464.map AS.emb)
  gChk : (GNmU u) (Str.ofString "Checker") 555
  f590 : (FnKU u) 590 fi590 [] [] body590
  gKr : (GNmU u) (Str.ofString "known_rows") 590
  aNamed : (AttFU u) 622 (Str.ofString "named")
end Mine
namespace Mine
open PySem PySem.W PyProof.Rows PySem.Calls PySem.Spec PySem.SeqAt
noncomputable abbrev sNamed : Str := Str.ofString "named"
noncomputable abbrev sWorld : Str := Str.ofString "world"
end Mine
namespace Mine
open PySem PySem.W PyProof.Rows PySem.Calls PySem.Spec PySem.SeqAt
noncomputable def nms654 : List (Str × NameKind) := [(Str.ofString "world", .local), (Str.ofString "World", .globalImplicit), (Str.ofString "NamedRow", .globalImplicit), (Str.ofString "Checker", .globalImplicit)]
noncomputable def ckN : List IE := [(.con (.str S38 L38 s38) ⟨463, 34, 463, 39⟩), (.con (.str (Str.ofString "m") [109] (by decide +kernel)) ⟨463, 41, 463, 44⟩), (.tup [(.con (.str S4 L4 s4) ⟨463, 47, 463, 52⟩), (.con (.str S37 L37 s37) ⟨463, 54, 463, 60⟩)] 0 ⟨463, 46, 463, 61⟩)]
noncomputable def ckS : List IE := [(.con (.str S40 L40 s40) ⟨464, 34, 464, 39⟩), (.con (.str (Str.ofString "m") [109] (by decide +kernel)) ⟨464, 41, 464, 44⟩), (.tup [(.con (.str S3 L3 s3) ⟨464, 47, 464, 55⟩)] 0 ⟨464, 46, 464, 57⟩)]
noncomputable def lamX : Expr := .Lambda lamP lamE.emb lamS ⟨465, 53, 465, 90⟩
noncomputable def ckD : List (Expr × Expr) := [((.Constant (.str (Str.ofString "told")) 0 ⟨465, 45, 465, 51⟩), lamX)]
noncomputable def body654 : List Stmt := [.Assign [.Name sWorld ⟨462, 4, 462, 9⟩] (.Call (.Name (Str.ofString "World") ⟨462, 12, 462, 17⟩) [] [] ⟨462, 12, 462, 19⟩) ⟨462, 4, 462, 19⟩,
  .Assign [.Subscript (.Attribute (.Name sWorld ⟨463, 4, 463, 9⟩) sNamed ⟨463, 4, 463, 15⟩) (.Constant (.str (Str.ofString "m.N")) 0 ⟨463, 16, 463, 21⟩) ⟨463, 4, 463, 22⟩] (.Call (.Name sRow ⟨463, 25, 463, 33⟩) (embs ckN ++ [.Dict [] [] ⟨463, 63, 463, 65⟩]) [] ⟨463, 25, 463, 66⟩) ⟨463, 4, 463, 66⟩,
  .Assign [.Subscript (.Attribute (.Name sWorld ⟨464, 4, 464, 9⟩) sNamed ⟨464, 4, 464, 15⟩) (.Constant (.str (Str.ofString "m.S")) 0 ⟨464, 16, 464, 21⟩) ⟨464, 4, 464, 22⟩] (.Call (.Name sRow ⟨464, 25, 464, 33⟩) (embs ckS ++ [.Dict [] [] ⟨464, 59, 464, 61⟩]) [] ⟨464, 25, 464, 62⟩) ⟨464, 4, 464, 62⟩,
  .Return (some (.Call (.Name (Str.ofString "Checker") ⟨465, 11, 465, 18⟩) [.Name sWorld ⟨465, 19, 465, 24⟩, (.Constant (.str (Str.ofString "m")) 0 ⟨465, 26, 465, 29⟩), (.Constant .none 0 ⟨465, 31, 465, 35⟩), (.Constant (.str (Str.ofString "m.f")) 0 ⟨465, 37, 465, 42⟩), .Dict (keysX ckD) (valsX ckD) ⟨465, 44, 465, 91⟩, (.Constant .none 0 ⟨465, 93, 465, 97⟩)] [] ⟨465, 11, 465, 98⟩)) ⟨465, 4, 465, 98⟩]
end Mine
namespace Mine
open PySem PySem.W PyProof.Rows PySem.Calls PySem.Spec PySem.SeqAt
/-- what is known of _law_checker -/
structure KCU (u : Un) : Prop where
  I : (InKU u) 654 nms654 [] [] body654
  cn : ((fdAtU u) 654).qualname = Str.ofString "_law_checker"
  cd : ((fdAtU u) 654).code = .ref 653
  g : (GNmU u) (Str.ofString "_law_checker") 654
end Mine
namespace Mine
open PySem PySem.W PyProof.Rows PySem.Calls PySem.Spec PySem.SeqAt
noncomputable abbrev wrd (s : Str) (p : Pos) : Expr := .Constant (.str s) 0 p
end Mine
namespace Mine
open PySem PySem.W PyProof.Rows PySem.Calls PySem.Spec PySem.SeqAt
noncomputable abbrev sConv : Str := Str.ofString "check_conversion"
noncomputable abbrev sLck : Str := Str.ofString "_law_checker"
noncomputable abbrev sT : Str := Str.ofString "T"
noncomputable abbrev sEs : Str := Str.ofString "es"
noncomputable abbrev sTup : Str := Str.ofString "tuple"
noncomputable abbrev sSp : Str := Str.ofString "is_spread"
noncomputable def nms659 : List (Str × NameKind) := [(Str.ofString "T", .local), (Str.ofString "es", .local), (Str.ofString "is_spread", .local), (Str.ofString "check_conversion", .globalImplicit), (Str.ofString "_law_checker", .globalImplicit), (Str.ofString "tuple", .globalImplicit), (Str.ofString "TypeFault", .globalImplicit), (Str.ofString "ConstFault", .globalImplicit)]
noncomputable def ps659 : List Str := [Str.ofString "T", Str.ofString "es", Str.ofString "is_spread"]
noncomputable def tcomp : Expr := .ListComp (telt ⟨468, 59, 468, 65⟩ ⟨468, 67, 468, 68⟩ ⟨468, 70, 468, 71⟩ ⟨468, 58, 468, 72⟩) [⟨.Name sE ⟨468, 77, 468, 78⟩, .Name sEs ⟨468, 82, 468, 84⟩, [], 0⟩] tsc ⟨468, 57, 468, 85⟩
noncomputable def ecall659 : Expr := .Call (.Name sConv ⟨468, 15, 468, 31⟩) [.Call (.Name sLck ⟨468, 32, 468, 44⟩) [] [] ⟨468, 32, 468, 46⟩, .Name sT ⟨468, 48, 468, 49⟩, .Call (.Name sTup ⟨468, 51, 468, 56⟩) [tcomp] [] ⟨468, 51, 468, 86⟩, .Name sSp ⟨468, 88, 468, 97⟩, .Constant (.int 7) 0 ⟨468, 99, 468, 100⟩] [] ⟨468, 15, 468, 101⟩
noncomputable def hd659 : List ExceptHandler := [.ExceptHandler (some (.Name (nmOf 95) ⟨469, 11, 469, 20⟩)) none [.Return (some (wrd (Str.ofString "type") ⟨470, 15, 470, 21⟩)) ⟨470, 8, 470, 21⟩] ⟨469, 4, 470, 21⟩, .ExceptHandler (some (.Name (nmOf 92) ⟨471, 11, 471, 21⟩)) none [.Return (some (wrd (Str.ofString "const") ⟨472, 15, 472, 22⟩)) ⟨472, 8, 472, 22⟩] ⟨471, 4, 472, 22⟩]
noncomputable def body659 : List Stmt := [.Try [.Return (some ecall659) ⟨468, 8, 468, 101⟩] hd659 [] [] ⟨467, 4, 472, 22⟩]
/-- what is known of _law_told -/
structure KTdU (u : Un) : Prop where
  I : (InKU u) 659 nms659 ps659 [] body659
  gConv : (GNmU u) sConv 448
  gTold : (GNmU u) (Str.ofString "_law_told") 659
  tup : nsIn u.K mainGlobals sTup = some none
end Mine
namespace Mine
open PySem PySem.W PyProof.Rows PySem.Calls PySem.Spec PySem.SeqAt
noncomputable def row666 : FnRow := ⟨666, fi666, ps666, [], ir666⟩
end Mine
namespace Mine
open PySem PySem.W PyProof.Rows PySem.Calls PySem.Spec PySem.SeqAt
noncomputable abbrev sTold : Str := Str.ofString "told"
noncomputable abbrev sHere : Str := Str.ofString "here"
noncomputable abbrev sSeen : Str := Str.ofString "seen"
noncomputable def nms175 : List (Str × NameKind) := [(Str.ofString "world", .local), (Str.ofString "told", .local)]
noncomputable def b175_0 : Stmt := (.Return (some (.IfExp (.Compare (.Subscript (.Name (Str.ofString "told") ⟨70, 43, 70, 47⟩) (.Constant (.int 0) 0 ⟨70, 48, 70, 49⟩) ⟨70, 43, 70, 50⟩) [.Eq] [(.Constant (.str (Str.ofString "named")) 0 ⟨70, 54, 70, 61⟩)] ⟨70, 43, 70, 61⟩) (.Attribute (.Subscript (.Attribute (.Name (Str.ofString "world") ⟨70, 11, 70, 16⟩) (Str.ofString "named") ⟨70, 11, 70, 22⟩) (.Subscript (.Name (Str.ofString "told") ⟨70, 23, 70, 27⟩) (.Constant (.int 1) 0 ⟨70, 28, 70, 29⟩) ⟨70, 23, 70, 30⟩) ⟨70, 11, 70, 31⟩) (Str.ofString "methods") ⟨70, 11, 70, 39⟩) (.Dict [] [] ⟨70, 67, 70, 69⟩) ⟨70, 11, 70, 69⟩)) ⟨70, 4, 70, 69⟩)
noncomputable def body175 : List Stmt := [b175_0]
noncomputable def nms187 : List (Str × NameKind) := [(Str.ofString "world", .local), (Str.ofString "reached", .local), (Str.ofString "base", .local), (Str.ofString "found", .local), (Str.ofString "k", .local), (Str.ofString "row", .local), (Str.ofString "is_pointer", .local), (Str.ofString "enumerate", .globalImplicit), (Str.ofString "Reached", .globalImplicit), (Str.ofString "without_pointer", .globalImplicit)]
noncomputable abbrev sReached : Str := Str.ofString "reached"
/-- what is known of names_of_methods and what it calls -/
structure KNU (u : Un) : Prop where
  c157 : (ClsKU u) 157 154 at154
  i154 : (InKU u) 154 nms154 ps154 [] (as154.map AS.emb)
  gReached : (GNmU u) (Str.ofString "Reached") 157
  aTold : (AttFU u) 157 sTold
  i175 : (InKU u) 175 nms175 [sWorld, sTold] [] body175
  gOwn : (GNmU u) (Str.ofString "own_methods") 175
  aMet : (AttFU u) 579 sMet
end Mine
namespace Mine
open PySem PySem.W PyProof.Rows PySem.Calls PySem.Spec PySem.SeqAt
noncomputable def b187_0 : Stmt := (.Assign [(.Tuple [(.Name (Str.ofString "base") ⟨86, 4, 86, 8⟩), (.Name (Str.ofString "found") ⟨86, 10, 86, 15⟩)] 0 ⟨86, 4, 86, 15⟩)] (.Tuple [(.Call (.Attribute (.Name (Str.ofString "world") ⟨86, 19, 86, 24⟩) (Str.ofString "base_of") ⟨86, 19, 86, 32⟩) [(.Attribute (.Name (Str.ofString "reached") ⟨86, 33, 86, 40⟩) (Str.ofString "told") ⟨86, 33, 86, 45⟩)] [] ⟨86, 19, 86, 46⟩), (.List [] ⟨86, 48, 86, 50⟩)] 0 ⟨86, 18, 86, 51⟩) ⟨86, 4, 86, 51⟩)
noncomputable def b187_1 : Stmt := (.If (.Compare (.Subscript (.Name (Str.ofString "base") ⟨87, 7, 87, 11⟩) (.Constant (.int 0) 0 ⟨87, 12, 87, 13⟩) ⟨87, 7, 87, 14⟩) [.Eq] [(.Constant (.str (Str.ofString "struct")) 0 ⟨87, 18, 87, 26⟩)] ⟨87, 7, 87, 26⟩) [(.For (.Tuple [(.Name (Str.ofString "k") ⟨88, 12, 88, 13⟩), (.Name (Str.ofString "row") ⟨88, 15, 88, 18⟩)] 0 ⟨88, 12, 88, 18⟩) (.Call (.Name (Str.ofString "enumerate") ⟨88, 22, 88, 31⟩) [(.Subscript (.Name (Str.ofString "base") ⟨88, 32, 88, 36⟩) (.Constant (.int 1) 0 ⟨88, 37, 88, 38⟩) ⟨88, 32, 88, 39⟩)] [] ⟨88, 22, 88, 40⟩) [(.If (.Subscript (.Name (Str.ofString "row") ⟨89, 15, 89, 18⟩) (.Constant (.int 2) 0 ⟨89, 19, 89, 20⟩) ⟨89, 15, 89, 21⟩) [(.Assign [(.Name (Str.ofString "is_pointer") ⟨90, 16, 90, 26⟩)] (.Compare (.Subscript (.Subscript (.Name (Str.ofString "row") ⟨90, 29, 90, 32⟩) (.Constant (.int 1) 0 ⟨90, 33, 90, 34⟩) ⟨90, 29, 90, 35⟩) (.Constant (.int 0) 0 ⟨90, 36, 90, 37⟩) ⟨90, 29, 90, 38⟩) [.Eq] [(.Constant (.str (Str.ofString "ptr")) 0 ⟨90, 42, 90, 47⟩)] ⟨90, 29, 90, 47⟩) ⟨90, 16, 90, 47⟩), (.Expr (.Call (.Attribute (.Name (Str.ofString "found") ⟨91, 16, 91, 21⟩) (Str.ofString "append") ⟨91, 16, 91, 28⟩) [(.Call (.Name (Str.ofString "Reached") ⟨91, 29, 91, 36⟩) [(.Call (.Name (Str.ofString "without_pointer") ⟨91, 37, 91, 52⟩) [(.Subscript (.Name (Str.ofString "row") ⟨91, 53, 91, 56⟩) (.Constant (.int 1) 0 ⟨91, 57, 91, 58⟩) ⟨91, 53, 91, 59⟩)] [] ⟨91, 37, 91, 60⟩), (.BinOp (.Attribute (.Name (Str.ofString "reached") ⟨91, 62, 91, 69⟩) (Str.ofString "steps") ⟨91, 62, 91, 75⟩) .Add (.Tuple [(.Tuple [(.Name (Str.ofString "k") ⟨91, 80, 91, 81⟩), (.Name (Str.ofString "is_pointer") ⟨91, 83, 91, 93⟩)] 0 ⟨91, 79, 91, 94⟩)] 0 ⟨91, 78, 91, 96⟩) ⟨91, 62, 91, 96⟩)] [] ⟨91, 29, 91, 97⟩)] [] ⟨91, 16, 91, 98⟩) ⟨91, 16, 91, 98⟩)] [] ⟨89, 12, 91, 98⟩)] [] ⟨88, 8, 91, 98⟩)] [] ⟨87, 4, 91, 98⟩)
noncomputable def b187_2 : Stmt := (.Return (some (.Name (Str.ofString "found") ⟨92, 11, 92, 16⟩)) ⟨92, 4, 92, 16⟩)
noncomputable def body187 : List Stmt := [b187_0, b187_1, b187_2]

/-- what more is known -/
structure KMU (u : Un) : Prop where
  K : (KNU u)
  i187 : (InKU u) 187 nms187 [sWorld, sReached] [] body187
  gEmb : (GNmU u) (Str.ofString "embedded_in") 187
end Mine
namespace Mine
open PySem PySem.W PyProof.Rows PySem.Calls PySem.Spec PySem.SeqAt
noncomputable def nms208 : List (Str × NameKind) := [(Str.ofString "self", .local), (Str.ofString "reached", .local), (Str.ofString "later", .local), (Str.ofString "inner", .local), (Str.ofString "embedded_in", .globalImplicit)]
noncomputable def b208_0 : Stmt := (.For (.Name (Str.ofString "reached") ⟨101, 12, 101, 19⟩) (.Attribute (.Name (Str.ofString "self") ⟨101, 23, 101, 27⟩) (Str.ofString "here") ⟨101, 23, 101, 32⟩) [(.If (.Compare (.Subscript (.Attribute (.Name (Str.ofString "reached") ⟨102, 15, 102, 22⟩) (Str.ofString "told") ⟨102, 15, 102, 27⟩) (.Constant (.int 0) 0 ⟨102, 28, 102, 29⟩) ⟨102, 15, 102, 30⟩) [.Eq] [(.Constant (.str (Str.ofString "named")) 0 ⟨102, 34, 102, 41⟩)] ⟨102, 15, 102, 41⟩) [(.Assign [(.Subscript (.Attribute (.Name (Str.ofString "self") ⟨103, 16, 103, 20⟩) (Str.ofString "seen") ⟨103, 16, 103, 25⟩) (.Subscript (.Attribute (.Name (Str.ofString "reached") ⟨103, 26, 103, 33⟩) (Str.ofString "told") ⟨103, 26, 103, 38⟩) (.Constant (.int 1) 0 ⟨103, 39, 103, 40⟩) ⟨103, 26, 103, 41⟩) ⟨103, 16, 103, 42⟩)] (.Constant (.bool true) 0 ⟨103, 45, 103, 49⟩) ⟨103, 16, 103, 49⟩)] [] ⟨102, 12, 103, 49⟩)] [] ⟨101, 8, 103, 49⟩)
noncomputable def b208_1 : Stmt := (.Assign [(.Name (Str.ofString "later") ⟨104, 8, 104, 13⟩)] (.List [] ⟨104, 16, 104, 18⟩) ⟨104, 8, 104, 18⟩)
noncomputable def b208_2 : Stmt := (.For (.Name (Str.ofString "reached") ⟨105, 12, 105, 19⟩) (.Attribute (.Name (Str.ofString "self") ⟨105, 23, 105, 27⟩) (Str.ofString "here") ⟨105, 23, 105, 32⟩) [(.For (.Name (Str.ofString "inner") ⟨106, 16, 106, 21⟩) (.Call (.Name (Str.ofString "embedded_in") ⟨106, 25, 106, 36⟩) [(.Attribute (.Name (Str.ofString "self") ⟨106, 37, 106, 41⟩) (Str.ofString "world") ⟨106, 37, 106, 47⟩), (.Name (Str.ofString "reached") ⟨106, 49, 106, 56⟩)] [] ⟨106, 25, 106, 57⟩) [(.If (.BoolOp .Or [(.Compare (.Subscript (.Attribute (.Name (Str.ofString "inner") ⟨107, 19, 107, 24⟩) (Str.ofString "told") ⟨107, 19, 107, 29⟩) (.Constant (.int 0) 0 ⟨107, 30, 107, 31⟩) ⟨107, 19, 107, 32⟩) [.NotEq] [(.Constant (.str (Str.ofString "named")) 0 ⟨107, 36, 107, 43⟩)] ⟨107, 19, 107, 43⟩), (.Compare (.Subscript (.Attribute (.Name (Str.ofString "inner") ⟨107, 47, 107, 52⟩) (Str.ofString "told") ⟨107, 47, 107, 57⟩) (.Constant (.int 1) 0 ⟨107, 58, 107, 59⟩) ⟨107, 47, 107, 60⟩) [.NotIn] [(.Attribute (.Name (Str.ofString "self") ⟨107, 68, 107, 72⟩) (Str.ofString "seen") ⟨107, 68, 107, 77⟩)] ⟨107, 47, 107, 77⟩)] ⟨107, 19, 107, 77⟩) [(.Expr (.Call (.Attribute (.Name (Str.ofString "later") ⟨108, 20, 108, 25⟩) (Str.ofString "append") ⟨108, 20, 108, 32⟩) [(.Name (Str.ofString "inner") ⟨108, 33, 108, 38⟩)] [] ⟨108, 20, 108, 39⟩) ⟨108, 20, 108, 39⟩)] [] ⟨107, 16, 108, 39⟩)] [] ⟨106, 12, 108, 39⟩)] [] ⟨105, 8, 108, 39⟩)
noncomputable def b208_3 : Stmt := (.Assign [(.Attribute (.Name (Str.ofString "self") ⟨109, 8, 109, 12⟩) (Str.ofString "here") ⟨109, 8, 109, 17⟩)] (.Name (Str.ofString "later") ⟨109, 20, 109, 25⟩) ⟨109, 8, 109, 25⟩)
noncomputable def body208 : List Stmt := [b208_0, b208_1, b208_2, b208_3]

/-- what is known of Levels -/
structure KLU (u : Un) : Prop where
  M : (KMU u)
  c211 : (ClsKU u) 211 201 at201
  i201 : (InKU u) 201 nms201 ps201 [] (as201a.map AS.emb ++ st201 :: as201b.map AS.emb)
  i208 : (InKU u) 208 nms208 [sSelf] [] body208
  gLevels : (GNmU u) (Str.ofString "Levels") 211
  aHere : (AttFU u) 211 sHere
  aSeen : (AttFU u) 211 sSeen
  aWorld : (AttFU u) 211 sWorld
noncomputable abbrev sGo : Str := Str.ofString "go_on"
end Mine
namespace Mine
open PySem PySem.W PyProof.Rows PySem.Calls PySem.Spec PySem.SeqAt
noncomputable def nms236 : List (Str × NameKind) := [(Str.ofString "world", .local), (Str.ofString "told", .local), (Str.ofString "levels", .local), (Str.ofString "found", .local), (Str.ofString "reached", .local), (Str.ofString "base", .local), (Str.ofString "name", .local), (Str.ofString "func", .local), (Str.ofString "Levels", .globalImplicit), (Str.ofString "own_methods", .globalImplicit), (Str.ofString "sorted", .globalImplicit)]
noncomputable def b236_0 : Stmt := (.Assign [(.Tuple [(.Name (Str.ofString "levels") ⟨135, 4, 135, 10⟩), (.Name (Str.ofString "found") ⟨135, 12, 135, 17⟩)] 0 ⟨135, 4, 135, 17⟩)] (.Tuple [(.Call (.Name (Str.ofString "Levels") ⟨135, 21, 135, 27⟩) [(.Name (Str.ofString "world") ⟨135, 28, 135, 33⟩), (.Name (Str.ofString "told") ⟨135, 35, 135, 39⟩)] [] ⟨135, 21, 135, 40⟩), (.Dict [] [] ⟨135, 42, 135, 44⟩)] 0 ⟨135, 20, 135, 45⟩) ⟨135, 4, 135, 45⟩)
noncomputable def a236 : Stmt := (.Assign [(.Name (Str.ofString "base") ⟨138, 12, 138, 16⟩)] (.Call (.Attribute (.Name (Str.ofString "world") ⟨138, 19, 138, 24⟩) (Str.ofString "base_of") ⟨138, 19, 138, 32⟩) [(.Attribute (.Name (Str.ofString "reached") ⟨138, 33, 138, 40⟩) (Str.ofString "told") ⟨138, 33, 138, 45⟩)] [] ⟨138, 19, 138, 46⟩) ⟨138, 12, 138, 46⟩)
noncomputable def h236 : Stmt := (.For (.Name (Str.ofString "name") ⟨139, 16, 139, 20⟩) (.Call (.Name (Str.ofString "own_methods") ⟨139, 24, 139, 35⟩) [(.Name (Str.ofString "world") ⟨139, 36, 139, 41⟩), (.Attribute (.Name (Str.ofString "reached") ⟨139, 43, 139, 50⟩) (Str.ofString "told") ⟨139, 43, 139, 55⟩)] [] ⟨139, 24, 139, 56⟩) [(.Assign [(.Subscript (.Name (Str.ofString "found") ⟨140, 16, 140, 21⟩) (.Name (Str.ofString "name") ⟨140, 22, 140, 26⟩) ⟨140, 16, 140, 27⟩)] (.Constant (.bool true) 0 ⟨140, 30, 140, 34⟩) ⟨140, 16, 140, 34⟩)] [] ⟨139, 12, 140, 34⟩)
noncomputable def i236 : Stmt := (.For (.Tuple [(.Name (Str.ofString "name") ⟨141, 16, 141, 20⟩), (.Name (Str.ofString "func") ⟨141, 22, 141, 26⟩)] 0 ⟨141, 16, 141, 26⟩) (.IfExp (.Compare (.Subscript (.Name (Str.ofString "base") ⟨141, 41, 141, 45⟩) (.Constant (.int 0) 0 ⟨141, 46, 141, 47⟩) ⟨141, 41, 141, 48⟩) [.Eq] [(.Constant (.str (Str.ofString "interface")) 0 ⟨141, 52, 141, 63⟩)] ⟨141, 41, 141, 63⟩) (.Subscript (.Name (Str.ofString "base") ⟨141, 30, 141, 34⟩) (.Constant (.int 1) 0 ⟨141, 35, 141, 36⟩) ⟨141, 30, 141, 37⟩) (.Tuple [] 0 ⟨141, 69, 141, 71⟩) ⟨141, 30, 141, 71⟩) [(.Assign [(.Subscript (.Name (Str.ofString "found") ⟨142, 16, 142, 21⟩) (.Name (Str.ofString "name") ⟨142, 22, 142, 26⟩) ⟨142, 16, 142, 27⟩)] (.Constant (.bool true) 0 ⟨142, 30, 142, 34⟩) ⟨142, 16, 142, 34⟩)] [] ⟨141, 12, 142, 34⟩)
noncomputable def g236 : Stmt := (.Expr (.Call (.Attribute (.Name (Str.ofString "levels") ⟨143, 8, 143, 14⟩) (Str.ofString "go_on") ⟨143, 8, 143, 20⟩) [] [] ⟨143, 8, 143, 22⟩) ⟨143, 8, 143, 22⟩)
noncomputable def f236 : Stmt := (.For (.Name (Str.ofString "reached") ⟨137, 12, 137, 19⟩) (.Attribute (.Name (Str.ofString "levels") ⟨137, 23, 137, 29⟩) (Str.ofString "here") ⟨137, 23, 137, 34⟩) [a236, h236, i236] [] ⟨137, 8, 142, 34⟩)
noncomputable def b236_1 : Stmt := (.While (.Compare (.Attribute (.Name (Str.ofString "levels") ⟨136, 10, 136, 16⟩) (Str.ofString "here") ⟨136, 10, 136, 21⟩) [.NotEq] [(.List [] ⟨136, 25, 136, 27⟩)] ⟨136, 10, 136, 27⟩) [f236, g236] [] ⟨136, 4, 143, 22⟩)
noncomputable def b236_2 : Stmt := (.Return (some (.Call (.Name (Str.ofString "sorted") ⟨144, 11, 144, 17⟩) [(.Name (Str.ofString "found") ⟨144, 18, 144, 23⟩)] [] ⟨144, 11, 144, 24⟩)) ⟨144, 4, 144, 24⟩)
noncomputable def body236 : List Stmt := [b236_0, b236_1, b236_2]

noncomputable abbrev sSorted : Str := Str.ofString "sorted"
/-- what is known of names_of_methods -/
structure KQU (u : Un) : Prop where
  L : (KLU u)
  i236 : (InKU u) 236 nms236 [sWorld, sTold] [] body236
  go : plainGet u.K 211 sGo = true ∧ findIn u.K (.ref 211) sGo = some (some (.ref 208)) ∧ typeIn u.K (.ref 208) = some (.type "function")
  srt : nsIn u.K mainGlobals sSorted = some none
end Mine
namespace Mine
open PySem PySem.W PyProof.Rows PySem.Calls PySem.Spec PySem.SeqAt
noncomputable def nms640 : List (Str × NameKind) := [(Str.ofString "source", .local), (Str.ofString "top", .local), (Str.ofString "drawn", .local), (Str.ofString "int", .globalImplicit)]
noncomputable def b640_0 : Stmt := (.If (.Compare (.Subscript (.Name (Str.ofString "source") ⟨453, 7, 453, 13⟩) (.Constant (.int 0) 0 ⟨453, 14, 453, 15⟩) ⟨453, 7, 453, 16⟩) [.Gt] [(.Constant (.int 0) 0 ⟨453, 19, 453, 20⟩)] ⟨453, 7, 453, 20⟩) [(.Assign [(.Name (Str.ofString "drawn") ⟨454, 8, 454, 13⟩)] (.BinOp (.Call (.Name (Str.ofString "int") ⟨454, 16, 454, 19⟩) [(.Subscript (.Name (Str.ofString "source") ⟨454, 20, 454, 26⟩) (.Constant (.int 0) 0 ⟨454, 27, 454, 28⟩) ⟨454, 20, 454, 29⟩)] [] ⟨454, 16, 454, 30⟩) .Mod (.Name (Str.ofString "top") ⟨454, 33, 454, 36⟩) ⟨454, 16, 454, 36⟩) ⟨454, 8, 454, 36⟩), (.Assign [(.Subscript (.Name (Str.ofString "source") ⟨455, 8, 455, 14⟩) (.Constant (.int 0) 0 ⟨455, 15, 455, 16⟩) ⟨455, 8, 455, 17⟩)] (.BinOp (.Subscript (.Name (Str.ofString "source") ⟨455, 20, 455, 26⟩) (.Constant (.int 0) 0 ⟨455, 27, 455, 28⟩) ⟨455, 20, 455, 29⟩) .FloorDiv (.Name (Str.ofString "top") ⟨455, 33, 455, 36⟩) ⟨455, 20, 455, 36⟩) ⟨455, 8, 455, 36⟩), (.Return (some (.Name (Str.ofString "drawn") ⟨456, 15, 456, 20⟩)) ⟨456, 8, 456, 20⟩)] [] ⟨453, 4, 456, 20⟩)
noncomputable def b640_1 : Stmt := (.Assign [(.Subscript (.Name (Str.ofString "source") ⟨457, 4, 457, 10⟩) (.Constant (.int 1) 0 ⟨457, 11, 457, 12⟩) ⟨457, 4, 457, 13⟩)] (.BinOp (.Call (.Name (Str.ofString "int") ⟨457, 16, 457, 19⟩) [(.BinOp (.BinOp (.Subscript (.Name (Str.ofString "source") ⟨457, 20, 457, 26⟩) (.Constant (.int 1) 0 ⟨457, 27, 457, 28⟩) ⟨457, 20, 457, 29⟩) .Mult (.Constant (.int 39373) 0 ⟨457, 32, 457, 37⟩) ⟨457, 20, 457, 37⟩) .Add (.Constant (.int 7) 0 ⟨457, 40, 457, 41⟩) ⟨457, 20, 457, 41⟩)] [] ⟨457, 16, 457, 42⟩) .Mod (.Constant (.int 2147483647) 0 ⟨457, 45, 457, 55⟩) ⟨457, 16, 457, 55⟩) ⟨457, 4, 457, 55⟩)
noncomputable def b640_2 : Stmt := (.Return (some (.BinOp (.Call (.Name (Str.ofString "int") ⟨458, 11, 458, 14⟩) [(.BinOp (.BinOp (.Call (.Name (Str.ofString "int") ⟨458, 15, 458, 18⟩) [(.BinOp (.Subscript (.Name (Str.ofString "source") ⟨458, 19, 458, 25⟩) (.Constant (.int 1) 0 ⟨458, 26, 458, 27⟩) ⟨458, 19, 458, 28⟩) .Mult (.Subscript (.Name (Str.ofString "source") ⟨458, 31, 458, 37⟩) (.Constant (.int 1) 0 ⟨458, 38, 458, 39⟩) ⟨458, 31, 458, 40⟩) ⟨458, 19, 458, 40⟩)] [] ⟨458, 15, 458, 41⟩) .Mod (.Constant (.int 2147483629) 0 ⟨458, 44, 458, 54⟩) ⟨458, 15, 458, 54⟩) .FloorDiv (.Constant (.int 32) 0 ⟨458, 58, 458, 60⟩) ⟨458, 15, 458, 60⟩)] [] ⟨458, 11, 458, 61⟩) .Mod (.Name (Str.ofString "top") ⟨458, 64, 458, 67⟩) ⟨458, 11, 458, 67⟩)) ⟨458, 4, 458, 67⟩)
noncomputable def body640 : List Stmt := [b640_0, b640_1, b640_2]

noncomputable abbrev sSrc : Str := Str.ofString "source"
/-- what is known of the names int, len .. -/
structure KBU (u : Un) : Prop where
  int : nsIn u.K mainGlobals (Str.ofString "int") = some none
  len : nsIn u.K mainGlobals (Str.ofString "len") = some none
  max : nsIn u.K mainGlobals (Str.ofString "max") = some none
  min : nsIn u.K mainGlobals (Str.ofString "min") = some none
  rng : nsIn u.K mainGlobals (Str.ofString "range") = some none
end Mine
namespace Mine
open PySem PySem.W PyProof.Rows PySem.Calls PySem.Spec PySem.SeqAt
noncomputable abbrev sTop : Str := Str.ofString "top"
/-- what is known of _law_take -/
structure KTkU (u : Un) : Prop where
  B : (KBU u)
  i640 : (InKU u) 640 nms640 [sSrc, sTop] [] body640
end Mine
namespace Mine
open PySem PySem.W PyProof.Rows PySem.Calls PySem.Spec PySem.SeqAt
noncomputable def nms647 : List (Str × NameKind) := [(Str.ofString "source", .local), (Str.ofString "things", .local), (Str.ofString "_law_take", .globalImplicit), (Str.ofString "len", .globalImplicit)]
noncomputable def b647_0 : Stmt := (.Return (some (.Subscript (.Name (Str.ofString "things") ⟨460, 11, 460, 17⟩) (.Call (.Name (Str.ofString "_law_take") ⟨460, 18, 460, 27⟩) [(.Name (Str.ofString "source") ⟨460, 28, 460, 34⟩), (.Call (.Name (Str.ofString "len") ⟨460, 36, 460, 39⟩) [(.Name (Str.ofString "things") ⟨460, 40, 460, 46⟩)] [] ⟨460, 36, 460, 47⟩)] [] ⟨460, 18, 460, 48⟩) ⟨460, 11, 460, 49⟩)) ⟨460, 4, 460, 49⟩)
noncomputable def body647 : List Stmt := [b647_0]
noncomputable def nms633 : List (Str × NameKind) := [(Str.ofString "script", .local), (Str.ofString "k", .local), (Str.ofString "cell", .local), (Str.ofString "big", .local), (Str.ofString "mixed", .local), (Str.ofString "len", .globalImplicit), (Str.ofString "max", .globalImplicit), (Str.ofString "int", .globalImplicit)]
noncomputable def b633_0 : Stmt := (.Assign [(.Name (Str.ofString "cell") ⟨448, 4, 448, 8⟩)] (.IfExp (.Compare (.Name (Str.ofString "k") ⟨448, 24, 448, 25⟩) [.Lt] [(.Call (.Name (Str.ofString "len") ⟨448, 28, 448, 31⟩) [(.Name (Str.ofString "script") ⟨448, 32, 448, 38⟩)] [] ⟨448, 28, 448, 39⟩)] ⟨448, 24, 448, 39⟩) (.Subscript (.Name (Str.ofString "script") ⟨448, 11, 448, 17⟩) (.Name (Str.ofString "k") ⟨448, 18, 448, 19⟩) ⟨448, 11, 448, 20⟩) (.Constant (.int 0) 0 ⟨448, 45, 448, 46⟩) ⟨448, 11, 448, 46⟩) ⟨448, 4, 448, 46⟩)
noncomputable def b633_1 : Stmt := (.Assign [(.Name (Str.ofString "big") ⟨449, 4, 449, 7⟩)] (.Call (.Name (Str.ofString "max") ⟨449, 10, 449, 13⟩) [(.Call (.Name (Str.ofString "int") ⟨449, 14, 449, 17⟩) [(.Name (Str.ofString "cell") ⟨449, 18, 449, 22⟩)] [] ⟨449, 14, 449, 23⟩), (.Call (.Name (Str.ofString "int") ⟨449, 25, 449, 28⟩) [(.BinOp (.UnaryOp .USub (.Constant (.int 1) 0 ⟨449, 30, 449, 31⟩) ⟨449, 29, 449, 31⟩) .Sub (.Name (Str.ofString "cell") ⟨449, 34, 449, 38⟩) ⟨449, 29, 449, 38⟩)] [] ⟨449, 25, 449, 39⟩)] [] ⟨449, 10, 449, 40⟩) ⟨449, 4, 449, 40⟩)
noncomputable def b633_2 : Stmt := (.Assign [(.Name (Str.ofString "mixed") ⟨450, 4, 450, 9⟩)] (.BinOp (.Call (.Name (Str.ofString "int") ⟨450, 12, 450, 15⟩) [(.BinOp (.BinOp (.BinOp (.BinOp (.BinOp (.Call (.Name (Str.ofString "int") ⟨450, 17, 450, 20⟩) [(.Name (Str.ofString "big") ⟨450, 21, 450, 24⟩)] [] ⟨450, 17, 450, 25⟩) .Mod (.Constant (.int 2147483629) 0 ⟨450, 28, 450, 38⟩) ⟨450, 17, 450, 38⟩) .Add (.BinOp (.BinOp (.Constant (.int 7919) 0 ⟨450, 41, 450, 45⟩) .Mult (.Name (Str.ofString "k") ⟨450, 48, 450, 49⟩) ⟨450, 41, 450, 49⟩) .Mult (.Name (Str.ofString "k") ⟨450, 52, 450, 53⟩) ⟨450, 41, 450, 53⟩) ⟨450, 17, 450, 53⟩) .Add (.BinOp (.Constant (.int 31) 0 ⟨450, 56, 450, 58⟩) .Mult (.Name (Str.ofString "k") ⟨450, 61, 450, 62⟩) ⟨450, 56, 450, 62⟩) ⟨450, 17, 450, 62⟩) .Add (.Constant (.int 17) 0 ⟨450, 65, 450, 67⟩) ⟨450, 17, 450, 67⟩) .Mult (.Constant (.int 48271) 0 ⟨450, 71, 450, 76⟩) ⟨450, 16, 450, 76⟩)] [] ⟨450, 12, 450, 77⟩) .Mod (.Constant (.int 2147483647) 0 ⟨450, 80, 450, 90⟩) ⟨450, 12, 450, 90⟩) ⟨450, 4, 450, 90⟩)
noncomputable def b633_3 : Stmt := (.Return (some (.List [(.BinOp (.Name (Str.ofString "big") ⟨451, 12, 451, 15⟩) .Mult (.Call (.Name (Str.ofString "int") ⟨451, 18, 451, 21⟩) [(.Compare (.Name (Str.ofString "big") ⟨451, 22, 451, 25⟩) [.GtE] [(.BinOp (.Constant (.int 10) 0 ⟨451, 29, 451, 31⟩) .Pow (.Constant (.int 18) 0 ⟨451, 35, 451, 37⟩) ⟨451, 29, 451, 37⟩)] ⟨451, 22, 451, 37⟩)] [] ⟨451, 18, 451, 38⟩) ⟨451, 12, 451, 38⟩), (.Name (Str.ofString "mixed") ⟨451, 40, 451, 45⟩)] ⟨451, 11, 451, 46⟩)) ⟨451, 4, 451, 46⟩)
noncomputable def body633 : List Stmt := [b633_0, b633_1, b633_2, b633_3]
noncomputable def ir673 : List IS := [.asg 87 ⟨478, 4, 478, 9⟩ (.lst [(.tup [(.con (.str (Str.ofString "int") [105, 110, 116] (by decide +kernel)) ⟨478, 14, 478, 19⟩), (.con (.str (Str.ofString "int8") [105, 110, 116, 56] (by decide +kernel)) ⟨478, 21, 478, 27⟩)] 0 ⟨478, 13, 478, 28⟩), (.tup [(.con (.str (Str.ofString "int") [105, 110, 116] (by decide +kernel)) ⟨478, 31, 478, 36⟩), (.con (.str (Str.ofString "uint16") [117, 105, 110, 116, 49, 54] (by decide +kernel)) ⟨478, 38, 478, 46⟩)] 0 ⟨478, 30, 478, 47⟩), (.tup [(.con (.str (Str.ofString "int") [105, 110, 116] (by decide +kernel)) ⟨478, 50, 478, 55⟩), (.con (.str (Str.ofString "int") [105, 110, 116] (by decide +kernel)) ⟨478, 57, 478, 62⟩)] 0 ⟨478, 49, 478, 63⟩), (.tup [(.con (.str (Str.ofString "int") [105, 110, 116] (by decide +kernel)) ⟨478, 66, 478, 71⟩), (.con (.str (Str.ofString "uint64") [117, 105, 110, 116, 54, 52] (by decide +kernel)) ⟨478, 73, 478, 81⟩)] 0 ⟨478, 65, 478, 82⟩), (.tup [(.con (.str (Str.ofString "named") [110, 97, 109, 101, 100] (by decide +kernel)) ⟨478, 85, 478, 92⟩), (.con (.str (Str.ofString "m.N") [109, 46, 78] (by decide +kernel)) ⟨478, 94, 478, 99⟩)] 0 ⟨478, 84, 478, 100⟩), (.tup [(.con (.str (Str.ofString "string") [115, 116, 114, 105, 110, 103] (by decide +kernel)) ⟨478, 103, 478, 111⟩)] 0 ⟨478, 102, 478, 113⟩)] ⟨478, 12, 478, 114⟩) ⟨478, 4, 478, 114⟩, .ret (.bin (.loc 87 ⟨479, 11, 479, 16⟩) .Add (.lst [(.tup [(.con (.str (Str.ofString "named") [110, 97, 109, 101, 100] (by decide +kernel)) ⟨479, 21, 479, 28⟩), (.con (.str (Str.ofString "m.S") [109, 46, 83] (by decide +kernel)) ⟨479, 30, 479, 35⟩)] 0 ⟨479, 20, 479, 36⟩), (.tup [(.con (.str (Str.ofString "bool") [98, 111, 111, 108] (by decide +kernel)) ⟨479, 39, 479, 45⟩)] 0 ⟨479, 38, 479, 47⟩), (.tup [(.con (.str (Str.ofString "slice") [115, 108, 105, 99, 101] (by decide +kernel)) ⟨479, 50, 479, 57⟩), (.tup [(.con (.str (Str.ofString "int") [105, 110, 116] (by decide +kernel)) ⟨479, 60, 479, 65⟩), (.con (.str (Str.ofString "uint8") [117, 105, 110, 116, 56] (by decide +kernel)) ⟨479, 67, 479, 74⟩)] 0 ⟨479, 59, 479, 75⟩)] 0 ⟨479, 49, 479, 76⟩), (.tup [(.con (.str (Str.ofString "interface") [105, 110, 116, 101, 114, 102, 97, 99, 101] (by decide +kernel)) ⟨479, 79, 479, 90⟩), (.tup [] 0 ⟨479, 92, 479, 94⟩)] 0 ⟨479, 78, 479, 95⟩)] ⟨479, 19, 479, 96⟩) ⟨479, 11, 479, 96⟩) ⟨479, 4, 479, 96⟩]
noncomputable def fi673 : FI := ⟨[87], []⟩
noncomputable abbrev sThings : Str := Str.ofString "things"
noncomputable abbrev sScript : Str := Str.ofString "script"
noncomputable abbrev sK : Str := Str.ofString "k"
/-- what is known of the draws -/
structure KOnU (u : Un) : Prop where
  T : (KTkU u)
  i647 : (InKU u) 647 nms647 [sSrc, sThings] [] body647
  gTake : (GNmU u) (Str.ofString "_law_take") 640
  f673 : (FnKU u) 673 fi673 [] [] (embS ir673)
  i633 : (InKU u) 633 nms633 [sScript, sK] [] body633
end Mine
namespace Mine
open PySem PySem.W PyProof.Rows PySem.Calls PySem.Spec PySem.SeqAt
noncomputable def nms701 : List (Str × NameKind) := [(Str.ofString "source", .local), (Str.ofString "numbers", .local), (Str.ofString "word", .local), (Str.ofString "number", .local), (Str.ofString "_law_one", .globalImplicit), (Str.ofString "_law_types", .globalImplicit)]
noncomputable def v_nums : IE := (.lst [(.con (.int 0) ⟨505, 15, 505, 16⟩), (.con (.int 127) ⟨505, 18, 505, 21⟩), (.con (.int 128) ⟨505, 23, 505, 26⟩), (.una .USub (.con (.int 128) ⟨505, 29, 505, 32⟩) ⟨505, 28, 505, 32⟩), (.una .USub (.con (.int 129) ⟨505, 35, 505, 38⟩) ⟨505, 34, 505, 38⟩), (.con (.int 65535) ⟨505, 40, 505, 45⟩), (.con (.int 65536) ⟨505, 47, 505, 52⟩), (.con (.int 300) ⟨505, 54, 505, 57⟩)] ⟨505, 14, 505, 58⟩)
noncomputable def v_words : IE := (.lst [(.con (.str (Str.ofString "int") [105, 110, 116] (by decide +kernel)) ⟨506, 29, 506, 34⟩), (.con (.str (Str.ofString "int") [105, 110, 116] (by decide +kernel)) ⟨506, 36, 506, 41⟩), (.con (.str (Str.ofString "string") [115, 116, 114, 105, 110, 103] (by decide +kernel)) ⟨506, 43, 506, 51⟩), (.con (.str (Str.ofString "bool") [98, 111, 111, 108] (by decide +kernel)) ⟨506, 53, 506, 59⟩), (.con (.str (Str.ofString "local") [108, 111, 99, 97, 108] (by decide +kernel)) ⟨506, 61, 506, 68⟩), (.con (.str (Str.ofString "local") [108, 111, 99, 97, 108] (by decide +kernel)) ⟨506, 70, 506, 77⟩), (.con (.str (Str.ofString "typed") [116, 121, 112, 101, 100] (by decide +kernel)) ⟨506, 79, 506, 86⟩)] ⟨506, 28, 506, 87⟩)
noncomputable def v_t1 : IE := (.cmp (.loc 8 ⟨507, 7, 507, 11⟩) .Eq (.con (.str (Str.ofString "int") [105, 110, 116] (by decide +kernel)) ⟨507, 15, 507, 20⟩) ⟨507, 7, 507, 20⟩)
noncomputable def v_t2 : IE := (.cmp (.loc 8 ⟨509, 7, 509, 11⟩) .Eq (.con (.str (Str.ofString "local") [108, 111, 99, 97, 108] (by decide +kernel)) ⟨509, 15, 509, 22⟩) ⟨509, 7, 509, 22⟩)
noncomputable def v_t3 : IE := (.cmp (.loc 8 ⟨511, 7, 511, 11⟩) .Eq (.con (.str (Str.ofString "typed") [116, 121, 112, 101, 100] (by decide +kernel)) ⟨511, 15, 511, 22⟩) ⟨511, 7, 511, 22⟩)
noncomputable def v_c1 : IE := (.con (.str (Str.ofString "const") [99, 111, 110, 115, 116] (by decide +kernel)) ⟨508, 16, 508, 23⟩)
noncomputable def v_c2 : IE := (.tup [(.con (.str (Str.ofString "untyped") [117, 110, 116, 121, 112, 101, 100] (by decide +kernel)) ⟨508, 26, 508, 35⟩), (.con (.str (Str.ofString "int") [105, 110, 116] (by decide +kernel)) ⟨508, 37, 508, 42⟩)] 0 ⟨508, 25, 508, 43⟩)
noncomputable def v_c3 : IE := (.con (.int 4) ⟨508, 45, 508, 46⟩)
noncomputable def v_l1 : IE := (.con (.str (Str.ofString "local") [108, 111, 99, 97, 108] (by decide +kernel)) ⟨510, 16, 510, 23⟩)
noncomputable def v_l3 : IE := (.con (.int 4) ⟨510, 61, 510, 62⟩)
noncomputable def v_l4 : IE := (.con (.int 3) ⟨510, 64, 510, 65⟩)
noncomputable def v_pair : IE := (.lst [(.tup [(.con (.str (Str.ofString "const") [99, 111, 110, 115, 116] (by decide +kernel)) ⟨513, 34, 513, 41⟩), (.tup [(.con (.str (Str.ofString "int") [105, 110, 116] (by decide +kernel)) ⟨513, 44, 513, 49⟩), (.con (.str (Str.ofString "int") [105, 110, 116] (by decide +kernel)) ⟨513, 51, 513, 56⟩)] 0 ⟨513, 43, 513, 57⟩), (.con (.int 4) ⟨513, 59, 513, 60⟩), (.loc 4 ⟨513, 62, 513, 68⟩)] 0 ⟨513, 33, 513, 69⟩), (.tup [(.con (.str (Str.ofString "const") [99, 111, 110, 115, 116] (by decide +kernel)) ⟨513, 72, 513, 79⟩), (.tup [(.con (.str (Str.ofString "string") [115, 116, 114, 105, 110, 103] (by decide +kernel)) ⟨513, 82, 513, 90⟩)] 0 ⟨513, 81, 513, 92⟩), (.con (.int 4) ⟨513, 94, 513, 95⟩), (.con (.byt [120]) ⟨513, 97, 513, 101⟩)] 0 ⟨513, 71, 513, 102⟩)] ⟨513, 32, 513, 103⟩)
noncomputable def v_last : IE := (.tup [(.con (.str (Str.ofString "const") [99, 111, 110, 115, 116] (by decide +kernel)) ⟨514, 12, 514, 19⟩), (.tup [(.con (.str (Str.ofString "untyped") [117, 110, 116, 121, 112, 101, 100] (by decide +kernel)) ⟨514, 22, 514, 31⟩), (.loc 8 ⟨514, 33, 514, 37⟩)] 0 ⟨514, 21, 514, 38⟩), (.con (.int 4) ⟨514, 40, 514, 41⟩), (.ite (.cmp (.loc 8 ⟨514, 52, 514, 56⟩) .Eq (.con (.str (Str.ofString "string") [115, 116, 114, 105, 110, 103] (by decide +kernel)) ⟨514, 60, 514, 68⟩) ⟨514, 52, 514, 68⟩) (.con (.byt [97, 98]) ⟨514, 43, 514, 48⟩) (.con (.bool true) ⟨514, 74, 514, 78⟩) ⟨514, 43, 514, 78⟩)] 0 ⟨514, 11, 514, 79⟩)
noncomputable def s701_0 : Stmt := .Assign [.Name (Str.ofString "numbers") ⟨505, 4, 505, 11⟩] (v_nums.emb) ⟨505, 4, 505, 58⟩
noncomputable def s701_1 : Stmt := .Assign [.Name (nmOf 8) ⟨506, 4, 506, 8⟩] (.Call (.Name (Str.ofString "_law_one") ⟨506, 11, 506, 19⟩) [.Name (Str.ofString "source") ⟨506, 20, 506, 26⟩, v_words.emb] [] ⟨506, 11, 506, 88⟩) ⟨506, 4, 506, 88⟩
noncomputable def s701_2 : Stmt := .If (v_t1.emb) [.Return (some (.Tuple [v_c1.emb, v_c2.emb, v_c3.emb, .Call (.Name (Str.ofString "_law_one") ⟨508, 48, 508, 56⟩) [.Name (Str.ofString "source") ⟨508, 57, 508, 63⟩, .Name (Str.ofString "numbers") ⟨508, 65, 508, 72⟩] [] ⟨508, 48, 508, 73⟩] 0 ⟨508, 15, 508, 74⟩)) ⟨508, 8, 508, 74⟩] [] ⟨507, 4, 508, 74⟩
noncomputable def s701_3 : Stmt := .If (v_t2.emb) [.Return (some (.Tuple [v_l1.emb, .Call (.Name (Str.ofString "_law_one") ⟨510, 25, 510, 33⟩) [.Name (Str.ofString "source") ⟨510, 34, 510, 40⟩, .Subscript (.Call (.Name (Str.ofString "_law_types") ⟨510, 42, 510, 52⟩) [] [] ⟨510, 42, 510, 54⟩) (.Slice none (some (.Constant (.int 9) 0 ⟨510, 56, 510, 57⟩)) none ⟨510, 55, 510, 57⟩) ⟨510, 42, 510, 58⟩] [] ⟨510, 25, 510, 59⟩, v_l3.emb, v_l4.emb] 0 ⟨510, 15, 510, 66⟩)) ⟨510, 8, 510, 66⟩] [] ⟨509, 4, 510, 66⟩
noncomputable def s701_4 : Stmt := .If (v_t3.emb) [.Assign [.Name (nmOf 4) ⟨512, 8, 512, 14⟩] (.Call (.Name (Str.ofString "_law_one") ⟨512, 17, 512, 25⟩) [.Name (Str.ofString "source") ⟨512, 26, 512, 32⟩, .Name (Str.ofString "numbers") ⟨512, 34, 512, 41⟩] [] ⟨512, 17, 512, 42⟩) ⟨512, 8, 512, 42⟩, .Return (some (.Call (.Name (Str.ofString "_law_one") ⟨513, 15, 513, 23⟩) [.Name (Str.ofString "source") ⟨513, 24, 513, 30⟩, v_pair.emb] [] ⟨513, 15, 513, 104⟩)) ⟨513, 8, 513, 104⟩] [] ⟨511, 4, 513, 104⟩
noncomputable def s701_5 : Stmt := .Return (some (v_last.emb)) ⟨514, 4, 514, 79⟩
noncomputable def body701 : List Stmt := [s701_0, s701_1, s701_2, s701_3, s701_4, s701_5]
end Mine
namespace Mine
open PySem PySem.W PyProof.Rows PySem.Calls PySem.Spec PySem.SeqAt
/-- what is known of _law_value -/
structure KVlU (u : Un) : Prop where
  O : (KOnU u)
  g1 : (GNmU u) (Str.ofString "_law_one") 647
  gT : (GNmU u) (Str.ofString "_law_types") 673
  i701 : (InKU u) 701 nms701 [sSrc] [] body701
end Mine
namespace Mine
open PySem PySem.W PyProof.Rows PySem.Calls PySem.Spec PySem.SeqAt
noncomputable def l_test : IE := .boo .And [
  .cmp (.cal (.glo 74 ⟨520, 15, 520, 24⟩) [.loc 22 ⟨520, 25, 520, 26⟩] ⟨520, 15, 520, 27⟩) .Eq (.con (.str (Str.ofString "string") [115, 116, 114, 105, 110, 103] (by decide +kernel)) ⟨520, 31, 520, 39⟩) ⟨520, 15, 520, 39⟩,
  .cmp (.sub (.loc 73 ⟨520, 44, 520, 45⟩) (.con (.int 0) ⟨520, 46, 520, 47⟩) ⟨520, 44, 520, 48⟩) .Eq (.con (.str (Str.ofString "const") [99, 111, 110, 115, 116] (by decide +kernel)) ⟨520, 52, 520, 59⟩) ⟨520, 44, 520, 59⟩,
  .cmp (.cal (.glo 74 ⟨520, 65, 520, 74⟩) [.sub (.loc 73 ⟨520, 75, 520, 76⟩) (.con (.int 1) ⟨520, 77, 520, 78⟩) ⟨520, 75, 520, 79⟩] ⟨520, 65, 520, 80⟩) .Eq (.con (.str (Str.ofString "int") [105, 110, 116] (by decide +kernel)) ⟨520, 84, 520, 89⟩) ⟨520, 65, 520, 89⟩,
  .cmp (.sub (.loc 73 ⟨520, 96, 520, 97⟩) (.con (.int 3) ⟨520, 98, 520, 99⟩) ⟨520, 96, 520, 100⟩) .Lt (.con (.int 0) ⟨520, 103, 520, 104⟩) ⟨520, 96, 520, 104⟩] ⟨520, 15, 520, 105⟩
noncomputable def l_new : IE := .bin (.slc (.loc 73 ⟨521, 20, 521, 21⟩) none (some (3, ⟨521, 23, 521, 24⟩)) ⟨521, 22, 521, 24⟩ ⟨521, 20, 521, 25⟩) .Add (.tup [.con (.int 65) ⟨521, 29, 521, 31⟩] 0 ⟨521, 28, 521, 33⟩) ⟨521, 20, 521, 33⟩
noncomputable def l_one (q1 q2 : Pos) : IE := .lst [.loc 73 q1] q2
noncomputable def l_two : IE := .lst [.lst [] ⟨524, 46, 524, 48⟩, .lst [.loc 73 ⟨524, 51, 524, 52⟩, .loc 73 ⟨524, 54, 524, 55⟩] ⟨524, 50, 524, 56⟩] ⟨524, 45, 524, 57⟩
noncomputable def r708_0 : Stmt := .If (.Compare (.Call (.Name (Str.ofString "_law_told") ⟨522, 15, 522, 24⟩) [.Name (Str.ofString "T") ⟨522, 25, 522, 26⟩, (l_one ⟨522, 29, 522, 30⟩ ⟨522, 28, 522, 31⟩).emb, .Constant (.bool false) 0 ⟨522, 33, 522, 38⟩] [] ⟨522, 15, 522, 39⟩) [.NotEq] [.Call (.Name (Str.ofString "_law_due") ⟨522, 43, 522, 51⟩) [.Name (Str.ofString "T") ⟨522, 52, 522, 53⟩, .Name (Str.ofString "e") ⟨522, 55, 522, 56⟩] [] ⟨522, 43, 522, 57⟩] ⟨522, 15, 522, 57⟩) [.Return (some (.Constant (.bool false) 0 ⟨523, 23, 523, 28⟩)) ⟨523, 16, 523, 28⟩] [] ⟨522, 12, 523, 28⟩
noncomputable def k708_0 : Expr := .Compare (.Call (.Name (Str.ofString "_law_told") ⟨524, 15, 524, 24⟩) [.Name (Str.ofString "T") ⟨524, 25, 524, 26⟩, .Call (.Name (Str.ofString "_law_one") ⟨524, 28, 524, 36⟩) [.Name (Str.ofString "source") ⟨524, 37, 524, 43⟩, l_two.emb] [] ⟨524, 28, 524, 58⟩, .Constant (.bool false) 0 ⟨524, 60, 524, 65⟩] [] ⟨524, 15, 524, 66⟩) [.NotEq] [.Constant (.str (Str.ofString "type")) 0 ⟨524, 70, 524, 76⟩] ⟨524, 15, 524, 76⟩
noncomputable def k708_1 : Expr := .Compare (.Call (.Name (Str.ofString "_law_told") ⟨524, 80, 524, 89⟩) [.Name (Str.ofString "T") ⟨524, 90, 524, 91⟩, (l_one ⟨524, 94, 524, 95⟩ ⟨524, 93, 524, 96⟩).emb, .Constant (.bool true) 0 ⟨524, 98, 524, 102⟩] [] ⟨524, 80, 524, 103⟩) [.NotEq] [.Constant (.str (Str.ofString "type")) 0 ⟨524, 107, 524, 113⟩] ⟨524, 80, 524, 113⟩
noncomputable def r708_1 : Stmt := .If (.BoolOp .Or [k708_0, k708_1] ⟨524, 15, 524, 113⟩) [.Return (some (.Constant (.bool false) 0 ⟨525, 23, 525, 28⟩)) ⟨525, 16, 525, 28⟩] [] ⟨524, 12, 525, 28⟩
noncomputable def rest708 : List Stmt := [r708_0, r708_1]
noncomputable def nmsL : List (Str × NameKind) := [(Str.ofString "script", .local), (Str.ofString "k", .local), (Str.ofString "source", .local), (Str.ofString "turn", .local), (Str.ofString "T", .local), (Str.ofString "e", .local),
  (Str.ofString "range", .globalImplicit), (Str.ofString "max", .globalImplicit), (Str.ofString "min", .globalImplicit), (Str.ofString "len", .globalImplicit), (Str.ofString "_law_pool", .globalImplicit), (Str.ofString "_law_one", .globalImplicit), (Str.ofString "_law_types", .globalImplicit), (Str.ofString "_law_value", .globalImplicit), (Str.ofString "_law_sort", .globalImplicit), (Str.ofString "_law_told", .globalImplicit), (Str.ofString "_law_due", .globalImplicit)]
end Mine
namespace Mine
open PySem PySem.W PyProof.Rows PySem.Calls PySem.Spec PySem.SeqAt
noncomputable def t708_0 : Stmt := .Assign [.Tuple [.Name (Str.ofString "T") ⟨519, 12, 519, 13⟩, .Name (Str.ofString "e") ⟨519, 15, 519, 16⟩] 0 ⟨519, 12, 519, 16⟩] (.Tuple [ .Call (.Name (Str.ofString "_law_one") ⟨519, 20, 519, 28⟩) [.Name (Str.ofString "source") ⟨519, 29, 519, 35⟩, .Call (.Name (Str.ofString "_law_types") ⟨519, 37, 519, 47⟩) [] [] ⟨519, 37, 519, 49⟩] [] ⟨519, 20, 519, 50⟩, .Call (.Name (Str.ofString "_law_value") ⟨519, 52, 519, 62⟩) [.Name (Str.ofString "source") ⟨519, 63, 519, 69⟩] [] ⟨519, 52, 519, 70⟩] 0 ⟨519, 19, 519, 71⟩) ⟨519, 12, 519, 71⟩
noncomputable def t708_1 : Stmt := .If (l_test.emb) [.Assign [.Name (nmOf 73) ⟨521, 16, 521, 17⟩] (l_new.emb) ⟨521, 16, 521, 33⟩] [] ⟨520, 12, 521, 33⟩
noncomputable def turn708 : List Stmt := t708_0 :: t708_1 :: rest708
end Mine
namespace Mine
open PySem PySem.W PyProof.Rows PySem.Calls PySem.Spec PySem.SeqAt
noncomputable def inner708 : Stmt := .For (.Name (Str.ofString "turn") ⟨518, 12, 518, 16⟩) (.Call (.Name (Str.ofString "range") ⟨518, 20, 518, 25⟩) [.Constant (.int 4) 0 ⟨518, 26, 518, 27⟩] [] ⟨518, 20, 518, 28⟩) (turn708) [] ⟨518, 8, 525, 28⟩
noncomputable def body708 : List Stmt := [.Assign [.Name (Str.ofString "source") ⟨517, 8, 517, 14⟩] (.Call (.Name (Str.ofString "_law_pool") ⟨517, 17, 517, 26⟩) [.Name (Str.ofString "script") ⟨517, 27, 517, 33⟩, .Name (Str.ofString "k") ⟨517, 35, 517, 36⟩] [] ⟨517, 17, 517, 37⟩) ⟨517, 8, 517, 37⟩, inner708]
noncomputable def max708 : Expr := .Call (.Name (Str.ofString "max") ⟨516, 19, 516, 22⟩) [.Constant (.int 1) 0 ⟨516, 23, 516, 24⟩, .Call (.Name (Str.ofString "min") ⟨516, 26, 516, 29⟩) [.Call (.Name (Str.ofString "len") ⟨516, 30, 516, 33⟩) [.Name (Str.ofString "script") ⟨516, 34, 516, 40⟩] [] ⟨516, 30, 516, 41⟩, .Constant (.int 2) 0 ⟨516, 43, 516, 44⟩] [] ⟨516, 26, 516, 45⟩] [] ⟨516, 19, 516, 46⟩
noncomputable def t8 : IE := .tup [.con (.str (Str.ofString "int") [105, 110, 116] (by decide +kernel)) ⟨526, 22, 526, 27⟩, .con (.str (Str.ofString "int8") [105, 110, 116, 56] (by decide +kernel)) ⟨526, 29, 526, 35⟩] 0 ⟨526, 21, 526, 36⟩
noncomputable def x5 : IE := .lst [.tup [.con (.str (Str.ofString "const") [99, 111, 110, 115, 116] (by decide +kernel)) ⟨526, 40, 526, 47⟩, .tup [.con (.str (Str.ofString "untyped") [117, 110, 116, 121, 112, 101, 100] (by decide +kernel)) ⟨526, 50, 526, 59⟩, .con (.str (Str.ofString "int") [105, 110, 116] (by decide +kernel)) ⟨526, 61, 526, 66⟩] 0 ⟨526, 49, 526, 67⟩, .con (.int 4) ⟨526, 69, 526, 70⟩, .con (.int 5) ⟨526, 72, 526, 73⟩] 0 ⟨526, 39, 526, 74⟩] ⟨526, 38, 526, 75⟩
noncomputable def y5 : IE := .tup [.con (.str (Str.ofString "const") [99, 111, 110, 115, 116] (by decide +kernel)) ⟨526, 88, 526, 95⟩, .tup [.con (.str (Str.ofString "int") [105, 110, 116] (by decide +kernel)) ⟨526, 98, 526, 103⟩, .con (.str (Str.ofString "int8") [105, 110, 116, 56] (by decide +kernel)) ⟨526, 105, 526, 111⟩] 0 ⟨526, 97, 526, 112⟩, .con (.int 7) ⟨526, 114, 526, 115⟩, .con (.int 5) ⟨526, 117, 526, 118⟩] 0 ⟨526, 87, 526, 119⟩
noncomputable def law708 : List Stmt := [.For (.Name (Str.ofString "k") ⟨516, 8, 516, 9⟩) (.Call (.Name (Str.ofString "range") ⟨516, 13, 516, 18⟩) [max708] [] ⟨516, 13, 516, 47⟩) (body708) [] ⟨516, 4, 525, 28⟩,
  .Return (some (.Compare (.Call (.Name (Str.ofString "_law_told") ⟨526, 11, 526, 20⟩) [t8.emb, x5.emb, .Constant (.bool false) 0 ⟨526, 77, 526, 82⟩] [] ⟨526, 11, 526, 83⟩) [.Eq] [y5.emb] ⟨526, 11, 526, 119⟩)) ⟨526, 4, 526, 119⟩]
end Mine
namespace Mine
open PySem PySem.W PyProof.Rows PySem.Calls PySem.Spec PySem.SeqAt
noncomputable def sc708 : Scope := { kind := .function, names := nmsL, isGenerator := false, isCoroutine := false }
/-- all that is known of the written part -/
structure KAll (u : Un) : Prop where
  kf : KFU u
  kx : KXU u
  ko : KOU u
  kc : KCU u
  kt : KTdU u
  kq : KQU u
  kv : KVlU u
  f6 : FnKU u 666 fi666 ps666 [] (embS ir666)
  gTold : GNmU u (Str.ofString "_law_told") 659
  gDue : GNmU u (Str.ofString "_law_due") 694
  gVal : GNmU u (Str.ofString "_law_value") 701
  gPool : GNmU u (Str.ofString "_law_pool") 633
/-- the law, at its frame -/
def LawOK (u : Un) : Prop := ∀ {L fa la : Addr} {cd : Value} {m : Str → Option Value} {s : Shared} {items : List Value} {Q : Flow → Shared → Prop} {E : Value → Shared → Prop}, Below callerA u.base [] u.base → u.K.In u.base → Top u.p u.loose u.mean u.mg u.mb u.base → CodeHd u.base 653 649 →
  Fr u.base L s.heap m → News u.base L s.heap [(649, tabObj #[])] → m (Str.ofString "script") = some (.ref la) → u.base.IsList la items.toArray → (∀ v ∈ items, ∃ i t, v = .int i t) → items.length < 1000 →
  (∀ s' m', s'.gens = s.gens → s'.os = s.os → Fr u.base L s'.heap m' → GrownAll [(653, 649)] s'.heap → Q (.ret (.bool true)) s') →
  wpAny (model PRG u.w) (callerA.deeper (envOf (Str.ofString "law") sc708 L fa cd)) (execs law708 (envOf (Str.ofString "law") sc708 L fa cd)) Q E s
noncomputable def gu : Un := @Classical.epsilon Un ⟨u0⟩ fun u => ¬ (KAll u → LawOK u)
end Mine
namespace Mine
noncomputable abbrev FnD := FnDU gu
noncomputable abbrev fdAt := fdAtU gu
noncomputable abbrev FnK := FnKU gu
noncomputable abbrev KV := KVU gu
noncomputable abbrev GlobK := GlobKU gu
noncomputable abbrev TabK := TabKU gu
noncomputable abbrev KF := KFU gu
noncomputable abbrev ExcK := ExcKU gu
noncomputable abbrev ExcNm := ExcNmU gu
noncomputable abbrev KX := KXU gu
noncomputable abbrev ClsK := ClsKU gu
noncomputable abbrev InK := InKU gu
noncomputable abbrev GNm := GNmU gu
noncomputable abbrev AttF := AttFU gu
noncomputable abbrev KO := KOU gu
noncomputable abbrev KC := KCU gu
noncomputable abbrev KTd := KTdU gu
noncomputable abbrev KN := KNU gu
noncomputable abbrev KM := KMU gu
noncomputable abbrev KL := KLU gu
noncomputable abbrev KQ := KQU gu
noncomputable abbrev KB := KBU gu
noncomputable abbrev KTk := KTkU gu
noncomputable abbrev KOn := KOnU gu
noncomputable abbrev KVl := KVlU gu
end Mine
namespace Mine
open PySem PySem.W PyProof.Rows PySem.Calls PySem.Spec PySem.SeqAt
noncomputable abbrev gM : Model := model PRG gu.w
noncomputable abbrev gTop (h : Heap) : Prop := Top gu.p gu.loose gu.mean gu.mg gu.mb h
end Mine
namespace Mine
open PySem PySem.W PyProof.Rows PySem.Calls PySem.Spec PySem.SeqAt
structure Next (s s' : Shared) : Prop where
  heap : s.heap.StaysIn s'.heap
  gens : s'.gens = s.gens
  drawn : s'.drawn = s.drawn
  os : s'.os = s.os
/-- a frame -/
structure Cx where
  A : Around
  cn : Str
  cs : Scope
  L : Addr
  a : Addr
  ccd : Value
  h₀ : Heap
noncomputable abbrev Cx.env (c : Cx) : Env := envOf c.cn c.cs c.L c.a c.ccd
noncomputable abbrev Cx.Fr (c : Cx) (h : Heap) (m : Str → Option Value) : Prop := PyProof.Rows.Fr c.h₀ c.L h m
noncomputable abbrev Cx.ev (c : Cx) (e : IE) : Sem Value := eval e.emb c.env
noncomputable abbrev Cx.wp {α : Type} (c : Cx) (t : Sem α) (Q : α → Shared → Prop) (E : Value → Shared → Prop) (s : Shared) : Prop := wpAny gM c.A t Q E s

/-- the frames are tables of names -/
def Dicts (l : List Env) (h : Heap) : Prop := ∀ x ∈ l.filterMap (·.frame), ∃ o es n, h.get? x = some o ∧ o.data = .dict es n
/-- depth and units that are left -/
structure Room (n : Nat) (A : Around) : Prop where
  depth : A.depth + n < recursionLimit
  units : A.units + 3 * n + 80 < cLine
  hand : A.handled = none
end Mine
namespace Mine
open PySem PySem.W PyProof.Rows PySem.Calls PySem.Spec
/-- an attribute of an object's own: there, or not -/
def AttrAt (h : Heap) (x C : Addr) (nm : Str) (v : Option Value) : Prop := ∃ dx od, h.get? x = some (instObj C dx) ∧ h.get? dx = some od ∧ lookIn nm od = some v
def DictIs (h : Heap) (d : Addr) (kvs : List (Str × Value)) : Prop := ∃ o, h.get? d = some o ∧ o.IsDictOf (PySem.strKind PRG gu.w) kvs ∧ (d == sysModules) = false
noncomputable abbrev qLam : Str := Str.ofString "_law_checker.<locals>.<lambda>"
noncomputable def lamO (pm : Value) (c : Addr) (ct : Value) : Obj := kla_obj "<lambda>" qLam lamP lamE.emb lamS [] pm c ct
def IsTold (h : Heap) (f : Addr) : Prop := ∃ pm c ct, h.get? f = some (lamO pm c ct) ∧ h.CodeRec (.ref c) qLam
/-- a checker and what it holds, at their addresses -/
structure AdAt (h : Heap) (aDr : Nat → Addr) : Prop where
  att : ∀ {k x d}, look2 k x attT = some d → ∃ v, AttrAt h (aDr k) (clsOf k) (nmOf x) (some v) ∧ VR aDr h v d
  met : ∀ {k x g}, look2 k x metT = some g → AttrAt h (aDr k) (clsOf k) (nmOf x) none
  named : ∃ kvs, DictIs h (aDr 2) kvs ∧ valueAt kvs (mkStr lMN) = some (.ref (aDr 3)) ∧ valueAt kvs (mkStr lMS) = some (.ref (aDr 4))
  readers : DictIs h (aDr 5) [(mkStr lTold, .ref (aDr 6))]
  told : IsTold h (aDr 6)
  rows : ∀ {k}, Nat.beq k 3 || Nat.beq k 4 = true → ∃ dm, AttrAt h (aDr k) 579 (Str.ofString "methods") (some (.ref dm)) ∧ DictIs h dm []
end Mine
namespace Mine
open PySem PySem.W PyProof.Rows PySem.Calls PySem.Spec
open Builtin Builtin.ObjectAttr
/-- its message -/
def MsgAt (h : Heap) (dx : Addr) (msg : Value) : Prop := ∃ mA, h.Ns1 dx mA ∧ mA (Str.ofString "message") = some msg
end Mine
namespace Mine
open PySem PySem.W PyProof.Rows PySem.Calls PySem.Spec
open Builtin Builtin.ObjectAttr
/-- an exception with its traceback and its context -/
structure Fx where
  base : Heap
  e : Addr
  C : Addr
  dx : Addr
noncomputable abbrev Fx.ob (x : Fx) (vs : Array Value) : Obj := { cls := .ref x.C, dict := some x.dx, data := .fields vs }
def Flown (x : Fx) (h : Heap) (cx fl : Value) : Prop :=
  ∃ vs T oT ts, h.get? x.e = some (x.ob vs) ∧ vs[1]? = some (.ref T) ∧ vs[2]? = some cx ∧ vs.size = 6 ∧ x.base.get? T = none ∧ T ≠ x.e ∧ h.get? T = some oT ∧ oT.data = .fields ts ∧ ts[3]? = some fl
structure Flies (x : Fx) (l : List Env) (cx fl : Value) (h : Heap) : Prop where
  stays : x.base.StaysIn h
  exc : x.base.get? x.e = none
  frames : h.FunFrames x.base l
  flown : Flown x h cx fl
end Mine
namespace Mine
open PySem PySem.W PyProof.Rows PySem.Calls PySem.Spec
open Builtin Builtin.ObjectAttr
noncomputable abbrev framesOf (l : List Env) : List Addr := l.filterMap (·.frame)
/-- an exception has left the frames of a call -/
structure Gone (l : List Env) (s s' : Shared) (e C : Addr) (plain : Bool) : Prop where
  go : ∃ base dx msg cx, (∀ b o, s.heap.get? b = some o → b ∉ framesOf l → base.get? b = some o) ∧ Flies ⟨base, e, C, dx⟩ l cx .none s'.heap ∧ MsgAt base dx msg ∧ (∃ x t, msg = .str x t) ∧ s.heap.UpToSlots s'.heap ∧ (plain = true → cx = .none)
  gens : s'.gens = s.gens
  drawn : s'.drawn = s.drawn
  os : s'.os = s.os
end Mine
namespace Mine
open PySem PySem.W PyProof.Rows PySem.Calls PySem.Spec
open Builtin Builtin.ObjectAttr
/-- what is asked of a call of check_conversion -/
def Ask (T : PV) (es : List PV) (b : Bool) (d : PV) : Prop := ∃ o, (ev G 60).st (fe448 T es b) ir448 = some o ∧ goodO d o = true
end Mine
namespace Mine
open PySem PySem.W PyProof.Rows PySem.Calls PySem.Spec PySem.SeqAt
/-- a place, whatever is asked of its heap -/
def PlaceW (W : Heap → Prop) (A : Around) (h : Heap) : Prop := ∃ (A₀ : Around) (base : Heap) (outer : List Env) (m : Str → Option Value) (c : Cx),
  Below A₀ base outer c.h₀ ∧ A.frames = some (c.env :: outer) ∧ c.cs.kind = .function ∧ c.Fr h m ∧ gu.K.In c.h₀ ∧ gTop c.h₀ ∧ W (hideAll h ((c.env :: outer).filterMap (·.frame))) ∧ Dicts outer c.h₀
noncomputable abbrev WA (aDr : Nat → Addr) (h : Heap) : Prop := (gu.K.In h ∧ gTop h) ∧ AdAt h aDr
/-- a call of check_conversion gives what is asked -/
def SConv (aDr : Nat → Addr) : Prop := ∀ {T d : PV} {es : List PV} {b : Bool}, Ask T es b d → ∀ {A : Around} {s : Shared} {vs : List Value} {Q E : Value → Shared → Prop} {l : List Env},
  PlaceW (WA aDr) A s.heap → WA aDr s.heap → Room 61 A → A.frames = some l → VRs aDr s.heap vs [.spc 0, T, .tup es, .bool b, .int 7] →
  (∀ v s', Next s s' → VR aDr s'.heap v d → Q v s') → (d = tType → ∀ e s', Gone l s s' e 64 true → E (.ref e) s') → (d = tConst → ∀ e s', Gone l s s' e 76 false → E (.ref e) s') → wpAny gM A (call (.ref 448) vs) Q E s
end Mine
namespace Mine
open PySem PySem.W PyProof.Rows PySem.Calls PySem.Spec PySem.SeqAt
section
variable {h h' : Heap}
theorem AttrAt.keeps (k : h.StaysIn h') {x C : Addr} {nm : Str} {v : Option Value} (I : AttrAt h x C nm v) : AttrAt h' x C nm v := let ⟨dx, od, a, b, c⟩ := I; ⟨dx, od, k _ _ a, k _ _ b, c⟩
theorem DictIs.keeps (k : h.StaysIn h') {d : Addr} {kvs : List (Str × Value)} (I : DictIs h d kvs) : DictIs h' d kvs := let ⟨o, a, b⟩ := I; ⟨o, k _ _ a, b⟩
theorem code_keeps (k : h.StaysIn h') {c : Value} {q : Str} (C : h.CodeRec c q) : h'.CodeRec c q := let ⟨c2, oc, vs, t, e, hc, r⟩ := C; ⟨c2, oc, vs, t, e, k _ _ hc, r⟩
theorem IsTold.keeps (k : h.StaysIn h') {f : Addr} (I : IsTold h f) : IsTold h' f := let ⟨pm, c, ct, h1, h2⟩ := I; ⟨pm, c, ct, k _ _ h1, code_keeps k h2⟩
theorem AdAt.keeps {aDr : Nat → Addr} (k : h.StaysIn h') (I : AdAt h aDr) : AdAt h' aDr where
  att e := let ⟨v, a, b⟩ := I.att e; ⟨v, a.keeps k, b.mono (KS.of_stays k)⟩
  met e := (I.met e).keeps k
  named := let ⟨kvs, a, b⟩ := I.named; ⟨kvs, a.keeps k, b⟩
  readers := I.readers.keeps k
  told := I.told.keeps k
  rows e := let ⟨dm, a, b⟩ := I.rows e; ⟨dm, a.keeps k, b.keeps k⟩
end
end Mine
namespace Mine
open PySem PySem.W PyProof.Rows PySem.Calls PySem.Spec PySem.SeqAt
noncomputable def gD : Nat → Addr := Classical.epsilon fun aDr => ¬ SConv aDr
noncomputable abbrev gV (h : Heap) (v : Value) (d : PV) : Prop := VR gD h v d
noncomputable abbrev gVs (h : Heap) (v : List Value) (d : List PV) : Prop := VRs gD h v d
noncomputable def gWF : Heap → Prop := fun h => (gu.K.In h ∧ gTop h) ∧ (¬ SConv gD → AdAt h gD)
theorem gWF_keeps {h h' : Heap} (k : h.StaysIn h') (x : gWF h) : gWF h' := ⟨⟨x.1.1.keeps k, x.1.2.keeps k⟩, fun z => (x.2 z).keeps k⟩
theorem gWF_kt {h : Heap} (x : gWF h) : gu.K.In h ∧ gTop h := x.1
end Mine
namespace Mine
open PySem PySem.W PyProof.Rows PySem.Calls PySem.Spec PySem.SeqAt
theorem Next.refl (s : Shared) : Next s s := ⟨fun _ _ e => e, rfl, rfl, rfl⟩
theorem Next.trans {s s' s'' : Shared} (a : Next s s') (b : Next s' s'') : Next s s'' :=
  ⟨fun x o e => b.heap x o (a.heap x o e), b.gens.trans a.gens, b.drawn.trans a.drawn, b.os.trans a.os⟩
theorem Next.toks (s : Shared) (t : Nat) : Next s { s with toks := t } := ⟨fun _ _ e => e, rfl, rfl, rfl⟩
theorem Next.push (s : Shared) (o : Obj) : Next s { s with heap := s.heap.push o } := ⟨fun _ _ e => Heap.get?_push_of_some _ e, rfl, rfl, rfl⟩
theorem Next.KS {s s' : Shared} (a : Next s s') : KS s.heap s'.heap := KS.of_stays a.heap
theorem fr_next {h₀ h h' : Heap} {L : Addr} {m : Str → Option Value} (F : Fr h₀ L h m) (k : h.StaysIn h') : Fr h₀ L h' m :=
  ⟨F.ns.keeps k, fun b o e => k b o (F.keep b o e), F.above⟩

theorem Dicts.keeps {l : List Env} {h h' : Heap} (D : Dicts l h) (k : h.StaysIn h') : Dicts l h' := fun x hx => let ⟨o, es, n, a, b⟩ := D x hx; ⟨o, es, n, k _ _ a, b⟩
theorem Dicts.push {l : List Env} {c : Cx} {h : Heap} {m : Str → Option Value} (D : Dicts l c.h₀) (F : c.Fr h m) : Dicts (c.env :: l) h := fun x hx => by
  obtain ⟨env, he, hf⟩ := List.mem_filterMap.mp hx
  cases he with
  | head =>
    cases Option.some.inj (show some c.L = some x from hf)
    obtain ⟨o, es, n, ho, hd, _⟩ := F.ns
    exact ⟨o, es, n, ho, hd⟩
  | tail _ he =>
    obtain ⟨o, es, n, ho, hd⟩ := D x (List.mem_filterMap.mpr ⟨env, he, hf⟩)
    exact ⟨o, es, n, F.keep _ _ ho, hd⟩
/-- a heap of the law's -/
structure Gd (h : Heap) : Prop where
  kin : gu.K.In h
  top : gTop h
  wf : gWF h
theorem Room.less {n k : Nat} {A : Around} (R : Room n A) (h : k ≤ n) : Room k A :=
  ⟨by have := R.depth; omega, by have := R.units; omega, R.hand⟩
theorem Room.pred {n : Nat} {A : Around} (R : Room (n + 1) A) : Room n A := R.less (Nat.le_succ n)
theorem Room.u {n : Nat} {A : Around} (R : Room n A) : A.units + 80 < cLine := by have := R.units; omega
theorem Room.u40 {n : Nat} {A : Around} (R : Room n A) : A.units + 40 < cLine := by have := R.units; omega
theorem Room.now {n : Nat} {A : Around} (R : Room (n + 1) A) : A.depth < recursionLimit := by have := R.depth; omega
theorem Room.deeper {n : Nat} {A : Around} {env : Env} (R : Room (n + 1) A) : Room n (A.deeper env) :=
  ⟨by show A.depth + 1 + n < _; have := R.depth; omega, by show A.units + 3 + 3 * n + 80 < _; have := R.units; omega, R.hand⟩
/-- the names of a frame -/
structure Nms (cs : Scope) (fi : FI) : Prop where
  kind : cs.kind = .function
  loc : ∀ x, hasN x fi.locs = true → cs.names.lookup (nmOf x) = some .local
  glo : ∀ x, hasN x fi.glos = true → cs.names.lookup (nmOf x) = some .globalImplicit
  dbg : ∀ x, hasN x fi.locs = true ∨ hasN x fi.glos = true → (nmOf x == ("__debug__" : Str)) = false
  inj : ∀ x y, hasN x fi.locs = true → hasN y fi.locs = true → nmOf x = nmOf y → x = y
structure Site (n : Nat) (c : Cx) (fi : FI) : Prop where
  gd : Gd c.h₀
  nms : Nms c.cs fi
  room : Room n c.A
  below : ∃ A₀ base outer, Below A₀ base outer c.h₀ ∧ c.A.frames = some (c.env :: outer) ∧ gWF (hideAll c.h₀ (outer.filterMap (·.frame))) ∧ Dicts outer c.h₀
/-- a place that a call is made from -/
def Place (A : Around) (h : Heap) : Prop := ∃ (A₀ : Around) (base : Heap) (outer : List Env) (m : Str → Option Value) (c : Cx),
  Below A₀ base outer c.h₀ ∧ A.frames = some (c.env :: outer) ∧ c.cs.kind = .function ∧ c.Fr h m ∧ gu.K.In c.h₀ ∧ gTop c.h₀ ∧ gWF (hideAll h ((c.env :: outer).filterMap (·.frame))) ∧ Dicts outer c.h₀
def LRel (fi : FI) (h : Heap) (m : Str → Option Value) (ρ : List (Nat × PV)) : Prop :=
  ∀ x d, hasN x fi.locs = true → lk x ρ = some d → ∃ v, m (nmOf x) = some v ∧ gV h v d
theorem LRel.mono {fi : FI} {h h' : Heap} {m : Str → Option Value} {ρ : List (Nat × PV)} (R : LRel fi h m ρ) (k : KS h h') : LRel fi h' m ρ :=
  fun x d q e => let ⟨v, a, b⟩ := R x d q e; ⟨v, a, b.mono k⟩
theorem LRel.put {cs : Scope} {fi : FI} {h : Heap} {m : Str → Option Value} {ρ : List (Nat × PV)} (R : LRel fi h m ρ) (S : Nms cs fi)
    {x : Nat} {v : Value} {d : PV} (hx : hasN x fi.locs = true) (hv : gV h v d) : LRel fi h (fun y => if y = nmOf x then some v else m y) ((x, d) :: ρ) := by
  intro y e hy he
  rcases cond_or (show cond (Nat.beq y x) (some d) (lk y ρ) = some e from he) with ⟨q, h1⟩ | ⟨q, h1⟩
  · cases some_inj h1
    exact ⟨v, if_pos (congrArg nmOf (Nat.eq_of_beq_eq_true q)), hv⟩
  · obtain ⟨u, a, b⟩ := R y e hy h1
    exact ⟨u, (if_neg fun z => Nat.ne_of_beq_eq_false q (S.inj _ _ hy hx z)).trans a, b⟩
/-- where an evaluation stands -/
structure At (n : Nat) (c : Cx) (f : Fe) (m : Str → Option Value) (s : Shared) : Prop where
  S : Site n c f.fi
  F : c.Fr s.heap m
  R : LRel f.fi s.heap m f.ρ
section
variable {n : Nat} {c : Cx} {f : Fe} {m : Str → Option Value} {s s' : Shared}
theorem At.next (X : At n c f m s) (N : Next s s') : At n c f m s' := ⟨X.S, fr_next X.F N.heap, X.R.mono N.KS⟩
theorem At.pred (X : At (n + 1) c f m s) : At n c f m s := ⟨⟨X.S.gd, X.S.nms, X.S.room.pred, X.S.below⟩, X.F, X.R⟩
theorem At.less {k : Nat} (X : At n c f m s) (h : k ≤ n) : At k c f m s := ⟨⟨X.S.gd, X.S.nms, X.S.room.less h, X.S.below⟩, X.F, X.R⟩
end
theorem hide_more {h : Heap} {m : Str → Option Value} {c : Cx} {l : List Env} (F : c.Fr h m) : (hideAll c.h₀ (l.filterMap (·.frame))).StaysIn (hideAll h ((c.env :: l).filterMap (·.frame))) := fun b o q => by
  have q1 := of_hideAll _ q
  refine hideAll_get _ (F.keep _ _ q1) fun hm => ?_
  obtain ⟨env, he, hf⟩ := List.mem_filterMap.mp hm
  cases he with
  | head => exact absurd (Heap.lt_size q1) (by rw [← Option.some.inj (show some c.L = some b from hf)]; exact Nat.not_lt.mpr F.above)
  | tail _ he => rw [hideAll_none _ (List.mem_filterMap.mpr ⟨env, he, hf⟩)] at q; cases q

noncomputable abbrev Po (s : Shared) (d : PV) (Q : Value → Shared → Prop) : Prop := ∀ v s', Next s s' → gV s'.heap v d → Q v s'
def ExOK (n : Nat) (f : Fe) (e : IE) (d : PV) : Prop :=
  ∀ {c : Cx} {m : Str → Option Value} {s : Shared} {Q E : Value → Shared → Prop}, At n c f m s → Po s d Q → wpAny gM c.A (eval e.emb c.env) Q E s
def TrOK (n : Nat) (f : Fe) (e : IE) (d : Bool) : Prop :=
  ∀ {c : Cx} {m : Str → Option Value} {s : Shared} {Q : Bool → Shared → Prop} {E : Value → Shared → Prop}, At n c f m s → (∀ s', Next s s' → Q d s') →
    wpAny gM c.A (isTrue e.emb c.env (eval e.emb c.env)) Q E s
structure NextL (L : Addr) (s s' : Shared) : Prop where
  heap : ∀ a o, a ≠ L → s.heap.get? a = some o → s'.heap.get? a = some o
  ks : KS s.heap s'.heap
  gens : s'.gens = s.gens
  drawn : s'.drawn = s.drawn
  os : s'.os = s.os
theorem NextL.of {L : Addr} {s s' : Shared} (a : Next s s') : NextL L s s' := ⟨fun x o _ e => a.heap x o e, a.KS, a.gens, a.drawn, a.os⟩
theorem NextL.trans {L : Addr} {s s' s'' : Shared} (a : NextL L s s') (b : NextL L s' s'') : NextL L s s'' :=
  ⟨fun x o n e => b.heap x o n (a.heap x o n e), a.ks.trans b.ks, b.gens.trans a.gens, b.drawn.trans a.drawn, b.os.trans a.os⟩
/-- what statements leave -/
def SPost (c : Cx) (E : Value → Shared → Prop) (fi : FI) (s : Shared) (Q : Flow → Shared → Prop) : SO → Prop
  | .nxt ρ => ∀ m s', NextL c.L s s' → c.Fr s'.heap m → LRel fi s'.heap m ρ → Q .next s'
  | .ret d => ∀ v m s', NextL c.L s s' → c.Fr s'.heap m → gV s'.heap v d → Q (.ret v) s'
  | .hit ρ st => ∀ m s', NextL c.L s s' → c.Fr s'.heap m → LRel fi s'.heap m ρ → wpAny gM c.A (exec st c.env) (fun f s' => match f with | .next => False | f => Q f s') E s'
def StOK (n : Nat) (f : Fe) (ss : List IS) (o : SO) : Prop :=
  ∀ {c : Cx} {m : Str → Option Value} {s : Shared} {Q : Flow → Shared → Prop} {E : Value → Shared → Prop}, At n c f m s → SPost c E f.fi s Q o → wpAny gM c.A (execs (embS ss) c.env) Q E s
/-- what a call gives, from any place -/
def CaOK (n : Nat) (g : Addr) (ds : List PV) (d : PV) : Prop :=
  ∀ {A : Around} {s : Shared} {vs : List Value} {Q E : Value → Shared → Prop}, Place A s.heap → Gd s.heap → Room n A → gVs s.heap vs ds → Po s d Q → wpAny gM A (call (.ref g) vs) Q E s
structure RecOK (n : Nat) (r : Rec) : Prop where
  ex : ∀ {f e d}, r.ex f e = some d → ExOK n f e d
  tr : ∀ {f e d}, r.tr f e = some d → TrOK n f e d
  st : ∀ {f e d}, r.st f e = some d → StOK n f e d
  ca : ∀ {g ds d}, r.ca g ds = some d → CaOK n g ds d
  isf : ∀ {g ds d}, r.ca g ds = some d → ∃ o fd, gu.K.lookup g = some o ∧ o.data = .func fd
end Mine
namespace Mine
open PySem PySem.W PyProof.Rows PySem.Calls PySem.Spec PySem.SeqAt
noncomputable abbrev IsPo (n : Nat) (f : Fe) (x : Expr) (d : PV) : Prop :=
  ∀ {c : Cx} {m : Str → Option Value} {s : Shared} {Q E : Value → Shared → Prop}, At n c f m s → Po s d Q → wpAny gM c.A (eval x c.env) Q E s
structure CfgOK (Γ : Cfg) : Prop where
  glob : ∀ {x d}, Γ.glob x = some d → ∃ v, (nsIn gu.K mainGlobals (nmOf x) = some (some v) ∨ (nsIn gu.K mainGlobals (nmOf x) = some none ∧ bootBuiltins (nmOf x) = some v ∧ nmOf x ≠ "__name__")) ∧ ∀ h, gu.K.In h → gV h v d
  att : ∀ {a x d}, Γ.att a x = some d → ∀ {A : Around} {s : Shared} {v : Value} {Q E : Value → Shared → Prop}, Gd s.heap → gV s.heap v a → Po s d Q → wpAny gM A (getAttr v (nmOf x) true) Q E s
  met : ∀ {a x g}, Γ.met a x = some g → ∀ {A : Around} {s : Shared} {v : Value} {pl : Sem Bool} {Q : Value × List Value → Shared → Prop} {E : Value → Shared → Prop}, Gd s.heap → gV s.heap v a → Q (.ref g, [v]) s → wpAny gM A (getMethod v (nmOf x) pl) Q E s
  prim : ∀ {n g ds d}, Γ.prim n g ds = some d → CaOK (n + 1) g ds d ∧ ∃ o fd, gu.K.lookup g = some o ∧ o.data = .func fd
  fn : ∀ {g ds q}, Γ.fn g ds = some q → ∃ o fd, FnD g o fd ∧ fd.body = .stmts (embS q.2) ∧ Nms fd.scope q.1.fi ∧
    ∀ {s : Shared} {vs : List Value}, gu.K.In s.heap → gVs s.heap vs ds → ∃ binds, BindsTo s fd ⟨vs, []⟩ binds ∧ (∀ y ∈ binds, fd.scope.names.lookup y.1 = some .local) ∧ LRel q.1.fi s.heap (fun y => binds.reverse.lookup y) q.1.ρ
  blt : ∀ {i ds d}, Γ.blt i ds = some d → ∀ {A : Around} {s : Shared} {vs : List Value} {Q E : Value → Shared → Prop}, A.units + 80 < cLine → gVs s.heap vs ds → Po s d Q → wpAny gM A (call (.builtin i) vs) Q E s
  bmet : ∀ {a x ds d}, Γ.bmet a x ds = some d → ∃ id, (∀ {A : Around} {s : Shared} {v : Value} {pl : Sem Bool} {Q : Value × List Value → Shared → Prop} {E : Value → Shared → Prop}, gV s.heap v a → Q (.builtin id, [v]) s → wpAny gM A (getMethod v (nmOf x) pl) Q E s) ∧
    ∀ {A : Around} {s : Shared} {v : Value} {vs : List Value} {Q E : Value → Shared → Prop}, A.units + 80 < cLine → gV s.heap v a → gVs s.heap vs ds → Po s d Q → wpAny gM A (call (.builtin id) (v :: vs)) Q E s
  sget : ∀ {a l d}, Γ.sget a l = some d → ∀ {A : Around} {s : Shared} {o iv : Value} {value slice : Expr} {Q E : Value → Shared → Prop}, (∀ o iv, subscripted slice false o iv = operate [o, iv] (getItem o iv)) → Gd s.heap → gV s.heap o a → gV s.heap iv (.str l) →
    Po s d Q → wpAny gM A (subscriptTail value slice o iv) Q E s
  cin : ∀ {k l b}, Γ.cin k l = some b → ∀ {A : Around} {s : Shared} {iv : Value} {Q E : Value → Shared → Prop}, Gd s.heap → gV s.heap iv (.str l) →
    ((∀ s', Next s s' → Q (.bool b) s') → wpAny gM A (compareOp .In iv (.ref (gD k))) Q E s) ∧ ((∀ s', Next s s' → Q (.bool !b) s') → wpAny gM A (compareOp .NotIn iv (.ref (gD k))) Q E s)
  spo : ∀ {k ds d}, Γ.spf k ds = some d → ∀ {h : Heap}, gWF h → ∃ o fd, h.get? (gD k) = some o ∧ o.data = .func fd
  hsw : ∀ {k}, k < 8 → ∀ {t l env}, swapsWith (hxOf k).emb t l env = pure false
  hol : ∀ {k f d}, Γ.hol k f = some d → IsPo 20 f (hxOf k).emb d
  spf : ∀ {k ds d}, Γ.spf k ds = some d → ∀ {A : Around} {s : Shared} {vs : List Value} {Q E : Value → Shared → Prop}, Place A s.heap → Gd s.heap → Room 20 A →
    gVs s.heap vs ds → Po s d Q → wpAny gM A (call (.ref (gD k)) vs) Q E s
theorem Gd.keeps {h h' : Heap} (G : Gd h) (k : h.StaysIn h') : Gd h' := ⟨G.kin.keeps k, G.top.keeps k, gWF_keeps k G.wf⟩

section
variable {Γ : Cfg} {n : Nat} {r : Rec} {c : Cx} {m : Str → Option Value} {s : Shared} {E : Value → Shared → Prop} {f : Fe}
theorem At.gd (X : At n c f m s) : Gd s.heap := X.S.gd.keeps X.F.keep
theorem At.place (X : At n c f m s) : Place c.A s.heap :=
  let ⟨A₀, base, outer, h1, h2, h3, h4⟩ := X.S.below
  ⟨A₀, base, outer, m, c, h1, h2, X.S.nms.kind, X.F, X.S.gd.kin, X.S.gd.top, gWF_keeps (hide_more X.F) h3, h4⟩
theorem CaOK.at {g : Addr} {ds : List PV} {d : PV} (O : CaOK n g ds d) (X : At n c f m s) {vs : List Value} {Q : Value → Shared → Prop} (V : gVs s.heap vs ds) (h : Po s d Q) : wpAny gM c.A (call (.ref g) vs) Q E s :=
  O X.place X.gd X.S.room V h
theorem Po.of {d : PV} {Q : Value → Shared → Prop} {s' : Shared} (h : Po s d Q) (N : Next s s') : Po s' d Q := fun v s2 N2 V => h v s2 (N.trans N2) V

theorem star_one {x : IE} {xs : List Expr} {env : Env} : starEach (x.emb :: xs) env = (false, eval x.emb env) :: starEach xs env := by
  cases x <;> try rfl
  rename_i k
  show starEach ((hxOf k).emb :: xs) env = (false, eval (hxOf k).emb env) :: starEach xs env
  cases hxOf k <;> rfl
/-- a list of expressions -/
theorem evs_ok (H : RecOK n r) {pos : Pos} {es : List IE} : ∀ {ds : List PV} {s : Shared} {Q : List Value → Shared → Prop}, evs r f es = some ds → At n c f m s →
    (∀ vs s', Next s s' → gVs s'.heap vs ds → Q vs s') → wpAny gM c.A (spliced (backTo pos (starEach (embs es) c.env))) Q E s := by
  induction es with
  | nil => intro ds s Q e X h; cases some_inj e; exact spliced_none (h [] s (Next.refl s) rfl)
  | cons x es ih =>
    intro ds s Q e X h
    obtain ⟨d1, h1, e⟩ := bind_some e
    obtain ⟨d2, h2, e⟩ := bind_some e
    cases some_inj e
    refine spliced_more (H.ex h1 X fun v s' N V => ?_) star_one
    exact ih h2 (X.next N) fun vs s'' N' V' => h _ _ (N.trans N') ⟨v, vs, rfl, V.mono N'.KS, V'⟩
theorem args_ok (H : RecOK n r) {pos : Pos} {g : Value} {es : List IE} {ds : List PV} {s : Shared} {Q : Args → Shared → Prop} (e : evs r f es = some ds) (X : At n c f m s)
    (h : ∀ vs s', Next s s' → gVs s'.heap vs ds → Q ⟨vs, []⟩ s') : wpAny gM c.A (evalArgs g true (backTo pos (starEach (embs es) c.env)) []) Q E s := by
  cases es with
  | nil => cases some_inj e; exact evalArgs_empty (h [] s (Next.refl s) rfl)
  | cons x es =>
    have z := evs_ok (E := E) H (pos := pos) (Q := fun vs s' => Q ⟨vs, []⟩ s') e X h
    rw [show starEach (embs (x :: es)) c.env = _ from star_one] at z ⊢
    exact evalArgs_plain z
theorem args_plain {pos : Pos} {env : Env} (es : List IE) : (backTo pos (starEach (embs es) env)).any (·.1) = false := by
  induction es with
  | nil => rfl
  | cons x es ih =>
    rw [show starEach (embs (x :: es)) env = _ from star_one]
    exact ih
theorem evs_len {es : List IE} : ∀ {ds : List PV}, evs r f es = some ds → ds.length = es.length := by
  induction es with
  | nil => intro ds e; cases some_inj e; rfl
  | cons x es ih =>
    intro ds e
    obtain ⟨d1, h1, e⟩ := bind_some e
    obtain ⟨d2, h2, e⟩ := bind_some e
    cases some_inj e
    exact congrArg Nat.succ (ih h2)
theorem sub_plain {i : IE} {o iv : Value} : subscripted i.emb false o iv = operate [o, iv] (getItem o iv) := by
  cases i <;> try rfl
  rename_i k
  show subscripted (hxOf k).emb false o iv = operate [o, iv] (getItem o iv)
  cases hxOf k <;> rfl
theorem con_ok {k : IC} {p : Pos} {Q : Value → Shared → Prop} {A : Around} {env : Env} (h : Po s k.pv Q) : wpAny gM A (eval (IE.con k p).emb env) Q E s := by
  cases k with
  | none => exact wpAny_pure (h _ s (Next.refl s) rfl)
  | bool b => exact wpAny_pure (h _ s (Next.refl s) rfl)
  | int i => exact fun _ _ _ => h _ _ (Next.toks s _) ⟨_, rfl⟩
  | str x l q => exact fun _ _ _ => h _ _ (Next.toks s _) ⟨_, by rw [q]⟩
  | byt l => exact fun _ _ _ => h _ _ (Next.toks s _) ⟨_, rfl⟩
theorem loc_ok {x : Nat} {p : Pos} {d : PV} (X : At n c f m s) (hx : hasN x f.fi.locs = true) (e : lk x f.ρ = some d) {Q : Value → Shared → Prop} (h : Po s d Q) : wpAny gM c.A (eval (IE.loc x p).emb c.env) Q E s := by
  obtain ⟨v, h1, h2⟩ := X.R x d hx e
  exact ld X.F h1 (h v s (Next.refl s) h2) X.S.nms.kind (X.S.nms.loc x hx) (X.S.nms.dbg x (.inl hx))
theorem glo_ok (C : CfgOK Γ) {x : Nat} {p : Pos} {d : PV} (X : At n c f m s) (hx : hasN x f.fi.glos = true) (e : Γ.glob x = some d) {Q : Value → Shared → Prop} (h : Po s d Q) : wpAny gM c.A (eval (IE.glo x p).emb c.env) Q E s := by
  obtain ⟨v, h1, h2⟩ := C.glob e
  have hv := h v s (Next.refl s) (h2 _ X.gd.kin)
  rcases h1 with h1 | ⟨h1, h3, h4⟩
  · exact name_K X.F X.S.gd.kin (topRead_of X.S.gd.top) h1 hv X.S.nms.kind (X.S.nms.glo x hx) (X.S.nms.dbg x (.inr hx))
  · exact name_B X.F X.S.gd.kin (topRead_of X.S.gd.top) h1 h3 h4 hv X.S.nms.kind (X.S.nms.glo x hx) (X.S.nms.dbg x (.inr hx))
theorem push_ks (h : Heap) (o : Obj) : KS h (h.push o) := KS.of_stays fun _ _ e => Heap.get?_push_of_some _ e
theorem len_le {vs : List Value} {ds : List PV} {h : Heap} (V : gVs h vs ds) (hd : Nat.ble ds.length 1000 = true) : vs.length ≤ sizeLine := by rw [V.length]; exact Nat.le_trans (Nat.le_of_ble_eq_true hd) (by decide)
theorem new_tup {A : Around} {vs : List Value} {ds : List PV} {Q : Value → Shared → Prop} (V : gVs s.heap vs ds) (hd : Nat.ble ds.length 1000 = true) (h : Po s (.tup ds) Q) : wpAny gM A (newTuple vs) Q E s :=
  wpAny_newTuple (h _ _ (Next.push _ _) ⟨_, vs.toArray, rfl, ⟨_, Heap.get?_push_size _ rfl, rfl, _, rfl⟩, V.mono (push_ks _ _)⟩) (len_le V hd)
theorem new_lst {A : Around} {vs : List Value} {ds : List PV} {Q : Value → Shared → Prop} (V : gVs s.heap vs ds) (hd : Nat.ble ds.length 1000 = true) (h : Po s (.lst ds) Q) : wpAny gM A (newList vs) Q E s :=
  wpAny_newList (h _ _ (Next.push _ _) ⟨_, vs.toArray, rfl, ⟨_, Heap.get?_push_size _ rfl, rfl, _, rfl⟩, V.mono (push_ks _ _)⟩) (len_le V hd)
theorem tup_ok {es : List IE} {k : Nat} {p : Pos} {ds : List PV} (H : RecOK n r) (X : At n c f m s) (e : evs r f es = some ds) (hl : Nat.ble es.length 1000 = true) {Q : Value → Shared → Prop} (h : Po s (.tup ds) Q) : wpAny gM c.A (eval (IE.tup es k p).emb c.env) Q E s :=
  Tuple_ (evs_ok H e X fun vs s' N V => new_tup V (by rw [evs_len e]; exact hl) (h.of N))
theorem lst_ok {es : List IE} {p : Pos} {ds : List PV} (H : RecOK n r) (X : At n c f m s) (e : evs r f es = some ds) (hl : Nat.ble es.length 1000 = true) {Q : Value → Shared → Prop} (h : Po s (.lst ds) Q) : wpAny gM c.A (eval (IE.lst es p).emb c.env) Q E s :=
  List_ (evs_ok H e X fun vs s' N V => new_lst V (by rw [evs_len e]; exact hl) (h.of N))
end
end Mine
namespace Mine
open PySem PySem.W PyProof.Rows PySem.Calls PySem.Spec PySem.SeqAt
theorem ofn_nn (k : Nat) : (0 : Int) ≤ Int.ofNat k := Int.natCast_nonneg k
theorem ofn_lo (k : Nat) : -(2 ^ 63 : Int) ≤ Int.ofNat k := Int.le_trans (by decide) (ofn_nn k)
theorem ofn_hi {k : Nat} (h : k < 1000) : Int.ofNat k < (2 ^ 63 : Int) := Int.lt_trans (Int.ofNat_lt.mpr h) (by decide)
theorem seqIdx {i len : Nat} (h : i < len) : seqIndex? (Int.ofNat i) len = some i := by
  unfold seqIndex?
  rw [if_neg (Int.not_lt.mpr (ofn_nn i))]
  have h3 : (Int.ofNat i : Int) < (len : Int) := Int.ofNat_lt.mpr h
  simp [h]
theorem nth_get {l : List PV} : ∀ {i : Nat} {d : PV}, nth l i = some d → l[i]? = some d := by
  induction l with
  | nil => intro i d e; cases e
  | cons x l ih =>
    intro i d e
    cases i with
    | zero => exact e
    | succ i => exact ih e
theorem nthN_get {l : List Nat} : ∀ {i : Nat} {d : Nat}, nthN l i = some d → l[i]? = some d := by
  induction l with
  | nil => intro i d e; cases e
  | cons x l ih =>
    intro i d e
    cases i with
    | zero => exact e
    | succ i => exact ih e
section
variable {n : Nat} {s : Shared} {E : Value → Shared → Prop} {A : Around} {Q : Value → Shared → Prop}
theorem to_arr {vs : Array Value} {k : Nat} {v : Value} (h : vs.toList[k]? = some v) : vs[k]? = some v := by rwa [Array.getElem?_toList] at h
theorem arr_lt {vs : Array Value} {k : Nat} {v : Value} (h : vs[k]? = some v) : k < vs.size := (Array.getElem?_eq_some_iff.mp h).1
theorem subv_ok {value slice : Expr} {o iv : Value} {a b d : PV} (va : gV s.heap o a) (vb : gV s.heap iv b) (e : subv a b = some d) (hs : ∀ o iv, subscripted slice false o iv = operate [o, iv] (getItem o iv))
    (h : Po s d Q) : wpAny gM A (subscriptTail value slice o iv) Q E s := by
  obtain ⟨k, e1, e2⟩ := bind_some e
  obtain ⟨q, hk⟩ := asNat_some e1
  clear e e1
  cases q
  obtain ⟨u, rfl⟩ := vb
  cases a with
  | tup l =>
    obtain ⟨t, vs, rfl, ht, W⟩ := va
    obtain ⟨v, h1, h2⟩ := W.get (nth_get e2)
    exact tail_any ht.typeIs slot_tuple_getitem.lookup (getItem_tuple ht (ofn_lo k) (ofn_hi hk) (seqIdx (arr_lt (to_arr h1))) (to_arr h1) (h v s (Next.refl s) h2)) (hs _ _)
  | lst l =>
    obtain ⟨t, vs, rfl, ht, W⟩ := va
    obtain ⟨v, h1, h2⟩ := W.get (nth_get e2)
    exact tail_any ht.typeIs slot_list_getitem.lookup (wpAny_getItem_list ht (ofn_nn k) (ofn_hi hk) (to_arr h1) (h v s (Next.refl s) h2)) (hs _ _)
  | str l =>
    obtain ⟨t, rfl⟩ := va
    obtain ⟨c, hn, e3⟩ := bind_some e2
    cases some_inj e3
    have hg := nthN_get hn
    refine tail_any (typeIs_str s _ t) F.slot_str_getitem.lookup (P.getItem_str (c := c) ?_ ?_ (h _ _ (Next.toks s _) ⟨_, rfl⟩)) (hs _ _)
    · rw [Bool.or_eq_false_iff]; exact ⟨decide_eq_false (Int.not_lt.mpr (ofn_lo k)), decide_eq_false (Int.not_le.mpr (ofn_hi hk))⟩
    show (seqIndex? (Int.ofNat k) (mkStr l).length).bind _ = _
    rw [show (mkStr l).length = l.length from List.size_toArray, seqIdx (List.getElem?_eq_some_iff.mp hg).1]
    exact (List.getElem?_toArray (xs := l)).trans hg
  | _ => cases e2
theorem anyL_at {h : Heap} {x : PV} {ds : List PV} : ∀ {vs : List Value} {b : Bool}, gVs h vs ds → anyL x ds = some b → (∀ v ∈ vs, ∃ d, gV h v d ∧ ∃ c, eqf 8 d x = some c) ∧ vs.any (hit gD h x) = b := by
  induction ds with
  | nil => intro vs b V e; rw [show vs = [] from V]; exact ⟨fun v hv => (nomatch hv), some_inj e⟩
  | cons d ds ih =>
    rintro vs b ⟨v, ws, rfl, V, W⟩ e
    obtain ⟨p, h1, e⟩ := bind_some e
    obtain ⟨q, h2, e⟩ := bind_some e
    obtain ⟨k1, k2⟩ := ih W h2
    refine ⟨fun u hu => ?_, ?_⟩
    · rcases List.mem_cons.mp hu with rfl | hu
      · exact ⟨_, V, _, h1⟩
      · exact k1 u hu
    · rw [List.any_cons, hit_is V h1, k2]; exact some_inj e
theorem in_ok {o : Value} {x : PV} {vs : Array Value} {ds : List PV} {b : Bool} (hu : A.units + 40 < cLine) (va : gV s.heap o x) (V : gVs s.heap vs.toList ds) (e : anyL x ds = some b) :
    (∀ y, y ∈ vs → EqAt A.in1 s y o (hit gD s.heap x y)) ∧ vs.any (hit gD s.heap x) = b := by
  obtain ⟨k1, k2⟩ := anyL_at V e
  refine ⟨fun y hy => ?_, by rw [← k2]; exact Array.any_toList.symm⟩
  obtain ⟨d, V', c, hc⟩ := k1 y (Array.mem_toList_iff.mpr hy)
  rw [hit_is V' hc]
  exact eqf_at 8 V' va hc (u_in (Nat.lt_of_le_of_lt (Nat.add_le_add_left (by decide) _) hu))
/-- both ways to ask whether it is in -/
theorem in_both {o o' : Value} {x y : PV} {b : Bool} (hu : A.units + 40 < cLine) (va : gV s.heap o x) (vb : gV s.heap o' y) (e : (match y with | .tup l => anyL x l | .lst l => anyL x l | _ => none) = some b) :
    (Q (.bool b) s → wpAny gM A (compareOp .In o o') Q E s) ∧ (Q (.bool !b) s → wpAny gM A (compareOp .NotIn o o') Q E s) := by
  cases y with
  | tup l =>
    obtain ⟨t, vs, rfl, ht, W⟩ := vb
    obtain ⟨k1, rfl⟩ := in_ok hu va W e
    exact ⟨fun h => in_tupleAt _ ht k1 h, fun h => notIn_tupleAt _ ht k1 h⟩
  | lst l =>
    obtain ⟨t, vs, rfl, ht, W⟩ := vb
    obtain ⟨k1, rfl⟩ := in_ok hu va W e
    exact ⟨fun h => in_listAt _ ht k1 h, fun h => notIn_listAt _ ht k1 h⟩
  | _ => cases e
theorem ltI_is (i j : Int) : ltI i j = decide (i < j) := by unfold ltI; cases Int.decLt i j <;> rfl
theorem leI_is (i j : Int) : leI i j = decide (i ≤ j) := by unfold leI; cases Int.decLe i j <;> rfl
theorem nul_is {v : Value} {x : PV} (V : gV s.heap v x) (e : nul x = true) : ∃ a, v = .ref a ∧ s.heap.IsList a #[] := by
  cases x with
  | lst l =>
    obtain ⟨a, vs, rfl, ht, W⟩ := V
    cases l with
    | nil => exact ⟨a, rfl, by rwa [show vs = #[] from Array.toList_inj.mp W] at ht⟩
    | cons => cases e
  | _ => cases e
theorem cmpC_ok {Γ : Cfg} (C : CfgOK Γ) (G : Gd s.heap) {op : CmpOp} {o o' : Value} {x y : PV} {b : Bool} (hu : A.units + 40 < cLine) (va : gV s.heap o x) (vb : gV s.heap o' y) (e : cmpC Γ op x y = some b) (h : ∀ s', Next s s' → Q (.bool b) s') :
    wpAny gM A (compareOp op o o') Q E s := by
  have h0 := h s (Next.refl s)
  have hu8 : A.units + 8 < cLine := Nat.lt_of_le_of_lt (Nat.add_le_add_left (by decide) _) hu
  have isin : ∀ {b : Bool}, inV Γ x y = some b → ((∀ s', Next s s' → Q (.bool b) s') → wpAny gM A (compareOp .In o o') Q E s) ∧ ((∀ s', Next s s' → Q (.bool !b) s') → wpAny gM A (compareOp .NotIn o o') Q E s) := by
    intro b e
    cases y with
    | spc k =>
      obtain ⟨l, h1, h2⟩ := bind_some e
      cases asStr_some h1
      cases (show o' = _ from vb)
      exact C.cin h2 G va
    | tup l => obtain ⟨k1, k2⟩ := in_both (E := E) (Q := Q) hu va vb e; exact ⟨fun h => k1 (h s (Next.refl s)), fun h => k2 (h s (Next.refl s))⟩
    | lst l => obtain ⟨k1, k2⟩ := in_both (E := E) (Q := Q) hu va vb e; exact ⟨fun h => k1 (h s (Next.refl s)), fun h => k2 (h s (Next.refl s))⟩
    | _ => cases e
  cases op with
  | Eq => exact eq_any va vb e hu8 h0
  | NotEq =>
    rcases cond_or e with ⟨q, e⟩ | ⟨q, e⟩
    · cases some_inj e
      obtain ⟨a, rfl, h1⟩ := nul_is va (and_both q).1
      obtain ⟨a', rfl, h2⟩ := nul_is vb (and_both q).2
      exact RcNeAt.lists (e := fun _ => true) h1 h2 rfl (u_0 hu) (fun j j1 => absurd j1 (Nat.not_lt_zero j)) PRG gu.w E Q h0
    · obtain ⟨r, h1, h2⟩ := bind_some e
      exact ne_any va vb h1 hu8 (by rw [some_inj h2]; exact h0)
  | In => exact (isin e).1 h
  | NotIn =>
    obtain ⟨r, h1, h2⟩ := bind_some e
    exact (isin h1).2 (by rw [some_inj h2]; exact h)
  | Is =>
    cases y with
    | none =>
      cases (show o' = _ from vb)
      cases x with
      | none => cases (show o = _ from va); cases some_inj e; exact wpAny_pure h0
      | str l => obtain ⟨t, rfl⟩ := va; cases some_inj e; exact wpAny_pure h0
      | tup l => obtain ⟨a, vs, rfl, _⟩ := va; cases some_inj e; exact wpAny_pure h0
      | _ => cases e
    | _ => cases e
  | Lt =>
    obtain ⟨i, e1, e⟩ := bind_some e
    obtain ⟨j, e2, e⟩ := bind_some e
    cases asInt_some e1; cases asInt_some e2
    obtain ⟨t, rfl⟩ := va
    obtain ⟨u, rfl⟩ := vb
    exact PyProof.Rows.lt_int (by rw [← ltI_is, some_inj e]; exact h0)
  | LtE =>
    obtain ⟨i, e1, e⟩ := bind_some e
    obtain ⟨j, e2, e⟩ := bind_some e
    cases asInt_some e1; cases asInt_some e2
    obtain ⟨t, rfl⟩ := va
    obtain ⟨u, rfl⟩ := vb
    exact PyProof.Rows.le_int (by rw [← leI_is, some_inj e]; exact h0)
  | _ => cases e
theorem not_empty {vs : Array Value} (h : 1 ≤ vs.size) : ¬ vs.isEmpty = true := fun q => absurd h (by rw [Array.isEmpty_iff_size_eq_zero.mp q]; decide)
theorem tup_obj {h : Heap} {a : Addr} {vs : Array Value} (x : h.IsTuple a vs) : ∃ od n sl, h.get? a = some ⟨.type "tuple", od, .seq vs n, sl⟩ := by
  obtain ⟨⟨c, od, d, sl⟩, e, e1, n, e2⟩ := x
  cases (show c = _ from e1); cases (show d = _ from e2)
  exact ⟨od, n, sl, e⟩
theorem lst_obj {h : Heap} {a : Addr} {vs : Array Value} (x : h.IsList a vs) : ∃ od n sl, h.get? a = some ⟨.type "list", od, .seq vs n, sl⟩ := by
  obtain ⟨⟨c, od, d, sl⟩, e, e1, n, e2⟩ := x
  cases (show c = _ from e1); cases (show d = _ from e2)
  exact ⟨od, n, sl, e⟩
theorem sum_le {x y : List PV} {vs ws : Array Value} (W : gVs s.heap vs.toList x) (W' : gVs s.heap ws.toList y) (h : Nat.ble (x.length + y.length) 1000 = true) : vs.size + ws.size ≤ sizeLine := by
  rw [W.size, W'.size]; exact Nat.le_trans (Nat.le_of_ble_eq_true h) (by decide)
theorem addv_ok {o o' : Value} {x y d : PV} (va : gV s.heap o x) (vb : gV s.heap o' y) (e : addv x y = some d) (h : Po s d Q) : wpAny gM A (binaryOp .Add o o') Q E s := by
  cases x with
  | tup x =>
    obtain ⟨y', e1, e2⟩ := bind_some e
    cases asTup_some e1
    obtain ⟨h1, e3⟩ := cond_some e2
    cases some_inj e3
    obtain ⟨t, vs, rfl, ht, W⟩ := va
    obtain ⟨b, ws, rfl, hb, W'⟩ := vb
    obtain ⟨od, n, sl, a1⟩ := tup_obj ht
    obtain ⟨od', n', sl', b1⟩ := tup_obj hb
    refine concat_meets ⟨_, a1, rfl⟩ ⟨_, b1, rfl⟩ noFill_tuple_add seq_tuple_add PySem.F.slot_tuple_add PySem.F.entry_tuple_add (PySem.F.args_tuple_add_2 _ _)
      (tuple_addW2 t b vs ws n n' od od' sl sl' (not_empty (by rw [W.size]; exact Nat.le_of_ble_eq_true (and_both h1).1)) (not_empty (by rw [W'.size]; exact Nat.le_of_ble_eq_true (and_both (and_both h1).2).1)) (sum_le W W' (and_both (and_both h1).2).2)) ⟨a1, b1, ?_⟩
    exact h _ _ (Next.push _ _) ⟨_, vs ++ ws, rfl, ⟨_, Heap.get?_push_size _ rfl, rfl, _, rfl⟩, by rw [Array.toList_append]; exact (VRs.append W W').mono (push_ks _ _)⟩
  | lst x =>
    obtain ⟨y', e1, e2⟩ := bind_some e
    cases asLst_some e1
    obtain ⟨h1, e3⟩ := cond_some e2
    cases some_inj e3
    obtain ⟨t, vs, rfl, ht, W⟩ := va
    obtain ⟨b, ws, rfl, hb, W'⟩ := vb
    obtain ⟨od, n, sl, a1⟩ := lst_obj ht
    obtain ⟨od', n', sl', b1⟩ := lst_obj hb
    refine concat_meets ⟨_, a1, rfl⟩ ⟨_, b1, rfl⟩ noFill_list_add seq_list_add PySem.F.slot_list_add PySem.F.entry_list_add (PySem.F.args_list_add_2 _ _) (list_addW t b vs ws n n' od od' sl sl' (sum_le W W' h1)) ⟨a1, b1, ?_⟩
    exact h _ _ (Next.push _ _) ⟨_, vs ++ ws, rfl, ⟨_, Heap.get?_push_size _ rfl, rfl, _, rfl⟩, by rw [Array.toList_append]; exact (VRs.append W W').mono (push_ks _ _)⟩
  | str x =>
    obtain ⟨y', e1, e2⟩ := bind_some e
    cases asStr_some e1
    obtain ⟨h1, e3⟩ := cond_some e2
    cases some_inj e3
    obtain ⟨t, rfl⟩ := va
    obtain ⟨t', rfl⟩ := vb
    refine PyProof.Rows.add_str (fun t'' tk => h _ _ (Next.toks s tk) ⟨t'', congrArg (Value.str · t'') ?_⟩) ?_
    · show Str.append _ _ = _
      simp [Str.append]
    · exact Nat.le_trans (Nat.le_of_ble_eq_true (by simpa [Str.length] using h1)) (by decide)
  | _ => cases e
theorem binv_ok {op : Operator} {o o' : Value} {x y d : PV} (va : gV s.heap o x) (vb : gV s.heap o' y) (e : binv op x y = some d) (h : Po s d Q) : wpAny gM A (binaryOp op o o') Q E s := by
  cases op with
  | Add => exact addv_ok va vb e h
  | Sub =>
    obtain ⟨i, e1, e⟩ := bind_some e
    obtain ⟨j, e2, e⟩ := bind_some e
    cases asInt_some e1; cases asInt_some e2; cases some_inj e
    obtain ⟨t, rfl⟩ := va
    obtain ⟨u, rfl⟩ := vb
    exact PyProof.Rows.sub_int (h _ _ (Next.toks s _) ⟨_, rfl⟩)
  | Pow =>
    obtain ⟨i, e1, e⟩ := bind_some e
    obtain ⟨k, e2, e⟩ := bind_some e
    obtain ⟨h1, e3⟩ := cond_some e
    obtain ⟨q1, _⟩ := asNat_some e1
    obtain ⟨q2, hk⟩ := asNat_some e2
    cases some_inj e3; cases Nat.eq_of_beq_eq_true h1; cases q1; cases q2
    obtain ⟨t, rfl⟩ := va
    obtain ⟨u, rfl⟩ := vb
    refine PyProof.Rows.pow_int (ofn_nn k) ?_ (h _ _ (Next.toks s _) ⟨s.toks, congrArg (Value.int · s.toks) ?_⟩)
    · rw [show Builtin.Int.intBits (Int.ofNat 2) = 2 by decide +kernel]
      have e2 : Int.ofNat k = (k : Int) := rfl
      rw [e2]; omega
    · show ((2 : Nat) : Int) ^ k = ((2 ^ k : Nat) : Int)
      rw [Int.natCast_pow]
  | _ => cases e
end
end Mine
namespace Mine
open PySem PySem.W PyProof.Rows PySem.Calls PySem.Spec PySem.SeqAt
section
variable {prog : Program} {w : World} {A : Around} {E : Value → Shared → Prop} {s : Shared}
theorem adjust_to (b n : Nat) (hb : b ≤ n) : Builtin.Slice.sliceAdjust none (some (b : Int)) 1 (n : Int) = (0, (b : Int)) := by
  unfold Builtin.Slice.sliceAdjust
  show ((0 : Int), (if (b : Int) < 0 then max ((b : Int) + (n : Int)) 0 else min (b : Int) (n : Int))) = _
  rw [if_neg (Int.not_lt.mpr (Int.natCast_nonneg b))]
  exact congrArg (Prod.mk 0) (Int.min_eq_left (Int.ofNat_le.mpr hb))
theorem places_to (b : Nat) : Builtin.Slice.slicePlaces (0 : Int) (b : Int) 1 = b := by
  unfold Builtin.Slice.slicePlaces
  rw [if_pos (by decide), Int.ediv_one]
  split <;> omega
theorem applied_to {sl : Addr} {b n : Nat} {u : Tok} {Q : Int × Int × Nat → Shared → Prop} (hs : s.heap.IsSliceOf sl .none (.int b u) .none) (hb : b ≤ n) (h : Q (0, 1, b) s) :
    wpAny (model prog w) A (Builtin.Slice.sliceApplied (.ref sl) (pure (n : Int))) Q E s := by
  obtain ⟨os, hos, hcs, hds⟩ := id hs
  unfold Builtin.Slice.sliceApplied Builtin.Slice.sliceFields
  refine wpAny_bind (wpAny_bind (wpAny_field hos hds (x := .none) rfl (wpAny_bind (wpAny_field hos hds (x := .int b u) rfl (wpAny_bind (wpAny_field hos hds (x := .none) rfl (wpAny_pure ?_)))))))
  refine wpAny_bind (slicePart_none ?_)
  show wpAny _ _ (if ((1 : Int) == 0) = true then _ else _) _ _ s
  rw [if_neg (by decide)]
  refine wpAny_bind (slicePart_none (wpAny_bind (slicePart_int (wpAny_bind (wpAny_pure ?_)))))
  show wpAny _ _ (match Builtin.Slice.sliceAdjust none (some (b : Int)) 1 (n : Int) with | (lo, hi) => pure (lo, (1 : Int), Builtin.Slice.slicePlaces lo hi 1)) _ _ s
  rw [adjust_to b n hb]
  show wpAny _ _ (pure ((0 : Int), (1 : Int), Builtin.Slice.slicePlaces 0 (b : Int) 1)) _ _ s
  rw [places_to b]
  exact wpAny_pure h
theorem pick_to (xs : Array Value) (b : Nat) : ((List.range b).filterMap fun (k : Nat) => xs[((0 : Int) + (k : Int) * 1).toNat]?).toArray = (xs.toList.take b).toArray := by
  have e : (fun (k : Nat) => xs[((0 : Int) + (k : Int) * 1).toNat]?) = fun k => xs.toList[k]? := by
    funext k
    rw [show ((0 : Int) + (k : Int) * 1).toNat = k by omega, Array.getElem?_toList]
  rw [e]
  congr 1
  generalize xs.toList = l
  induction b with
  | zero => rfl
  | succ b ih =>
    rw [List.range_succ, List.filterMap_append, ih, List.take_add_one]
    first | (congr 1; done) | (congr 1; cases h : l[b]? <;> simp [h])
theorem getItem_tuple_to {t sl : Addr} {items : Array Value} {b : Nat} {u : Tok} {Q : Value → Shared → Prop} (ht : IsTup s.heap t items) (hs : s.heap.IsSliceOf sl .none (.int b u) .none) (hb : b < items.size)
    (h : Q (.ref s.heap.objs.size) { s with heap := s.heap.push { cls := .type "tuple", data := .seq (items.toList.take b).toArray } })
    (hsz : items.size ≤ sizeLine) : wpAny (model prog w) A (getItem (.ref t) (.ref sl)) Q E s := by
  have htake : sizeOk (.seq (items.toList.take b).toArray) := by
    show (items.toList.take b).toArray.size ≤ sizeLine
    rw [List.size_toArray, List.length_take, Array.length_toList]
    exact Nat.le_trans (Nat.min_le_right _ _) hsz
  obtain ⟨os, hos, hcs, hds⟩ := id hs
  have hTs : s.TypeIs (.ref sl) "slice" := ⟨os, hos, hcs⟩
  unfold getItem
  try with_reducible refine wpAny_holding ?_
  first | refine wpAny_bind (wpAny_pure ?_) | skip
  refine wpAny_bind (wpAny_sequenceKey ht.typeIs (by decide) ?_)
  refine wpAny_bind (wpAny_callSpecial?_slot (name := Str.ofString "__getitem__") ht.typeIs slot_tuple_getitem
    (wpAny_call_entry slot_tuple_getitem ht.typeIs entry_tuple_getitem ?_ (args_tuple_getitem _ _)))
  show wpAny _ _ (Builtin.Tuple.tupleItemsOf (.ref t) >>= _) _ _ s
  refine wpAny_bind (tupleItemsOf_ ht ?_)
  refine wpAny_bind (wpAny_typeOf hTs ?_)
  rw [if_pos (by decide)]
  refine wpAny_bind (applied_to hs (Nat.le_of_lt hb) ?_)
  have hno : ¬ (((0 : Int) == 0 && (1 : Int) == 1 && b == items.size) = true) := by
    have : (b == items.size) = false := beq_eq_false_iff_ne.mpr (Nat.ne_of_lt hb)
    rw [this]; decide
  show wpAny _ _ (if ((0 : Int) == 0 && (1 : Int) == 1 && b == items.size) = true then _ else _) _ _ s
  rw [if_neg hno, pick_to items b]
  first
    | exact wpAny_bind (m := Builtin.Tuple.tupleExact _) (wpAny_newObj_type (wpAny_pure ⟨_, rfl, wpAny_pure h⟩) htake)
    | exact wpAny_bind (m := Builtin.Tuple.tupleExact _) (wpAny_newObj_type (wpAny_bind (wpAny_pure (wpAny_pure ⟨_, rfl, wpAny_pure h⟩))) htake)
    | exact wpAny_bind (wpAny_bind (m := Builtin.Tuple.tupleExact _) (wpAny_newObj_type (wpAny_pure (wpAny_pure ⟨_, rfl, wpAny_pure h⟩)) htake))
    | exact wpAny_bind (wpAny_bind (m := Builtin.Tuple.tupleExact _) (wpAny_newObj_type (wpAny_pure ⟨_, rfl, wpAny_pure h⟩) htake))
end
section
variable {A : Around} {E : Value → Shared → Prop} {s : Shared} {env : Env}
noncomputable abbrev slO (a b : Value) : Obj := { cls := .type "slice", data := .fields #[a, b, .none] }
theorem slice_to {j : Int} {p ps : Pos} {Q : Value → Shared → Prop} (h : ∀ u tk, Q (.ref s.heap.objs.size) { s with heap := s.heap.push (slO .none (.int j u)), toks := tk }) :
    wpAny gM A (eval (.Slice (embB none) (embB (some (j, p))) none ps) env) Q E s := by
  rw [arm_eval_Slice]
  refine wpAny_bind (wpAny_pure (wpAny_bind (wpAny_holding ?_)))
  show wpAny gM A (eval (.Constant (.int j) 0 p) env) _ E s
  exact wpAny_Constant_int (wpAny_bind (wpAny_holding (wpAny_pure (wpAny_newObj_type (h _ _)))))
theorem slice_from {j : Int} {p ps : Pos} {Q : Value → Shared → Prop} (h : ∀ u tk, Q (.ref s.heap.objs.size) { s with heap := s.heap.push (slO (.int j u) .none), toks := tk }) :
    wpAny gM A (eval (.Slice (embB (some (j, p))) (embB none) none ps) env) Q E s := by
  rw [arm_eval_Slice]
  refine wpAny_bind ?_
  show wpAny gM A (eval (.Constant (.int j) 0 p) env) _ E s
  exact wpAny_Constant_int (wpAny_bind (wpAny_holding (wpAny_pure (wpAny_bind (wpAny_holding (wpAny_pure (wpAny_newObj_type (h _ _))))))))
theorem VRs.take {h : Heap} {ds : List PV} : ∀ {vs : List Value} (i : Nat), gVs h vs ds → gVs h (vs.take i) (ds.take i) := by
  induction ds with
  | nil => intro vs i e; rw [show vs = [] from e, List.take_nil, List.take_nil]; rfl
  | cons d ds ih =>
    rintro vs i ⟨v, ws, rfl, a, b⟩
    cases i with
    | zero => exact (rfl : (List.take 0 _) = [])
    | succ i => exact ⟨v, ws.take i, rfl, a, ih i b⟩
theorem VRs.drop {h : Heap} {ds : List PV} : ∀ {vs : List Value} (i : Nat), gVs h vs ds → gVs h (vs.drop i) (ds.drop i) := by
  induction ds with
  | nil => intro vs i e; rw [show vs = [] from e, List.drop_nil, List.drop_nil]; rfl
  | cons d ds ih =>
    rintro vs i ⟨v, ws, rfl, a, b⟩
    cases i with
    | zero => exact ⟨v, ws, rfl, a, b⟩
    | succ i => exact ih i b
theorem push2 {o o' : Obj} {t : Nat} : Next s { s with heap := (s.heap.push o).push o', toks := t } := ⟨fun _ _ e => Heap.get?_push_of_some _ (Heap.get?_push_of_some _ e), rfl, rfl, rfl⟩
theorem slc_ok {e : Expr} {lo hi : Option (Int × Pos)} {ps : Pos} {l d : List PV} {o : Value} (hc : cutv l lo hi = some d) (va : gV s.heap o (.tup l)) {Q : Value → Shared → Prop} (h : Po s (.tup d) Q) :
    wpAny gM A (eval (.Slice (embB lo) (embB hi) none ps) env) (fun i s₂ => wpAny gM A (subscriptTail e (.Slice (embB lo) (embB hi) none ps) o i) Q E s₂) E s := by
  obtain ⟨t, vs, rfl, ht, W⟩ := va
  have ht' : ∀ o, IsTup (s.heap.push o) t vs := fun o => let ⟨x, a, b⟩ := ht; ⟨x, Heap.get?_push_of_some _ a, b⟩
  cases lo with
  | none => cases hi with
    | none => cases hc
    | some q =>
      obtain ⟨j, p⟩ := q
      obtain ⟨i, e1, e2⟩ := bind_some hc
      obtain ⟨h1, e3⟩ := cond_some e2
      cases some_inj e3
      cases (asNat_some e1).1
      have hi := Nat.le_of_ble_eq_true (and_both h1).1
      have hl := Nat.le_of_ble_eq_true (and_both h1).2
      rw [← W.size] at hi hl
      refine slice_to fun u tk => ?_
      refine tail_any (s := ⟨s.heap.push (slO .none (.int (Int.ofNat i) u)), s.gens, s.drawn, tk, s.os⟩) (ht' _).typeIs slot_tuple_getitem.lookup
        (getItem_tuple_to (b := i) (ht' _) (Heap.IsSliceOf.new ..) hi ?_ (Nat.le_trans (Nat.le_of_lt hl) (by decide))) rfl
      exact h _ _ push2 ⟨_, _, rfl, ⟨_, Heap.get?_push_size _ rfl, rfl, _, rfl⟩, VRs.take i (W.mono (push_ks _ _ |>.trans (push_ks _ _)))⟩
  | some q => cases hi with
    | some _ => cases hc
    | none =>
      obtain ⟨j, p⟩ := q
      obtain ⟨i, e1, e2⟩ := bind_some hc
      obtain ⟨h1, e3⟩ := cond_some e2
      cases some_inj e3
      cases (asNat_some e1).1
      have h0 := Nat.le_of_ble_eq_true (and_both h1).1
      have hi := Nat.le_of_ble_eq_true (and_both (and_both h1).2).1
      have hl := Nat.le_of_ble_eq_true (and_both (and_both h1).2).2
      rw [← W.size] at hi hl
      refine slice_from fun u tk => ?_
      refine tail_any (s := ⟨s.heap.push (slO (.int (Int.ofNat i) u) .none), s.gens, s.drawn, tk, s.os⟩) (ht' _).typeIs slot_tuple_getitem.lookup
        (getItem_tuple_from (a := i) (ht' _) (Heap.IsSliceOf.new ..) h0 hi ?_ (Nat.le_trans (Nat.le_of_lt hl) (by decide))) rfl
      exact h _ _ push2 ⟨_, _, rfl, ⟨_, Heap.get?_push_size _ rfl, rfl, _, rfl⟩, VRs.drop i (W.mono (push_ks _ _ |>.trans (push_ks _ _)))⟩
end
end Mine
namespace Mine
open PySem PySem.W PyProof.Rows PySem.Calls PySem.Spec PySem.SeqAt
section
variable {Γ : Cfg} {n : Nat} {r : Rec} {c : Cx} {m : Str → Option Value} {s : Shared} {E : Value → Shared → Prop} {f : Fe}
theorem ex_bool (H : RecOK n r) {e : IE} {b : Bool} {x : PV} (h1 : r.ex f e = some x) (h2 : asBool x = some b) (X : At n c f m s) {Q : Value → Shared → Prop} (h : ∀ s', Next s s' → Q (.bool b) s') : wpAny gM c.A (eval e.emb c.env) Q E s :=
  H.ex h1 X fun v s' N V => by cases asBool_some h2; cases (show v = _ from V); exact h s' N
theorem bool_turn {x : IE} {es : List Expr} {op : BoolOp} {p : Pos} {b : Bool} {Q : Value → Shared → Prop} (hx : ∀ {Q : Value → Shared → Prop}, (∀ s', Next s s' → Q (.bool b) s') → wpAny gM c.A (eval x.emb c.env) Q E s)
    (h : ∀ s', Next s s' → wpAny gM c.A (match op, b with | .And, false | .Or, true => pure (.bool b) | _, _ => boolOp p op (evalEach es c.env)) Q E s') {y : Expr} {ys : List Expr} (hy : es = y :: ys) : wpAny gM c.A (boolOp p op (evalEach (x.emb :: es) c.env)) Q E s := by
  subst hy
  show wpAny gM c.A (do
    let v ← eval x.emb c.env
    standAt p
    let t ← holding [v] (truthy v)
    match op, t with
    | .And, false | .Or, true => pure v
    | _, _ => boolOp p op (evalEach (y :: ys) c.env)) Q E s
  exact wpAny_bind (hx fun s' N => wpAny_bind (wpAny_standAt (wpAny_bind (wpAny_holding (wpAny_truthy_bool (h s' N))))))
theorem booA_ok (H : RecOK n r) {p : Pos} {es : List IE} : ∀ {e : IE} {d : PV} {s : Shared} {Q : Value → Shared → Prop}, booA r f e es = some d → At n c f m s → Po s d Q → wpAny gM c.A (boolOp p .And (evalEach (embs (e :: es)) c.env)) Q E s := by
  induction es with
  | nil => intro e d s Q h X k; exact H.ex h X k
  | cons y es ih =>
    intro e d s Q h X k
    obtain ⟨t, h1, h2⟩ := bind_some h
    obtain ⟨x, h3, h4⟩ := bind_some h1
    refine bool_turn (es := embs (y :: es)) (fun {Q} k => ex_bool H h3 h4 X k) (fun s' N => ?_) rfl
    cases t with
    | true => exact ih h2 (X.next N) (k.of N)
    | false => cases some_inj h2; exact wpAny_pure (k _ _ N rfl)
theorem booO_ok (H : RecOK n r) {p : Pos} {es : List IE} : ∀ {e : IE} {d : PV} {s : Shared} {Q : Value → Shared → Prop}, booO r f e es = some d → At n c f m s → Po s d Q → wpAny gM c.A (boolOp p .Or (evalEach (embs (e :: es)) c.env)) Q E s := by
  induction es with
  | nil => intro e d s Q h X k; exact H.ex h X k
  | cons y es ih =>
    intro e d s Q h X k
    obtain ⟨t, h1, h2⟩ := bind_some h
    obtain ⟨x, h3, h4⟩ := bind_some h1
    refine bool_turn (es := embs (y :: es)) (fun {Q} k => ex_bool H h3 h4 X k) (fun s' N => ?_) rfl
    cases t with
    | false => exact ih h2 (X.next N) (k.of N)
    | true => cases some_inj h2; exact wpAny_pure (k _ _ N rfl)
theorem all_turn {op : BoolOp} {x : IE} {es : List IE} {b : Bool} {Q : Bool → Shared → Prop} (hx : ∀ {Q : Bool → Shared → Prop}, (∀ s', Next s s' → Q b s') → wpAny gM c.A (isTrue x.emb c.env (eval x.emb c.env)) Q E s)
    (h : ∀ s', Next s s' → wpAny gM c.A (match op, b with | .And, false => pure false | .Or, true => pure true | _, _ => allTrue op (embs es) c.env) Q E s') : wpAny gM c.A (allTrue op (embs (x :: es)) c.env) Q E s := by
  show wpAny gM c.A (do
    match op, ← isTrue x.emb c.env (eval x.emb c.env) with
    | .And, false => pure false
    | .Or, true => pure true
    | _, _ => allTrue op (embs es) c.env) Q E s
  exact wpAny_bind (hx h)
theorem allA_ok (H : RecOK n r) {es : List IE} : ∀ {d : Bool} {s : Shared} {Q : Bool → Shared → Prop}, allA r f es = some d → At n c f m s → (∀ s', Next s s' → Q d s') → wpAny gM c.A (allTrue .And (embs es) c.env) Q E s := by
  induction es with
  | nil => intro d s Q h X k; cases some_inj h; exact wpAny_pure (k s (Next.refl s))
  | cons y es ih =>
    intro d s Q h X k
    obtain ⟨t, h1, h2⟩ := bind_some h
    refine all_turn (fun {Q} k => H.tr h1 X k) fun s' N => ?_
    cases t with
    | true => exact ih h2 (X.next N) fun s'' N' => k _ (N.trans N')
    | false => cases some_inj h2; exact wpAny_pure (k _ N)
theorem anyO_ok (H : RecOK n r) {es : List IE} : ∀ {d : Bool} {s : Shared} {Q : Bool → Shared → Prop}, anyO r f es = some d → At n c f m s → (∀ s', Next s s' → Q d s') → wpAny gM c.A (allTrue .Or (embs es) c.env) Q E s := by
  induction es with
  | nil => intro d s Q h X k; cases some_inj h; exact wpAny_pure (k s (Next.refl s))
  | cons y es ih =>
    intro d s Q h X k
    obtain ⟨t, h1, h2⟩ := bind_some h
    refine all_turn (fun {Q} k => H.tr h1 X k) fun s' N => ?_
    cases t with
    | false => exact ih h2 (X.next N) fun s'' N' => k _ (N.trans N')
    | true => cases some_inj h2; exact wpAny_pure (k _ N)

theorem marks_off (op : CmpOp) (e : IE) : behindInMarks op e.emb = false := by
  cases e <;> try rfl
  rename_i k
  show behindInMarks op (hxOf k).emb = false
  cases hxOf k <;> rfl
theorem isfn_of (H : RecOK n r) {g : Addr} {h : Heap} (hf : ∃ o fd, h.get? g = some o ∧ o.data = .func fd) {p : Pos} {first : List Value} {es : List IE} {ds : List PV} {Q : Value → Shared → Prop} (e : evs r f es = some ds) (X : At n c f m s) (hk : h.StaysIn s.heap)
    (k : ∀ vs s', Next s s' → gVs s'.heap vs ds → wpAny gM c.A (call (.ref g) (first ++ vs)) Q E s') :
    wpAny gM c.A (callWith p (.ref g) first (backTo p (starEach (embs es) c.env)) []) Q E s := by
  obtain ⟨o, fd, hl, hd⟩ := hf
  exact callWith_function (o := o) (fd := fd) (args_ok H e X fun vs s' N V => ⟨⟨N.heap _ _ (hk _ _ hl), hd⟩, k vs s' N V⟩)
theorem base_plain {e : IE} {x : Str} {env : Env} (h : plainBase e = true) : attributeBase e.emb x env (eval e.emb env) = eval e.emb env := by
  cases e <;> try rfl
  case cal g as p =>
    cases as with
    | nil => cases h
    | cons y ys =>
      cases g <;> try rfl
      rename_i k
      show attributeBase (.Call (hxOf k).emb _ [] p) x env _ = _
      cases hxOf k <;> rfl
  case hol k => cases h
theorem att_arm {e : IE} {x : Str} {p : Pos} {env : Env} {A : Around} (h : plainBase e = true) {Q : Value → Shared → Prop} (k : wpAny gM A (eval e.emb env) (fun o s₁ => wpAny gM A (getAttr o x true) Q E s₁) E s) :
    wpAny gM A (eval (.Attribute e.emb x p) env) Q E s := by
  rw [arm_eval_Attribute, base_plain h]
  exact wpAny_bind (wpAny_mono k (fun o s₁ h₁ => wpAny_bind (wpAny_standAt (wpAny_bind (wpAny_holding (wpAny_mono h₁ (fun r s₂ h₂ => wpAny_bind (wpAny_letTemporaryGo (wpAny_pure h₂))) fun _ _ y => y))))) fun _ _ y => y)
theorem embs_len (es : List IE) : (embs es).length = es.length := by
  induction es with
  | nil => rfl
  | cons x es ih => exact congrArg Nat.succ ih
theorem few_ok {es : List IE} {env : Env} {p : Pos} (h : Nat.blt es.length 30 = true) : methodCallForm ((embs es).length + ([] : List Keyword).length) (backTo p (starEach (embs es) env)) (backToKw p (keywordEach [] env)) = true := by
  unfold methodCallForm
  have h1 : ((backTo p (starEach (embs es) env)).all (!·.1)) = true := by
    have := args_plain (pos := p) (env := env) es
    rw [List.all_eq_not_any_not, Bool.not_eq_true']
    simpa using this
  have h2 : es.length < 30 := Nat.le_of_ble_eq_true h
  rw [h1, embs_len]
  show (true && true && decide (es.length + 0 + 0 < 30)) = true
  exact decide_eq_true h2
theorem mca_gen {oe : Expr} {x : Str} {pa p : Pos} {es : List IE} {env : Env} {A : Around} (hb : attributeBase oe x env (eval oe env) = eval oe env) (hp : Nat.beq pa.endLine p.line = true) (hl : Nat.blt es.length 30 = true) {Q : Value → Shared → Prop}
    (k : wpAny gM A (eval oe env) (fun ov s₁ => wpAny gM A (getMethod ov x (do return (← importBound oe env).getD true)) (fun fx s₂ => wpAny gM A (callWith p fx.1 fx.2 (backTo p (starEach (embs es) env)) []) Q E s₂) E s₁) E s) :
    wpAny gM A (eval (.Call (.Attribute oe x pa) (embs es) [] p) env) Q E s := by
  rw [arm_eval_Call, hb]
  refine wpAny_bind (wpAny_mono k (fun ov s₁ h₁ => wpAny_bind (wpAny_standAt ?_)) fun _ _ y => y)
  unfold methodCall calleeOf methodCallPos
  rw [few_ok hl]
  have hp' : pa.endLine = p.line := Nat.eq_of_beq_eq_true hp
  simp only [if_true, Bool.not_true, Bool.false_or, hp', beq_self_eq_true]
  exact wpAny_bind (wpAny_holding (wpAny_mono h₁ (fun fx s₂ h₂ => wpAny_bind (wpAny_pure h₂)) fun _ _ y => y))
theorem mca_arm {o : IE} {x : Str} {pa p : Pos} {es : List IE} {env : Env} {A : Around} (hb : plainBase o = true) (hp : Nat.beq pa.endLine p.line = true) (hl : Nat.blt es.length 30 = true) {Q : Value → Shared → Prop}
    (k : wpAny gM A (eval o.emb env) (fun ov s₁ => wpAny gM A (getMethod ov x (do return (← importBound o.emb env).getD true)) (fun fx s₂ => wpAny gM A (callWith p fx.1 fx.2 (backTo p (starEach (embs es) env)) []) Q E s₂) E s₁) E s) :
    wpAny gM A (eval (.Call (.Attribute o.emb x pa) (embs es) [] p) env) Q E s := mca_gen (base_plain hb) hp hl k
theorem cal_arm {g : IE} {p : Pos} {es : List IE} {env : Env} {A : Around} (h : plainFn g = true) {Q : Value → Shared → Prop}
    (k : wpAny gM A (eval g.emb env) (fun fv s₁ => wpAny gM A (callWith p fv [] (backTo p (starEach (embs es) env)) []) Q E s₁) E s) :
    wpAny gM A (eval (.Call g.emb (embs es) [] p) env) Q E s := by
  cases g <;> first | (cases h; done) | exact wpAny_bind k
theorem blt_of (H : RecOK n r) {es : List IE} {i : String} {p : Pos} {ds : List PV} {first : List Value} {Q : Value → Shared → Prop} (e : evs r f es = some ds) (X : At n c f m s)
    (k : ∀ vs s', Next s s' → gVs s'.heap vs ds → wpAny gM c.A (call (.builtin i) (first ++ vs)) Q E s') :
    wpAny gM c.A (callWith p (.builtin i) first (backTo p (starEach (embs es) c.env)) []) Q E s :=
  callWith_builtin (args_plain es) (args_ok H e X k)
end
end Mine
namespace Mine
open PySem PySem.W PyProof.Rows PySem.Calls PySem.Spec PySem.SeqAt
section
variable {Γ : Cfg} {n : Nat} {r : Rec} {c : Cx} {m : Str → Option Value} {s : Shared} {E : Value → Shared → Prop} {f : Fe}
theorem callv_ok (C : CfgOK Γ) (H : RecOK n r) {fv : Value} {g d : PV} {es : List IE} {ds : List PV} {p : Pos} {Q : Value → Shared → Prop} (V : gV s.heap fv g) (e : evs r f es = some ds) (hd : callv Γ n r g ds = some d) (X : At n c f m s) (h : Po s d Q) :
    wpAny gM c.A (callWith p fv [] (backTo p (starEach (embs es) c.env)) []) Q E s := by
  cases g with
  | obj a =>
    cases (show fv = _ from V)
    refine isfn_of H (h := s.heap) (let ⟨o, fd, a, b⟩ := H.isf hd; ⟨o, fd, X.gd.kin _ _ a, b⟩) e X (fun _ _ e => e) fun vs s' N V' => ?_
    exact CaOK.at (H.ca hd) (X.next N) V' (h.of N)
  | blt i =>
    cases (show fv = _ from V)
    exact blt_of H e X fun vs s' N V' => C.blt hd X.S.room.u V' (h.of N)
  | spc k =>
    cases (show fv = _ from V)
    obtain ⟨h1, h2⟩ := cond_some hd
    refine isfn_of H (C.spo h2 X.gd.wf) e X (fun _ _ e => e) fun vs s' N V' => ?_
    have X' := X.next N
    exact C.spf h2 X'.place X'.gd (X.S.room.less (Nat.le_of_ble_eq_true h1)) V' (h.of N)
  | _ => cases hd
theorem cmp_at (C : CfgOK Γ) (X : At n c f m s) {op : CmpOp} {o o' : Value} {x y : PV} {b : Bool} {Q : Value → Shared → Prop} (va : gV s.heap o x) (vb : gV s.heap o' y) (e : cmpC Γ op x y = some b) (h : ∀ s', Next s s' → Q (.bool b) s') :
    wpAny gM c.A (compareOp op o o') Q E s := cmpC_ok C X.gd X.S.room.u40 va vb e h
theorem ex_step (C : CfgOK Γ) (H : RecOK n r) {e : IE} {d : PV} (hd : exS Γ n r f e = some d) : ExOK (n + 1) f e d := by
  intro c m s Q E X' h
  have X := X'.pred
  cases e with
  | con k p => cases some_inj hd; exact con_ok h
  | loc x p => obtain ⟨h1, h2⟩ := cond_some hd; exact loc_ok X h1 h2 h
  | glo x p => obtain ⟨h1, h2⟩ := cond_some hd; exact glo_ok C X h1 h2 h
  | tup es k p =>
    obtain ⟨h1, h2⟩ := cond_some hd
    obtain ⟨l, h3, h4⟩ := bind_some h2
    cases some_inj h4
    exact tup_ok H X h3 h1 h
  | lst es p =>
    obtain ⟨h1, h2⟩ := cond_some hd
    obtain ⟨l, h3, h4⟩ := bind_some h2
    cases some_inj h4
    exact lst_ok H X h3 h1 h
  | sub e i p =>
    obtain ⟨a, h1, h2⟩ := bind_some hd
    obtain ⟨b, h3, h4⟩ := bind_some h2
    refine Subscript_ (H.ex h1 X fun v s' N V => H.ex h3 (X.next N) fun v' s'' N' V' => ?_)
    have X2 := (X.next N).next N'
    have h' : Po s'' d Q := (h.of N).of N'
    have V := V.mono N'.KS
    cases a with
    | obj g => obtain ⟨l, h5, h6⟩ := bind_some h4; cases asStr_some h5; exact C.sget h6 (fun _ _ => sub_plain) X2.gd V V' h'
    | spc k => obtain ⟨l, h5, h6⟩ := bind_some h4; cases asStr_some h5; exact C.sget h6 (fun _ _ => sub_plain) X2.gd V V' h'
    | _ => exact subv_ok V V' h4 (fun _ _ => sub_plain) h'
  | slc e lo hi ps p =>
    obtain ⟨l, h1, h2⟩ := bind_some hd
    obtain ⟨a, h3, h4⟩ := bind_some h1
    obtain ⟨l', h5, h6⟩ := bind_some h2
    cases some_inj h6; cases asTup_some h4
    exact Subscript_ (H.ex h3 X fun v s' N V => slc_ok h5 V (h.of N))
  | cmp l op q p =>
    obtain ⟨a, h1, h2⟩ := bind_some hd
    obtain ⟨b, h3, h4⟩ := bind_some h2
    obtain ⟨x, h5, h6⟩ := bind_some h4
    cases some_inj h6
    refine wpAny_Compare1 (H.ex h1 X fun v s' N V => H.ex h3 (X.next N) fun v' s'' N' V' => ?_) (marks_off op q)
    exact cmp_at C ((X.next N).next N') (V.mono N'.KS) V' h5 fun s3 N3 => h _ _ ((N.trans N').trans N3) rfl
  | cm2 l o1 mm o2 q p =>
    obtain ⟨a, h1, h2⟩ := bind_some hd
    obtain ⟨b, h3, h4⟩ := bind_some h2
    obtain ⟨x, h5, h6⟩ := bind_some h4
    refine Compare_chain (H.ex h1 X fun v s' N V => chain_link (H.ex h3 (X.next N) fun v' s'' N' V' => ?_)) (marks_off o2 q)
    have X2 := (X.next N).next N'
    have h' : Po s'' d Q := (h.of N).of N'
    refine cmp_at C X2 (V.mono N'.KS) V' h5 fun s4 N4 => wpAny_truthy_bool ?_
    cases x with
    | true =>
      obtain ⟨z, h7, h8⟩ := bind_some h6
      obtain ⟨y, h9, h10⟩ := bind_some h8
      cases some_inj h10
      refine chain_last (H.ex h7 (X2.next N4) fun v3 s3 N3 V3 => ?_)
      exact cmp_at C ((X2.next N4).next N3) (V'.mono (N4.trans N3).KS) V3 h9 fun s5 N5 => h' _ _ ((N4.trans N3).trans N5) rfl
    | false => cases some_inj h6; exact h' _ _ N4 rfl
  | boo op es p =>
    cases es with
    | nil => cases hd
    | cons e es =>
      cases op with
      | And => exact booA_ok H hd X h
      | Or => exact booO_ok H hd X h
  | una op e p =>
    cases op with
    | Not =>
      obtain ⟨b, h1, h2⟩ := bind_some hd
      obtain ⟨x, h3, h4⟩ := bind_some h1
      cases some_inj h2
      exact wpAny_UnaryOp (ex_bool H h3 h4 X fun s' N => not_value (wpAny_truthy_bool (h _ _ N rfl)))
    | USub =>
      obtain ⟨b, h1, h2⟩ := bind_some hd
      obtain ⟨x, h3, h4⟩ := bind_some h1
      cases some_inj h2; cases asInt_some h4
      refine wpAny_UnaryOp (H.ex h3 X fun v s' N V => ?_)
      obtain ⟨t, rfl⟩ := V
      exact PySem.P.neg_int (h _ _ (N.trans (Next.toks _ _)) ⟨_, rfl⟩)
    | _ => cases hd
  | ite t b o p =>
    obtain ⟨x, h1, h2⟩ := bind_some hd
    refine wpAny_IfExp (H.tr h1 X fun s' N => ?_)
    cases x with
    | true => exact H.ex h2 (X.next N) (h.of N)
    | false => exact H.ex h2 (X.next N) (h.of N)
  | bin l op q p =>
    obtain ⟨a, h1, h2⟩ := bind_some hd
    obtain ⟨b, h3, h4⟩ := bind_some h2
    exact wpAny_BinOp (H.ex h1 X fun v s' N V => H.ex h3 (X.next N) fun v' s'' N' V' => binv_ok (V.mono N'.KS) V' h4 ((h.of N).of N'))
  | att e x p =>
    obtain ⟨h1, h2⟩ := cond_some hd
    obtain ⟨a, h3, h4⟩ := bind_some h2
    exact att_arm h1 (H.ex h3 X fun v s' N V => C.att h4 (X.next N).gd V (h.of N))
  | cal g as p =>
    obtain ⟨h1, h2⟩ := cond_some hd
    obtain ⟨gv, h3, h4⟩ := bind_some h2
    obtain ⟨vs, h5, h6⟩ := bind_some h4
    exact cal_arm h1 (H.ex h3 X fun v s' N V => callv_ok C H V h5 h6 (X.next N) (h.of N))
  | mca o x pa as p =>
    obtain ⟨h1, h2⟩ := cond_some hd
    obtain ⟨a, h3, h4⟩ := bind_some h2
    obtain ⟨vs, h5, h6⟩ := bind_some h4
    refine mca_arm (and_both h1).1 (and_both (and_both h1).2).1 (and_both (and_both h1).2).2 (H.ex h3 X fun v s' N V => ?_)
    have X1 := X.next N
    cases hg : Γ.met a x with
    | some g =>
      rw [hg] at h6
      refine C.met hg X1.gd V ?_
      refine isfn_of H (h := s'.heap) (let ⟨o, fd, a, b⟩ := H.isf h6; ⟨o, fd, X1.gd.kin _ _ a, b⟩) h5 X1 (fun _ _ e => e) fun ws s'' N' V' => ?_
      exact CaOK.at (H.ca h6) (X1.next N') ⟨v, ws, rfl, V.mono N'.KS, V'⟩ ((h.of N).of N')
    | none =>
      rw [hg] at h6
      obtain ⟨id, k1, k2⟩ := C.bmet h6
      exact k1 V (blt_of H h5 X1 fun ws s'' N' V' => k2 X.S.room.u (V.mono N'.KS) V' ((h.of N).of N'))
  | hol k =>
    obtain ⟨h1, h2⟩ := cond_some hd
    exact C.hol h2 (X.less (Nat.le_of_ble_eq_true h1)) h
theorem tr_whole (H : RecOK n r) {e : IE} {d : Bool} (he : ∀ env, isTrue e.emb env (eval e.emb env) = (do let v ← eval e.emb env; standAt e.emb.pos; holding [v] (truthy v))) (hd : (r.ex f e).bind asBool = some d) : TrOK (n + 1) f e d := by
  intro c m s Q E X h
  obtain ⟨x, h1, h2⟩ := bind_some hd
  exact wpAny_isTrue_value (ex_bool H h1 h2 X.pred fun s' N => wpAny_truthy_bool (h _ N)) (he _)
theorem tr_step (C : CfgOK Γ) (H : RecOK n r) {e : IE} {d : Bool} (hd : trS Γ r f e = some d) : TrOK (n + 1) f e d := by
  cases e with
  | una op x p =>
    cases op with
    | Not =>
      intro c m s Q E X h
      obtain ⟨b, h1, h2⟩ := bind_some hd
      cases some_inj h2
      exact wpAny_isTrue_Not (H.tr h1 X.pred h)
    | _ => exact tr_whole H (fun _ => rfl) hd
  | boo op es p =>
    intro c m s Q E X h
    cases op with
    | And => exact wpAny_isTrue_BoolOp (allA_ok H hd X.pred h)
    | Or => exact wpAny_isTrue_BoolOp (anyO_ok H hd X.pred h)
  | ite t b o p =>
    intro c m s Q E X' h
    have X := X'.pred
    obtain ⟨x, h1, h2⟩ := bind_some hd
    show wpAny gM c.A (do if ← isTrue t.emb c.env (eval t.emb c.env) then isTrue b.emb c.env (eval b.emb c.env) else isTrue o.emb c.env (eval o.emb c.env)) Q E s
    refine wpAny_bind (H.tr h1 X fun s' N => ?_)
    cases x with
    | true => exact H.tr h2 (X.next N) fun s'' N' => h _ (N.trans N')
    | false => exact H.tr h2 (X.next N) fun s'' N' => h _ (N.trans N')
  | cmp l op q p =>
    intro c m s Q E X' h
    have X := X'.pred
    obtain ⟨a, h1, h2⟩ := bind_some hd
    obtain ⟨b, h3, h4⟩ := bind_some h2
    refine wpAny_isTrue_Compare1 (H.ex h1 X fun v s' N V => H.ex h3 (X.next N) fun v' s'' N' V' => ?_) (marks_off op q)
    exact cmp_at C ((X.next N).next N') (V.mono N'.KS) V' h4 fun s3 N3 => wpAny_truthy_bool (h _ ((N.trans N').trans N3))
  | cm2 l o1 mm o2 q p =>
    intro c m s Q E X' h
    have X := X'.pred
    obtain ⟨a, h1, h2⟩ := bind_some hd
    obtain ⟨b, h3, h4⟩ := bind_some h2
    obtain ⟨x, h5, h6⟩ := bind_some h4
    refine isTrue_chain (H.ex h1 X fun v s' N V => test_link (H.ex h3 (X.next N) fun v' s'' N' V' => ?_)) (marks_off o2 q)
    have X2 := (X.next N).next N'
    refine cmp_at C X2 (V.mono N'.KS) V' h5 fun s4 N4 => wpAny_truthy_bool ?_
    cases x with
    | true =>
      obtain ⟨z, h7, h8⟩ := bind_some h6
      refine test_last (H.ex h7 (X2.next N4) fun v3 s3 N3 V3 => ?_)
      exact cmp_at C ((X2.next N4).next N3) (V'.mono (N4.trans N3).KS) V3 h8 fun s5 N5 => wpAny_truthy_bool (h _ ((((N.trans N').trans N4).trans N3).trans N5))
    | false => cases some_inj h6; exact h _ ((N.trans N').trans N4)
  | hol j =>
    refine tr_whole H (fun env => ?_) hd
    show isTrue (hxOf j).emb env (eval (hxOf j).emb env) = (do let v ← eval (hxOf j).emb env; standAt (hxOf j).emb.pos; holding [v] (truthy v))
    cases hxOf j <;> rfl
  | _ => exact tr_whole H (fun _ => rfl) hd
end
end Mine
namespace Mine
open PySem PySem.W PyProof.Rows PySem.Calls PySem.Spec PySem.SeqAt
section
variable {Γ : Cfg} {n : Nat} {r : Rec} {c : Cx} {m : Str → Option Value} {s : Shared} {E : Value → Shared → Prop} {f : Fe}
/-- a local is written -/
theorem put_ok (X : At n c f m s) {x : Nat} (hx : hasN x f.fi.locs = true) {v : Value} {d : PV} (V : gV s.heap v d) {Q : Unit → Shared → Prop}
    (h : ∀ s' m', NextL c.L s s' → At n c ⟨f.fi, (x, d) :: f.ρ⟩ m' s' → Q () s') : wpAny gM c.A (storeName c.env (nmOf x) v) Q E s := by
  refine wpAny_storeName_local (X.S.nms.loc x hx) X.F.ns (fun h' hn hs => ?_) (by show (c.cs.kind == .class || (c.cs.kind == .module && c.L != mainGlobals)) = false; rw [X.S.nms.kind]; rfl)
  have ks : KS s.heap h' := by
    intro b o q e
    refine (hs.2 b fun z => ?_).trans e
    obtain ⟨oL, es, ep, hL, hLd, _⟩ := X.F.ns
    obtain ⟨xs, nn, hq⟩ := q
    cases (show b = c.L from z)
    cases some_inj (e.symm.trans hL)
    cases hq.symm.trans hLd
  exact h _ _ ⟨fun b o ne e => (hs.2 b ne).trans e, ks, rfl, rfl, rfl⟩ ⟨X.S, X.F.set hn hs, (X.R.mono ks).put X.S.nms hx (V.mono ks)⟩
theorem no_swap (C : CfgOK Γ) {e : IE} (he : okA e = true) {t : Option Expr} {l : Nat} {env : Env} : swapsWith e.emb t l env = pure false := by
  cases e <;> try rfl
  rename_i k
  exact C.hsw (Nat.le_of_ble_eq_true he)
theorem unpack_two {v : Value} {x y : PV} (X : At n c f m s) (V : gV s.heap v (.tup [x, y])) {Q : List Value → Shared → Prop}
    (h : ∀ v1 v2 s', Next s s' → gV s'.heap v1 x → gV s'.heap v2 y → Q [v1, v2] s') : wpAny gM c.A (unpackItems v 2 none) Q E s := by
  obtain ⟨a, ⟨l⟩, rfl, ht, v1, w, hw, V1, v2, w', hw', V2, hn⟩ := V
  cases (show w' = [] from hn); cases hw'; cases (show l = _ from hw)
  refine unpackItems_tuple (items := #[v1, v2]) X.S.room.hand ht fun h' he => ?_
  have N : Next s { s with heap := h' } := ⟨fun b o e => he b o (Nat.ne_of_lt (Heap.lt_size e)) e, rfl, rfl, rfl⟩
  exact h _ _ _ N (V1.mono N.KS) (V2.mono N.KS)
theorem in_order2 {A : Around} {k1 k2 : Value → Sem Unit} {v1 v2 : Value} {Q : Unit → Shared → Prop} (h : wpAny gM A (k1 v1) (fun _ s' => wpAny gM A (k2 v2) Q E s') E s) : wpAny gM A (assignInOrder [k1, k2] [v1, v2]) Q E s := by
  show wpAny gM A (do holding [v2] (k1 v1); (do holding [] (k2 v2); pure ())) Q E s
  exact wpAny_bind (wpAny_holding (wpAny_mono h (fun _ s' h' => wpAny_bind (wpAny_holding (wpAny_mono h' (fun _ _ z => wpAny_pure z) fun _ _ z => z))) fun _ _ z => z))
noncomputable def isSt : Expr → Bool
  | .Starred .. => true
  | _ => false
noncomputable def nmF (env : Env) (l : Nat) : Expr → Option Str
  | .Name id pos => if (env.kindOf id == some .local && pos.line == l) = true then some id else none
  | _ => none
theorem swap_two {x y : Str} {k k' : Nat} {px py pt pv p : Pos} {g b : Expr} {as : List Expr} (hk : c.cs.kind = .function) (lx : c.env.kindOf x = some .local) (ly : c.env.kindOf y = some .local) (hl : px.line = py.line) (hne : (x == y) = false) (hne' : (y == x) = false)
    (hst : isSt b = false) :
    swappedStores [.Tuple [.Name x px, .Name y py] k pt] (.Tuple [.Call g as [] p, b] k' pv) c.env = pure (some [x, y]) := by
  have hbk : c.env.blockKind = .function := by
    show (if c.cs.kind.isAnnotationScope then ScopeKind.function else c.cs.kind) = .function
    rw [hk]; rfl
  have e : swappedStores [.Tuple [.Name x px, .Name y py] k pt] (.Tuple [.Call g as [] p, b] k' pv) c.env =
    (if (c.env.blockKind != .function) = true then pure none else
     if (isSt b || false) = true then pure none else
     (fun names : List Str => if (names.length != 2 || names.eraseDups.length != names.length) = true then pure none else pure (some names))
       (List.filterMap (nmF c.env px.line) [.Name x px, .Name y py])) := rfl
  have f1 : nmF c.env px.line (.Name x px) = some x := if_pos (by rw [lx, beq_self_eq_true px.line]; rfl)
  have f2 : nmF c.env px.line (.Name y py) = some y := if_pos (by rw [ly, hl, beq_self_eq_true py.line]; rfl)
  rw [e, if_neg (by rw [hbk]; decide), hst, if_neg (by decide), List.filterMap_cons_some f1, List.filterMap_cons_some f2]
  have hd : [x, y].eraseDups = [x, y] := by
    show List.eraseDupsBy.loop (· == ·) [x, y] [] = _
    show (match (y == x) || false with | true => _ | false => List.eraseDupsBy.loop (· == ·) [] [y, x]) = _
    rw [hne']; rfl
  show (if ([x, y].length != 2 || [x, y].eraseDups.length != [x, y].length) = true then _ else _) = _
  rw [hd]; rfl
theorem isCal_of {e : IE} (h : isCal e = true) : ∃ g as p, e.emb = .Call g as [] p := by
  cases e <;> first | (cases h; done) | exact ⟨_, _, _, rfl⟩
theorem calH_star {e : IE} (h : isCalH e = true) : isSt e.emb = false := by
  cases e <;> first | (cases h; done) | rfl | skip
  rename_i k
  show isSt (hxOf k).emb = false
  cases hxOf k <;> rfl
theorem fold_plain {e : IE} {env : Env} {x : Value} : foldedSetIterable e.emb env x = pure x := by
  cases e <;> try rfl
  rename_i k
  show foldedSetIterable (hxOf k).emb env x = pure x
  cases hxOf k <;> rfl
theorem for_none {A : Around} {t : Expr} {it : Expr} {b : List Stmt} {p : Pos} {env : Env} {Q : Flow → Shared → Prop} (hh : A.handled = none) (hs : ∀ x, foldedSetIterable it env x = pure x) {d : PV} (hd : emptyV d = true)
    (h : wpAny gM A (eval it env) (fun v s' => gV s'.heap v d ∧ ∀ h', s'.heap.StaysIn h' → Q .next { s' with heap := h' }) E s) : wpAny gM A (exec (.For t it b [] p) env) Q E s := by
  refine wpAny_For (wpAny_mono h (fun v s' h1 => ?_) fun _ _ z => z) hs
  obtain ⟨V, h2⟩ := h1
  cases d with
  | tup l =>
    cases l with
    | cons => cases hd
    | nil =>
      obtain ⟨x, ⟨vs⟩, rfl, ht, hv⟩ := V
      cases (show vs = [] from hv)
      refine wpAny_pyIter_tuple ht ?_
      refine codeAny_forLoop_any (fun _ s₂ => s₂ = { s' with heap := s'.heap.push { cls := .type "tuple_iterator", data := .fields #[.ref x, .int 0 0] } }) (fun _ s₂ e => ?_) 0 rfl
      subst e
      refine wpAny_pyNext_tuple_end (items := #[]) hh ⟨_, Heap.get?_push_size _ rfl, rfl, rfl⟩ (ht.push _) rfl fun h' he => wpAny_execs_nil ?_
      exact h2 h' fun b o e => he b o (Nat.ne_of_lt (Heap.lt_size e)) (Heap.get?_push_of_some _ e)
  | lst l =>
    cases l with
    | cons => cases hd
    | nil =>
      obtain ⟨x, ⟨vs⟩, rfl, ht, hv⟩ := V
      cases (show vs = [] from hv)
      refine wpAny_pyIter_list ht ?_
      refine codeAny_forLoop_any (fun _ s₂ => s₂ = { s' with heap := s'.heap.push { cls := .type "list_iterator", data := .fields #[.ref x, .int 0 0] } }) (fun _ s₂ e => ?_) 0 rfl
      subst e
      refine wpAny_pyNext_list_end (items := #[]) hh ⟨_, Heap.get?_push_size _ rfl, rfl, rfl⟩ (ht.push _) rfl fun h' he => wpAny_execs_nil ?_
      exact h2 h' fun b o e => he b o (Nat.ne_of_lt (Heap.lt_size e)) (Heap.get?_push_of_some _ e)
  | _ => cases hd
theorem SPost.go {fi : FI} {s s' : Shared} {o : SO} {Q : Flow → Shared → Prop} (N : NextL c.L s s') (P : SPost c E fi s Q o) : SPost c E fi s' Q o := by
  cases o with
  | nxt ρ => exact fun m s'' N' F R => P m s'' (N.trans N') F R
  | ret d => exact fun v m s'' N' F V => P v m s'' (N.trans N') F V
  | hit ρ st => exact fun m s'' N' F R => P m s'' (N.trans N') F R
/-- a while of a few turns -/
theorem wloop_ok (H : RecOK n r) {t : IE} {b : List IS} {fi : FI} (k : Nat) : ∀ {ρ ρ' : List (Nat × PV)} {m : Str → Option Value} {s : Shared} {Q : Flow → Shared → Prop}, wloop r t b fi k ρ = some ρ' → At n c ⟨fi, ρ⟩ m s →
    (∀ m' s', NextL c.L s s' → At n c ⟨fi, ρ'⟩ m' s' → Q .next s') → WhlRest PRG gu.w c.A (fun _ _ => False) c.env t.emb (embS b) [] Q k s := by
  induction k with
  | zero => intro ρ ρ' m s Q e; cases e
  | succ k ih =>
    intro ρ ρ' m s Q e X h
    obtain ⟨x, h1, h2⟩ := bind_some e
    refine whl_turn PassesOwn.never (H.tr h1 X fun s' N => ?_)
    cases x with
    | false => cases some_inj h2; exact WhlIf.no rfl (wpAny_execs_nil (h m s' (NextL.of N) (X.next N)))
    | true =>
      obtain ⟨o, h3, h4⟩ := bind_some h2
      obtain ⟨ρ1, h5, h6⟩ := bind_some h4
      cases o with
      | nxt ρ2 =>
        cases some_inj h5
        exact WhlIf.yes rfl (H.st h3 (X.next N) fun m2 s2 N2 F2 R2 => ih h6 ⟨X.S, F2, R2⟩ fun m3 s3 N3 X3 => h m3 s3 (((NextL.of N).trans N2).trans N3) X3)
      | _ => cases h5
theorem one_ok (C : CfgOK Γ) (H : RecOK n r) {st : IS} {o : SO} (hd : oneS r f st = some o) {Q : Flow → Shared → Prop} (X : At n c f m s) (P : SPost c E f.fi s Q o) : wpAny gM c.A (exec st.emb c.env) Q E s := by
  cases st with
  | ret e p =>
    obtain ⟨d, h1, h2⟩ := bind_some hd
    cases some_inj h2
    exact wpAny_Return_some (H.ex h1 X fun v s' N V => P v m s' (NextL.of N) (X.next N).F V)
  | iff t b e p =>
    obtain ⟨x, h1, h2⟩ := bind_some hd
    refine wpAny_If (H.tr h1 X fun s' N => ?_)
    cases x with
    | true => exact H.st h2 (X.next N) (P.go (NextL.of N))
    | false => exact H.st h2 (X.next N) (P.go (NextL.of N))
  | asg x px e p =>
    obtain ⟨h1, h2⟩ := cond_some hd
    obtain ⟨d, h3, h4⟩ := bind_some h2
    cases some_inj h4
    exact wpAny_Assign_Name (H.ex h3 X fun v s' N V => put_ok (X.next N) (and_both h1).1 V fun s2 m2 N2 X2 => P m2 s2 ((NextL.of N).trans N2) X2.F X2.R) (no_swap C (and_both h1).2)
  | unp x y px py kk pt e p =>
    obtain ⟨h1, h2⟩ := cond_some hd
    obtain ⟨l, h3, h4⟩ := bind_some h2
    obtain ⟨d, h5, h6⟩ := bind_some h3
    obtain ⟨q, h7, h8⟩ := bind_some h4
    cases some_inj h8; cases asTup_some h6
    have hl : l = [q.1, q.2] := by
      cases l with
      | nil => cases h7
      | cons a l => cases l with
        | nil => cases h7
        | cons b l => cases l with
          | nil => cases some_inj h7; rfl
          | cons => cases h7
    subst hl
    obtain ⟨g1, as1, p1, he⟩ := isCal_of (and_both h1).1
    refine Assign_Tuple (H.ex h5 X fun v s' N V => ?_) (by show swapsWithSole _ e.emb _ _ = _; rw [he]; rfl) (by show swappedStores _ e.emb _ = _; rw [he]; rfl)
    rw [assign_Tuple]
    refine wpAny_bind (wpAny_standAt ?_)
    unfold unpack
    refine wpAny_bind (wpAny_holding (unpack_two (X.next N) V fun v1 v2 s2 N2 V1 V2 => ?_))
    have X2 := (X.next N).next N2
    refine in_order2 (assign_Name (put_ok X2 (and_both (and_both h1).2).1 V1 fun s3 m3 N3 X3 => assign_Name (put_ok X3 (and_both (and_both h1).2).2 (V2.mono N3.ks) fun s4 m4 N4 X4 => ?_)))
    exact P m4 s4 (((NextL.of (N.trans N2)).trans N3).trans N4) X4.F X4.R
  | swp x y px py kk pt a b k' pv p =>
    obtain ⟨h1, h2⟩ := cond_some hd
    obtain ⟨d1, h3, h4⟩ := bind_some h2
    obtain ⟨d2, h5, h6⟩ := bind_some h4
    cases some_inj h6
    obtain ⟨g1, as1, p1, he⟩ := isCal_of (and_both (and_both h1).1).1
    have h7 := (and_both (and_both h1).1).2
    have h8 := (and_both (and_both h7).2)
    have hx := (and_both (and_both h1).2).1
    have hy := (and_both (and_both h1).2).2
    have hne : nmOf x ≠ nmOf y := fun z => Nat.ne_of_beq_eq_false (by simpa using h8.2) (X.S.nms.inj x y hx hy z)
    have hev : evs r f [a, b] = some [d1, d2] := by show (r.ex f a).bind _ = _; rw [h3]; show ((r.ex f b).bind _).bind _ = _; rw [h5]; rfl
    refine Assign_Tuple_swapped (names := [nmOf x, nmOf y]) ?_ rfl (by
      show swappedStores _ (.Tuple [a.emb, b.emb] k' pv) _ = _
      rw [he]
      exact swap_two X.S.nms.kind (X.S.nms.loc x hx) (X.S.nms.loc y hy) (Nat.eq_of_beq_eq_true h8.1) (beq_false_of_ne hne) (beq_false_of_ne hne.symm) (calH_star (and_both h7).1))
    refine tup_ok (p := pv) (k := k') H X hev rfl fun v s' N V => ?_
    refine unpack_two (X.next N) V fun v1 v2 s2 N2 V1 V2 => ?_
    have X2 := (X.next N).next N2
    refine in_order2 (bindName_ (put_ok X2 hy V2 fun s3 m3 N3 X3 => bindName_ (put_ok X3 hx (V1.mono N3.ks) fun s4 m4 N4 X4 => ?_)))
    exact P m4 s4 (((NextL.of (N.trans N2)).trans N3).trans N4) X4.F X4.R
  | whl t b p =>
    obtain ⟨ρ, h1, h2⟩ := bind_some hd
    cases some_inj h2
    exact wpAny_mono (E := fun _ _ => False) (whl_start 3 (wloop_ok H 3 h1 X fun m2 s2 N2 X2 => P m2 s2 N2 X2.F X2.R)) (fun _ _ z => z) fun _ _ z => z.elim
  | fr0 t e b p =>
    obtain ⟨d, h1, h2⟩ := bind_some hd
    obtain ⟨h3, h4⟩ := cond_some h2
    cases some_inj h4
    refine for_none X.S.room.hand (fun x => fold_plain) h3 (H.ex h1 X fun v s' N V => ⟨V, fun h' hk => ?_⟩)
    have N2 : Next s { s' with heap := h' } := N.trans ⟨hk, rfl, rfl, rfl⟩
    exact P m _ (NextL.of N2) (X.next N2).F (X.next N2).R
  | raw st =>
    cases some_inj hd
    exact wpAny_mono (P m s (NextL.of (Next.refl s)) X.F X.R) (fun f s3 h3 => by cases f <;> first | exact h3.elim | exact h3) fun _ _ z => z
theorem st_step (C : CfgOK Γ) (H : RecOK n r) {ss : List IS} {o : SO} (hd : stS r f ss = some o) : StOK (n + 1) f ss o := by
  intro c m s Q E X' P
  have X := X'.pred
  cases ss with
  | nil => cases some_inj hd; exact wpAny_execs_nil (P m s (NextL.of (Next.refl s)) X.F X.R)
  | cons st rest =>
    obtain ⟨o1, h1, h2⟩ := bind_some hd
    refine wpAny_execs_cons (one_ok C H h1 X ?_)
    cases o1 with
    | nxt ρ => exact fun m2 s2 N2 F2 R2 => H.st (f := ⟨f.fi, ρ⟩) h2 ⟨X.S, F2, R2⟩ (P.go N2)
    | ret d => cases some_inj h2; exact fun v m2 s2 N2 F2 V2 => P v m2 s2 N2 F2 V2
    | hit ρ st => cases some_inj h2; exact fun m2 s2 N2 F2 R2 => wpAny_mono (P m2 s2 N2 F2 R2) (fun f s3 h3 => by cases f <;> first | exact h3.elim | exact h3) fun _ _ z => z
theorem Place.in {A : Around} (P : Place A s.heap) {cn : Str} {cs : Scope} {g : Addr} {cdv : Value} : ∃ A₀ base outer, Below A₀ base outer s.heap ∧ (A.deeper (envOf cn cs s.heap.objs.size g cdv)).frames = some (envOf cn cs s.heap.objs.size g cdv :: outer) ∧ gWF (hideAll s.heap (outer.filterMap (·.frame))) ∧ Dicts outer s.heap := by
  obtain ⟨A₀, base, outer, m, c, h1, h2, h3, F, _, _, hw, hdc⟩ := P
  have b := h1.push (name := c.cn) (scope := c.cs) (a := c.a) (cd := c.ccd) F h3
  exact ⟨A, base, _, ⟨h2, b.stays, b.frames⟩, Around.frames_deeper h2, hw, hdc.push F⟩
/-- what a body leaves, as the caller sees it -/
noncomputable abbrev OutQ (Q : Value → Shared → Prop) : Flow → Shared → Prop := fun fl s' => Q (match fl with | .ret v => v | _ => .none) s'
noncomputable abbrev OutE (c : Cx) (E : Value → Shared → Prop) : Value → Shared → Prop := fun e s' => wpAny gM c.A (leaving c.env e) (fun _ s'' => E e s'') (fun e' s'' => E e' s'') s'
/-- a call of a function of the written part: its body within its frame -/
theorem enter_ok {A : Around} {g : Addr} {o : Obj} {fd : FuncData} (D : FnD g o fd) {body : List Stmt} (hb : fd.body = .stmts body) {fi : FI} (Nm : Nms fd.scope fi) {vs : List Value} {binds : List (Str × Value)} (P : Place A s.heap) (G : Gd s.heap) (R : Room (n + 1) A)
    (hbind : BindsTo s fd ⟨vs, []⟩ binds) (hbl : ∀ y ∈ binds, fd.scope.names.lookup y.1 = some .local) {Q : Value → Shared → Prop}
    (h : ∀ (c : Cx) (s₁ : Shared), Site n c fi → c.Fr s₁.heap (fun y => binds.reverse.lookup y) → Next s s₁ → c.h₀ = s.heap → c.A = A.deeper c.env → wpAny gM c.A (execs body c.env) (OutQ Q) (OutE c E) s₁) :
    wpAny gM A (call (.ref g) vs) Q E s := by
  refine wpAny_call (codeAny_call_def (fd := fd) (body := body) (binds := binds) R.now (G.kin _ _ D.at_) D.data G.top.nolimit (codeRec_of G.kin D.code) hb hbind D.cell hbl (fun h₁ hns hk₁ => ?_) D.co D.gen D.kind)
  rw [D.env]
  exact h ⟨A.deeper (envOf fd.qualname fd.scope s.heap.objs.size g fd.code), fd.qualname, fd.scope, s.heap.objs.size, g, fd.code, s.heap⟩ _ ⟨G, Nm, R.deeper, Place.in P⟩ ⟨hns, hk₁, Nat.le_refl _⟩ ⟨hk₁, rfl, rfl, rfl⟩ rfl rfl
theorem back {s₁ s' : Shared} {m' : Str → Option Value} (hc : c.h₀ = s.heap) (N : Next s s₁) (N' : NextL c.L s₁ s') (F : c.Fr s'.heap m') : Next s s' :=
  ⟨fun b o e => F.keep b o (by rw [hc]; exact e), N'.gens.trans N.gens, N'.drawn.trans N.drawn, N'.os.trans N.os⟩
theorem ca_step (C : CfgOK Γ) (H : RecOK n r) {g : Addr} {ds : List PV} {d : PV} (hd : caS Γ n r g ds = some d) : CaOK (n + 1) g ds d := by
  unfold caS at hd
  cases hp : Γ.prim n g ds with
  | some d' => rw [hp] at hd; cases some_inj hd; exact (C.prim hp).1
  | none =>
    rw [hp] at hd
    obtain ⟨q, h1, h2⟩ := bind_some hd
    obtain ⟨o, h3, h4⟩ := bind_some h2
    intro A s vs Q E P G R V h
    obtain ⟨ob, fd, D, hb, Nm, hB⟩ := C.fn h1
    obtain ⟨binds, hbind, hbl, hR⟩ := hB G.kin V
    refine enter_ok D hb Nm P G R hbind hbl fun c s₁ S F N hc _ => H.st h3 ⟨S, F, hR.mono N.KS⟩ ?_
    cases o with
    | ret d' => cases some_inj h4; exact fun v m' s' N' F' V' => h _ _ (back hc N N' F') V'
    | nxt ρ => cases some_inj h4; exact fun m' s' N' F' R' => h _ _ (back hc N N' F') rfl
    | hit ρ st => cases h4
theorem fn_here (C : CfgOK Γ) {g : Addr} {ds : List PV} {d : PV} (hd : caS Γ n r g ds = some d) : ∃ o fd, gu.K.lookup g = some o ∧ o.data = .func fd := by
  unfold caS at hd
  cases hp : Γ.prim n g ds with
  | some d' => exact (C.prim hp).2
  | none =>
    rw [hp] at hd
    obtain ⟨q, h1, h2⟩ := bind_some hd
    obtain ⟨o, fd, D, _⟩ := C.fn h1
    exact ⟨o, fd, D.at_, D.data⟩
theorem ev_ok (C : CfgOK Γ) (n : Nat) : RecOK n (ev Γ n) := by
  induction n with
  | zero => exact ⟨fun h => (nomatch h), fun h => (nomatch h), fun h => (nomatch h), fun h => (nomatch h), fun h => (nomatch h)⟩
  | succ n ih => exact ⟨fun h => ex_step C ih h, fun h => tr_step C ih h, fun h => st_step C ih h, fun h => ca_step C ih h, fun h => fn_here C h⟩
end
end Mine
namespace Mine
open PySem PySem.W PyProof.Rows PySem.Calls PySem.Spec
-- the special objects
section
variable {h h' : Heap}
theorem AttrAt.at {x C : Addr} {nm : Str} {v : Option Value} (I : AttrAt h x C nm v) : ∃ ox od, W.InstAt h x ox C (some od) ∧ lookIn nm od = some v := let ⟨dx, od, a, b, c⟩ := I; ⟨_, od, ⟨a, rfl, rfl, b⟩, c⟩
theorem DictIs.mapOf {d : Addr} {kvs : List (Str × Value)} (D : DictIs h d kvs) : h.MapOf (PySem.strKind PRG gu.w) d (valueAt kvs) := let ⟨o, a, b, c⟩ := D; (Heap.dictOf_iff.mpr ⟨o, a, b⟩).mapOf
theorem DictIs.top {d : Addr} {kvs : List (Str × Value)} (D : DictIs h d kvs) : (d == sysModules) = false := let ⟨o, a, b, c⟩ := D; c
end

-- what is known of the written part
theorem AllL.mem {α : Type} {P : α → Prop} {l : List α} (h : AllL P l) {x : α} (hx : x ∈ l) : P x := by
  induction hx with
  | head => exact h.1
  | tail _ _ ih => exact ih h.2
theorem look2_mem {β : Type} {k x : Nat} {l : List (Nat × Nat × β)} {d : β} : look2 k x l = some d → (k, x, d) ∈ l := by
  induction l with
  | nil => exact fun h => nomatch h
  | cons e l ih =>
    intro h
    rcases cond_or h with ⟨q, h'⟩ | ⟨q, h'⟩
    · rw [Nat.eq_of_beq_eq_true (and_both q).1, Nat.eq_of_beq_eq_true (and_both q).2, ← some_inj h']
      exact .head _
    · exact .tail _ (ih h')
theorem lkS_mem {β : Type} {x : List Nat} {l : List (List Nat × β)} {d : β} : lkS x l = some d → (x, d) ∈ l := by
  induction l with
  | nil => exact fun h => nomatch h
  | cons e l ih =>
    intro h
    rcases cond_or h with ⟨q, h'⟩ | ⟨q, h'⟩
    · rw [eqN_iff] at q
      rw [of_decide_eq_true q, ← some_inj h']
      exact .head _
    · exact .tail _ (ih h')
theorem lk_mem {x : Nat} {l : List (Nat × PV)} {d : PV} : lk x l = some d → (x, d) ∈ l := by
  induction l with
  | nil => exact fun h => nomatch h
  | cons e l ih =>
    intro h
    rcases cond_or h with ⟨q, h'⟩ | ⟨q, h'⟩
    · rw [Nat.eq_of_beq_eq_true q, ← some_inj h']
      exact .head _
    · exact .tail _ (ih h')
theorem fnRow_mem {g : Nat} {l : List FnRow} {r : FnRow} : fnRow g l = some r → r ∈ l ∧ g = r.g := by
  induction l with
  | nil => exact fun h => nomatch h
  | cons e l ih =>
    intro h
    rcases cond_or h with ⟨q, h⟩ | ⟨q, h⟩
    · cases some_inj h; exact ⟨.head _, Nat.eq_of_beq_eq_true q⟩
    · exact ⟨.tail _ (ih h).1, (ih h).2⟩
theorem lkT_mem {β : Type} {t : String} {l : List (String × β)} {d : β} : lkT t l = some d → (t, d) ∈ l := by
  induction l with
  | nil => exact fun h => nomatch h
  | cons e l ih =>
    intro h
    rcases cond_or h with ⟨q, h'⟩ | ⟨q, h'⟩
    · rw [of_decide_eq_true q, ← some_inj h']
      exact .head _
    · exact .tail _ (ih h')
theorem eqN_eq {a b : List Nat} (h : eqN a b = true) : a = b := by rw [eqN_iff] at h; exact of_decide_eq_true h
theorem mem_of_hasN {x : Nat} {l : List Nat} : hasN x l = true → x ∈ l := by
  induction l with
  | nil => exact fun h => nomatch h
  | cons y l ih =>
    intro h
    cases q : Nat.beq x y with
    | true => rw [Nat.eq_of_beq_eq_true q]; exact .head _
    | false => exact .tail _ (ih (by rw [hasN, q] at h; exact h))
theorem nms_of {cs : Scope} {fi : FI} {ps : List Nat} {ex : List (Nat × Bool)} (hk : cs.kind = .function) (h : chkFn cs.names fi ps ex = true) : Nms cs fi ∧ (∀ x ∈ ps, hasN x fi.locs = true) ∧ (∀ x ∈ ex, hasN x.1 fi.locs = true) := by
  obtain ⟨c1, h⟩ := and_both h
  obtain ⟨c2, h⟩ := and_both h
  obtain ⟨c3, h⟩ := and_both h
  obtain ⟨c4, h⟩ := and_both h
  obtain ⟨c5, h⟩ := and_both h
  obtain ⟨c6, c7⟩ := and_both h
  have neg : ∀ {b : Bool}, (!b) = true → b = false := by decide
  refine ⟨⟨hk, fun x h => eq_of_beq (List.all_eq_true.mp c1 x (mem_of_hasN h)), fun x h => eq_of_beq (List.all_eq_true.mp c2 x (mem_of_hasN h)), fun x h => ?_, fun x y hx hy q => ?_⟩, List.all_eq_true.mp c6, List.all_eq_true.mp c7⟩
  · exact h.elim (fun h => neg (List.all_eq_true.mp c3 x (mem_of_hasN h))) fun h => neg (List.all_eq_true.mp c4 x (mem_of_hasN h))
  · have z := List.all_eq_true.mp (List.all_eq_true.mp c5 x (mem_of_hasN hx)) y (mem_of_hasN hy)
    cases e : Nat.beq x y with
    | true => exact Nat.eq_of_beq_eq_true e
    | false => rw [e, q, beq_self_eq_true] at z; cases z
theorem FnKU.nms {g : Addr} {fi : FI} {ps : List Nat} {ex : List (Nat × Bool)} {body : List Stmt} (F : FnK g fi ps ex body) : Nms (fdAt g).scope fi ∧ (∀ x ∈ ps, hasN x fi.locs = true) ∧ (∀ x ∈ ex, hasN x.1 fi.locs = true) := nms_of F.kind F.names
end Mine
namespace Mine
open PySem PySem.W PyProof.Rows PySem.Calls PySem.Spec
section
variable (Z : KF) (hW : ∀ {h}, gWF h → AdAt h gD)
include Z
theorem fns_at {g : Addr} {r : FnRow} (h : fnRow g fnTab = some r) : FnK g r.fi r.ps r.ex (embS r.body) := by
  obtain ⟨h1, rfl⟩ := fnRow_mem h
  exact Z.fns.mem h1
omit Z in
theorem zip_rel {fi : FI} {h : Heap} (inj : ∀ x y, hasN x fi.locs = true → hasN y fi.locs = true → nmOf x = nmOf y → x = y) {ps : List Nat} : ∀ {vs : List Value} {ds : List PV}, (∀ x ∈ ps, hasN x fi.locs = true) → gVs h vs ds → ps.length = ds.length →
    ∃ prs : List (Nat × Value × PV), (ps.map nmOf).zip vs = prs.map (fun t => (nmOf t.1, t.2.1)) ∧ ps.zip ds = prs.map (fun t => (t.1, t.2.2)) ∧ ∀ t ∈ prs, hasN t.1 fi.locs = true ∧ gV h t.2.1 t.2.2 := by
  induction ps with
  | nil => intro vs ds _ _ _; exact ⟨[], rfl, rfl, fun _ q => nomatch q⟩
  | cons x ps ih =>
    intro vs ds hp V hl
    cases ds with
    | nil => cases hl
    | cons d ds =>
      obtain ⟨v, ws, rfl, a, b⟩ := V
      obtain ⟨prs, e1, e2, e3⟩ := ih (fun y hy => hp y (.tail _ hy)) b (Nat.succ.inj hl)
      refine ⟨(x, v, d) :: prs, congrArg (List.cons _) e1, congrArg (List.cons _) e2, fun t ht => ?_⟩
      cases ht with
      | head => exact ⟨hp x (.head _), a⟩
      | tail _ ht => exact e3 t ht
omit Z in
theorem prs_rel {fi : FI} {h : Heap} (inj : ∀ x y, hasN x fi.locs = true → hasN y fi.locs = true → nmOf x = nmOf y → x = y) {prs : List (Nat × Value × PV)} (hp : ∀ t ∈ prs, hasN t.1 fi.locs = true ∧ gV h t.2.1 t.2.2) :
    LRel fi h (fun y => (prs.map (fun t => (nmOf t.1, t.2.1))).lookup y) (prs.map (fun t => (t.1, t.2.2))) := by
  induction prs with
  | nil => intro x d _ e; cases e
  | cons t prs ih =>
    intro x d hx e
    have ht := hp t (.head _)
    rcases cond_or e with ⟨q, e'⟩ | ⟨q, e'⟩
    · cases some_inj e'
      refine ⟨t.2.1, ?_, ht.2⟩
      show (match nmOf x == nmOf t.1 with | true => some t.2.1 | false => _) = _
      rw [Nat.eq_of_beq_eq_true q, beq_self_eq_true]
    · obtain ⟨v, h1, h2⟩ := ih (fun u hu => hp u (.tail _ hu)) x d hx e'
      refine ⟨v, ?_, h2⟩
      show (match nmOf x == nmOf t.1 with | true => some t.2.1 | false => _) = _
      rw [beq_false_of_ne fun z => Nat.ne_of_beq_eq_false q (inj _ _ hx ht.1 z)]
      exact h1
omit Z in
theorem fnk_binds {r : FnRow} (F : FnK r.g r.fi r.ps r.ex (embS r.body)) {ds : List PV} (hl : r.ps.length = ds.length) {s : Shared} {vs : List Value} (X : gu.K.In s.heap) (V : gVs s.heap vs ds) :
    ∃ binds, BindsTo s (fdAt r.g) ⟨vs, []⟩ binds ∧ (∀ y ∈ binds, (fdAt r.g).scope.names.lookup y.1 = some .local) ∧ LRel r.fi s.heap (fun y => binds.reverse.lookup y) (r.ρ ds) := by
  obtain ⟨N, hps, hex⟩ := F.nms
  obtain ⟨prs, e1, e2, e3⟩ := zip_rel N.inj hps V hl
  generalize hex0 : (r.ex.map fun x => ((x.1, .bool x.2, .bool x.2) : Nat × Value × PV)) = ex
  have hex' : ∀ t ∈ ex, hasN t.1 r.fi.locs = true ∧ gV s.heap t.2.1 t.2.2 := fun t ht => by
    rw [← hex0] at ht
    obtain ⟨x, hx, rfl⟩ := List.mem_map.mp ht
    exact ⟨hex x hx, rfl⟩
  have hall : ∀ t ∈ prs ++ ex, hasN t.1 r.fi.locs = true ∧ gV s.heap t.2.1 t.2.2 := fun t ht => (List.mem_append.mp ht).elim (e3 t) (hex' t)
  have b1 : (r.ps.map nmOf).zip vs ++ r.ex.map (fun x => (nmOf x.1, Value.bool x.2)) = (prs ++ ex).map (fun t => (nmOf t.1, t.2.1)) := by
    rw [List.map_append, e1, ← hex0, List.map_map]; rfl
  have b2 : r.ps.zip ds ++ r.ex.map (fun x => (x.1, PV.bool x.2)) = (prs ++ ex).map (fun t => (t.1, t.2.2)) := by
    rw [List.map_append, e2, ← hex0, List.map_map]; rfl
  refine ⟨_, F.binds X (V.length.trans hl.symm), fun y hy => ?_, ?_⟩
  · rw [b1] at hy
    obtain ⟨t, ht, rfl⟩ := List.mem_map.mp hy
    exact N.loc _ (hall t ht).1
  · show LRel r.fi s.heap _ (r.ps.zip ds ++ r.ex.map (fun x => (x.1, PV.bool x.2))).reverse
    rw [b1, b2, ← List.map_reverse, ← List.map_reverse]
    exact prs_rel N.inj fun t ht => hall t (List.mem_reverse.mp ht)
theorem g_fn {g : Addr} {ds : List PV} {q : Fe × List IS} (e : gFn g ds = some q) : ∃ o fd, FnD g o fd ∧ fd.body = .stmts (embS q.2) ∧ Nms fd.scope q.1.fi ∧
    ∀ {s : Shared} {vs : List Value}, gu.K.In s.heap → gVs s.heap vs ds → ∃ binds, BindsTo s fd ⟨vs, []⟩ binds ∧ (∀ y ∈ binds, fd.scope.names.lookup y.1 = some .local) ∧ LRel q.1.fi s.heap (fun y => binds.reverse.lookup y) q.1.ρ := by
  obtain ⟨r, h1, h2⟩ := bind_some e
  obtain ⟨h3, h4⟩ := cond_some h2
  cases some_inj h4
  have F := fns_at Z h1
  obtain ⟨o, D⟩ := F.D
  have hg := (fnRow_mem h1).2
  subst hg
  exact ⟨o, fdAt r.g, D, F.body, F.nms.1, fun X V => fnk_binds F (Nat.eq_of_beq_eq_true h3) X V⟩
theorem g_glob {x : Nat} {d : PV} (e : lk x gGlobs = some d) : ∃ v, (nsIn gu.K mainGlobals (nmOf x) = some (some v) ∨ (nsIn gu.K mainGlobals (nmOf x) = some none ∧ bootBuiltins (nmOf x) = some v ∧ nmOf x ≠ "__name__")) ∧ ∀ h, gu.K.In h → gV h v d := by
  obtain ⟨v, h1, h2⟩ := Z.glob.mem (lk_mem e)
  exact ⟨v, h1, fun h X => h2 X⟩
theorem sget_K {A : Around} {E Q : Value → Shared → Prop} {s : Shared} {g : Addr} {l : List Nat} {d : PV} {iv : Value} {value slice : Expr} {t : List (List Nat × PV)} (T : TabK g t) (e : lkS l t = some d) (hs : ∀ o iv, subscripted slice false o iv = operate [o, iv] (getItem o iv)) (G : Gd s.heap) (V : gV s.heap iv (.str l))
    (h : Po s d Q) : wpAny gM A (subscriptTail value slice (.ref g) iv) Q E s := by
  obtain ⟨⟨es, k, h1, h2⟩, h3⟩ := T
  obtain ⟨v, h4, h5⟩ := h3.mem (lkS_mem e)
  obtain ⟨t, rfl⟩ := V
  have hm := mapOf_K (prog := PRG) (w := gu.w) G.kin h1 h2
  exact tail_any hm.typeIs slot_dict_getitem.lookup (wpAny_getItem_of (strKind_is PRG gu.w (mkStr l) t) hm (find_K h1 h4) (h v _ (Next.toks s _) (h5 G.kin))) (hs _ _)
omit Z in
theorem sget_D {A : Around} {E Q : Value → Shared → Prop} {s : Shared} {g : Addr} {l : List Nat} {v iv : Value} {d : PV} {kvs : List (Str × Value)} {value slice : Expr} (hs : ∀ o iv, subscripted slice false o iv = operate [o, iv] (getItem o iv)) (V : gV s.heap iv (.str l))
    (D : DictIs s.heap g kvs) (hv : valueAt kvs (mkStr l) = some v) (W : VR gD s.heap v d) (h : Po s d Q) : wpAny gM A (subscriptTail value slice (.ref g) iv) Q E s := by
  obtain ⟨t, rfl⟩ := V
  have hm := D.mapOf
  exact tail_any hm.typeIs slot_dict_getitem.lookup (wpAny_getItem_of (strKind_is PRG gu.w (mkStr l) t) hm hv (h v _ (Next.toks s _) W)) (hs _ _)
theorem g_sgo {g : Nat} {l : List Nat} {d : PV} (e : gSgO g l = some d) {A : Around} {s : Shared} {iv : Value} {value slice : Expr} {Q E : Value → Shared → Prop} (hs : ∀ o iv, subscripted slice false o iv = operate [o, iv] (getItem o iv)) (G : Gd s.heap) (V : gV s.heap iv (.str l)) (h : Po s d Q) :
    wpAny gM A (subscriptTail value slice (.ref g) iv) Q E s := by
  rcases cond_or e with ⟨q, e1⟩ | ⟨q, e1⟩
  · cases Nat.eq_of_beq_eq_true q; exact sget_K Z Z.bits e1 hs G V h
  · obtain ⟨q, e2⟩ := cond_some e1
    cases Nat.eq_of_beq_eq_true q; exact sget_K Z Z.defs e2 hs G V h
theorem l_sget {a : PV} {l : List Nat} {d : PV} (e : gSgetL a l = some d) {A : Around} {s : Shared} {o iv : Value} {value slice : Expr} {Q E : Value → Shared → Prop} (hs : ∀ o iv, subscripted slice false o iv = operate [o, iv] (getItem o iv)) (G : Gd s.heap) (W : gV s.heap o a) (V : gV s.heap iv (.str l)) (h : Po s d Q) :
    wpAny gM A (subscriptTail value slice o iv) Q E s := by
  cases a with
  | obj g => cases (show o = _ from W); exact g_sgo Z e hs G V h
  | _ => cases e
include hW
theorem g_sget {a : PV} {l : List Nat} {d : PV} (e : gSget a l = some d) {A : Around} {s : Shared} {o iv : Value} {value slice : Expr} {Q E : Value → Shared → Prop} (hs : ∀ o iv, subscripted slice false o iv = operate [o, iv] (getItem o iv)) (G : Gd s.heap) (W : gV s.heap o a) (V : gV s.heap iv (.str l)) (h : Po s d Q) :
    wpAny gM A (subscriptTail value slice o iv) Q E s := by
  cases a with
  | obj g => cases (show o = _ from W); exact g_sgo Z e hs G V h
  | spc k =>
    cases (show o = _ from W)
    have I := hW G.wf
    obtain ⟨kvs, k1, k2, k3⟩ := I.named
    rcases cond_or e with ⟨q, e1⟩ | ⟨q, e1⟩
    · cases Nat.eq_of_beq_eq_true q
      rcases cond_or e1 with ⟨q, e2⟩ | ⟨q, e2⟩
      · cases some_inj e2; cases eqN_eq q; exact sget_D (d := .spc 3) hs V k1 k2 rfl h
      · obtain ⟨q, e3⟩ := cond_some e2
        cases some_inj e3; cases eqN_eq q; exact sget_D (d := .spc 4) hs V k1 k3 rfl h
    · obtain ⟨q, e2⟩ := cond_some e1
      cases some_inj e2; cases Nat.eq_of_beq_eq_true (and_both q).1; cases eqN_eq (and_both q).2
      exact sget_D (d := .spc 6) hs V I.readers (by unfold valueAt; rw [List.find?_cons_of_pos (by exact decide_eq_true rfl)]; rfl) rfl h
  | _ => cases e
theorem g_att {a : PV} {x : Nat} {d : PV} (e : gAtt a x = some d) {A : Around} {s : Shared} {v : Value} {Q E : Value → Shared → Prop} (G : Gd s.heap) (V : gV s.heap v a) (h : Po s d Q) : wpAny gM A (getAttr v (nmOf x) true) Q E s := by
  obtain ⟨k, e1, e2⟩ := bind_some e
  cases a with
  | spc k' =>
    cases some_inj e1
    cases (show v = _ from V)
    obtain ⟨h1, h2, at_, h3, h4⟩ := Z.att.mem (look2_mem e2)
    obtain ⟨u, I, hu⟩ := (hW G.wf).att e2
    obtain ⟨ox, od, I, hg⟩ := I.at
    have hv : handedIn u = true ∨ ∃ i, u = .builtin i := by cases u <;> first | exact .inl rfl | exact .inr ⟨_, rfl⟩
    rcases hv with hv | ⟨i, rfl⟩
    · exact get_value G.kin I (plainGet_of h1).1 (findObj_own h2 h3 h4 hg) hv (h _ _ (Next.toks s _) hu)
    · have hm := look2_mem e2
      simp only [attT, List.mem_cons, List.not_mem_nil, or_false, Prod.mk.injEq] at hm
      exfalso
      rcases hm with ⟨_, _, rfl⟩ | ⟨_, _, rfl⟩ | ⟨_, _, rfl⟩ | ⟨_, _, rfl⟩ | ⟨_, _, rfl⟩ <;> first
        | (obtain ⟨_, _, hu, _⟩ := hu; cases hu; done)
        | (cases (show Value.builtin i = _ from hu))
  | _ => cases e1
theorem g_met {a : PV} {x : Nat} {g : Addr} (e : gMet a x = some g) {A : Around} {s : Shared} {v : Value} {pl : Sem Bool} {Q : Value × List Value → Shared → Prop} {E : Value → Shared → Prop} (G : Gd s.heap) (V : gV s.heap v a) (h : Q (.ref g, [v]) s) : wpAny gM A (getMethod v (nmOf x) pl) Q E s := by
  obtain ⟨k, e1, e2⟩ := bind_some e
  cases a with
  | spc k' =>
    cases some_inj e1
    cases (show v = _ from V)
    obtain ⟨h1, h2, h3⟩ := Z.met.mem (look2_mem e2)
    obtain ⟨ox, od, I, hg⟩ := ((hW G.wf).met e2).at
    exact method_fn G.kin I (plainGet_of h1).1 (plainGet_of h1).2 h2 h3 (by show (lookIn _ _).map _ = _; rw [hg]; rfl) h
  | _ => cases e1
omit Z
theorem g_cin {k : Nat} {l : List Nat} {b : Bool} (e : gCin k l = some b) {A : Around} {s : Shared} {iv : Value} {Q E : Value → Shared → Prop} (G : Gd s.heap) (V : gV s.heap iv (.str l)) :
    ((∀ s', Next s s' → Q (.bool b) s') → wpAny gM A (compareOp .In iv (.ref (gD k))) Q E s) ∧ ((∀ s', Next s s' → Q (.bool !b) s') → wpAny gM A (compareOp .NotIn iv (.ref (gD k))) Q E s) := by
  obtain ⟨q, e1⟩ := cond_some e
  cases some_inj e1
  cases Nat.eq_of_beq_eq_true (and_both q).1
  obtain ⟨kvs, k1, k2, k3⟩ := (hW G.wf).named
  have key : (valueAt kvs (mkStr l)).isSome = true := by
    have q := (and_both q).2
    cases h : eqN l lMN with
    | true => rw [eqN_eq h, k2]; rfl
    | false => rw [h] at q; rw [eqN_eq (show eqN l lMS = true from q), k3]; rfl
  obtain ⟨t, rfl⟩ := V
  exact ⟨fun h => wpAny_in_of (strKind_is PRG gu.w (mkStr l) t) k1.top k1.mapOf (by rw [key]; exact h _ (Next.toks s _)), fun h => wpAny_notIn_of (strKind_is PRG gu.w (mkStr l) t) k1.top k1.mapOf (by rw [key]; exact h _ (Next.toks s _))⟩
end
end Mine
namespace Mine
open PySem PySem.W PyProof.Rows PySem.Calls PySem.Spec
theorem l1_some {l : List PV} {a : PV} (h : l1 l = some a) : l = [a] := by
  cases l with
  | nil => cases h
  | cons x l => cases l with
    | nil => cases h; rfl
    | cons => cases h
theorem pair2_some {l : List PV} {q : PV × PV} (h : pair2 l = some q) : l = [q.1, q.2] := by
  cases l with
  | nil => cases h
  | cons x l => cases l with
    | nil => cases h
    | cons y l => cases l with
      | nil => cases h; rfl
      | cons => cases h
theorem l3_some {l : List PV} {q : PV × PV × PV} (h : l3 l = some q) : l = [q.1, q.2.1, q.2.2] := by
  cases l with
  | nil => cases h
  | cons x l => cases l with
    | nil => cases h
    | cons y l => cases l with
      | nil => cases h
      | cons z l => cases l with
        | nil => cases h; rfl
        | cons => cases h
theorem l4_some {l : List PV} {q : PV × PV × PV × PV} (h : l4 l = some q) : l = [q.1, q.2.1, q.2.2.1, q.2.2.2] := by
  cases l with
  | nil => cases h
  | cons x l => cases l with
    | nil => cases h
    | cons y l => cases l with
      | nil => cases h
      | cons z l => cases l with
        | nil => cases h
        | cons u l => cases l with
          | nil => cases h; rfl
          | cons => cases h
theorem asTyp_some {d : PV} {b : String} (h : asTyp d = some b) : d = .typ b := by unfold asTyp at h; split at h <;> cases h; rfl
section
variable {A : Around} {E Q : Value → Shared → Prop} {s : Shared}
theorem sub_by_bool : isSubtype (.type "bytes") (.type "bool") = pure false := by rw [isSubtype_type]; kernel_rfl
theorem sub_by_int : isSubtype (.type "bytes") (.type "int") = pure false := by rw [isSubtype_type]; kernel_rfl
theorem sub_by_by : isSubtype (.type "bytes") (.type "bytes") = pure true := by rw [isSubtype_type]; kernel_rfl
theorem by_not {t : String} {b : Array UInt8} {u : Tok} (hne : (Value.type "bytes" == Value.type t) = false) (hm : typeOf (.type t) = pure (.type "type")) (hs : isSubtype (.type "bytes") (.type t) = pure false) (h : Q (.bool false) { s with toks := s.toks + 1 }) :
    wpAny gM A (call (.builtin "isinstance") [.bytes b u, .type t]) Q E s := by
  obtain ⟨hp, g, d, tk, os⟩ := s
  exact call_isinstance_of (isinstance_nested_false_bytes hne hm hs h) (fun e => by cases e)
theorem b_isi {v : Value} {a : PV} {t : String} {b : Bool} (V : gV s.heap v a) (e : isiV a t = some b) (h : ∀ s', Next s s' → Q (.bool b) s') : wpAny gM A (call (.builtin "isinstance") [v, .type t]) Q E s := by
  have h0 := h s (Next.refl s)
  have h1 := h _ (Next.toks s (s.toks + 1))
  cases a with
  | bool b' =>
    cases (show v = _ from V)
    have hm := lkT_mem e
    simp only [isiB, List.mem_cons, List.not_mem_nil, or_false, Prod.mk.injEq] at hm
    rcases hm with ⟨rfl, rfl⟩ | ⟨rfl, rfl⟩ | ⟨rfl, rfl⟩
    · exact IsiPair.bool_bool h0
    · exact IsiPair.bool_int h0
    · exact IsiPair.bool_bytes h1
  | int i =>
    obtain ⟨u, rfl⟩ := V
    have hm := lkT_mem e
    simp only [isiI, List.mem_cons, List.not_mem_nil, or_false, Prod.mk.injEq] at hm
    rcases hm with ⟨rfl, rfl⟩ | ⟨rfl, rfl⟩ | ⟨rfl, rfl⟩
    · exact IsiPair.int_bool h1
    · exact IsiPair.int_int h0
    · exact IsiPair.int_bytes h1
  | byt l =>
    obtain ⟨u, rfl⟩ := V
    have hm := lkT_mem e
    simp only [isiY, List.mem_cons, List.not_mem_nil, or_false, Prod.mk.injEq] at hm
    rcases hm with ⟨rfl, rfl⟩ | ⟨rfl, rfl⟩ | ⟨rfl, rfl⟩
    · exact by_not (by decide +kernel) F.isi_meta_bool sub_by_bool h1
    · exact by_not (by decide +kernel) F.isi_meta_int sub_by_int h1
    · exact call_isinstance_yes (Tx := "bytes") rfl F.isi_meta_bytes sub_by_by h0
  | _ => cases e
theorem g_blt {i : String} {ds : List PV} {d : PV} (e : gBlt i ds = some d) {vs : List Value} (hu : A.units + 80 < cLine) (V : gVs s.heap vs ds) (h : Po s d Q) : wpAny gM A (call (.builtin i) vs) Q E s := by
  rcases cond_or e with ⟨q, e1⟩ | ⟨_, e1⟩
  · cases of_decide_eq_true q
    obtain ⟨q, h1, h2⟩ := bind_some e1
    obtain ⟨t, h3, h4⟩ := bind_some h2
    obtain ⟨b, h5, h6⟩ := bind_some h4
    cases pair2_some h1; cases some_inj h6
    obtain ⟨v1, w, rfl, V1, v2, w', hw, V2, hn⟩ := V
    cases (show w' = [] from hn); cases hw
    have ht : q.2 = .typ t := asTyp_some h3
    rw [ht] at V2
    cases (show v2 = _ from V2)
    exact b_isi V1 h5 fun s' N => h _ _ N rfl
  rcases cond_or e1 with ⟨q, e2⟩ | ⟨_, e2⟩
  · cases of_decide_eq_true q
    obtain ⟨a, h1, h2⟩ := bind_some e2
    cases l1_some h1
    obtain ⟨v1, w, rfl, V1, hn⟩ := V
    cases (show w = [] from hn)
    cases a with
    | int i =>
      cases i with
      | ofNat i =>
        obtain ⟨h3, h4⟩ := cond_some h2
        cases some_inj h4
        obtain ⟨u, rfl⟩ := V1
        exact chr_of_range (Int.natCast_nonneg _) (Int.ofNat_le.mpr (Nat.le_of_ble_eq_true h3)) (h _ _ (Next.toks s _) ⟨_, rfl⟩)
      | negSucc => cases h2
    | _ => cases h2
  obtain ⟨q, e3⟩ := cond_some e2
  cases of_decide_eq_true q
  obtain ⟨a, h1, h2⟩ := bind_some e3
  obtain ⟨l, h3, h4⟩ := bind_some h2
  obtain ⟨h5, h6⟩ := cond_some h4
  cases l1_some h1; cases some_inj h6; cases asTup_some h3
  obtain ⟨v1, w, rfl, V1, hn⟩ := V
  cases (show w = [] from hn)
  obtain ⟨t, vs, rfl, ht, W⟩ := V1
  have hs := W.size
  refine len_tuple (items := vs) ht (by rw [hs]; exact Int.lt_of_le_of_lt (Int.ofNat_le.mpr (Nat.le_of_ble_eq_true h5)) (by decide)) (h _ _ ((Next.toks s _).trans (Next.toks _ _)) ⟨s.toks + 1, ?_⟩)
  rw [hs]; rfl
theorem enc0 (t u : Tok) : Gives (Builtin.«str.encode» ⟨[.str ⟨#[0]⟩ t, .str (Str.ofString "utf-8") u], []⟩) (.bytes #[0]) := .of_eq (by kernel_rfl)
theorem enc65 (t u : Tok) : Gives (Builtin.«str.encode» ⟨[.str ⟨#[65]⟩ t, .str (Str.ofString "utf-8") u], []⟩) (.bytes #[65]) := .of_eq (by kernel_rfl)
theorem enc127 (t u : Tok) : Gives (Builtin.«str.encode» ⟨[.str ⟨#[127]⟩ t, .str (Str.ofString "utf-8") u], []⟩) (.bytes #[127]) := .of_eq (by kernel_rfl)
theorem enc128 (t u : Tok) : Gives (Builtin.«str.encode» ⟨[.str ⟨#[128]⟩ t, .str (Str.ofString "utf-8") u], []⟩) (.bytes #[194, 128]) := .of_eq (by kernel_rfl)
theorem enc300 (t u : Tok) : Gives (Builtin.«str.encode» ⟨[.str ⟨#[300]⟩ t, .str (Str.ofString "utf-8") u], []⟩) (.bytes #[196, 172]) := .of_eq (by kernel_rfl)
theorem enc65535 (t u : Tok) : Gives (Builtin.«str.encode» ⟨[.str ⟨#[65535]⟩ t, .str (Str.ofString "utf-8") u], []⟩) (.bytes #[239, 191, 191]) := .of_eq (by kernel_rfl)
theorem enc65536 (t u : Tok) : Gives (Builtin.«str.encode» ⟨[.str ⟨#[65536]⟩ t, .str (Str.ofString "utf-8") u], []⟩) (.bytes #[240, 144, 128, 128]) := .of_eq (by kernel_rfl)
theorem lkN_mem {β : Type} {x : Nat} {l : List (Nat × β)} {d : β} : lkN x l = some d → (x, d) ∈ l := by
  induction l with
  | nil => exact fun h => nomatch h
  | cons e l ih =>
    intro h
    rcases cond_or h with ⟨q, h'⟩ | ⟨q, h'⟩
    · rw [Nat.eq_of_beq_eq_true q, ← some_inj h']
      exact .head _
    · exact .tail _ (ih h')
noncomputable def EncOK (q : Nat × List Nat) : Prop := ∀ t u, Gives (Builtin.«str.encode» ⟨[.str (mkStr [q.1]) t, .str (Str.ofString "utf-8") u], []⟩) (.bytes (mkByt q.2))
theorem encs : AllL EncOK utf8V := ⟨enc0, enc65, enc127, enc128, enc300, enc65535, enc65536, trivial⟩
theorem utf8_len : ∀ q ∈ utf8V, q.2.length ≤ 4 := by decide
theorem utf8_s : mkStr [117, 116, 102, 45, 56] = Str.ofString "utf-8" := by decide +kernel
theorem nm18 : nmOf 18 = Str.ofString "encode" := by decide +kernel
theorem g_bmet {a : PV} {x : Nat} {ds : List PV} {d : PV} (e : gBmet a x ds = some d) : ∃ id, (∀ {A : Around} {s : Shared} {v : Value} {pl : Sem Bool} {Q : Value × List Value → Shared → Prop} {E : Value → Shared → Prop}, gV s.heap v a → Q (.builtin id, [v]) s → wpAny gM A (getMethod v (nmOf x) pl) Q E s) ∧
    ∀ {A : Around} {s : Shared} {v : Value} {vs : List Value} {Q E : Value → Shared → Prop}, A.units + 80 < cLine → gV s.heap v a → gVs s.heap vs ds → Po s d Q → wpAny gM A (call (.builtin id) (v :: vs)) Q E s := by
  obtain ⟨c, h1, e1⟩ := bind_some e
  obtain ⟨c', h2, e2⟩ := bind_some e1
  obtain ⟨d', h3, e3⟩ := bind_some e2
  obtain ⟨l, h4, e4⟩ := bind_some e3
  obtain ⟨h5, e5⟩ := cond_some e4
  obtain ⟨b, h6, e6⟩ := bind_some e5
  cases some_inj e6; cases asStr_some h1; cases l1_some h3; cases asStr_some h4
  cases Nat.eq_of_beq_eq_true (and_both h5).1
  cases eqN_eq (and_both h5).2
  have hc : c = [c'] := by revert h2; unfold lN1; split <;> intro h2 <;> cases h2; rfl
  subst hc
  refine ⟨"str.encode", fun {A s v pl Q E} V h => ?_, fun {A s v vs Q E} hu V W h => ?_⟩
  · obtain ⟨t, rfl⟩ := V
    rw [nm18]
    exact GM.of (name := Str.ofString "encode") (.str _ t) (typeIs_str _ _ _) F.slot_str_encode F.type_str_encode GM.noRef h
  · obtain ⟨t, rfl⟩ := V
    obtain ⟨v1, w, rfl, ⟨u, rfl⟩, hn⟩ := W
    cases (show w = [] from hn)
    rw [utf8_s]
    have hm := lkN_mem h6
    refine call_gives F.slot_str_encode (typeIs_str _ _ _) F.entry_str_encode (F.args_str_encode_2 _ _) (encs.mem hm t u) ⟨?_, h _ _ (Next.toks s _) ⟨_, rfl⟩⟩
    show (mkByt b).size ≤ sizeLine
    rw [List.size_toArray, List.length_map]
    exact Nat.le_trans (utf8_len _ hm) (by decide)

theorem hx_swap {k : Nat} (hk : k < 8) {t : Option Expr} {l : Nat} {env : Env} : swapsWith (hxOf k).emb t l env = pure false := by
  have h : ∀ k < 8, ∀ t l env, swapsWith (hxOf k).emb t l env = pure false := fun k hk => by
    match k, hk with
    | 0, _ => exact fun _ _ _ => rfl
    | 1, _ => exact fun _ _ _ => rfl
    | 2, _ => exact fun _ _ _ => rfl
    | 3, _ => exact fun _ _ _ => rfl
    | 4, _ => exact fun _ _ _ => rfl
    | 5, _ => exact fun _ _ _ => rfl
    | 6, _ => exact fun _ _ _ => rfl
    | 7, _ => exact fun _ _ _ => rfl
  exact h k hk t l env
/-- a configuration that knows nothing: constants, locals, tuples -/
noncomputable def Γ0 : Cfg := ⟨fun _ => none, fun _ _ => none, fun _ _ => none, fun _ _ _ => none, fun _ _ => none, fun _ _ => none, fun _ _ _ => none, fun _ _ => none, fun _ _ => none, fun _ _ => none, fun _ _ => none⟩
theorem c_zero : CfgOK Γ0 where
  glob := fun e => nomatch e
  att := fun e => nomatch e
  met := fun e => nomatch e
  prim := fun e => nomatch e
  fn := fun e => nomatch e
  blt := fun e => nomatch e
  bmet := fun e => nomatch e
  sget := fun e => nomatch e
  cin := fun e => nomatch e
  hsw := hx_swap
  hol := fun e => nomatch e
  spo := fun e => nomatch e
  spf := fun e => nomatch e
theorem r_zero (n : Nat) : RecOK n (ev Γ0 n) := ev_ok c_zero n

noncomputable def fiT : FI := ⟨[62, 81, 82], []⟩
theorem nmsT : Nms lamS fiT := (nms_of (ps := []) (ex := []) rfl (by decide +kernel)).1
theorem told_call {f : Addr} {x y z : Value} {a b d : PV} {k : Nat} (I : IsTold s.heap f) (P : Place A s.heap) (G : Gd s.heap) (R : Room (k + 4) A) (V1 : gV s.heap y (.tup [a, b, d])) (h : Po s d Q) : wpAny gM A (call (.ref f) [x, y, z]) Q E s := by
  obtain ⟨pm, c, ct, h1, hcr⟩ := I
  have hr : A.depth < recursionLimit := Nat.lt_of_le_of_lt (Nat.le_add_right _ _) R.depth
  refine wpAny_call (kla_callFunE hr h1 rfl rfl rfl rfl hcr ?_)
  rw [show bindArgs _ _ = (pure [(nmOf 62, x), (nmOf 81, y), (nmOf 82, z)] : Sem (List (Str × Value))) from rfl]
  refine wpAny_pure (wpAny_newFunctionEnv (show ∀ x ∈ lamS.names, x.2 ≠ .cell by decide) (fun q hq => ?_) (fun h₁ hns hsb => ⟨G.top.nolimit.fresh _ hsb, ?_⟩) rfl)
  · simp only [List.mem_cons, List.not_mem_nil, or_false] at hq
    rcases hq with rfl | rfl | rfl
    · exact nmsT.loc 62 rfl
    · exact nmsT.loc 81 rfl
    · exact nmsT.loc 82 rfl
  have hk₁ : s.heap.StaysIn h₁ := fun b o e => hsb.extBut b o (Nat.ne_of_lt (Heap.lt_size e)) (Heap.get?_push_of_some _ e)
  refine kla_codeExpr ?_
  let cx : Cx := ⟨A.deeper (envOf qLam lamS s.heap.objs.size f (.ref c)), qLam, lamS, s.heap.objs.size, f, .ref c, s.heap⟩
  have X : At (k + 3) cx ⟨fiT, [(81, .tup [a, b, d])]⟩ (fun q => [(nmOf 62, x), (nmOf 81, y), (nmOf 82, z)].reverse.lookup q) { s with heap := h₁, toks := s.toks + 3 } := by
    refine ⟨⟨G, nmsT, R.deeper, Place.in P⟩, ⟨hns, hk₁, Nat.le_refl _⟩, fun q dd hq e => ?_⟩
    obtain ⟨q0, e1⟩ := cond_some e
    cases some_inj e1; cases Nat.eq_of_beq_eq_true q0
    exact ⟨y, rfl, V1.mono (KS.of_stays hk₁)⟩
  refine (r_zero 3).ex (e := lamE) (d := d) (f := ⟨fiT, [(81, .tup [a, b, d])]⟩) rfl (X.less (Nat.le_add_left 3 k)) fun v s' N V => ?_
  exact h _ _ ⟨fun b o e => N.heap _ _ (hk₁ _ _ e), N.gens, N.drawn, N.os⟩ V
end
section
variable (hW : ∀ {h}, gWF h → AdAt h gD)
include hW
theorem g_spo {k : Nat} {ds : List PV} {d : PV} (e : gSpf k ds = some d) {h : Heap} (W : gWF h) : ∃ o fd, h.get? (gD k) = some o ∧ o.data = .func fd := by
  obtain ⟨q, _⟩ := cond_some e
  cases Nat.eq_of_beq_eq_true q
  obtain ⟨pm, c, ct, h1, _⟩ := (hW W).told
  exact ⟨_, _, h1, rfl⟩
theorem g_spf {k : Nat} {ds : List PV} {d : PV} (e : gSpf k ds = some d) {A : Around} {s : Shared} {vs : List Value} {Q E : Value → Shared → Prop} (P : Place A s.heap) (G : Gd s.heap) (R : Room 20 A) (V : gVs s.heap vs ds) (h : Po s d Q) : wpAny gM A (call (.ref (gD k)) vs) Q E s := by
  obtain ⟨q, e1⟩ := cond_some e
  cases Nat.eq_of_beq_eq_true q
  obtain ⟨q3, h1, e2⟩ := bind_some e1
  obtain ⟨t, h2, e3⟩ := bind_some e2
  obtain ⟨r3, h3, e4⟩ := bind_some e3
  cases l3_some h1; cases some_inj e4
  have ht := asTup_some h2
  obtain ⟨v1, w1, rfl, V1, v2, w2, hw2, V2, v3, w3, hw3, V3, hn⟩ := V
  cases (show w3 = [] from hn); cases hw3; cases hw2
  rw [ht, l3_some h3] at V2
  exact told_call (k := 16) (hW G.wf).told P G R V2 h
end
end Mine
namespace Mine
open PySem PySem.W PyProof.Rows PySem.Calls PySem.Spec PySem.SeqAt
/-- keys: tuples of texts and of tuples of texts -/
noncomputable abbrev KI := List Nat ⊕ List (List Nat)
noncomputable abbrev KT := List KI
noncomputable def kiPV : KI → PV
  | .inl l => .str l
  | .inr r => .tup (r.map .str)
noncomputable def ktPV (k : KT) : List PV := k.map kiPV
theorem dec_and {a b : Prop} [Decidable a] [Decidable b] [Decidable (a ∧ b)] : (decide a && decide b) = decide (a ∧ b) := by
  by_cases ha : a <;> by_cases hb : b <;> simp [ha, hb]
theorem eqL_map {α : Type} [DecidableEq α] {f : PV → PV → Option Bool} {g : α → PV} (hf : ∀ x y, f (g x) (g y) = some (decide (x = y))) (a : List α) : ∀ b : List α, eqL f (a.map g) (b.map g) = some (decide (a = b)) := by
  induction a with
  | nil =>
    intro b
    cases b with
    | nil => exact congrArg some (decide_eq_true rfl).symm
    | cons y b => exact congrArg some (decide_eq_false (fun h => nomatch h)).symm
  | cons x a ih =>
    intro b
    cases b with
    | nil => exact congrArg some (decide_eq_false (fun h => nomatch h)).symm
    | cons y b =>
      show (f (g x) (g y)).bind (fun p => (eqL f (a.map g) (b.map g)).bind fun q => some (p && q)) = _
      rw [hf, ih]
      show some (decide (x = y) && decide (a = b)) = _
      rw [dec_and]
      congr 1
      exact decide_eq_decide.mpr (by rw [List.cons.injEq])
theorem eqf_str (n : Nat) (x y : List Nat) : eqf (n + 1) (.str x) (.str y) = some (decide (x = y)) := congrArg some eqN_iff
theorem eqf_ki (n : Nat) (a b : KI) : eqf (n + 2) (kiPV a) (kiPV b) = some (decide (a = b)) := by
  cases a with
  | inl x => cases b with
    | inl y => rw [show eqf (n + 2) (kiPV (.inl x)) (kiPV (.inl y)) = _ from eqf_str (n + 1) x y]; exact congrArg some (decide_eq_decide.mpr (by rw [Sum.inl.injEq]))
    | inr y => exact congrArg some (decide_eq_false (fun h => nomatch h)).symm
  | inr x => cases b with
    | inl y => exact congrArg some (decide_eq_false (fun h => nomatch h)).symm
    | inr y => rw [show eqf (n + 2) (kiPV (.inr x)) (kiPV (.inr y)) = _ from eqL_map (eqf_str n) x y]; exact congrArg some (decide_eq_decide.mpr (by rw [Sum.inr.injEq]))
theorem eqf_kt (a b : KT) : eqf 8 (.tup (ktPV a)) (.tup (ktPV b)) = some (decide (a = b)) := eqL_map (eqf_ki 5) a b

def KtIs (h : Heap) (k : KT) (a : Addr) : Prop := VR no h (.ref a) (.tup (ktPV k))
noncomputable def strsHash (P : World) (l : List (List Nat)) : List Int := l.map fun s => hashStr P (mkStr s)
noncomputable def kiHash (w : World) : KI → Int
  | .inl l => hashStr w (mkStr l)
  | .inr r => reduceHash (Builtin.Tuple.tupleHashOf (strsHash w r))
noncomputable def ktHash (w : World) (k : KT) : Int := reduceHash (Builtin.Tuple.tupleHashOf (k.map (kiHash w)))
noncomputable def kiDraws : KI → Nat
  | .inl _ => 1
  | .inr r => r.length + 1
noncomputable def drawsL : KT → Nat
  | [] => 0
  | x :: r => kiDraws x + drawsL r
section
variable {prog : Program} {w : World} {A : Around} {E : Value → Shared → Prop} {s : Shared}
noncomputable abbrev hashLoop (vs : List Value) (b : Array Int) : Sem (Array Int) := forIn vs b fun x r => do let h ← pyHash x; pure PUnit.unit; pure (ForInStep.yield (r.push h))
theorem hash_tail {a : Addr} {vs : Array Value} {hs : List Int} {tk : Nat} {Q : Int → Shared → Prop} (hu : A.units < cLine) (ht : s.heap.IsTuple a vs)
    (loop : ∀ (Q' : Array Int → Shared → Prop), (∀ b, b.toList = hs → Q' b { s with toks := s.toks + tk }) → wpAny (model prog w) A.in1 (hashLoop vs.toList #[]) Q' E s)
    (h : Q (reduceHash (Builtin.Tuple.tupleHashOf hs)) { s with toks := s.toks + tk + 1 }) : wpAny (model prog w) A (pyHash (.ref a)) Q E s := by
  obtain ⟨o, ho, hc, n, hd⟩ := ht
  refine pyHash_slot (T := "tuple") ⟨_, ho, hc⟩ F.slot_tuple_hash F.entry_tuple_hash (F.args_tuple_hash_1 _) (beq_builtin_none _) (.inr hu) ?_
  show wpAny _ _ (Builtin.Tuple.tupleItemsOf (.ref a) >>= _) _ _ s
  refine wpAny_bind (wpAny_tupleItemsOf ho hd ?_)
  refine wpAny_bind ?_
  rw [← Array.forIn_toList]
  refine loop _ fun b hb => ?_
  show wpAny _ _ (retInt (Builtin.Tuple.tupleHashOf b.toList)) _ _ _
  rw [hb]
  exact wpAny_bind (wpAny_mkInt (wpAny_pure ⟨_, _, rfl, h⟩))
theorem loop_one {v : Value} {vs : List Value} {b : Array Int} {Q : Array Int → Shared → Prop} (h : wpAny (model prog w) A (pyHash v) (fun x s' => wpAny (model prog w) A (hashLoop vs (b.push x)) Q E s') E s) : wpAny (model prog w) A (hashLoop (v :: vs) b) Q E s := by
  show wpAny (model prog w) A (forIn (v :: vs) b _) Q E s
  rw [List.forIn_cons]
  refine wpAny_bind (wpAny_bind (wpAny_mono h (fun x s' h' => ?_) fun _ _ e => e))
  refine wpAny_bind (wpAny_pure (wpAny_pure ?_))
  exact h'
theorem loop_nil {b : Array Int} {Q : Array Int → Shared → Prop} (h : Q b s) : wpAny (model prog w) A (hashLoop [] b) Q E s := by
  show wpAny (model prog w) A (forIn [] b _) Q E s
  rw [List.forIn_nil]; exact wpAny_pure h
theorem tok_add (s : Shared) (a b : Nat) : ({ s with toks := s.toks + a + b } : Shared) = { s with toks := s.toks + (a + b) } := by rw [Nat.add_assoc]
theorem push_list {b b' : Array Int} {x : Int} {l : List Int} (h : b'.toList = (b.push x).toList ++ l) : b'.toList = b.toList ++ (x :: l) := by rw [h, Array.toList_push, List.append_assoc]; rfl
theorem loop_strs (l : List (List Nat)) : ∀ {vs : List Value} {s : Shared} {b : Array Int} {Q : Array Int → Shared → Prop}, VRs no s.heap vs (l.map .str) →
    (∀ b', b'.toList = b.toList ++ strsHash w l → Q b' { s with toks := s.toks + l.length }) → wpAny (model prog w) A (hashLoop vs b) Q E s := by
  induction l with
  | nil => intro vs s b Q V h; cases (show vs = [] from V); exact loop_nil (h b (List.append_nil _).symm)
  | cons x l ih =>
    rintro vs s b Q ⟨v, ws, rfl, ⟨t, rfl⟩, W⟩ h
    refine loop_one (wpAny_pyHash_str (ih W fun b' hb => ?_))
    have z := h b' (push_list hb)
    rw [List.length_cons, Nat.add_comm l.length 1, ← tok_add] at z
    exact z
theorem loop_kt (l : KT) : ∀ {vs : List Value} {s : Shared} {b : Array Int} {Q : Array Int → Shared → Prop}, A.units < cLine → VRs no s.heap vs (ktPV l) →
    (∀ b', b'.toList = b.toList ++ l.map (kiHash w) → Q b' { s with toks := s.toks + drawsL l }) → wpAny (model prog w) A (hashLoop vs b) Q E s := by
  induction l with
  | nil => intro vs s b Q hu V h; cases (show vs = [] from V); exact loop_nil (h b (List.append_nil _).symm)
  | cons x l ih =>
    rintro vs s b Q hu ⟨v, ws, rfl, V, W⟩ h
    cases x with
    | inl x =>
      obtain ⟨t, rfl⟩ := V
      refine loop_one (wpAny_pyHash_str (ih hu W fun b' hb => ?_))
      have z := h b' (push_list hb)
      rw [show drawsL (.inl x :: l) = 1 + drawsL l from rfl, ← tok_add] at z
      exact z
    | inr x =>
      obtain ⟨a, vs, rfl, ht, W'⟩ := V
      refine loop_one (hash_tail (tk := x.length) (hs := strsHash w x) hu ht (fun Q' hq => loop_strs x W' fun b' hb => hq b' hb) (ih hu W fun b' hb => ?_))
      have z := h b' (push_list hb)
      rw [show drawsL (.inr x :: l) = x.length + 1 + drawsL l from rfl, ← tok_add] at z
      exact z
theorem quiet_strs (n : Nat) {v : Value} {l : List Nat} (V : VR no s.heap v (.str l)) {Q : Bool → Shared → Prop} (h : Q true s) : wpAny (model prog w) A (eqIsQuiet n v) Q E s := by
  obtain ⟨t, rfl⟩ := V
  rw [eqIsQuiet_byValue n rfl]
  exact wpAny_pure h
theorem quiet_tup {n : Nat} {a : Addr} {vs : Array Value} {Q : Bool → Shared → Prop} (ht : s.heap.IsTuple a vs)
    (each : ∀ v ∈ vs.toList, ∀ (Q' : Bool → Shared → Prop), Q' true s → wpAny (model prog w) A (eqIsQuiet n v) Q' E s) (h : Q true s) : wpAny (model prog w) A (eqIsQuiet (n + 1) (.ref a)) Q E s := by
  obtain ⟨o, ho, hc, k, hd⟩ := ht
  have hT : s.TypeIs (.ref a) "tuple" := ⟨o, ho, hc⟩
  unfold eqIsQuiet
  refine wpAny_bind (wpAny_specialOf hT F.slot_tuple_eq.lookup ?_)
  show wpAny _ _ (isInstance (.ref a) (.type "tuple") >>= _) _ _ s
  refine wpAny_bind (wpAny_isInstance hT isSubtype_tuple_tuple ?_)
  simp only [Bool.not_true, Bool.false_eq_true, if_false]
  refine wpAny_bind (wpAny_seqItems ho hd ?_)
  refine wpAny_bind ?_
  show wpAny _ _ (forIn vs _ _) _ _ s
  rw [← Array.forIn_toList]
  refine wpAny_forIn_list _ (fun rest r s' => r.1 = none ∧ s' = s ∧ ∀ v ∈ rest, v ∈ vs.toList) _ ?_ ?_ _ _ ⟨rfl, rfl, fun v hv => hv⟩
  · rintro v rest r s' ⟨hr, rfl, hall⟩
    refine wpAny_bind (each v (hall v List.mem_cons_self) _ ?_)
    simp only [Bool.not_true, Bool.false_eq_true, if_false]
    exact wpAny_pure ⟨rfl, rfl, fun u hu' => hall u (List.mem_cons_of_mem _ hu')⟩
  · rintro ⟨r1, r2⟩ s' ⟨hr, rfl, _⟩
    cases (show r1 = none from hr)
    exact wpAny_pure h
theorem quiet_ki (n : Nat) {v : Value} {x : KI} (V : VR no s.heap v (kiPV x)) {Q : Bool → Shared → Prop} (h : Q true s) : wpAny (model prog w) A (eqIsQuiet (n + 1) v) Q E s := by
  cases x with
  | inl l => exact quiet_strs _ V h
  | inr l =>
    obtain ⟨a, vs, rfl, ht, W⟩ := V
    refine quiet_tup ht (fun v hv Q' hq => ?_) h
    obtain ⟨d, hd, V⟩ := W.mem v hv
    obtain ⟨l', _, rfl⟩ := List.mem_map.mp hd
    exact quiet_strs _ V hq
end
theorem ks_dict {h h' : Heap} {d : Addr} {o : Obj} {es : Array DictEntry} {ep : Nat} (ho : h.get? d = some o) (hd : o.data = .dict es ep) (hs : Heap.SameBut d h h') : KS h h' := by
  intro a o' ⟨xs, n, hq⟩ e
  refine (hs.2 a fun z => ?_).trans e
  cases z
  cases some_inj (ho.symm.trans e)
  cases hd.symm.trans hq
noncomputable def ktKind (prog : Program) (w : World) : HeapKind prog w KT where
  is := KtIs
  hash := ktHash w
  draws := fun k => drawsL k + 1
  room := fun A => A.units + 20 < cLine
  inj := fun {h a x y} hx hy => of_decide_eq_true (eqf_same 8 hx hy (eqf_kt x y))
  keeps := fun x ho hd hs => x.mono (ks_dict ho hd hs)
  pyHash := fun {A E s k a Q} hu hk h => by
    obtain ⟨a', vs, q, ht, W⟩ := hk
    cases q
    refine hash_tail (tk := drawsL k) (hs := k.map (kiHash w)) (u_0 hu) ht (fun Q' hq => loop_kt k (u_0 (n := 19) (u_in hu)) W fun b' hb => hq b' hb) ?_
    rw [tok_add]; exact h
  eqBool := fun {A E s x y a b Q} hu hx hy h => eqf_at 8 hx hy (eqf_kt x y) (Nat.lt_of_le_of_lt (Nat.add_le_add_left (by decide) _) hu) prog w E Q h
  quiet := fun {A E s k a Q} hk h => by
    obtain ⟨a', vs, q, ht, W⟩ := hk
    cases q
    refine quiet_tup ht (fun v hv Q' hq => ?_) h
    obtain ⟨d, hd, V⟩ := W.mem v hv
    obtain ⟨x, _, rfl⟩ := List.mem_map.mp hd
    exact quiet_ki _ V hq
end Mine
namespace Mine
open PySem PySem.W PyProof.Rows PySem.Calls PySem.Spec PySem.SeqAt
theorem eqL_eq {f : PV → PV → Option Bool} (hf : ∀ a b r, f a b = some r → r = true → a = b) {xs : List PV} : ∀ {ys : List PV} {r : Bool}, eqL f xs ys = some r → r = true → xs = ys := by
  induction xs with
  | nil =>
    intro ys r e hr
    cases ys with
    | nil => rfl
    | cons => cases (some_inj e).trans hr
  | cons x xs ih =>
    intro ys r e hr
    cases ys with
    | nil => cases (some_inj e).trans hr
    | cons y ys =>
      obtain ⟨p, e1, e⟩ := bind_some e
      obtain ⟨q, e2, e⟩ := bind_some e
      obtain ⟨hp, hq⟩ := and_both ((some_inj e).trans hr)
      rw [hf _ _ _ e1 hp, ih e2 hq]
theorem eqf_eq (n : Nat) : ∀ {a b : PV} {r : Bool}, eqf n a b = some r → r = true → a = b := by
  induction n with
  | zero => intro a b r e; cases e
  | succ n ih =>
    intro a b r e hr
    cases eqR_of e with
    | none => rfl
    | bool => rw [eq_of_beq hr]
    | int => rw [eq_of_beq hr]
    | str => rw [eqN_iff] at hr; rw [of_decide_eq_true hr]
    | byt => rfl
    | tup xs ys r e => rw [eqL_eq (fun a b r p q => ih p q) e hr]
    | _ => cases hr
theorem isT_some {o : Option Bool} (h : isT o = true) : o = some true := by
  cases o with
  | none => cases h
  | some b => exact congrArg some h
theorem eqPV_eq {a b : PV} (h : eqPV a b = true) : a = b := eqf_eq 8 (isT_some h) rfl
theorem lkPV_mem {d x : PV} {l : List (PV × PV)} : lkPV d l = some x → (d, x) ∈ l := by
  induction l with
  | nil => exact fun h => nomatch h
  | cons e l ih =>
    intro h
    rcases cond_or h with ⟨q, h'⟩ | ⟨q, h'⟩
    · rw [eqPV_eq q, ← some_inj h']; exact .head _
    · exact .tail _ (ih h')

noncomputable def evps (r : Rec) (f : Fe) : List (IE × IE) → Option (List (PV × PV))
  | [] => some []
  | e :: es => (r.ex f e.1).bind fun a => (r.ex f e.2).bind fun b => (evps r f es).bind fun c => some ((a, b) :: c)
noncomputable def VRP (h : Heap) (vs : List (Value × Value)) : List (PV × PV) → Prop
  | [] => vs = []
  | d :: ds => ∃ k v ws, vs = (k, v) :: ws ∧ gV h k d.1 ∧ gV h v d.2 ∧ VRP h ws ds
noncomputable def pairsOf (env : Env) (pos : Pos) (es : List (IE × IE)) : List (Sem Value × Sem Value) := es.map fun e => (eval e.1.emb env, do let x ← eval e.2.emb env; standAt pos; pure x)
section
variable {r : Rec} {n : Nat} {c : Cx} {m : Str → Option Value} {s : Shared} {E : Value → Shared → Prop} {f : Fe}
theorem pairs_ok (H : RecOK n r) {pos : Pos} {es : List (IE × IE)} : ∀ {ds : List (PV × PV)} {s : Shared} {Q : List (Value × Value) → Shared → Prop}, evps r f es = some ds → At n c f m s →
    (∀ vs s', Next s s' → VRP s'.heap vs ds → Q vs s') → wpAny gM c.A (evalPairs (pairsOf c.env pos es)) Q E s := by
  induction es with
  | nil => intro ds s Q e X h; cases some_inj e; exact evalPairs_nil (h [] s (Next.refl s) rfl)
  | cons x es ih =>
    intro ds s Q e X h
    obtain ⟨d1, h1, e⟩ := bind_some e
    obtain ⟨d2, h2, e⟩ := bind_some e
    obtain ⟨d3, h3, e⟩ := bind_some e
    cases some_inj e
    refine evalPairs_cons (H.ex h1 X fun kv s' N V => ?_)
    refine wpAny_bind (H.ex h2 (X.next N) fun vv s2 N2 V2 => wpAny_bind (wpAny_standAt (wpAny_pure ?_)))
    exact ih h3 ((X.next N).next N2) fun vs s3 N3 V3 => h _ _ ((N.trans N2).trans N3) ⟨kv, vv, vs, rfl, V.mono (N2.trans N3).KS, V2.mono N3.KS, V3⟩
noncomputable abbrev dict0 : Obj := { cls := .type "dict", data := .dict #[] }
noncomputable abbrev storeL (d : Addr) (vs : List (Value × Value)) : Sem PUnit := forIn vs PUnit.unit fun (x : Value × Value) (_ : PUnit) => (do dictSet d x.1 x.2; pure (ForInStep.yield PUnit.unit) : Sem (ForInStep PUnit))
/-- a display: its pairs, then their storing -/
theorem Dict_gen {A : Around} {env : Env} {pos : Pos} {ks : List (Option Expr)} {es : List Expr} {prs : List (Sem Value × Sem Value)} (hshape : (evalEachOpt ks env).zip ((evalEach es env).map fun v => do let x ← v; standAt pos; pure x) = prs.map fun p => (some p.1, p.2)) (h0 : prs ≠ []) (hl : prs.length ≤ 15) {Q : Value → Shared → Prop}
    (h : wpAny gM A (evalPairs prs) (fun vs s₁ => wpAny gM A (storeL s.heap.objs.size vs) (fun _ s₂ => Q (.ref s.heap.objs.size) s₂) E s₁) E { s with heap := s.heap.push dict0 }) : wpAny gM A (eval (.Dict ks es pos) env) Q E s := by
  rw [arm_eval_Dict, hshape, dictDisplay_pairs _ h0 (by omega)]
  refine wpAny_bind (wpAny_standAt (wpAny_bind ?_))
  unfold subDict
  refine wpAny_bind (wpAny_alloc ?_)
  refine wpAny_bind (wpAny_holding ?_)
  rw [if_pos hl]
  refine wpAny_bind (wpAny_mono h (fun vs s₁ h₁ => ?_) fun _ _ e => e)
  refine wpAny_holding ?_
  exact wpAny_bind (wpAny_mono h₁ (fun _ s₂ h₂ => wpAny_pure (wpAny_pure (wpAny_pure h₂))) fun _ _ e => e)
noncomputable def prsX (env : Env) (pos : Pos) (l : List (Expr × Expr)) : List (Sem Value × Sem Value) := l.map fun p => (eval p.1 env, do let x ← eval p.2 env; standAt pos; pure x)
theorem Dict_X {A : Around} {env : Env} {pos : Pos} {l : List (Expr × Expr)} (h0 : l ≠ []) (hl : l.length ≤ 15) {Q : Value → Shared → Prop}
    (h : wpAny gM A (evalPairs (prsX env pos l)) (fun vs s₁ => wpAny gM A (storeL s.heap.objs.size vs) (fun _ s₂ => Q (.ref s.heap.objs.size) s₂) E s₁) E { s with heap := s.heap.push dict0 }) : wpAny gM A (eval (.Dict (keysX l) (valsX l) pos) env) Q E s := by
  refine Dict_gen (prs := prsX env pos l) ?_ (fun q => h0 (List.map_eq_nil_iff.mp q)) (by rw [prsX, List.length_map]; exact hl) h
  clear h0 hl h
  induction l with
  | nil => rfl
  | cons x l ih => exact congrArg (List.cons _) ih
theorem pairs_X {A : Around} {env : Env} {pos : Pos} {l : List (Expr × Expr)} {a b : Expr} {Q : List (Value × Value) → Shared → Prop}
    (h : wpAny gM A (eval a env) (fun kv s1 => wpAny gM A (eval b env) (fun vv s2 => wpAny gM A (evalPairs (prsX env pos l)) (fun vs s3 => Q ((kv, vv) :: vs) s3) E s2) E s1) E s) : wpAny gM A (evalPairs (prsX env pos ((a, b) :: l))) Q E s :=
  evalPairs_cons (wpAny_mono h (fun kv s1 h1 => wpAny_bind (wpAny_mono h1 (fun vv s2 h2 => wpAny_bind (wpAny_standAt (wpAny_pure h2))) fun _ _ z => z)) fun _ _ z => z)
theorem Dict_ok (H : RecOK n r) {pos : Pos} {es : List (IE × IE)} {ds : List (PV × PV)} (e : evps r f es = some ds) (hne : es ≠ []) (hlen : es.length ≤ 15) (X : At n c f m s) {Q : Value → Shared → Prop}
    (h : ∀ vs s₁, Next { s with heap := s.heap.push dict0 } s₁ → VRP s₁.heap vs ds → wpAny gM c.A (storeL s.heap.objs.size vs) (fun _ s₂ => Q (.ref s.heap.objs.size) s₂) E s₁) : wpAny gM c.A (eval (.Dict (keysE es) (valsE es) pos) c.env) Q E s := by
  have hshape : (evalEachOpt (keysE es) c.env).zip ((evalEach (valsE es) c.env).map fun v => do let x ← v; standAt pos; pure x) = (pairsOf c.env pos es).map fun p => (some p.1, p.2) := by
    clear e hne hlen h
    induction es with
    | nil => rfl
    | cons x es ih => exact congrArg (List.cons _) ih
  exact Dict_gen hshape (fun q => hne (List.map_eq_nil_iff.mp q)) (by rw [pairsOf, List.length_map]; exact hlen) (pairs_ok H e (X.next (Next.push s _)) h)
theorem next_dict {s1 : Shared} {h' : Heap} {d tk : Nat} (N : Next { s with heap := s.heap.push dict0 } s1) (hs : Heap.SameBut d s1.heap h') (hd : s.heap.objs.size ≤ d) : Next s { s1 with heap := h', toks := tk } :=
  ⟨fun b o e => (hs.2 b (Nat.ne_of_lt (Nat.lt_of_lt_of_le (Heap.lt_size e) hd))).trans (N.heap _ _ (Heap.get?_push_of_some _ e)), N.gens, N.drawn, N.os⟩
/-- a display of three texts -/
theorem dict_str (H : RecOK n r) {pos : Pos} {es : List (IE × IE)} {l1 l2 l3 : List Nat} {d1 d2 d3 : PV} {Q : Value → Shared → Prop} (e : evps r f es = some [(.str l1, d1), (.str l2, d2), (.str l3, d3)]) (hne : es ≠ []) (hlen : es.length ≤ 15) (X : At n c f m s)
    (h : ∀ d s' v1 v2 v3, Next s s' → s'.heap.DictOf (PySem.strKind PRG gu.w) d (merged [] [(mkStr l1, v1), (mkStr l2, v2), (mkStr l3, v3)]) → gV s'.heap v1 d1 → gV s'.heap v2 d2 → gV s'.heap v3 d3 → Q (.ref d) s') :
    wpAny gM c.A (eval (.Dict (keysE es) (valsE es) pos) c.env) Q E s := by
  refine Dict_ok H e hne hlen X fun vs s1 N V => ?_
  obtain ⟨k1, v1, ws, rfl, ⟨t1, rfl⟩, V1, k2, v2, ws2, hw2, ⟨t2, rfl⟩, V2, k3, v3, ws3, hw3, ⟨t3, rfl⟩, V3, hn⟩ := V
  cases (show ws3 = [] from hn); cases hw3; cases hw2
  have D0 : s1.heap.DictOf (PySem.strKind PRG gu.w) s.heap.objs.size [] := (Heap.DictOf.new (knd := PySem.strKind PRG gu.w) s.heap).keep N.heap
  refine wpAny_storeAll (knd := PySem.strKind PRG gu.w) _ [(mkStr l1, v1), (mkStr l2, v2), (mkStr l3, v3)] [] s1 _ ⟨strKind_is _ _ _ _, rfl, strKind_is _ _ _ _, rfl, strKind_is _ _ _ _, rfl, trivial⟩ D0 (by show 0 + 3 ≤ sizeLine; decide) fun h' D hs => ?_
  obtain ⟨o, es', ep, ho, hx, hd, _⟩ := D0
  have ks := ks_dict ho hd hs
  exact h _ _ _ _ _ (next_dict N hs (Nat.le_refl _)) D (V1.mono ks) (V2.mono ks) (V3.mono ks)
/-- what an expression of the table gives -/
structure HolP (f : Fe) (d : PV) (k : Nat) : Prop where
  go : IsPo 20 f (hxOf k).emb d
theorem hole1 : HolP f .any 1 := ⟨fun X h => wpAny_Dict_empty (h _ _ (Next.push _ _) trivial)⟩
theorem val3 {k l1 l2 l3 : List Nat} {v1 v2 v3 v : Value} (n12 : l1 ≠ l2) (n13 : l1 ≠ l3) (n23 : l2 ≠ l3) (h : (k = l1 ∧ v = v1) ∨ (k = l2 ∧ v = v2) ∨ (k = l3 ∧ v = v3)) :
    valueAt (merged [] [(mkStr l1, v1), (mkStr l2, v2), (mkStr l3, v3)]) (mkStr k) = some v := by
  have e12 : mkStr l1 ≠ mkStr l2 := fun q => n12 (mkStr_inj q)
  have e13 : mkStr l1 ≠ mkStr l3 := fun q => n13 (mkStr_inj q)
  have e23 : mkStr l2 ≠ mkStr l3 := fun q => n23 (mkStr_inj q)
  have hm : merged [] [(mkStr l1, v1), (mkStr l2, v2), (mkStr l3, v3)] = [(mkStr l1, v1), (mkStr l2, v2), (mkStr l3, v3)] := by
    simp [merged, stored, e12, e13, e23, Ne.symm]
  rw [hm]
  rcases h with ⟨rfl, rfl⟩ | ⟨rfl, rfl⟩ | ⟨rfl, rfl⟩
  · simp [valueAt, List.find?]
  · simp [valueAt, List.find?, e12]
  · simp [valueAt, List.find?, e13, e23]
theorem get_D {A : Around} {d : Addr} {kvs : List (Str × Value)} {iv v : Value} {l : List Nat} {x : PV} {value slice : Expr} {Q : Value → Shared → Prop} (hs : ∀ o iv, subscripted slice false o iv = operate [o, iv] (getItem o iv)) (V : gV s.heap iv (.str l))
    (D : s.heap.DictOf (PySem.strKind PRG gu.w) d kvs) (hv : valueAt kvs (mkStr l) = some v) (W : gV s.heap v x) (h : Po s x Q) : wpAny gM A (subscriptTail value slice (.ref d) iv) Q E s := by
  obtain ⟨t, rfl⟩ := V
  have hm := D.mapOf
  exact tail_any hm.typeIs slot_dict_getitem.lookup (wpAny_getItem_of (strKind_is PRG gu.w (mkStr l) t) hm hv (h v _ (Next.toks s _) W)) (hs _ _)
theorem loc_ev {n x : Nat} {q : Pos} {d : PV} (h : locV x f = some d) : (ev Γ0 (n + 1)).ex f (.loc x q) = some d := h
theorem sub_ev {n : Nat} {e i : IE} {q : Pos} {l : List PV} {j : Nat} {d : PV} (h1 : (ev Γ0 n).ex f e = some (.tup l)) (h2 : (ev Γ0 n).ex f i = some (.int (.ofNat j))) (h3 : subv (.tup l) (.int (.ofNat j)) = some d) : (ev Γ0 (n + 1)).ex f (.sub e i q) = some d := by
  show ((ev Γ0 n).ex f e).bind _ = _
  rw [h1]
  show ((ev Γ0 n).ex f i).bind _ = _
  rw [h2]; exact h3
theorem con_ev {n : Nat} {k : IC} {q : Pos} : (ev Γ0 (n + 1)).ex f (.con k q) = some k.pv := rfl
theorem hp0_ev : evps (ev Γ0 20) f hp0 = some [(tInt, pInt), (tStr, pStr), (tBool, pBool)] := by kernel_rfl
theorem hp0_ne : hp0 ≠ [] := List.cons_ne_nil _ _
theorem hp0_len : hp0.length ≤ 15 := Nat.le_of_ble_eq_true rfl
theorem hx0_eq : (hxOf 0).emb = .Subscript (.Dict (keysE hp0) (valsE hp0) ⟨488, 20, 488, 85⟩) hi0.emb ⟨488, 20, 488, 94⟩ := by kernel_rfl
theorem hole0 {d : PV} (e : gHol 0 f = some d) : HolP f d 0 := by
  constructor
  intro c m s Q E X h
  obtain ⟨x, h1, e1⟩ := bind_some (show (locV 73 f).bind _ = some d from e)
  obtain ⟨l, h2, e2⟩ := bind_some e1
  obtain ⟨q, h3, e3⟩ := bind_some e2
  cases asTup_some h2
  have hm := lkPV_mem e3
  have key : ∀ y, q.2.1 = .tup [tUnt, .str y] → (ev Γ0 20).ex f hi0 = some (.str y) := fun y hy =>
    sub_ev (n := 19) (sub_ev (n := 18) (loc_ev (n := 17) h1) (con_ev (n := 17) (k := .int 1)) (by rw [l4_some h3, hy]; rfl)) (con_ev (n := 18) (k := .int 1)) rfl
  rw [hx0_eq]
  have p1 := hp0_ev (f := f)
  have p2 := hp0_ne
  have p3 := hp0_len
  generalize hp0 = es at p1 p2 p3
  generalize hi0 = ie at key
  refine Subscript_ (dict_str (r_zero 20) p1 p2 p3 X fun dd s' v1 v2 v3 N D V1 V2 V3 => ?_)
  have h' := h.of N
  simp only [h0T, List.mem_cons, List.not_mem_nil, or_false, Prod.mk.injEq] at hm
  rcases hm with ⟨hq, rfl⟩ | ⟨hq, rfl⟩ | ⟨hq, rfl⟩
  · exact (r_zero 20).ex (key _ hq) (X.next N) fun iv s2 N2 IV => get_D (fun _ _ => sub_plain) IV (D.keep N2.heap) (val3 (by decide) (by decide) (by decide) (.inl ⟨rfl, rfl⟩)) (V1.mono N2.KS) (h'.of N2)
  · exact (r_zero 20).ex (key _ hq) (X.next N) fun iv s2 N2 IV => get_D (fun _ _ => sub_plain) IV (D.keep N2.heap) (val3 (by decide) (by decide) (by decide) (.inr (.inl ⟨rfl, rfl⟩))) (V2.mono N2.KS) (h'.of N2)
  · exact (r_zero 20).ex (key _ hq) (X.next N) fun iv s2 N2 IV => get_D (fun _ _ => sub_plain) IV (D.keep N2.heap) (val3 (by decide) (by decide) (by decide) (.inr (.inr ⟨rfl, rfl⟩))) (V3.mono N2.KS) (h'.of N2)
end
end Mine
namespace Mine
open PySem PySem.W PyProof.Rows PySem.Calls PySem.Spec PySem.SeqAt
theorem strs_re {aDr bDr : Nat → Addr} {h : Heap} {l : List (List Nat)} : ∀ {vs : List Value}, VRs aDr h vs (l.map .str) → VRs bDr h vs (l.map .str) := by
  induction l with
  | nil => exact fun e => e
  | cons x l ih => exact fun ⟨v, ws, q, a, b⟩ => ⟨v, ws, q, a, ih b⟩
theorem ki_re {aDr bDr : Nat → Addr} {h : Heap} {v : Value} {x : KI} (V : VR aDr h v (kiPV x)) : VR bDr h v (kiPV x) := by
  cases x with
  | inl l => exact V
  | inr l => obtain ⟨a, vs, q, t, W⟩ := V; exact ⟨a, vs, q, t, strs_re W⟩
theorem kt_re {aDr bDr : Nat → Addr} {h : Heap} {l : KT} : ∀ {vs : List Value}, VRs aDr h vs (ktPV l) → VRs bDr h vs (ktPV l) := by
  induction l with
  | nil => exact fun e => e
  | cons x l ih => exact fun ⟨v, ws, q, a, b⟩ => ⟨v, ws, q, ki_re a, ih b⟩
theorem VR.kt {h : Heap} {v : Value} {k : KT} (V : gV h v (.tup (ktPV k))) : ∃ a, v = .ref a ∧ KtIs h k a := by
  obtain ⟨a, vs, q, t, W⟩ := V
  exact ⟨a, q, a, vs, rfl, t, kt_re W⟩
theorem stor3 {k1 k2 k3 : KT} {a1 a2 a3 : Addr} {v1 v2 v3 : Value} (n12 : k1 ≠ k2) (n13 : k1 ≠ k3) (n23 : k2 ≠ k3) :
    storedH (storedH (storedH [] k1 a1 v1) k2 a2 v2) k3 a3 v3 = [(k1, a1, v1), (k2, a2, v2), (k3, a3, v3)] := by
  simp [storedH, atKey, n12, n13, n23]
theorem stor2_len {k1 k2 : KT} {a1 a2 : Addr} {v1 v2 : Value} (n12 : k1 ≠ k2) : (storedH (storedH [] k1 a1 v1) k2 a2 v2).length ≤ sizeLine := by
  rw [show storedH (storedH [] k1 a1 v1) k2 a2 v2 = [(k1, a1, v1), (k2, a2, v2)] by simp [storedH, atKey, n12]]
  show 2 ≤ sizeLine; decide
noncomputable abbrev gKt : HeapKind PRG gu.w KT := ktKind PRG gu.w
section
variable {r : Rec} {n : Nat} {c : Cx} {m : Str → Option Value} {s : Shared} {E : Value → Shared → Prop} {f : Fe}
theorem store_one {A : Around} {v : Value × Value} {vs : List (Value × Value)} {d : Addr} {Q : PUnit → Shared → Prop} (h : wpAny gM A (dictSet d v.1 v.2) (fun _ s1 => wpAny gM A (storeL d vs) Q E s1) E s) : wpAny gM A (storeL d (v :: vs)) Q E s := by
  show wpAny gM A (forIn (v :: vs) _ _) Q E s
  rw [List.forIn_cons]
  refine wpAny_bind (wpAny_bind (wpAny_mono h (fun _ s1 h1 => wpAny_pure ?_) fun _ _ e => e))
  exact h1
theorem store_nil {A : Around} {d : Addr} {Q : PUnit → Shared → Prop} (h : Q PUnit.unit s) : wpAny gM A (storeL d []) Q E s := by
  show wpAny gM A (forIn [] _ _) Q E s
  rw [List.forIn_nil]; exact wpAny_pure h
/-- a display keyed by tuples -/
theorem dict_kt (H : RecOK n r) {pos : Pos} {es : List (IE × IE)} {k1 k2 k3 : KT} {d1 d2 d3 : PV} {Q : Value → Shared → Prop} (e : evps r f es = some [(.tup (ktPV k1), d1), (.tup (ktPV k2), d2), (.tup (ktPV k3), d3)]) (hne : es ≠ []) (hlen : es.length ≤ 15) (n12 : k1 ≠ k2) (n13 : k1 ≠ k3) (n23 : k2 ≠ k3) (X : At n c f m s)
    (h : ∀ d s' a1 a2 a3 v1 v2 v3, Next s s' → (d == sysModules) = false → s.heap.objs.size ≤ d → s'.heap.DictOfH gKt d [(k1, a1, v1), (k2, a2, v2), (k3, a3, v3)] → gV s'.heap v1 d1 → gV s'.heap v2 d2 → gV s'.heap v3 d3 → Q (.ref d) s') :
    wpAny gM c.A (eval (.Dict (keysE es) (valsE es) pos) c.env) Q E s := by
  refine Dict_ok H e hne hlen X fun vs s1 N V => ?_
  obtain ⟨kv1, v1, ws, rfl, K1, V1, kv2, v2, ws2, hw2, K2, V2, kv3, v3, ws3, hw3, K3, V3, hn⟩ := V
  cases (show ws3 = [] from hn); cases hw3; cases hw2
  obtain ⟨a1, rfl, J1⟩ := VR.kt K1
  obtain ⟨a2, rfl, J2⟩ := VR.kt K2
  obtain ⟨a3, rfl, J3⟩ := VR.kt K3
  have hdd : s1.heap.get? s.heap.objs.size = some dict0 := N.heap _ _ (Heap.get?_push_size _ rfl)
  have D0 : s1.heap.DictOfH gKt s.heap.objs.size [] := ⟨_, #[], 0, hdd, ⟨rfl, rfl, rfl⟩, rfl, rfl, (fun _ hx => nomatch hx), List.nodup_nil⟩
  have room : gKt.room c.A := Nat.lt_of_le_of_lt (Nat.add_le_add_left (by decide) _) X.S.room.u
  refine store_one (wpAny_dictSet_heap (knd := gKt) room J1 D0 (fun h1 D1 s1' => ?_) (Nat.zero_le _))
  have ks1 := ks_dict hdd rfl s1'
  obtain ⟨o1, es1, ep1, ho1, _, hd1, _⟩ := id D1
  refine store_one (wpAny_dictSet_heap (knd := gKt) (s := ⟨h1, _, _, _, _⟩) room (J2.mono ks1) D1 (fun h2 D2 s2' => ?_) (by show 1 ≤ sizeLine; decide))
  have ks2 := ks_dict ho1 hd1 s2'
  obtain ⟨o2, es2, ep2, ho2, _, hd2, _⟩ := id D2
  refine store_one (wpAny_dictSet_heap (knd := gKt) (s := ⟨h2, _, _, _, _⟩) room (VR.mono ks2 (J3.mono ks1)) D2 (fun h3 D3 s3' => ?_) (stor2_len n12))
  rw [stor3 n12 n13 n23] at D3
  have ks := (ks1.trans ks2).trans (ks_dict ho2 hd2 s3')
  exact store_nil (h _ _ a1 a2 a3 _ _ _ (next_dict (s1 := s1) (h' := h3) N ((s1'.trans s2').trans s3') (Nat.le_refl _)) (X.F.notModules (modules_low X.S.gd.top.nolimit)) (Nat.le_refl _) D3 (V1.mono ks) (V2.mono ks) (V3.mono ks))
noncomputable def qInt8 : KT := [.inl [105, 110, 116], .inl [105, 110, 116, 56]]
noncomputable def qMN : KT := [.inl [110, 97, 109, 101, 100], .inl [109, 46, 78]]
noncomputable def qU16 : KT := [.inl [105, 110, 116], .inl [117, 105, 110, 116, 49, 54]]
noncomputable def qInt : KT := [.inl [105, 110, 116], .inl [105, 110, 116]]
noncomputable def qU64 : KT := [.inl [105, 110, 116], .inl [117, 105, 110, 116, 54, 52]]
theorem ne_kt {a b : KT} (h : decide (a = b) = false) : a ≠ b := of_decide_eq_false h
theorem q_ne : qInt8 ≠ qMN ∧ qInt8 ≠ qU16 ∧ qMN ≠ qU16 ∧ (qInt ≠ qInt8 ∧ qInt ≠ qMN ∧ qInt ≠ qU16) ∧ (qU64 ≠ qInt8 ∧ qU64 ≠ qMN ∧ qU64 ≠ qU16) := ⟨ne_kt rfl, ne_kt rfl, ne_kt rfl, ⟨ne_kt rfl, ne_kt rfl, ne_kt rfl⟩, ne_kt rfl, ne_kt rfl, ne_kt rfl⟩
noncomputable def ha2 : List IE := [(.loc 22 ⟨481, 80, 481, 81⟩), (.con (.int 64) ⟨481, 83, 481, 85⟩)]
theorem hp2_ev : evps (ev Γ0 20) f hp2 = some [(.tup (ktPV qInt8), .int 8), (.tup (ktPV qMN), .int 8), (.tup (ktPV qU16), .int 16)] := by kernel_rfl
theorem hp2_ne : hp2 ≠ [] := List.cons_ne_nil _ _
theorem hp2_len : hp2.length ≤ 15 := Nat.le_of_ble_eq_true rfl
theorem hx2_eq : (hxOf 2).emb = .Call (.Attribute (.Dict (keysE hp2) (valsE hp2) ⟨481, 11, 481, 75⟩) (Str.ofString "get") ⟨481, 11, 481, 79⟩) (embs ha2) [] ⟨481, 11, 481, 86⟩ := by kernel_rfl
theorem at3 {k k1 k2 k3 : KT} {a1 a2 a3 : Addr} {v1 v2 v3 dflt : Value} (n12 : k1 ≠ k2) (n13 : k1 ≠ k3) (n23 : k2 ≠ k3) {v : Value} (h : (k = k1 ∧ v = v1) ∨ (k = k2 ∧ v = v2) ∨ (k = k3 ∧ v = v3) ∨ ((k ≠ k1 ∧ k ≠ k2 ∧ k ≠ k3) ∧ v = dflt)) :
    ((atKey [(k1, a1, v1), (k2, a2, v2), (k3, a3, v3)] k).map (·.2)).getD dflt = v := by
  rcases h with ⟨rfl, rfl⟩ | ⟨rfl, rfl⟩ | ⟨rfl, rfl⟩ | ⟨⟨h1, h2, h3⟩, rfl⟩
  · simp [atKey, List.find?]
  · simp [atKey, List.find?, n12]
  · simp [atKey, List.find?, n13, n23]
  · simp [atKey, List.find?, Ne.symm h1, Ne.symm h2, Ne.symm h3]
theorem hole2_key {T d : PV} (e : lkPV T h2T = some d) : ∃ k : KT, T = .tup (ktPV k) ∧
    ((k = qInt8 ∧ d = .int 8) ∨ (k = qMN ∧ d = .int 8) ∨ (k = qU16 ∧ d = .int 16) ∨ ((k ≠ qInt8 ∧ k ≠ qMN ∧ k ≠ qU16) ∧ d = .int 64)) := by
  have hm := lkPV_mem e
  simp only [h2T, List.mem_cons, List.not_mem_nil, or_false, Prod.mk.injEq] at hm
  rcases hm with ⟨rfl, rfl⟩ | ⟨rfl, rfl⟩ | ⟨rfl, rfl⟩ | ⟨rfl, rfl⟩ | ⟨rfl, rfl⟩
  · exact ⟨qInt8, rfl, .inl ⟨rfl, rfl⟩⟩
  · exact ⟨qMN, rfl, .inr (.inl ⟨rfl, rfl⟩)⟩
  · exact ⟨qU16, rfl, .inr (.inr (.inl ⟨rfl, rfl⟩))⟩
  · exact ⟨qInt, rfl, .inr (.inr (.inr ⟨q_ne.2.2.2.1, rfl⟩))⟩
  · exact ⟨qU64, rfl, .inr (.inr (.inr ⟨q_ne.2.2.2.2, rfl⟩))⟩
theorem evs_two {x y : IE} {a b : PV} (h1 : r.ex f x = some a) (h2 : r.ex f y = some b) : evs r f [x, y] = some [a, b] := by
  show (r.ex f x).bind _ = _
  rw [h1]
  show ((r.ex f y).bind _).bind _ = _
  rw [h2]; rfl
theorem hole2 {d : PV} (e : gHol 2 f = some d) : HolP f d 2 := by
  constructor
  intro c m s Q E X h
  obtain ⟨T, h1, e1⟩ := bind_some (show (locV 22 f).bind (fun t => lkPV t h2T) = some d from e)
  obtain ⟨k, rfl, hd⟩ := hole2_key e1
  have p1 := hp2_ev (f := f)
  have p2 := hp2_ne
  have p3 := hp2_len
  have e2 : evs (ev Γ0 20) f ha2 = some [.tup (ktPV k), .int 64] := evs_two (loc_ev (n := 19) h1) (con_ev (n := 19) (k := .int 64))
  have n3 : Nat.blt ha2.length 30 = true := rfl
  rw [hx2_eq]
  generalize hp2 = es at p1 p2 p3
  generalize ha2 = as at e2 n3
  refine mca_gen rfl rfl n3 ?_
  refine dict_kt (r_zero 20) p1 p2 p3 q_ne.1 q_ne.2.1 q_ne.2.2.1 X fun dd s' a1 a2 a3 v1 v2 v3 N lo hd0 D V1 V2 V3 => ?_
  obtain ⟨o, es', ep, ho, hx, hdd, hes⟩ := id D
  refine getMethod_builtin ⟨o, ho, hx.1⟩ PySem.F.plainAttrs_dict PySem.F.slot_dict_get PySem.F.type_dict_get (fun b e => by injection e with e; subst e; exact ⟨o, ho, hx.2.1⟩) ?_
  refine blt_of (r_zero 20) e2 (X.next N) fun vs s2 N2 V => ?_
  obtain ⟨kv, w, rfl, K, v4, w', hw, ⟨t4, rfl⟩, hn⟩ := V
  cases (show w' = [] from hn); cases hw
  obtain ⟨ka, rfl, J⟩ := VR.kt K
  have D2 : s2.heap.DictOfH gKt dd [(qInt8, a1, v1), (qMN, a2, v2), (qU16, a3, v3)] := ⟨o, es', ep, N2.heap _ _ ho, hx, hdd, hes.1, fun x hx => VR.mono N2.KS (hes.2.1 x hx), hes.2.2⟩
  refine call_meetsIn PySem.F.slot_dict_get ⟨o, N2.heap _ _ ho, hx.1⟩ PySem.F.entry_dict_get (PySem.F.args_dict_get_3 _ _ _) (meetsH_dict_get_default gKt dd ka lo _) ⟨u_in (n := 20) (Nat.lt_of_le_of_lt (Nat.add_le_add_left (by decide) _) X.S.room.u), k, _, J, D2, ?_⟩
  have fin : ∀ v, gV s2.heap v d → Q v { s2 with toks := s2.toks + gKt.draws k } := fun v Vv => h _ _ ((N.trans N2).trans (Next.toks s2 _)) Vv
  rcases hd with ⟨q, rfl⟩ | ⟨q, rfl⟩ | ⟨q, rfl⟩ | ⟨q, rfl⟩
  · rw [at3 (v := v1) q_ne.1 q_ne.2.1 q_ne.2.2.1 (.inl ⟨q, rfl⟩)]; exact fin _ (V1.mono N2.KS)
  · rw [at3 (v := v2) q_ne.1 q_ne.2.1 q_ne.2.2.1 (.inr (.inl ⟨q, rfl⟩))]; exact fin _ (V2.mono N2.KS)
  · rw [at3 (v := v3) q_ne.1 q_ne.2.1 q_ne.2.2.1 (.inr (.inr (.inl ⟨q, rfl⟩)))]; exact fin _ (V3.mono N2.KS)
  · rw [at3 (v := .int 64 _) q_ne.1 q_ne.2.1 q_ne.2.2.1 (.inr (.inr (.inr ⟨q, rfl⟩)))]; exact fin _ ⟨t4, rfl⟩
end
end Mine
namespace Mine
open PySem PySem.W PyProof.Rows PySem.Calls PySem.Spec PySem.SeqAt
theorem comp_none {A : Around} {E : Value → Shared → Prop} {s : Shared} {elt target iter : Expr} {scope : Scope} {pos : Pos} {env : Env} {Q : Value → Shared → Prop} (hh : A.handled = none)
    (hfree : ∀ x ∈ scope.names, x.2 ≠ .free) (hcell : ∀ x ∈ scope.names, x.2 ≠ .cell) (hkind : scope.kind = .function) (hnames : ∀ x ∈ scope.names, x.2 = .local → scope.names.lookup x.1 = some .local) (hs : ∀ x, foldedSetIterable iter env x = pure x)
    (h : wpAny gM A (eval iter env) (fun v s1 => gV s1.heap v (.tup []) ∧ Po s1 (.lst []) Q) E s) :
    wpAny gM A (eval (.ListComp elt [⟨target, iter, [], 0⟩] scope pos) env) Q E s := by
  refine wpAny_ListComp hfree hkind hnames (wpAny_mono h (fun v s1 h1 => ?_) fun _ _ e => e) hs
  obtain ⟨⟨x, ⟨vs⟩, rfl, ht, hv⟩, hq⟩ := h1
  cases (show vs = [] from hv)
  obtain ⟨o, hg, hc, nn, hd⟩ := id ht
  refine wpAny_pyIter_tuple ht ?_
  refine wpAny_newObj_type (wpAny_newFunctionEnv hcell (fun y hy => nomatch hy) (fun h₁ hns hsb => ?_) hkind)
  dsimp only at hns hsb ⊢
  generalize hH1 : s1.heap.push { cls := .type "tuple_iterator", dict := none, data := .fields #[.ref x, .int 0 0] } = H1 at hns hsb ⊢
  generalize hH2 : H1.push { cls := .type "list", dict := none, data := .seq ([] : List Value).toArray } = H2 at hns hsb ⊢
  have z1 : H1.objs.size = s1.heap.objs.size + 1 := by rw [← hH1, Heap.size_push]
  have z2 : H2.objs.size = H1.objs.size + 1 := by rw [← hH2, Heap.size_push]
  have k1 : s1.heap.StaysIn H1 := fun b o e => hH1 ▸ Heap.get?_push_of_some _ e
  have k2 : H1.StaysIn H2 := fun b o e => hH2 ▸ Heap.get?_push_of_some _ e
  have k3 : H2.StaysIn h₁ := fun b o e => hsb.extBut b o (Nat.ne_of_lt (Heap.lt_size e)) (Heap.get?_push_of_some _ e)
  have hit : h₁.IsTupleIter s1.heap.objs.size x 0 := ⟨_, k3 _ _ (k2 _ _ (hH1 ▸ Heap.get?_push_size _ rfl)), rfl, rfl⟩
  have htt : h₁.IsTuple x #[] := ⟨o, k3 _ _ (k2 _ _ (k1 _ _ hg)), hc, nn, hd⟩
  have hacc : h₁.get? H1.objs.size = some { cls := .type "list", dict := none, data := .seq ([] : List Value).toArray } := k3 _ _ (hH2 ▸ Heap.get?_push_size _ rfl)
  have n1 : H1.objs.size ≠ s1.heap.objs.size := by rw [z1]; exact Nat.succ_ne_self _
  have n2 : H2.objs.size ≠ s1.heap.objs.size := by rw [z2, z1]; exact Nat.ne_of_gt (Nat.lt_succ_of_lt (Nat.lt_succ_self _))
  have n3 : H1.objs.size ≠ H2.objs.size := by rw [z2]; exact fun q => Nat.succ_ne_self _ q.symm
  have loop : ∀ (env' : Env) (tk : Nat) (R : Result → Shared → Prop), (∀ h', Heap.ExtBut s1.heap.objs.size h₁ h' → R (.ok .next) { s1 with heap := h', toks := tk }) →
      codeAny gM A (.compLoop (.ListComp elt [⟨target, iter, [], 0⟩] scope pos) 0 (.ref s1.heap.objs.size) (.ref H1.objs.size) env') R { s1 with heap := h₁, toks := tk } := by
    intro env' tk R hR
    refine codeAny_loop rfl (fun _ s2 => s2 = { s1 with heap := h₁, toks := tk }) (fun n s2 e => ?_) 0 rfl
    subst e
    show wpAny _ _ ((compTurn (.ListComp elt [⟨target, iter, [], 0⟩] scope pos) 0 _ _ env').onRaise (fun x => do noteFrame x env'; theTreesLotGoes x)) _ _ _
    refine wpAny_noted ?_
    rw [compTurn_list1]
    refine wpAny_bind (wpAny_standAt (wpAny_bind ?_))
    exact wpAny_pyNext_tuple_end (items := #[]) hh hit htt rfl fun h' he => wpAny_pure (hR h' he)
  have fin : ∀ (tk : Nat) (h' : Heap), Heap.ExtBut s1.heap.objs.size h₁ h' → ∃ m, h'.Ns H2.objs.size m ∧ ∀ h'', Heap.SameBut H2.objs.size h' h'' → Q (.ref H1.objs.size) { s1 with heap := h'', toks := tk } := by
    intro tk h' he
    refine ⟨_, hns.extBut he n2, fun h'' hs'' => hq _ _ ⟨fun b o e => ?_, rfl, rfl, rfl⟩ ⟨_, #[], rfl, ⟨_, hs''.extBut _ _ n3 (he _ _ n1 hacc), rfl, _, rfl⟩, rfl⟩⟩
    have hb := Heap.lt_size e
    have hb2 : b ≠ H2.objs.size := by
      refine Nat.ne_of_lt ?_
      rw [z2, z1]
      exact Nat.lt_succ_of_lt (Nat.lt_succ_of_lt hb)
    exact hs''.extBut _ _ hb2 (he _ _ (Nat.ne_of_lt hb) (k3 _ _ (k2 _ _ (k1 _ _ e))))
  refine codeAny_compStart_list (loop _ _ _ fun h' he => fin _ h' he) ?_
  exact wpAny_pyIter_tupleiter hit (loop _ _ _ fun h' he => fin _ h' he)
noncomputable def hi9 : IE := .sub (.loc 22 ⟨229, 87, 229, 88⟩) (.con (.int 1) ⟨229, 89, 229, 90⟩) ⟨229, 87, 229, 91⟩
theorem hx9_eq : ∃ elt target scope pos, (hxOf 9).emb = .ListComp elt [⟨target, hi9.emb, [], 0⟩] scope pos ∧ (∀ x ∈ scope.names, x.2 ≠ .free) ∧ (∀ x ∈ scope.names, x.2 ≠ .cell) ∧ scope.kind = .function ∧ (∀ x ∈ scope.names, x.2 = .local → scope.names.lookup x.1 = some .local) :=
  ⟨_, _, _, _, rfl, by decide, by decide, rfl, by decide⟩
theorem hole9 {f : Fe} {d : PV} (e : gHol 9 f = some d) : HolP f d 9 := by
  constructor
  intro c m s Q E X h
  obtain ⟨T, h1, e1⟩ := bind_some (show (locV 22 f).bind (fun t => cond (eqPV t pFace) (some (.lst [])) none) = some d from e)
  obtain ⟨q, e2⟩ := cond_some e1
  cases some_inj e2
  rw [eqPV_eq q] at h1
  have hk : (ev Γ0 20).ex f hi9 = some (.tup []) := sub_ev (n := 19) (l := [tFace, .tup []]) (loc_ev (n := 18) h1) (con_ev (n := 18) (k := .int 1)) rfl
  obtain ⟨elt, target, scope, pos, heq, h1, h2, h3, h4⟩ := hx9_eq
  rw [heq]
  exact comp_none X.S.room.hand h1 h2 h3 h4 (fun _ => fold_plain) ((r_zero 20).ex hk X fun v s' N V => ⟨V, h.of N⟩)
theorem holP {k : Nat} {f : Fe} {d : PV} (e : gHol k f = some d) : HolP f d k := by
  have g : ∀ j, Nat.beq k j = true → (gHol j f = some d → HolP f d j) → HolP f d k := fun j q h => by
    have hk := Nat.eq_of_beq_eq_true q
    subst hk
    exact h e
  rcases cond_or (show cond (Nat.beq k 0) _ _ = some d from e) with ⟨q, _⟩ | ⟨_, e1⟩
  · exact g 0 q hole0
  rcases cond_or e1 with ⟨q, e2⟩ | ⟨_, e2⟩
  · rw [← some_inj e2] at g ⊢; exact g 1 q fun _ => hole1
  rcases cond_or e2 with ⟨q, _⟩ | ⟨_, e3⟩
  · exact g 2 q hole2
  obtain ⟨q, _⟩ := cond_some e3
  exact g 9 q hole9
end Mine
namespace Mine
open PySem PySem.W PyProof.Rows PySem.Calls PySem.Spec PySem.SeqAt
noncomputable def qMS : KT := [.inl [110, 97, 109, 101, 100], .inl [109, 46, 83]]
noncomputable def qFace : KT := [.inl [105, 110, 116, 101, 114, 102, 97, 99, 101], .inr []]
noncomputable def qBytes : KT := [.inl [115, 108, 105, 99, 101], .inr [[105, 110, 116], [117, 105, 110, 116, 56]]]
noncomputable def pAny : PV := .str [97, 110, 121]
noncomputable def pOct : PV := .str [111, 99, 116, 101, 116, 115]
noncomputable def i2 : IE := .tup [.con (.str S17 L17 s17) ⟨475, 10, 475, 17⟩, .tup [.con (.str S4 L4 s4) ⟨475, 20, 475, 25⟩, .con (.str (Str.ofString "uint8") [117, 105, 110, 116, 56] (by decide +kernel)) ⟨475, 27, 475, 34⟩] 0 ⟨475, 19, 475, 35⟩] 0 ⟨475, 10, 475, 35⟩
noncomputable def ic2 : IE := .con (.str S35 L35 s35) ⟨475, 39, 475, 47⟩
noncomputable def rest666 : IE := (.ite (.cmp (.sub (.loc 22 ⟨476, 47, 476, 48⟩) (.con (.int 0) ⟨476, 49, 476, 50⟩) ⟨476, 47, 476, 51⟩) .Eq (.con (.str S2 L2 s2) ⟨476, 55, 476, 64⟩) ⟨476, 47, 476, 64⟩) (.sub (.loc 22 ⟨476, 39, 476, 40⟩) (.con (.int 1) ⟨476, 41, 476, 42⟩) ⟨476, 39, 476, 43⟩) (.sub (.loc 22 ⟨476, 70, 476, 71⟩) (.con (.int 0) ⟨476, 72, 476, 73⟩) ⟨476, 70, 476, 74⟩) ⟨476, 39, 476, 74⟩)
theorem ir666_eq : ∃ p1 p2 p3 p4 p5 p6 p7 p8 p9 p10 p11 p12 p13 p14, embS ir666 = [.Assign [.Name (nmOf 90) p1] (.Dict (keysE hp3) (valsE hp3) p2) p3,
    .Assign [.Subscript (.Name (nmOf 90) p4) i2.emb p5] ic2.emb p6,
    .Return (some (.IfExp (.Compare (.Name (nmOf 22) p7) [.In] [.Name (nmOf 90) p8] p9) (.Subscript (.Name (nmOf 90) p10) (.Name (nmOf 22) p11) p12) rest666.emb p13)) p14] :=
  ⟨_, _, _, _, _, _, _, _, _, _, _, _, _, _, rfl⟩
section
variable {f : Fe}
theorem hp3_ev : evps (ev Γ0 20) f hp3 = some [(.tup (ktPV qMN), tInt), (.tup (ktPV qMS), tStr), (.tup (ktPV qFace), pAny)] := by kernel_rfl
theorem hp3_ne : hp3 ≠ [] := List.cons_ne_nil _ _
theorem hp3_len : hp3.length ≤ 15 := Nat.le_of_ble_eq_true rfl
theorem i2_ev : (ev Γ0 20).ex f i2 = some (.tup (ktPV qBytes)) := by kernel_rfl
theorem ic2_ev : (ev Γ0 20).ex f ic2 = some pOct := by kernel_rfl
end
noncomputable def fe1 (k : KT) : Fe := ⟨fi666, [(90, .any), (22, .tup (ktPV k))]⟩
theorem stor4 {k1 k2 k3 k4 : KT} {a1 a2 a3 a4 : Addr} {v1 v2 v3 v4 : Value} (n1 : k1 ≠ k4) (n2 : k2 ≠ k4) (n3 : k3 ≠ k4) :
    storedH [(k1, a1, v1), (k2, a2, v2), (k3, a3, v3)] k4 a4 v4 = [(k1, a1, v1), (k2, a2, v2), (k3, a3, v3), (k4, a4, v4)] := by
  simp [storedH, atKey, n1, n2, n3]
theorem dictH_keep {h h' : Heap} {d : Addr} {xs : List (KT × Addr × Value)} (D : h.DictOfH gKt d xs) (hd : ∀ o, h.get? d = some o → h'.get? d = some o) (ks : KS h h') : h'.DictOfH gKt d xs := by
  obtain ⟨o, es, ep, ho, hx, hdd, he, hi, hn⟩ := D
  exact ⟨o, es, ep, hd o ho, hx, hdd, he, fun x hx' => VR.mono ks (hi x hx'), hn⟩
section
variable {n : Nat} {c : Cx} {m : Str → Option Value} {s : Shared} {E : Value → Shared → Prop} {f : Fe}
/-- a local is written, its map told -/
theorem put_ok2 (X : At n c f m s) {x : Nat} (hx : hasN x f.fi.locs = true) {v : Value} {d : PV} (V : gV s.heap v d) {Q : Unit → Shared → Prop}
    (h : ∀ s', NextL c.L s s' → At n c ⟨f.fi, (x, d) :: f.ρ⟩ (fun y => if y = nmOf x then some v else m y) s' → Q () s') : wpAny gM c.A (storeName c.env (nmOf x) v) Q E s := by
  refine wpAny_storeName_local (X.S.nms.loc x hx) X.F.ns (fun h' hn hs => ?_) (by show (c.cs.kind == .class || (c.cs.kind == .module && c.L != mainGlobals)) = false; rw [X.S.nms.kind]; rfl)
  obtain ⟨oL, es, ep, hL, hLd, _⟩ := X.F.ns
  have ks := ks_dict hL hLd hs
  exact h _ ⟨fun b o ne e => (hs.2 b ne).trans e, ks, rfl, rfl, rfl⟩ ⟨X.S, X.F.set hn hs, (X.R.mono ks).put X.S.nms hx (V.mono ks)⟩
theorem ld2 (X : At n c f m s) {x : Nat} {p : Pos} (hx : hasN x f.fi.locs = true) {v : Value} (e : m (nmOf x) = some v) {Q : Value → Shared → Prop} (h : Q v s) : wpAny gM c.A (eval (.Name (nmOf x) p) c.env) Q E s :=
  ld X.F e h X.S.nms.kind (X.S.nms.loc x hx) (X.S.nms.dbg x (.inl hx))
/-- the sort of a type: what the names' table or the type itself says -/
def SortIs (k : KT) (r : PV) : Prop := (k = qMN ∧ r = tInt) ∨ (k = qMS ∧ r = tStr) ∨ (k = qFace ∧ r = pAny) ∨ (k = qBytes ∧ r = pOct) ∨ ((k ≠ qMN ∧ k ≠ qMS ∧ k ≠ qFace ∧ k ≠ qBytes) ∧ (ev Γ0 20).ex (fe1 k) rest666 = some r)
theorem body666 {k : KT} {r : PV} (hr : SortIs k r) {Q : Flow → Shared → Prop} (X : At 20 c ⟨fi666, [(22, .tup (ktPV k))]⟩ m s)
    (h : ∀ v m' s', NextL c.L s s' → c.Fr s'.heap m' → gV s'.heap v r → Q (.ret v) s') : wpAny gM c.A (execs (embS ir666) c.env) Q E s := by
  obtain ⟨p1, p2, p3, p4, p5, p6, p7, p8, p9, p10, p11, p12, p13, p14, heq⟩ := ir666_eq
  rw [heq]
  clear heq
  have e1 := hp3_ev (f := ⟨fi666, [(22, .tup (ktPV k))]⟩)
  have n1 := hp3_ne
  have n2 := hp3_len
  have e2 := i2_ev (f := fe1 k)
  have e3 := ic2_ev (f := fe1 k)
  have sw : ∀ t l env, swapsWith ic2.emb t l env = pure false := fun _ _ _ => rfl
  unfold SortIs at hr
  have h90 : hasN 90 fi666.locs = true := rfl
  have h22 : hasN 22 fi666.locs = true := rfl
  generalize hp3 = es at e1 n1 n2
  generalize i2 = ie at e2
  generalize ic2 = ic at e3 sw
  generalize rest666 = re at hr
  refine wpAny_execs_cons (wpAny_Assign_Name (dict_kt (r_zero 20) e1 n1 n2 (ne_kt rfl) (ne_kt rfl) (ne_kt rfl) X fun d s1 a1 a2 a3 v1 v2 v3 N lo hd0 D V1 V2 V3 => ?_) rfl)
  have dL : d ≠ c.L := Nat.ne_of_gt (Nat.lt_of_lt_of_le X.F.ns.lt hd0)
  refine put_ok2 (X.next N) h90 (d := .any) trivial fun s2 N2 X2 => ?_
  have D2 := dictH_keep D (fun o e => N2.heap _ _ dL e) N2.ks
  -- names[...] = ...
  refine wpAny_execs_cons (wpAny_Assign_Subscript ((r_zero 20).ex (f := fe1 k) e3 X2 fun v s3 N3 V4 => ?_) (sw _ _ _))
  have X3 := X2.next N3
  refine ld2 X3 h90 (if_pos rfl) ((r_zero 20).ex (f := fe1 k) e2 X3 fun iv s4 N4 V5 => ?_)
  obtain ⟨a4, rfl, J4⟩ := VR.kt V5
  have X4 := X3.next N4
  have D4 := dictH_keep D2 (fun o e => (N3.trans N4).heap _ _ e) (N3.trans N4).KS
  have ks4 := N2.ks.trans (N3.trans N4).KS
  obtain ⟨oD, esD, epD, hoD, _, hdD, _⟩ := id D4
  have room1 : gKt.room c.A.in1 := u_in (n := 20) (Nat.lt_of_le_of_lt (Nat.add_le_add_left (by decide) _) X.S.room.u)
  refine wpAny_setItem_heap (knd := gKt) room1 J4 D4 (fun h5 D5 sb => ?_) (by show 3 ≤ sizeLine; decide)
  rw [stor4 (ne_kt rfl) (ne_kt rfl) (ne_kt rfl)] at D5
  have ks5 := ks_dict hoD hdD sb
  have nd0 : c.h₀.get? d = none := by
    cases q : c.h₀.get? d with
    | none => rfl
    | some o => exact absurd (Nat.lt_of_lt_of_le (Heap.lt_size q) X.F.above) (Nat.not_lt.mpr (Nat.le_of_lt (Nat.lt_of_lt_of_le X.F.ns.lt hd0)))
  have X5 : ∀ tk, At 20 c (fe1 k) (fun y => if y = nmOf 90 then some (.ref d) else m y) { s4 with heap := h5, toks := tk } := fun tk => ⟨X.S, X4.F.change sb dL nd0, X4.R.mono ks5⟩
  have N5 : ∀ tk, NextL c.L s { s4 with heap := h5, toks := tk } := fun tk => by
    have n4 : NextL c.L s s4 := ((NextL.of N).trans N2).trans (NextL.of (N3.trans N4))
    refine ⟨fun b o ne e => (sb.2 b (fun q => ?_)).trans (n4.heap b o ne e), n4.ks.trans ks5, n4.gens, n4.drawn, n4.os⟩
    have := Heap.lt_size e
    rw [q] at this
    exact absurd this (Nat.not_lt.mpr hd0)
  refine wpAny_execs_cons (wpAny_Return_some ?_)
  -- the return
  have hm90 : (fun y => if y = nmOf 90 then some (Value.ref d) else m y) (nmOf 90) = some (.ref d) := if_pos rfl
  generalize (fun y => if y = nmOf 90 then some (Value.ref d) else m y) = m5 at X5 hm90
  obtain ⟨vT, hT1, hT2⟩ := (X5 0).R 22 _ h22 rfl
  obtain ⟨aT, rfl, JT⟩ := VR.kt hT2
  refine wpAny_IfExp (wpAny_isTrue_Compare1 (ld2 (X5 _) h22 hT1 (ld2 (X5 _) h90 hm90 (wpAny_in_heap (knd := gKt) room1 JT lo D5 (wpAny_truthy_bool ?_)))) rfl)
  have hv1 := V1.mono (ks4.trans ks5)
  have hv2 := V2.mono (ks4.trans ks5)
  have hv3 := V3.mono (ks4.trans ks5)
  have hv4 := V4.mono (N4.KS.trans ks5)
  have yes : ∀ {a' : Addr} {v' : Value} {tk : Nat}, atKey [(qMN, a1, v1), (qMS, a2, v2), (qFace, a3, v3), (qBytes, a4, v)] k = some (a', v') → gV h5 v' r →
      wpAny gM c.A (eval (.Subscript (.Name (nmOf 90) p10) (.Name (nmOf 22) p11) p12) c.env) (fun v s' => Q (.ret v) s') E { s4 with heap := h5, toks := tk } := fun {a' v' tk} hat Vv => by
    refine Subscript_ (ld2 (X5 tk) h90 hm90 (ld2 (X5 tk) h22 hT1 ?_))
    obtain ⟨oE, esE, epE, hoE, hxE, _⟩ := id D5
    refine tail_any ⟨oE, hoE, hxE.1⟩ slot_dict_getitem.lookup (wpAny_getItem_heap (knd := gKt) room1 JT D5 hat ?_) rfl
    exact h _ m5 _ (N5 _) (X5 _).F Vv
  rcases hr with ⟨rfl, rfl⟩ | ⟨rfl, rfl⟩ | ⟨rfl, rfl⟩ | ⟨rfl, rfl⟩ | ⟨⟨q1, q2, q3, q4⟩, hre⟩
  · exact yes rfl hv1
  · exact yes rfl hv2
  · exact yes rfl hv3
  · exact yes rfl hv4
  · rw [show atKey [(qMN, a1, v1), (qMS, a2, v2), (qFace, a3, v3), (qBytes, a4, v)] k = none by simp [atKey, List.find?, Ne.symm q1, Ne.symm q2, Ne.symm q3, Ne.symm q4]]
    exact (r_zero 20).ex hre (X5 _) fun u s6 N6 V6 => h u m5 s6 ((N5 _).trans (NextL.of N6)) (fr_next (X5 0).F N6.heap) V6
end
theorem sort_plain (k : KT) {r : PV} (h1 : k ≠ qMN ∧ k ≠ qMS ∧ k ≠ qFace ∧ k ≠ qBytes) (h : (ev Γ0 20).ex (fe1 k) rest666 = some r) : SortIs k r := .inr (.inr (.inr (.inr ⟨h1, h⟩)))
noncomputable def sortK : List (KT × PV) := [(qInt8, tInt), (qU16, tInt), (qInt, tInt), (qU64, tInt), ([.inl [115, 116, 114, 105, 110, 103]], tStr), ([.inl [98, 111, 111, 108]], tBool),
  ([.inl [117, 110, 116, 121, 112, 101, 100], .inl [105, 110, 116]], tInt), ([.inl [117, 110, 116, 121, 112, 101, 100], .inl [115, 116, 114, 105, 110, 103]], tStr), ([.inl [117, 110, 116, 121, 112, 101, 100], .inl [98, 111, 111, 108]], tBool)]
noncomputable def sortKB : List (KT × PV) → Bool
  | [] => true
  | q :: r => (!decide (q.1 = qMN) && !decide (q.1 = qMS) && !decide (q.1 = qFace) && !decide (q.1 = qBytes)) && isT (((ev Γ0 20).ex (fe1 q.1) rest666).bind fun x => some (eqPV x q.2)) && sortKB r
theorem sortK_ok : sortKB sortK = true := by decide +kernel
theorem sortK_mem {l : List (KT × PV)} (h : sortKB l = true) {k : KT} {r : PV} (hm : (k, r) ∈ l) : SortIs k r := by
  induction l with
  | nil => cases hm
  | cons q l ih =>
    obtain ⟨h1, h2⟩ := and_both h
    cases hm with
    | tail _ hm => exact ih h2 hm
    | head =>
      obtain ⟨h3, h4⟩ := and_both h1
      obtain ⟨x, e1, e2⟩ := bind_some (isT_some h4)
      have neg : ∀ {p : Prop} [Decidable p], (!decide p) = true → ¬p := fun h => of_decide_eq_false (by simpa using h)
      rw [eqPV_eq (some_inj e2)] at e1
      exact sort_plain k ⟨neg (and_both (and_both (and_both h3).1).1).1, neg (and_both (and_both (and_both h3).1).1).2, neg (and_both (and_both h3).1).2, neg (and_both h3).2⟩ e1
theorem sort_is {d r : PV} (h : sortV d = some r) : ∃ k, d = .tup (ktPV k) ∧ SortIs k r := by
  have hm := lkPV_mem h
  have go : ∀ (k : KT), d = .tup (ktPV k) → (k, r) ∈ sortK → ∃ k, d = .tup (ktPV k) ∧ SortIs k r := fun k e hk => ⟨k, e, sortK_mem sortK_ok hk⟩
  simp only [sortTab, List.mem_cons, List.not_mem_nil, or_false, Prod.mk.injEq] at hm
  rcases hm with ⟨rfl, rfl⟩ | ⟨rfl, rfl⟩ | ⟨rfl, rfl⟩ | ⟨rfl, rfl⟩ | ⟨rfl, rfl⟩ | ⟨rfl, rfl⟩ | ⟨rfl, rfl⟩ | ⟨rfl, rfl⟩ | ⟨rfl, rfl⟩ | ⟨rfl, rfl⟩ | ⟨rfl, rfl⟩ | ⟨rfl, rfl⟩ | ⟨rfl, rfl⟩
  · exact go _ rfl (.head _)
  · exact go _ rfl (.tail _ (.head _))
  · exact go _ rfl (.tail _ (.tail _ (.head _)))
  · exact go _ rfl (.tail _ (.tail _ (.tail _ (.head _))))
  · exact ⟨qMN, rfl, .inl ⟨rfl, rfl⟩⟩
  · exact go _ rfl (.tail _ (.tail _ (.tail _ (.tail _ (.head _)))))
  · exact ⟨qMS, rfl, .inr (.inl ⟨rfl, rfl⟩)⟩
  · exact go _ rfl (.tail _ (.tail _ (.tail _ (.tail _ (.tail _ (.head _))))))
  · exact ⟨qBytes, rfl, .inr (.inr (.inr (.inl ⟨rfl, rfl⟩)))⟩
  · exact ⟨qFace, rfl, .inr (.inr (.inl ⟨rfl, rfl⟩))⟩
  · exact go _ rfl (.tail _ (.tail _ (.tail _ (.tail _ (.tail _ (.tail _ (.head _)))))))
  · exact go _ rfl (.tail _ (.tail _ (.tail _ (.tail _ (.tail _ (.tail _ (.tail _ (.head _))))))))
  · exact go _ rfl (.tail _ (.tail _ (.tail _ (.tail _ (.tail _ (.tail _ (.tail _ (.tail _ (.head _)))))))))
end Mine
namespace Mine
open PySem PySem.W PyProof.Rows PySem.Calls PySem.Spec
open Builtin Builtin.ObjectAttr
/-- an object's dict, or none yet -/
def HasD (h : Heap) (x : Addr) (o : Obj) (mA : Str → Option Value) : Prop := (o.dict = none ∧ ∀ n, mA n = none) ∨ ∃ d, o.dict = some d ∧ d ≠ x ∧ h.Ns1 d mA
/-- what an attribute laid on it leaves -/
structure SetD (h h' : Heap) (x : Addr) (o : Obj) (name : Str) (v : Value) (mA : Str → Option Value) (dx : Addr) : Prop where
  obj : h'.get? x = some { o with dict := some dx }
  ne : dx ≠ x
  ns : h'.Ns1 dx (fun y => if y = name then some v else mA y)
  keep : ∀ b ob, b ≠ x → b ≠ dx → h.get? b = some ob → h'.get? b = some ob
  new : o.dict = none → h.get? dx = none
  same : ∀ d, o.dict = some d → dx = d
section
variable {A : Around} {E : Value → Shared → Prop} {s : Shared} {x C : Addr}
theorem inst_at {h : Heap} {mA : Str → Option Value} {o : Obj} (hx : h.get? x = some o) (hcl : o.cls = .ref C) (hnc : ∀ c, o.data ≠ .cls c) (hd : HasD h x o mA) : ∃ od, W.InstAt h x o C od := by
  have no : notCls o = true := by
    unfold notCls
    split
    · rename_i c q; exact absurd q (hnc _)
    · rfl
  rcases hd with ⟨hdn, _⟩ | ⟨dx, hdx, hne, hns⟩
  · exact ⟨none, hx, hcl, no, by rw [hdn]; trivial⟩
  · obtain ⟨oD, es, ep, hoD, _⟩ := id hns
    exact ⟨some oD, hx, hcl, no, by rw [hdx]; exact hoD⟩
theorem osa_exc {R : Result → Shared → Prop} {mA : Str → Option Value} {name : Str} {v : Value} {tk : Tok} {ns : List Str} (X : gu.K.In s.heap) (K : ExcK C) (hn : name = Str.ofString "message" ∨ name = Str.ofString "spot")
    {o : Obj} (hx : s.heap.get? x = some o) (hcl : o.cls = .ref C) (hnc : ∀ c, o.data ≠ .cls c) (hd : HasD s.heap x o mA)
    (hq : ∀ h' tk' dx, SetD s.heap h' x o name v mA dx → R (.ok (.ret .none)) { s with heap := h', toks := tk' }) (hw : Within mA ns) (hsz : ns.length ≤ 100) :
    codeAny gM A (.call (.builtin "object.__setattr__") ⟨[.ref x, .str name tk, v], []⟩) R s := by
  obtain ⟨cd, hc, hm0, hdd⟩ := K.cls
  have ne : cd.mro.isEmpty = false := by rw [hm0]; rfl
  have hr : refuseLoop (.ref x) "__setattr__" cd.mro = pure () := by rw [hm0, refuseLoop_ref, refuseLoop_ref]; exact PySem.F.store_Exception.passes _
  have hob : cd.mro.contains (.type "object") = true := by rw [hm0, List.contains_cons, List.contains_cons]; rw [show bmE.contains (.type "object") = true by decide +kernel, Bool.or_true, Bool.or_true]
  have ht := K.taker name hn
  obtain ⟨od, IA⟩ := inst_at hx hcl hnc hd
  have SF := PySem.F.store_object
  have sub : Looks gM s.heap (isInstance (.ref x) (.type "object")) true := IA.type.andThen (looks_mroIn X (by unfold mroIn; rw [hc, Option.bind_some, if_neg (by rw [ne]; decide), hob]))
  refine codeAny_call_builtin SF.slot.plain SF.entry (@check_slot gM _ _ s "object.__setattr__" "object" "__setattr__" (.ref x) [.str name tk, v] [] _ SF.kind SF.split sub (SF.args (.ref x) (.str name tk) v) ?_)
  obtain ⟨attr, ha, hr'⟩ := Option.bind_eq_some_iff.mp ht
  have hm : Looks gM s.heap (mroOf (.ref C)) cd.mro := (looks_clsIn X hc).andThen .now
  have L3 : Looks gM s.heap (storeTaker? attr) none := by
    cases attr with
    | none => exact .now
    | some a =>
      obtain ⟨b, hb, hb'⟩ := Option.map_eq_some_iff.mp hr'
      refine (looks_takesIn X hb).andThen ?_
      cases b with
      | true => cases hb'
      | false => exact .now
  rw [osa_eq, refuse_eq]
  refine wpAny_bind (wpAny_bind (IA.type.here (wpAny_bind (hm.here ?_))))
  rw [hr]
  refine wpAny_pure (wpAny_bind (IA.type.here (wpAny_bind ((looks_findIn X ha).here (wpAny_bind (L3.here ?_))))))
  obtain ⟨oc, odi, oda, osl⟩ := o
  dsimp only at hcl hd hnc
  subst hcl
  refine wpAny_bind (wpAny_pure (wpAny_bind (wpAny_bind (wpAny_loadPart hx (wpAny_bind ((looks_clsIn X hc).here ?_))))))
  rw [hdd]
  rcases hd with ⟨hdn, hmA⟩ | ⟨dx, hdx, hne, hns⟩
  · subst hdn
    have hx₁ : (s.heap.push { cls := .type "dict", data := .dict #[] }).get? x = some ⟨.ref C, none, oda, osl⟩ := Heap.get?_push_of_some _ hx
    have hxs : x ≠ s.heap.objs.size := Nat.ne_of_lt (Heap.lt_size hx)
    rw [if_neg (by decide)]
    show wpAny _ _ (if (!true || !typeHasDict (.ref C)) = true then _ else _) _ _ _
    rw [if_neg (by simp [typeHasDict])]
    dsimp only
    split
    · exact absurd rfl (hnc _)
    refine wpAny_bind (wpAny_alloc' ?_)
    refine wpAny_bind (wpAny_update' hx₁ ?_)
    refine wpAny_pure (a := some s.heap.objs.size) (wpAny_bind (wpAny_pure (wpAny_bind ?_)))
    have hgd : ((s.heap.push { cls := .type "dict", data := .dict #[] }).update x fun o => { cls := o.cls, dict := some s.heap.objs.size, data := o.data, slots := o.slots }).get? s.heap.objs.size
        = some { cls := .type "dict", data := .dict #[] } :=
      (Heap.get?_update_ne _ _ _ _ hxs.symm).trans (Heap.get?_push_at rfl rfl)
    have hnd : ((s.heap.push { cls := .type "dict", data := .dict #[] }).update x fun o => { cls := o.cls, dict := some s.heap.objs.size, data := o.data, slots := o.slots }).Ns s.heap.objs.size (fun _ => none) :=
      ⟨_, #[], _, hgd, rfl, fun e he => absurd he (by simp), fun _ => rfl⟩
    refine wpAny_nsSet1 (Heap.Ns1.of_empty hnd) fun h' hn' hs => ?_
    obtain ⟨oD, esD, epD, hoD, hdD, hcD⟩ := hn'.count (Within.cons name v Within.nil)
    refine wpAny_bind (wpAny_lookBehind hoD (by rw [hdD]; exact pastItsLine_dict (Nat.le_trans hcD (by rw [List.length_cons, List.length_nil, sizeLine_eq]; omega))) ?_)
    have hx' : h'.get? x = some { cls := .ref C, dict := some s.heap.objs.size, data := oda, slots := osl } := by
      refine (hs.2 x hxs).trans (Heap.get?_update_self _ hx₁ ?_)
      have hfr := (Heap.get?_some_iff.mp hx).2
      cases oda <;> first | rfl | exact hfr
    refine wpAny_pure (hq h' _ _ ⟨hx', hxs.symm, ?_, (fun b ob hbx _ hb => ?_), (fun _ => Heap.get?_none_of_le (Nat.le_refl _)), fun _ q => nomatch q⟩)
    · obtain ⟨o', es, ep, e1, e2, e3, eu, e4⟩ := hn'
      exact ⟨o', es, ep, e1, e2, e3, eu, fun y => by rw [e4 y]; by_cases hy : y = name <;> simp [hy, hmA]⟩
    · exact (hs.2 b (Nat.ne_of_lt (Heap.lt_size hb))).trans ((Heap.get?_update_ne _ _ _ _ hbx).trans (Heap.get?_push_of_some _ hb))
  · subst hdx
    refine wpAny_pure (a := some dx) (wpAny_bind (wpAny_pure (wpAny_bind (wpAny_nsSet1 hns fun h' hn' hs => ?_))))
    obtain ⟨oD, esD, epD, hoD, hdD, hcD⟩ := hn'.count (Within.cons name v hw)
    refine wpAny_bind (wpAny_lookBehind hoD (by rw [hdD]; exact pastItsLine_dict (Nat.le_trans hcD (by rw [List.length_cons, sizeLine_eq]; omega))) ?_)
    exact wpAny_pure (hq h' _ dx ⟨(hs.2 x hne.symm).trans hx, hne, hn', (fun b ob _ hbd hb => (hs.2 b hbd).trans hb), (fun q => nomatch q), fun dx₀ q => Option.some.inj q⟩)
/-- an attribute is laid on an exception of a class of the program's own -/
theorem set_exc {mA : Str → Option Value} {name : Str} {v : Value} {ns : List Str} {Q : Unit → Shared → Prop} (X : gu.K.In s.heap) (K : ExcK C) (hn : name = Str.ofString "message" ∨ name = Str.ofString "spot") {o : Obj} (hx : s.heap.get? x = some o) (hcl : o.cls = .ref C) (hnc : ∀ c, o.data ≠ .cls c) (hd : HasD s.heap x o mA)
    (hq : ∀ h' tk' dx, SetD s.heap h' x o name v mA dx → Q () { s with heap := h', toks := tk' }) (hw : Within mA ns) (hsz : ns.length ≤ 100) : wpAny gM A (setAttr (.ref x) name v) Q E s := by
  obtain ⟨od, IA⟩ := inst_at hx hcl hnc hd
  exact set_plain X IA K.setter (osa_exc (s := { s with toks := s.toks + 1 }) X K hn hx hcl hnc hd hq hw hsz)
end
end Mine
namespace Mine
open PySem PySem.W PyProof.Rows PySem.Calls PySem.Spec
open Builtin Builtin.ObjectAttr
noncomputable abbrev FX : ExcBaseFacts "Exception" "Exception.__new__" "Exception.__init__" bmE := PySem.F.excBase_Exception
noncomputable abbrev excO (C t0 : Addr) : Obj := { cls := .ref C, data := .fields #[.ref t0, .none, .none, .none, .bool false, .none] }
/-- an exception of a class of the program's own, made and not yet thrown -/
noncomputable abbrev excD (C t0 dx : Addr) : Obj := { cls := .ref C, dict := some dx, data := .fields #[.ref t0, .none, .none, .none, .bool false, .none] }
noncomputable abbrev tupO (vs : List Value) : Obj := { cls := .type "tuple", data := .seq vs.toArray }
/-- a class that Exception lies above, as an object -/
def IsExc (h : Heap) (C : Addr) : Prop := ∃ o, h.get? C = some o ∧ IsExcO C o
theorem IsExc.keeps {h h' : Heap} {C : Addr} (I : IsExc h C) (k : h.StaysIn h') : IsExc h' C := let ⟨o, a, b⟩ := I; ⟨o, k _ _ a, b⟩
theorem ExcKU.is {h : Heap} {C : Addr} (K : ExcK C) (X : gu.K.In h) : IsExc h C := let ⟨o, a, b⟩ := K.obj; ⟨o, X _ _ a, b⟩
theorem mroE_has {C : Addr} {X : Value} (h : bmE.contains X = true) : (mroE C).contains X = true := by rw [List.contains_cons, List.contains_cons, h, Bool.or_true, Bool.or_true]
theorem mroE_not {C : Addr} {X : String} (h : bmE.contains (.type X) = false) : (mroE C).contains (.type X) = false := by rw [List.contains_cons, List.contains_cons, h]; rfl
section
variable {A : Around} {E : Value → Shared → Prop} {h : Heap} {g : Array GenState} {d : Drawn} {t : Nat} {os : OsState} {C : Addr}
theorem over_new {rest : List Value} {Q : Unit → Shared → Prop} (I : IsExc h C) (hq : Q () ⟨h, g, d, t, os⟩) : wpAny gM A (checkBuiltinCall "Exception.__new__" ⟨.ref C :: rest, []⟩) Q E ⟨h, g, d, t, os⟩ := by
  obtain ⟨_, hC, ep, rfl⟩ := I
  have hcont : (mroE C).contains (.type "Exception") = true := mroE_has FX.hasB
  have hstar := FX.noStar
  simp only [checkBuiltinCall, FX.newKind, FX.newSplit, FX.newRow]
  repeat (first | refine wpAny_loadPart_at hC ?_ | (refine wpAny_isSubtype_exc hC ?_; rw [hcont]) | refine wpAny_staticBase_exc hC ?_ | refine wpAny_madeBy_exc hC ?_ | simp only [bne_self_eq_false, Bool.false_eq_true, if_false] | wp_step)
  exact hq
/-- Exception.__init__ on an exception of a class below it -/
theorem over_init {e : Addr} {oe : Obj} {rest : List Value} {Q : Unit → Shared → Prop} (I : IsExc h C) (he : h.get? e = some oe) (hcls : oe.cls = .ref C) (hq : Q () ⟨h, g, d, t, os⟩) :
    wpAny gM A (checkBuiltinCall "Exception.__init__" ⟨.ref e :: rest, []⟩) Q E ⟨h, g, d, t, os⟩ := by
  obtain ⟨_, hC, ep, rfl⟩ := I
  have hcB : (mroE C).contains (.type "Exception") = true := mroE_has FX.hasB
  have hshort := FX.noStar
  simp only [checkBuiltinCall, FX.initKind, FX.initSplit, FX.initRow]
  repeat (first | (with_reducible refine wpAny_loadPart_at he ?_; rw [hcls]) | with_reducible refine wpAny_loadPart_at hC ?_ | (with_reducible refine wpAny_isSubtype_exc hC ?_; rw [hcB]) | wp_step)
  refine wpAny_onRaise ?_
  rw [show ∀ (a b : String) (n : Nat), Bind.check ⟨.positional, "*", "Exception", .self, [⟨"args", .varPos, false⟩]⟩ a b n (List.map (fun x => x.fst) ({ pos := Value.ref e :: rest } : Args).kw) = pure () from
    fun a b n => check_star_args _ _ _ _ _ _]
  exact wpAny_pure hq
theorem over_made {R : Result → Shared → Prop} {rest : List Value} (I : IsExc h C) (hq : R (.ok (.ret (.ref (h.objs.size + 1)))) ⟨(h.push (tupO rest)).push (excO C h.objs.size), g, d, t, os⟩) (hrest : rest.length ≤ sizeLine) :
    codeAny gM A (.builtin "Exception.__new__" ⟨.ref C :: rest, []⟩) R ⟨h, g, d, t, os⟩ := by
  obtain ⟨_, hC, ep, rfl⟩ := I
  have hends := FX.ends
  have hcB : (mroE C).contains (.type "Exception") = true := mroE_has FX.hasB
  have hcA : (mroE C).contains (.type "AttributeError") = false := mroE_not FX.noAttr
  have hcN : (mroE C).contains (.type "NameError") = false := mroE_not FX.noName
  refine codeAny_builtinAt FX.entry ?_
  unfold Builtin.«BaseException.__new__»
  refine PySem.wpAt_bind ?_
  show PySem.wpAt _ _ _ (stack >>= _) _ _ _
  refine PySem.wpAt_bind (PySem.wpAt_stack fun p below => PySem.wpAt_of_wpAny ?_)
  wp_walk
  refine PySem.wpAt_of_wpAny ?_
  rw [FX.owner]
  repeat (first | with_reducible refine wpAny_madeHere_exc FX.canon hC ?_ | with_reducible refine wpAny_loadPart_at hC ?_ | (with_reducible refine wpAny_isSubtype_exc hC ?_; first | rw [hcB] | rw [hcA] | rw [hcN]) | wp_step)
  show R _ _
  rw [Heap.size_push]
  exact hq
/-- a class of the program's own is called; its __init__, its own or an inherited one, is a function -/
theorem over_call {rest : List Value} {oI : Obj} {Q : Value → Shared → Prop} (X : gu.K.In h) (K : ExcK C) (hfI : h.get? 36 = some oI) (hfc : oI.cls = .type "function")
    (hq : ∀ h' e, Heap.MadeExcOf h h' e (.ref C) rest →
      wpAny gM (A.under (.builtin "type.__call__" ⟨.ref C :: rest, []⟩)) (call (.ref 36) (.ref e :: rest)) (fun r s' => r = .none ∧ Q (.ref e) s') E ⟨h', g, d, t, os⟩) (hrest : rest.length ≤ sizeLine) :
    wpAny gM A (call (.ref C) rest) Q E ⟨h, g, d, t, os⟩ := by
  have I := K.is X
  obtain ⟨_, hC, ep, rfl⟩ := id I
  have hi := K.init
  have f1 := tc_lookup
  have f2 := tc_bind (.ref C)
  have hT : (⟨h, g, d, t, os⟩ : Shared).TypeIs (.ref C) "type" := ⟨_, hC, rfl⟩
  refine wpAny_call (codeAny_of_tree ?_)
  show wpAny _ _ (callAny (.ref C) _) _ _ _
  repeat (any_goals (first | assumption | with_reducible refine wpAny_loadPart_at hC ?_ | wp_step))
  refine ⟨rfl, ?_⟩
  refine codeAny_call_builtin_at (Code.quiet_builtin _ (by decide +kernel)) entry_typeCall (wpAny_check_type_call_sub hC ?_)
  repeat (first | with_reducible refine wpAny_loadPart_at hC ?_ | with_reducible refine wpAny_madeBy_exc hC ?_ | wp_step)
  refine codeAny_call_builtin_code (Code.quiet_builtin _ FX.quiet) (over_new I ?_)
  refine over_made I ?_ hrest
  show wpAny _ _ _ _ _ ⟨(h.push (tupO rest)).push (excO C h.objs.size), g, d, t, os⟩
  generalize hh1 : h.push (tupO rest) = h1
  have k1 : h.StaysIn h1 := fun b o e => hh1 ▸ Heap.get?_push_of_some _ e
  have z1 : h1.objs.size = h.objs.size + 1 := by rw [← hh1, Heap.size_push]
  have t1 : h1.get? h.objs.size = some (tupO rest) := hh1 ▸ Heap.get?_push_size _ rfl
  generalize hh2 : h1.push (excO C h.objs.size) = h2
  have k2 : h1.StaysIn h2 := fun b o e => hh2 ▸ Heap.get?_push_of_some _ e
  have hget : h2.get? (h.objs.size + 1) = some (excO C h.objs.size) := by
    rw [← z1, ← hh2]; exact Heap.get?_push_size _ rfl
  have hC₁ := k2 _ _ (k1 _ _ hC)
  have hfI₁ := k2 _ _ (k1 _ _ hfI)
  have X₁ : gu.K.In h2 := X.keeps fun b o e => k2 _ _ (k1 b o e)
  have hcC : (mroE C).contains (.ref C) = true := by rw [List.contains_cons, beq_self_eq_true]; rfl
  unfold isInstance
  repeat (first | with_reducible refine wpAny_loadPart_at hget ?_ | (with_reducible refine wpAny_isSubtype_exc hC₁ ?_; rw [hcC]) | wp_step)
  show wpAny _ _ (typeLookup (.ref C) _) _ _ _
  refine (looks_findIn X₁ hi).at ?_
  refine wpAny_holding (wpAny_bind ?_)
  unfold bindSpecial
  refine wpAny_bind (wpAny_typeOf (T := "function") ⟨_, hfI₁, hfc⟩ ?_)
  rw [if_pos (by decide)]
  refine wpAny_pure (wpAny_bind (wpAny_mono (hq _ (h.objs.size + 1) ⟨fun b o hb => k2 _ _ (k1 _ _ hb), Heap.get?_none_of_le (Nat.le_succ _), h.objs.size, hget, Heap.get?_none_of_le (Nat.le_refl _), k2 _ _ t1⟩) (fun r s' hr => ?_) fun _ _ x => x))
  obtain ⟨rfl, hQ⟩ := hr
  wp_walk
  exact hQ
end
end Mine
namespace Mine
open PySem PySem.W PyProof.Rows PySem.Calls PySem.Spec
open Builtin Builtin.ObjectAttr
section
variable {A : Around} {E : Value → Shared → Prop} {s : Shared} {env : Env}
theorem base_init {C e t0 : Addr} {mv : Value} {Q : Value → Shared → Prop} (I : IsExc s.heap C) (he : s.heap.get? e = some (excO C t0))
    (hq : ∀ h' t1, h'.get? e = some (excO C t1) → (∀ b o, b ≠ e → s.heap.get? b = some o → h'.get? b = some o) → Q .none { s with heap := h' }) : wpAny gM A (call (.builtin "Exception.__init__") [.ref e, mv]) Q E s := by
  obtain ⟨h, g, d, t, os⟩ := s
  refine wpAny_call (codeAny_call_builtin FX.init.plain FX.initEntry (over_init I he rfl ?_))
  wp_walk
  refine hq _ (h.objs.size) ?_ fun b o hb hg => ?_
  · rw [Heap.get?_update_self _ (Heap.get?_push_of_some _ he) rfl]; rfl
  · rw [Heap.get?_update_other _ _ (Ne.symm hb)]; exact Heap.get?_push_of_some _ hg
theorem nmcall {x attr y z : Str} {xp pa p p1 p2 : Pos} (hp : p.line = pa.endLine) {Q : Value → Shared → Prop}
    (k : wpAny gM A (eval (.Name x xp) env) (fun ov s₁ => wpAny gM A (getMethod ov attr (do return (← importBound (.Name x xp) env).getD true)) (fun fx s₂ => wpAny gM A (callWith p fx.1 fx.2 (backTo p (starEach [.Name y p1, .Name z p2] env)) []) Q E s₂) E s₁) E s) :
    wpAny gM A (eval (.Call (.Attribute (.Name x xp) attr pa) [.Name y p1, .Name z p2] [] p) env) Q E s := by
  rw [arm_eval_Call]
  show wpAny gM A (eval (.Name x xp) env >>= _) Q E s
  refine wpAny_bind (wpAny_mono k (fun ov s₁ h₁ => wpAny_bind (wpAny_standAt ?_)) fun _ _ y => y)
  unfold methodCall calleeOf methodCallPos
  have few : methodCallForm (([Expr.Name y p1, Expr.Name z p2] : List Expr).length + ([] : List Keyword).length) (backTo p (starEach [.Name y p1, .Name z p2] env)) (backToKw p (keywordEach [] env)) = true := rfl
  rw [few]
  simp only [if_true, Bool.not_true, Bool.false_or, hp, beq_self_eq_true]
  exact wpAny_bind (wpAny_holding (wpAny_mono h₁ (fun fx s₂ h₂ => wpAny_bind (wpAny_pure h₂)) fun _ _ y => y))
theorem args2 {y z : Str} {p1 p2 p : Pos} {Q : List Value → Shared → Prop} (h : wpAny gM A (eval (.Name y p1) env) (fun a s1 => wpAny gM A (eval (.Name z p2) env) (fun b s2 => Q [a, b] s2) E s1) E s) :
    wpAny gM A (spliced (backTo p (starEach [.Name y p1, .Name z p2] env))) Q E s :=
  spliced_more (wpAny_mono h (fun a s1 h1 => spliced_more (wpAny_mono h1 (fun b s2 h2 => spliced_none h2) fun _ _ e => e) rfl) fun _ _ e => e) rfl
theorem ty_exc : typeOf (.type "Exception") = pure (.type "type") := by rfl
theorem fr_but {c : Cx} {h h' : Heap} {e : Addr} {m : Str → Option Value} (F : c.Fr h m) (n : c.h₀.get? e = none) (ne : c.L ≠ e) (k : ∀ b o, b ≠ e → h.get? b = some o → h'.get? b = some o) : c.Fr h' m := by
  refine ⟨?_, fun b o q => k b o (fun z => by rw [z, n] at q; cases q) (F.keep b o q), F.above⟩
  obtain ⟨o, es, ep, ho, r⟩ := F.ns
  exact ⟨o, es, ep, k _ _ ne ho, r⟩
theorem fr_but2 {c : Cx} {h h' : Heap} {e dx : Addr} {m : Str → Option Value} (F : c.Fr h m) (n : c.h₀.get? e = none) (ne : c.L ≠ e) (ndx : h.get? dx = none) (k : ∀ b o, b ≠ e → b ≠ dx → h.get? b = some o → h'.get? b = some o) : c.Fr h' m := by
  refine ⟨?_, fun b o q => k b o (fun z => by rw [z, n] at q; cases q) (fun z => by have := F.keep b o q; rw [z, ndx] at this; cases this) (F.keep b o q), F.above⟩
  obtain ⟨o, es, ep, ho, r⟩ := F.ns
  exact ⟨o, es, ep, k _ _ ne (fun z => by rw [z, ndx] at ho; cases ho) ho, r⟩
/-- the body of __init__ -/
theorem run36 (Z : KX) {c : Cx} {C e t0 : Addr} {mv sv : Value} {m : Str → Option Value} {Q : Flow → Shared → Prop} (K : ExcK C) (X : gu.K.In c.h₀) (T : gTop c.h₀) (hs : c.cs = sc36) (n0 : c.h₀.get? e = none) (neL : c.L ≠ e) (F : c.Fr s.heap m) (he : s.heap.get? e = some (excO C t0))
    (m1 : m sSelf = some (.ref e)) (m2 : m sMsg = some mv) (m3 : m sSpot = some sv)
    (hq : ∀ h' tk' t1 dx, (∀ b o, b ≠ e → s.heap.get? b = some o → h'.get? b = some o) → h'.get? e = some (excD C t1 dx) → dx ≠ e → s.heap.get? dx = none → MsgAt h' dx mv → Q .next { s with heap := h', toks := tk' }) :
    wpAny gM c.A (execs body36 c.env) Q E s := by
  obtain ⟨A, cn, cs, L, a, ccd, h₀⟩ := c
  cases (show cs = sc36 from hs)
  have mex : gu.mg "Exception" = none := mg_none_of X T.g Z.ex
  have hbo : bootBuiltins "Exception" = some (.type "Exception") := PyProof.Rows.Boot.«Exception»
  refine wpAny_execs_cons (wpAny_Expr (nmcall rfl ?_) rfl rfl)
  refine ld_builtin_at F T.g mex T.b ((T.builtins "Exception" (by decide +kernel)).trans hbo) ?_
  refine method_type F X ty_exc (by decide +kernel) Z.fc rfl ?_
  refine callWith_builtin rfl (evalArgs_plain (args2 (ld F m1 (ld F m2 ?_))))
  refine base_init (K.is (X.keeps F.keep)) he fun h2 t1 he2 k2 => ?_
  have F2 := fr_but F n0 neL k2
  refine wpAny_execs_cons (plainObj_wpAny_Assign_Attribute (ld F2 m2 (ld F2 m1 ?_)) rfl)
  refine set_exc (X.keeps F2.keep) K (.inl rfl) he2 rfl (fun c q => nomatch q) (.inl ⟨rfl, fun _ => rfl⟩) (fun h3 tk3 dx S3 => ?_) Within.nil (by decide)
  have ndx : h2.get? dx = none := S3.new rfl
  have F3 := fr_but2 F2 n0 neL ndx S3.keep
  refine wpAny_execs_cons (plainObj_wpAny_Assign_Attribute (ld F3 m3 (ld F3 m1 ?_)) rfl)
  refine set_exc (X.keeps F3.keep) K (.inr rfl) S3.obj rfl (fun c q => nomatch q) (.inr ⟨dx, rfl, S3.ne, S3.ns⟩) (fun h4 tk4 dx4 S4 => ?_) (Within.cons _ _ Within.nil) (by decide)
  cases S4.same dx rfl
  refine wpAny_execs_nil ?_
  refine hq h4 tk4 t1 dx (fun b o nb hb => ?_) S4.obj S4.ne ?_ ⟨_, S4.ns, rfl⟩
  · have b2 := k2 b o nb hb
    have nb4 : b ≠ dx := fun z => by rw [z, ndx] at b2; cases b2
    exact S4.keep b o nb nb4 (S3.keep b o nb nb4 b2)
  · cases z : s.heap.get? dx with
    | none => rfl
    | some o => have := k2 dx o S4.ne z; rw [ndx] at this; cases this
theorem init36 (Z : KX) {C e t0 : Addr} {h₀ : Heap} {mv sv : Value} {vs : List Value} {Q : Value → Shared → Prop} (k0 : h₀.StaysIn s.heap) (n0 : h₀.get? e = none) (X0 : gu.K.In h₀) (T0 : gTop h₀) (K : ExcK C)
    (he : s.heap.get? e = some (excO C t0)) (hroom : A.depth < recursionLimit)
    (hv : vs = [mv, sv] ∨ vs = [mv]) (hq : ∀ h' tk' t1 dx, (∀ b o, b ≠ e → s.heap.get? b = some o → h'.get? b = some o) → h'.get? e = some (excD C t1 dx) → dx ≠ e → s.heap.get? dx = none → MsgAt h' dx mv → Q .none { s with heap := h', toks := tk' }) :
    wpAny gM A (call (.ref 36) (.ref e :: vs)) Q E s := by
  obtain ⟨o, D⟩ := Z.D
  have X1 := X0.keeps k0
  obtain ⟨sv', hb'⟩ : ∃ sv', BindsTo s (fdAt 36) ⟨.ref e :: vs, []⟩ (bind36 (.ref e) mv sv') := by
    rcases hv with rfl | rfl
    · exact ⟨sv, Z.b3 X1⟩
    · obtain ⟨sv1, hb⟩ := Z.b2; exact ⟨sv1, hb X1⟩
  have kg : h₀.StaysIn (s.heap.hide e) := fun b o q => (Heap.hide_ne _ (fun z => by rw [z, n0] at q; cases q)).trans (k0 b o q)
  refine wpAny_call (codeAny_call_def (fd := fdAt 36) (body := body36) (binds := bind36 (.ref e) mv sv') hroom (X1 _ _ D.at_) D.data (T0.keeps k0).nolimit (codeRec_of X1 D.code) Z.body hb' D.cell (by rw [Z.scope]; exact locs rfl) (fun h₁ hns hk₁ => ?_) D.co D.gen D.kind)
  rw [D.env]
  have neL : s.heap.objs.size ≠ e := Nat.ne_of_gt (Heap.lt_size he)
  refine run36 Z (c := ⟨A.deeper (envOf (fdAt 36).qualname (fdAt 36).scope s.heap.objs.size 36 (fdAt 36).code), (fdAt 36).qualname, (fdAt 36).scope, s.heap.objs.size, 36, (fdAt 36).code, s.heap.hide e⟩) K (X0.keeps kg) (T0.keeps kg) Z.scope (Heap.hide_self _ _) neL
    ⟨hns, fun b o q => hk₁ b o (Heap.of_hide q), Nat.le_of_eq (Heap.hide_size _ _)⟩ (hk₁ _ _ he) rfl rfl rfl fun h4 tk4 t1 dx k4 he4 nd nx Ms => ?_
  refine hq h4 tk4 t1 dx (fun b o nb hb => k4 b o nb (hk₁ b o hb)) he4 nd ?_ Ms
  cases z : s.heap.get? dx with
  | none => rfl
  | some o => exact absurd (nx.symm.trans (hk₁ _ _ z)) (fun q => nomatch q)
/-- a class of the program's own is called -/
theorem call_exc (Z : KX) {C : Addr} {mv sv : Value} {vs : List Value} {Q : Value → Shared → Prop} (X : gu.K.In s.heap) (T : gTop s.heap) (K : ExcK C) (hroom : A.depth + 1 < recursionLimit) (hv : vs = [mv, sv] ∨ vs = [mv])
    (hq : ∀ h' tk' e t1 dx, s.heap.StaysIn h' → s.heap.get? e = none → h'.get? e = some (excD C t1 dx) → dx ≠ e → s.heap.get? dx = none → MsgAt h' dx mv → Q (.ref e) { s with heap := h', toks := tk' }) :
    wpAny gM A (call (.ref C) vs) Q E s := by
  obtain ⟨h, g, d, t, os⟩ := s
  obtain ⟨oI, hoI, hfc⟩ := Z.fn
  refine over_call X K (X _ _ hoI) hfc (fun h' e hm => ?_) (by rcases hv with rfl | rfl <;> (simp only [List.length_cons, List.length_nil, sizeLine_eq]; omega))
  obtain ⟨t0, he, _, _⟩ := hm.there
  have n0 : h.get? e = none := hm.new
  refine init36 Z (s := ⟨h', g, d, t, os⟩) (h₀ := h) hm.keeps n0 X T K he (by rw [depth_under_kw]; exact hroom) hv fun h2 tk' t1 dx k2 he2 nd nx ms => ⟨rfl, hq h2 tk' e t1 dx (fun b o hb => k2 b o (fun z => by rw [z] at hb; exact absurd (n0.symm.trans hb) (fun q => nomatch q)) (hm.keeps b o hb)) n0 he2 nd ?_ ms⟩
  cases z : h.get? dx with
  | none => rfl
  | some o => have := hm.keeps _ _ z; exact absurd (nx.symm.trans this) (fun q => nomatch q)
end
end Mine
namespace Mine
open PySem PySem.W PyProof.Rows PySem.Calls PySem.Spec
open Builtin Builtin.ObjectAttr
noncomputable abbrev FlyTo (x : Fx) (l : List Env) (cx fl : Value) (s : Shared) (Q : Shared → Prop) : Prop := ∀ h', Flies x l cx fl h' → s.heap.UpToSlots h' → Q { s with heap := h' }
theorem noRec {h : Heap} {a : Addr} {oa : Obj} {vs : Array Value} (ha : h.get? a = some oa) (hd : oa.data = .fields vs) : ∀ b o, h.get? b = some o → (∀ vs, o.data ≠ .fields vs) → b ≠ a := fun b o hb hnf q => by
  rw [q, ha] at hb; cases some_inj hb; exact hnf vs hd
section
variable {x : Fx} {A : Around} {env : Env} {L : Addr} {E : Value → Shared → Prop} {s : Shared} {outer l : List Env} {cx fl : Value}
theorem Flies.fewer {h : Heap} (F : Flies x (env :: l) cx fl h) : Flies x l cx fl h := ⟨F.stays, F.exc, F.frames.2.2, F.flown⟩
theorem Flies.ob {h : Heap} (F : Flies x l cx fl h) : ∃ vs, h.get? x.e = some (x.ob vs) := let ⟨vs, _, _, _, a, _⟩ := F.flown; ⟨vs, a⟩
theorem upd_other (h : Heap) {T b : Addr} (f : Obj → Obj) (hb : b ≠ T) : (h.update T f).get? b = h.get? b := Heap.get?_update_other _ _ (Ne.symm hb)
theorem fly_entry {vs : Array Value} {head : Value} {hadNext : Bool} {Q : Unit → Shared → Prop}
    (hfr : A.frames = some (env :: outer)) (hf : env.frame = some L) (hl : s.heap.FunFrames x.base (env :: outer)) (he : s.heap.get? x.e = some (x.ob vs)) (hkb : x.base.StaysIn s.heap) (hen : x.base.get? x.e = none) (hsz : vs.size = 6) (h2 : vs[2]? = some cx)
    (h : FlyTo x (env :: outer) cx (rawInt L) s (Q ())) :
    wpAny gM A (do let a ← frameOf env; let pl ← entryPlaceOf L hadNext; let b ← EntryCells.newEntry head a .none (rawInt L) .none pl; setField (.ref x.e) 1 b) Q E s := by
  have nr := noRec he rfl
  have hene : x.e ∉ (env :: outer).filterMap (·.frame) := fun hm => by
    obtain ⟨_, o, ho, hnf⟩ := hl.mem hm
    exact nr _ _ ho hnf rfl
  refine wpAny_bind (wpAny_frameOf_fun hfr hl hf fun h₁ hs₁ => ?_)
  refine wpAny_bind (wpAny_entryPlaceOf fun pl hpl => ?_)
  unfold EntryCells.newEntry newFields
  refine wpAny_bind (wpAny_newObj_type ?_ (hpl.sizeOk5 _ _ _ _ _))
  have he₁ : h₁.get? x.e = some (x.ob vs) := (hs₁.2.1 x.e hene).trans he
  have kb₁ : x.base.StaysIn h₁ := fun b o hbo => (hs₁.2.1 b fun hm => by rw [(hl.mem hm).1] at hbo; cases hbo).trans (hkb b o hbo)
  have hT3 : (([head, .ref L, .none, rawInt L, .none] ++ (if pl.isEmpty then List.replicate 6 Value.none else pl)).toArray : Array Value)[3]? = some (rawInt L) := by
    rw [List.getElem?_toArray]; rfl
  generalize ([head, .ref L, .none, rawInt L, .none] ++ (if pl.isEmpty then List.replicate 6 Value.none else pl)).toArray = ts at hT3 ⊢
  generalize hT : ({ cls := .type "traceback", dict := none, data := .fields ts } : Obj) = oT
  have hTd : oT.data = .fields ts := by rw [← hT]
  have he₂ := Heap.get?_push_of_some (h := h₁) oT he₁
  have h16 : 1 < vs.size := by rw [hsz]; decide
  refine wpAny_setField he₂ rfl h16 (h _ ?_ ?_)
  · have hTe : h₁.objs.size ≠ x.e := Nat.ne_of_gt (Heap.lt_size he₁)
    have he₃ := Heap.get?_update_self (Obj.mapFields (·.setIfInBounds 1 (Value.ref h₁.objs.size))) he₂ rfl
    have hT₃ := (upd_other (h₁.push oT) (Obj.mapFields (·.setIfInBounds 1 (Value.ref h₁.objs.size))) hTe).trans (Heap.get?_push_size h₁ (by rw [← hT]; rfl))
    have keep : ∀ b o, b ≠ x.e → h₁.get? b = some o → ((h₁.push oT).update x.e (Obj.mapFields (·.setIfInBounds 1 (Value.ref h₁.objs.size)))).get? b = some o :=
      fun b o hbe hb => (upd_other _ _ hbe).trans (Heap.get?_push_of_some _ hb)
    refine ⟨fun b o hbo => keep b o (fun q => by rw [q, hen] at hbo; cases hbo) (kb₁ b o hbo), hen, hl.of_keeps fun b o hb hnf => ?_, ?_⟩
    · obtain ⟨sl, hs⟩ := hs₁.2.2 b o hb
      exact ⟨_, keep b _ (nr b o hb hnf) hs, rfl⟩
    · refine ⟨_, h₁.objs.size, oT, ts, he₃, ?_, (Array.getElem?_setIfInBounds_ne (by decide)).trans h2, Array.size_setIfInBounds.trans hsz, kb₁.fresh, hTe, hT₃, hTd, hT3⟩
      exact Array.getElem?_setIfInBounds_self_of_lt h16
  · intro b o hb hnf
    obtain ⟨sl, hs⟩ := hs₁.2.2 b o hb
    exact ⟨sl, (upd_other _ _ (nr b o hb hnf)).trans (Heap.get?_push_of_some _ hs)⟩
/-- the first frame that an exception leaves -/
theorem fly_first {vs : Array Value} {Q : Unit → Shared → Prop} (hfr : A.frames = some (env :: outer)) (hf : env.frame = some L) (hl : s.heap.FunFrames x.base (env :: outer)) (he : s.heap.get? x.e = some (x.ob vs)) (hkb : x.base.StaysIn s.heap) (hen : x.base.get? x.e = none) (hsz : vs.size = 6)
    (h1 : vs[1]? = some .none) (h2 : vs[2]? = some cx) (h : FlyTo x (env :: outer) cx (rawInt L) s (Q ())) : wpAny gM A (noteFrame (.ref x.e) env) Q E s := by
  unfold noteFrame
  simp only [hf]
  refine wpAny_bind (wpAny_field he rfl h1 ?_)
  rw [if_neg (by decide)]
  exact fly_entry hfr hf hl he hkb hen hsz h2 h
theorem ref_ne {T : Addr} : (Value.ref T != Value.none) = true := rfl
theorem ref_nb {T : Addr} : ¬ (Value.ref T == Value.none) = true := by intro h; cases h
/-- the next one -/
theorem fly_next {Q : Unit → Shared → Prop} (hfr : A.frames = some (env :: outer)) (hf : env.frame = some L) (F : Flies x (env :: outer) cx .none s.heap) (h : FlyTo x (env :: outer) cx (rawInt L) s (Q ())) : wpAny gM A (noteFrame (.ref x.e) env) Q E s := by
  obtain ⟨vs, T, oT, ts, he, h1, h2, hsz, hnT, hTe, hT, hdT, h3⟩ := F.flown
  unfold noteFrame
  simp only [hf]
  refine wpAny_bind (wpAny_field he rfl h1 ?_)
  rw [if_pos ref_ne]
  refine wpAny_bind (wpAny_field hT hdT h3 ?_)
  rw [if_neg (show ¬ ((Value.none == rawInt L) = true) from by intro h; cases h)]
  refine wpAny_bind (wpAny_setField hT hdT (Array.getElem?_eq_some_iff.mp h3).1 ?_)
  have nr := noRec hT hdT
  have other : ∀ b, b ≠ T → (s.heap.update T (Obj.mapFields (·.setIfInBounds 3 Value.none))).get? b = s.heap.get? b := fun b hb => upd_other _ _ hb
  generalize s.heap.update T (Obj.mapFields (·.setIfInBounds 3 Value.none)) = h4 at other ⊢
  exact fly_entry (s := { s with heap := h4 }) hfr hf (F.frames.of_keeps fun b o hb hnf => ⟨o, (other b (nr b o hb hnf)).trans hb, rfl⟩) ((other x.e (Ne.symm hTe)).trans he)
    (fun b o hbo => (other b fun q => by rw [q, hnT] at hbo; cases hbo).trans (F.stays b o hbo)) F.exc hsz h2 fun h' x1 x2 => h h' x1 fun b o hb hnf => x2 b o ((other b (nr b o hb hnf)).trans hb) hnf
/-- a frame that stands in it already -/
theorem fly_again {Q : Unit → Shared → Prop} (hf : env.frame = some L) (F : Flies x l cx (rawInt L) s.heap) (h : Q () s) : wpAny gM A (noteFrame (.ref x.e) env) Q E s := by
  obtain ⟨vs, T, oT, ts, he, h1, h2, hsz, hnT, hTe, hT, hdT, h3⟩ := F.flown
  unfold noteFrame
  simp only [hf]
  refine wpAny_bind (wpAny_field he rfl h1 ?_)
  rw [if_pos ref_ne]
  refine wpAny_bind (wpAny_field hT hdT h3 ?_)
  rw [if_pos (show (rawInt L == rawInt L) = true from by simp)]
  exact wpAny_pure h
theorem fly_set {f : Option Addr} {Q : Unit → Shared → Prop} (F : Flies x l cx fl s.heap) (h : FlyTo x l cx (f.elim .none fun f => rawInt f) s (Q ())) : wpAny gM A (setFlight (.ref x.e) f) Q E s := by
  obtain ⟨vs, T, oT, ts, he, h1, h2, hsz, hnT, hTe, hT, hdT, h3⟩ := F.flown
  have hsz3 : 3 < ts.size := (Array.getElem?_eq_some_iff.mp h3).1
  unfold setFlight
  refine wpAny_bind (wpAny_field he rfl h1 ?_)
  rw [if_pos ref_ne]
  refine wpAny_setField hT hdT hsz3 ?_
  have hT' := Heap.get?_update_self (Obj.mapFields (·.setIfInBounds 3 (f.elim Value.none fun f => rawInt f))) hT (Obj.isFreed_of_fields (Obj.data_mapFields hdT _))
  have nr := noRec hT hdT
  have other : ∀ b, b ≠ T → (s.heap.update T (Obj.mapFields (·.setIfInBounds 3 (f.elim Value.none fun f => rawInt f)))).get? b = s.heap.get? b := fun b hb => upd_other _ _ hb
  generalize s.heap.update T (Obj.mapFields (·.setIfInBounds 3 (f.elim Value.none fun f => rawInt f))) = h4 at other hT' ⊢
  refine h h4 ⟨fun b o hbo => (other b fun q => by rw [q, hnT] at hbo; cases hbo).trans (F.stays b o hbo), F.exc,
    F.frames.of_keeps fun b o hb hnf => ⟨o, (other b (nr b o hb hnf)).trans hb, rfl⟩, ?_⟩ fun b o hb hnf => ⟨o.slots, (other b (nr b o hb hnf)).trans hb⟩
  exact ⟨vs, T, _, _, (other x.e (Ne.symm hTe)).trans he, h1, h2, hsz, hnT, hTe, hT', Obj.data_mapFields hdT _, Array.getElem?_setIfInBounds_self_of_lt hsz3⟩
theorem leave_first {vs : Array Value} {Q : Unit → Shared → Prop} (hfr : A.frames = some (env :: outer)) (hf : env.frame = some L) (hl : s.heap.FunFrames x.base (env :: outer)) (he : s.heap.get? x.e = some (x.ob vs)) (hkb : x.base.StaysIn s.heap) (hen : x.base.get? x.e = none) (hsz : vs.size = 6)
    (h1 : vs[1]? = some .none) (h2 : vs[2]? = some cx) (h : FlyTo x outer cx .none s (Q ())) : wpAny gM A (leaving env (.ref x.e)) Q E s := by
  unfold leaving
  refine wpAny_bind (fly_first hfr hf hl he hkb hen hsz h1 h2 fun h1 F1 u1 => ?_)
  exact fly_set (f := none) F1 fun h2 F2 u2 => h h2 F2.fewer (u1.trans u2)
theorem hasB {C : Addr} : (mroE C).contains (.type "BaseException") = true := mroE_has (by decide +kernel)
theorem raise_plain {t : Sem Value} {Q : Flow → Shared → Prop} (hh : A.handled = none)
    (h : wpAny gM A t (fun v s₁ => ∃ e C t0 dx, v = .ref e ∧ IsExc s₁.heap C ∧ s₁.heap.get? e = some (excD C t0 dx) ∧ E (.ref e) s₁) E s) : wpAny gM A (raiseStmt env (some t) none) Q E s := by
  unfold raiseStmt
  refine wpAny_bind (wpAny_mono h (fun v s₁ h₁ => ?_) fun _ _ x => x)
  obtain ⟨e, C, t0, dx, rfl, ⟨_, hC, ep, rfl⟩, he, hE⟩ := h₁
  obtain ⟨hp, g, d, tk, os⟩ := s₁
  have hcB := hasB (C := C)
  repeat (first | with_reducible refine wpAny_loadPart_at he ?_ | with_reducible refine wpAny_loadPart_at hC ?_ | (with_reducible refine wpAny_isSubtype_exc hC ?_; rw [hcB]) | wp_step)
  exact wpAny_raiseNew_none hh hE
theorem exc_self {C e : Addr} {oe : Obj} {Q : Bool → Shared → Prop} (I : IsExc s.heap C) (he : s.heap.get? e = some oe) (hc : oe.cls = .ref C) (hq : Q true s) : wpAny gM A (excMatches (.ref e) (.ref C)) Q E s := by
  obtain ⟨_, hC, ep, rfl⟩ := I
  obtain ⟨hp, g, d, tk, os⟩ := s
  exact wpAny_excMatches_sub_self hC he hc (hasB (C := C)) hq
/-- a ConstFault is no TypeFault -/
theorem exc_other {e : Addr} {oe : Obj} {Q : Bool → Shared → Prop} (I : IsExc s.heap 76) (J : IsExc s.heap 64) (he : s.heap.get? e = some oe) (hc : oe.cls = .ref 76) (hq : Q false s) : wpAny gM A (excMatches (.ref e) (.ref 64)) Q E s := by
  obtain ⟨_, hC, ep, rfl⟩ := I
  obtain ⟨_, hD, ep', rfl⟩ := J
  obtain ⟨hp, g, d, tk, os⟩ := s
  have hB : (mroE 64).contains (.type "BaseException") = true := hasB (C := 64)
  have hN : (mroE 76).contains (.ref 64) = false := by decide +kernel
  have f := tc_notTuple
  unfold excMatches
  repeat (first | (with_reducible refine wpAny_loadPart_at he ?_; rw [hc]) | with_reducible refine wpAny_loadPart_at hD ?_ | with_reducible refine wpAny_loadPart_at hC ?_ | (with_reducible refine wpAny_isSubtype_exc hD ?_; rw [hB]) | (with_reducible refine wpAny_isSubtype_exc hC ?_; rw [hN]) | wp_step)
  exact hq
end
end Mine
namespace Mine
open PySem PySem.W PyProof.Rows PySem.Calls PySem.Spec
open Builtin Builtin.ObjectAttr
/-- an exception is thrown in a frame -/
structure Thrown (s s' : Shared) (e C t1 dx : Addr) (msg : Value) : Prop where
  stays : s.heap.StaysIn s'.heap
  new : s.heap.get? e = none
  exc : s'.heap.get? e = some (excD C t1 dx)
  ne : dx ≠ e
  newd : s.heap.get? dx = none
  told : MsgAt s'.heap dx msg
  txt : ∃ x t, msg = .str x t
  gens : s'.gens = s.gens
  drawn : s'.drawn = s.drawn
  os : s'.os = s.os
theorem Room.now1 {n : Nat} {A : Around} (R : Room (n + 2) A) : A.depth + 1 < recursionLimit := Nat.lt_of_le_of_lt (Nat.add_le_add_left (Nat.le_add_left 1 (n + 1)) _) R.depth
theorem none_back {h h' : Heap} (k : h.StaysIn h') {a : Addr} (n : h'.get? a = none) : h.get? a = none := by
  cases z : h.get? a with
  | none => rfl
  | some o => exact absurd (n.symm.trans (k _ _ z)) (fun q => nomatch q)
section
variable {n : Nat} {r : Rec} {c : Cx} {m : Str → Option Value} {s : Shared} {E : Value → Shared → Prop} {f : Fe}
theorem keeper_exc {A : Around} {C : Addr} (I : IsExc s.heap C) {Q : Keeper → Shared → Prop} (hq : Q .machine s) : wpAny gM A (keeperOf (.ref C)) Q E s := by
  obtain ⟨_, hC, ep, rfl⟩ := I
  obtain ⟨h, g, d, t, os⟩ := s
  exact wpAny_keeperOf_exc hC hq
theorem callWith_exc {A : Around} {C : Addr} {cpos : Pos} {args : List Expr} {env : Env} {Q : Value → Shared → Prop} (hplain : (backTo cpos (starEach args env)).any (·.1) = false)
    (h : wpAny gM A (evalArgs (.ref C) true (backTo cpos (starEach args env)) []) (fun a s₂ => a.kw = [] ∧ IsExc s₂.heap C ∧ wpAny gM A (call (.ref C) a.pos) Q E s₂) E s) :
    wpAny gM A (callWith cpos (.ref C) [] (backTo cpos (starEach args env)) []) Q E s := by
  unfold callWith
  refine wpAny_bind (wpAny_holding (wpAny_mono h (fun a s₂ h₂ => wpAny_bind (wpAny_standAt ?_)) fun _ _ x => x))
  obtain ⟨apos, akw⟩ := a
  obtain ⟨hkw, X, h₂⟩ := h₂
  obtain rfl : akw = [] := hkw
  simp only [hplain]
  refine wpAny_bind (keeper_exc X ?_)
  exact wpAny_bind (wpAny_mono h₂ (fun v s3 h3 => wpAny_bind (wpAny_holding (wpAny_point (wpAny_pure h3)))) fun _ _ y => y)
theorem VRs.nil_of {aDr : Nat → Addr} {h : Heap} {vs : List Value} {ds : List PV} (V : VRs aDr h vs ds) (hd : ds.length = 0) : vs = [] := by
  rw [List.length_eq_zero_iff.mp hd] at V; exact V
theorem hit_args {h : Heap} {vs : List Value} {ds : List PV} (V : gVs h vs ds) (hl : ds.length = 2 ∨ ds.length = 1) (hs : ∃ l, ds[0]? = some (.str l)) : ∃ mv sv, (vs = [mv, sv] ∨ vs = [mv]) ∧ ∃ x t, mv = .str x t := by
  obtain ⟨l, hs⟩ := hs
  cases ds with
  | nil => cases hs
  | cons d ds =>
    cases some_inj hs
    obtain ⟨v, ws, rfl, ⟨t, rfl⟩, W⟩ := V
    cases ds with
    | nil => cases (show ws = [] from W); exact ⟨_, .none, .inr rfl, _, _, rfl⟩
    | cons d ds =>
      obtain ⟨u, us, rfl, _, W⟩ := W
      rcases hl with hl | hl
      · cases W.nil_of (Nat.succ.inj (Nat.succ.inj hl)); exact ⟨_, u, .inl rfl, _, _, rfl⟩
      · cases Nat.succ.inj hl
/-- raise X(..), its arguments evaluated by the evaluator -/
theorem raise_hit (Z : KX) {C : Addr} {k : Nat} {np cpos pos : Pos} {es : List IE} {ds : List PV} {Q : Flow → Shared → Prop} (N : ExcNm k C) (H : RecOK (n + 2) r) (X : At (n + 2) c f m s) (hk : hasN k f.fi.glos = true)
    (hes : evs r f es = some ds) (hl : ds.length = 2 ∨ ds.length = 1) (hs : ∃ l, ds[0]? = some (.str l)) (hE : ∀ s' e t1 dx msg, Thrown s s' e C t1 dx msg → E (.ref e) s') :
    wpAny gM c.A (exec (.Raise (some (.Call (.Name (nmOf k) np) (embs es) [] cpos)) none pos) c.env) Q E s := by
  rw [arm_exec_Raise]
  refine wpAny_bind (wpAny_standAt (raise_plain X.S.room.hand (wpAny_bind (wpAny_mono (Q := fun v s₁ => ∃ e C t0 dx, v = .ref e ∧ IsExc s₁.heap C ∧ s₁.heap.get? e = some (excD C t0 dx) ∧ E (.ref e) s₁) (E := E) ?_ (fun v s3 h3 => wpAny_bind (wpAny_standAt (wpAny_pure h3))) fun _ _ y => y))))
  refine wpAny_Call_ofName (name_K X.F X.S.gd.kin (topRead_of X.S.gd.top) N.ns ?_ X.S.nms.kind (X.S.nms.glo k hk) N.db)
  refine callWith_exc (args_plain es) (args_ok H hes X fun vs s1 N1 V1 => ?_)
  have G1 := (X.next N1).gd
  obtain ⟨mv, sv, hvs, htxt⟩ := hit_args V1 hl hs
  refine ⟨rfl, N.K.is G1.kin, call_exc Z G1.kin G1.top N.K X.S.room.now1 hvs fun h' tk' e t1 dx st ne he nd nx ms => ?_⟩
  exact ⟨e, C, t1, dx, rfl, (N.K.is G1.kin).keeps st, he, hE _ e t1 dx mv ⟨fun b o z => st b o (N1.heap b o z), none_back N1.heap ne, he, nd, none_back N1.heap nx, ms, htxt, N1.gens, N1.drawn, N1.os⟩⟩
end
end Mine
namespace Mine
open PySem PySem.W PyProof.Rows PySem.Calls PySem.Spec
open Builtin Builtin.ObjectAttr
theorem MsgAt.keeps {h h' : Heap} {dx : Addr} {msg : Value} (x : MsgAt h dx msg) (k : ∀ o, h.get? dx = some o → h'.get? dx = some o) : MsgAt h' dx msg := by
  obtain ⟨mA, ⟨o, es, ep, ho, r⟩, hm⟩ := x
  exact ⟨mA, ⟨o, es, ep, k _ ho, r⟩, hm⟩
theorem in_frames {L b : Addr} {c : Cx} {l : List Env} (hb : b ∈ framesOf (c.env :: l)) : b = c.L ∨ b ∈ framesOf l := List.mem_cons.mp (show b ∈ c.L :: framesOf l from hb)
theorem framesOf_has {h base : Heap} {l : List Env} (F : h.FunFrames base l) {x : Addr} (hx : x ∈ framesOf l) : ∃ o, h.get? x = some o := by
  obtain ⟨env, he, hf⟩ := List.mem_filterMap.mp hx
  obtain ⟨L₁, o₁, hf₁, ho₁⟩ := funFrames_in F env he
  rw [hf₁] at hf
  exact ⟨o₁, some_inj hf ▸ ho₁⟩
section
variable {A₀ : Around} {E : Value → Shared → Prop} {s0 s s' : Shared} {base0 : Heap} {outer : List Env} {c : Cx} {e C t1 dx : Addr} {msg : Value} {m : Str → Option Value}
/-- the ground below an exception that is thrown: the heap without the frames and without it -/
theorem thrown_ground {h : Heap} {e : Addr} {l : List Env} {b0 : Heap} (fr : h.FunFrames b0 l) : ∃ base : Heap, base.StaysIn h ∧ h.FunFrames base l ∧ base.get? e = none ∧ (∀ x o, h.get? x = some o → x ∉ framesOf l → x ≠ e → base.get? x = some o) ∧ ∀ x, x ∈ framesOf l → base.get? x = none := by
  have frh := funFrames_hide (as := framesOf l) fr fun env he x hx => List.mem_filterMap.mpr ⟨env, he, hx⟩
  have kb : ((hideAll h (framesOf l)).hide e).StaysIn (hideAll h (framesOf l)) := fun x o q => Heap.of_hide q
  refine ⟨(hideAll h (framesOf l)).hide e, fun x o q => of_hideAll _ (kb x o q), funFrames_base kb frh, Heap.hide_self _ _, fun x o q nf ne => ?_, fun x hx => ?_⟩
  · rw [Heap.hide_ne _ ne]; exact hideAll_get _ q nf
  · cases z : ((hideAll h (framesOf l)).hide e).get? x with
    | none => rfl
    | some o => have := kb _ _ z; rw [hideAll_none _ hx] at this; cases this
theorem leave_thrown {Q : Unit → Shared → Prop} (B : Below A₀ base0 outer c.h₀) (hA : c.A.frames = some (c.env :: outer)) (hk : c.cs.kind = .function) (F : c.Fr s.heap m) (Th : Thrown s s' e C t1 dx msg)
    (h0 : c.h₀ = s0.heap) (hg : s.gens = s0.gens) (hd : s.drawn = s0.drawn) (ho : s.os = s0.os) (h : ∀ s'', Gone outer s0 s'' e C true → Q () s'') : wpAny gM c.A (leaving c.env (.ref e)) Q E s' := by
  have F' : c.Fr s'.heap m := fr_next F Th.stays
  have b := B.push (name := c.cn) (scope := c.cs) (a := c.a) (cd := c.ccd) F' hk
  obtain ⟨base, kh, fr, hen, inB, _⟩ := thrown_ground (e := e) b.frames
  refine leave_first (L := c.L) (x := ⟨base, e, C, dx⟩) hA rfl fr Th.exc kh hen rfl rfl rfl fun h' Fl u => h _ ⟨⟨base, dx, msg, .none, fun x o q nf => ?_, Fl, ?_, Th.txt, ?_, fun _ => rfl⟩, Th.gens.trans hg, Th.drawn.trans hd, Th.os.trans ho⟩
  · rw [← h0] at q
    have q1 := F.keep _ _ q
    refine inB x o (Th.stays _ _ q1) (fun hm => (in_frames (L := c.L) hm).elim (fun z => absurd (Heap.lt_size q) (by rw [z]; exact Nat.not_lt.mpr F.above)) nf) fun z => ?_
    rw [z] at q1; exact absurd (Th.new.symm.trans q1) (fun q => nomatch q)
  · refine Th.told.keeps fun o hod => inB _ _ hod (fun hm' => ?_) Th.ne
    obtain ⟨o, ho⟩ : ∃ o, s.heap.get? dx = some o := (in_frames (L := c.L) hm').elim (fun z => by rw [z]; obtain ⟨oL, _, _, hL, _⟩ := F.ns; exact ⟨oL, hL⟩) fun hm => by
      obtain ⟨o, ho⟩ := framesOf_has B.frames hm; exact ⟨o, F.keep _ _ ho⟩
    exact absurd (Th.newd.symm.trans ho) (fun q => nomatch q)
  · rw [← h0]
    exact ((Heap.UpToSlots.of_keeps F.keep).trans (Heap.UpToSlots.of_keeps Th.stays)).trans u
end
section
variable {n : Nat} {rr : Rec} {A : Around} {s : Shared} {Q E : Value → Shared → Prop}
/-- a call of a function of the table, up to what its body ends in -/
theorem row_ok {r : FnRow} (F : FnK r.g r.fi r.ps r.ex (embS r.body)) {ds : List PV} (hl : r.ps.length = ds.length) {vs : List Value} (P : Place A s.heap) (G : Gd s.heap) (R : Room (n + 1) A) (V : gVs s.heap vs ds) (H : RecOK n rr) {o : SO} (ho : rr.st ⟨r.fi, r.ρ ds⟩ r.body = some o)
    (k : ∀ (c : Cx) (s₁ : Shared), Site n c r.fi → Next s s₁ → c.h₀ = s.heap → c.A = A.deeper c.env → SPost c (OutE c E) r.fi s₁ (OutQ Q) o) : wpAny gM A (call (.ref r.g) vs) Q E s := by
  obtain ⟨ob, D⟩ := F.D
  obtain ⟨binds, hbind, hbl, hR⟩ := fnk_binds F hl G.kin V
  exact enter_ok D F.body F.nms.1 P G R hbind hbl fun c s₁ S Fr N hc hA => H.st ho ⟨S, Fr, hR.mono N.KS⟩ (k c s₁ S N hc hA)
end
noncomputable def row140 : FnRow := ⟨140, fi140, ps140, [], ir140⟩
noncomputable def row448 : FnRow := ⟨448, fi448, ps448, [], ir448⟩
theorem row140_at : fnRow 140 fnTab = some row140 := rfl
/-- a body that ends in a raise of the table's -/
theorem row_raise (Z : KX) {n : Nat} {rr r2 : Rec} {A : Around} {s : Shared} {Q E : Value → Shared → Prop} {r : FnRow} (F : FnK r.g r.fi r.ps r.ex (embS r.body)) {ds : List PV} (hl : r.ps.length = ds.length) {vs : List Value} (P : Place A s.heap) (G : Gd s.heap) (R : Room (n + 1) A) (V : gVs s.heap vs ds) (H : RecOK n rr)
    {ρ : List (Nat × PV)} {k : Nat} {C : Addr} {np cpos pos : Pos} {es : List IE} {as : List PV} {n2 : Nat} {l : List Env} (ho : rr.st ⟨r.fi, r.ρ ds⟩ r.body = some (.hit ρ (.Raise (some (.Call (.Name (nmOf k) np) (embs es) [] cpos)) none pos)))
    (N : ExcNm k C) (H2 : RecOK (n2 + 2) r2) (hn : n2 + 2 ≤ n) (hk : hasN k r.fi.glos = true) (hes : evs r2 ⟨r.fi, ρ⟩ es = some as) (h2 : as.length = 2 ∨ as.length = 1) (hs : ∃ l, as[0]? = some (.str l)) (hA : A.frames = some l) (hE : ∀ e s', Gone l s s' e C true → E (.ref e) s') : wpAny gM A (call (.ref r.g) vs) Q E s := by
  refine row_ok F hl P G R V H ho fun c s₁ S N1 hc hcA m s2 N2 F2 R2 => ?_
  obtain ⟨A₀, base, outer, hB, hF, _, _⟩ := S.below
  have ho' : outer = l := by
    have e1 := Around.frames_deeper (env := c.env) hA
    rw [← hcA, hF] at e1
    injection e1 with e1; injection e1
  subst ho'
  refine raise_hit Z N H2 (X := ⟨⟨S.gd, S.nms, S.room.less hn, S.below⟩, F2, R2⟩) (f := ⟨r.fi, ρ⟩) hk hes h2 hs fun s3 e t1 dx msg Th => ?_
  exact leave_thrown hB hF S.nms.kind F2 Th hc (N2.gens.trans N1.gens) (N2.drawn.trans N1.drawn) (N2.os.trans N1.os) fun s4 G4 => hE e s4 G4
end Mine
namespace Mine
open PySem PySem.W PyProof.Rows PySem.Calls PySem.Spec
open Builtin Builtin.ObjectAttr
theorem entry_unchain : entryFor table "proto.unchain" = some Builtin.«proto.unchain» := entryFor_of_tree (by kernel_rfl)
def IsDi (h : Heap) (L : Addr) : Prop := ∃ o es n, h.get? L = some o ∧ o.data = .dict es n
theorem frames_put {base h h' : Heap} {L : Addr} (hs : Heap.SameBut L h h') (hL : IsDi h' L) : ∀ {l : List Env}, h.FunFrames base l → h'.FunFrames base l := by
  intro l
  induction l with
  | nil => exact fun _ => trivial
  | cons env r ih =>
    intro ⟨hk, ⟨L', o, hf, hn, ho, hd⟩, hr⟩
    refine ⟨hk, ?_, ih hr⟩
    by_cases q : L' = L
    · obtain ⟨o', es, n, ho', hd'⟩ := hL
      exact ⟨L', o', hf, hn, q ▸ ho', fun vs z => by rw [hd'] at z; cases z⟩
    · exact ⟨L', o, hf, hn, (hs.2 L' q).trans ho, hd⟩
theorem fly_put {x : Fx} {h h' : Heap} {l : List Env} {L : Addr} {cx fl : Value} (F : Flies x l cx fl h) (hs : Heap.SameBut L h h') (oL : IsDi h L) (hL : IsDi h' L) (nL : x.base.get? L = none) : Flies x l cx fl h' := by
  obtain ⟨vs, T, oT, ts, he, h1, h2, hsz, hnT, hTe, hT, hdT, h3⟩ := F.flown
  obtain ⟨o, es, n, ho, hod⟩ := oL
  have ne : ∀ b ob vs, h.get? b = some ob → ob.data = .fields vs → b ≠ L := fun b ob vs q1 q2 z => by
    rw [z, ho] at q1; cases some_inj q1; rw [hod] at q2; cases q2
  exact ⟨fun b ob q => (hs.2 b fun z => by rw [z, nL] at q; cases q).trans (F.stays b ob q), F.exc, frames_put hs hL F.frames,
    vs, T, oT, ts, (hs.2 x.e (ne _ _ _ he rfl)).trans he, h1, h2, hsz, hnT, hTe, (hs.2 T (ne _ _ _ hT hdT)).trans hT, hdT, h3⟩
theorem look_msg {es : Array DictEntry} {ep : Nat} {name : Str} {v : Value} {o : Obj} (hd : o.data = .dict es ep) (h : nsFind es name = some v) : lookIn name o = some (some v) := by
  unfold lookIn
  rw [hd]
  unfold nsFind findBy at h
  rw [← Array.find?_toList] at h
  obtain ⟨e, he, hv⟩ := Option.map_eq_some_iff.mp h
  show (match List.find? (fun x => x.key.isStr name) es.toList with | some e => some (some e.val) | none => _) = _
  rw [he, ← hv]
section
variable {A : Around} {E : Value → Shared → Prop} {s : Shared} {env : Env}
theorem msg_get (Z : KX) {e dx : Addr} {vs : Array Value} {x : Str} {t : Tok} {Q : Value → Shared → Prop} (X : gu.K.In s.heap) (he : s.heap.get? e = some { cls := .ref 76, dict := some dx, data := .fields vs })
    (Ms : MsgAt s.heap dx (.str x t)) (h : Q (.str x t) { s with toks := s.toks + 1 }) : wpAny gM A (getAttr (.ref e) sMsg true) Q E s := by
  obtain ⟨mA, ⟨od, es, ep, hod, hd', hk, hu, hf⟩, hm⟩ := Ms
  have I : InstAt s.heap e _ 76 (some od) := ⟨he, rfl, rfl, hod⟩
  have hf' := findObj_own (v := .str x t) Z.d76 Z.m76 rfl (look_msg hd' ((hf _).trans hm))
  have FB : Slot "Exception" "__getattribute__" "BaseException.__getattribute__" := PySem.F.attr_Exception.ga
  obtain ⟨hp, g, d, tk, os⟩ := s
  have L0 := I.type (M := gM)
  have L1 := looks_findIn (M := gM) X Z.ga
  have L2 := looks_findIn (M := gM) X Z.gt
  have L3 := looks_find (M := gM) X I hf'
  have sub : Looks gM hp (isInstance (.ref e) (.type "BaseException")) true := L0.andThen (looks_mroIn X Z.mro)
  clear hod hf hm hu hk hd' he X I hf'
  dsimp only at L0 L1 L2 L3
  have hk1 : builtinKind "BaseException.__getattribute__" = some .slot := by decide +kernel
  have hs1 : splitId "BaseException.__getattribute__" = some ("BaseException", "__getattribute__") := by decide +kernel
  unfold getAttr getAttrBy
  refine wpAny_bind (wpAny_mkText (wpAny_holding (wpAny_bind (L0.at (wpAny_bind (L1.at ?_))))))
  have hx2 : (Value.builtin "BaseException.__getattribute__" == Value.builtin "object.__getattribute__") = false := by decide +kernel
  show wpAny _ _ (if (true && (Value.builtin "BaseException.__getattribute__" == Value.builtin "object.__getattribute__")) = true then _ else _) _ _ _
  rw [hx2]
  rw [if_neg (by decide)]
  have f3 := FB.bind (.ref e)
  have tl2 : ∀ (A : Around) (Q : Option Value → Shared → Prop) (E : Value → Shared → Prop) (tk : Nat), Q none ⟨hp, g, d, tk, os⟩ → wpAny gM A (typeLookup (.ref 76) "__getattr__") Q E ⟨hp, g, d, tk, os⟩ := fun A Q E tk q => L2.at q
  repeat (any_goals (first | assumption | with_reducible refine tl2 _ _ _ _ ?_ | wp_step))
  refine codeAny_call_builtin FB.plain PySem.F.entry_bexc_ga (@check_slot gM _ _ ⟨hp, g, d, tk + 1, os⟩ "BaseException.__getattribute__" "BaseException" "__getattribute__" (.ref e) [.str sMsg tk] [] _ hk1 hs1 sub (PySem.F.args_bexc_ga _ _) ?_)
  refine wpAny_bind (wpAny_pure (wpAny_bind (wpAny_pure (wpAny_bind (L0.at (wpAny_bind (L3.at ?_)))))))
  refine wpAny_pure ?_
  exact wpAny_pure h
/-- what a handler's raise stands on: a new exception, and the one that is handled -/
structure Anew (e1 e C t0 dx : Addr) (s : Shared) (E : Value → Shared → Prop) : Prop where
  cls : IsExc s.heap C
  exc : s.heap.get? e = some (excD C t0 dx)
  ne : e ≠ e1
  neC : e ≠ C
  old : ∃ o1 vs1, s.heap.get? e1 = some o1 ∧ o1.data = .fields vs1 ∧ vs1[2]? = some .none
  go : ∀ h', h'.get? e = some { cls := .ref C, dict := some dx, data := .fields #[.ref t0, .none, .ref e1, .none, .bool true, .none] } → Heap.SameBut e s.heap h' → E (.ref e) { s with heap := h' }
theorem raise_from {x : Sem Value} {Q : Flow → Shared → Prop} {e1 : Addr} {p1 p2 : Pos} (hh : A.handled = some (.ref e1)) (h : wpAny gM A x (fun v s₁ => ∃ e C t0 dx, v = .ref e ∧ Anew e1 e C t0 dx s₁ E) E s) :
    wpAny gM A (raiseStmt env (some x) (some (do let v ← eval (.Constant .none 0 p1) env; standAt p2; pure v))) Q E s := by
  unfold raiseStmt
  refine wpAny_bind (wpAny_mono h (fun v s₁ h₁ => ?_) fun _ _ x => x)
  obtain ⟨e, C, t0, dx, rfl, ⟨_, hC, ep, rfl⟩, he, ne, neC, ⟨o1, vs1, ho1, hd1, hv1⟩, hE⟩ := h₁
  obtain ⟨hp, g, d, tk, os⟩ := s₁
  have hcB := hasB (C := C)
  repeat (first | with_reducible refine wpAny_loadPart_at he ?_ | with_reducible refine wpAny_loadPart_at hC ?_ | (with_reducible refine wpAny_isSubtype_exc hC ?_; rw [hcB]) | wp_step)
  generalize hH : (hp.update e (Obj.mapFields fun x => x.setIfInBounds 3 Value.none)).update e (Obj.mapFields fun x => x.setIfInBounds 4 (Value.bool true)) = H
  have eH : H.get? e = some { cls := .ref C, dict := some dx, data := .fields #[.ref t0, .none, .none, .none, .bool true, .none] } := by
    rw [← hH]
    exact Heap.get?_update_self _ (Heap.get?_update_self (Obj.mapFields fun x => x.setIfInBounds 3 Value.none) he rfl) rfl
  have sH : Heap.SameBut e hp H := by
    rw [← hH]
    exact (Heap.SameBut.update ..).trans (Heap.SameBut.update ..)
  clear hH
  unfold raiseNew
  refine wpAny_bind (wpAny_handled ?_)
  rw [hh]
  dsimp only
  rw [if_pos (by simpa using (fun z : e1 = e => ne z.symm))]
  have ho1' : H.get? e1 = some o1 := (sH.2 e1 (fun z => ne z.symm)).trans ho1
  refine wpAny_bind (wpAny_holding (wpAny_runValue (codeAny_builtin (b := Builtin.«proto.unchain») entry_unchain ?_)))
  unfold Builtin.«proto.unchain»
  dsimp only
  refine wpAny_bind (wpAny_field ho1' hd1 hv1 ?_)
  rw [if_pos (by decide)]
  refine wpAny_pure ?_
  show wpAny gM A (updateField e 2 (.ref e1) >>= fun _ => throw (Value.ref e)) Q E _
  unfold updateField
  refine wpAny_bind (wpAny_bind (wpAny_load eH ?_))
  dsimp only
  rw [if_pos (by show 2 < 6; decide)]
  refine wpAny_update eH (wpAny_throw (hE _ ?_ ?_))
  · exact Heap.get?_update_self _ eH rfl
  · exact sH.trans (Heap.SameBut.update ..)
end
end Mine
namespace Mine
open PySem PySem.W PyProof.Rows PySem.Calls PySem.Spec
open Builtin Builtin.ObjectAttr
/-- all but one object and the records stay, up to what hangs on them -/
def UpBut (L : Addr) (h h' : Heap) : Prop := ∀ b o, b ≠ L → h.get? b = some o → (∀ vs, o.data ≠ .fields vs) → ∃ sl, h'.get? b = some { o with slots := sl }
theorem UpBut.of {L : Addr} {h h' : Heap} (u : h.UpToSlots h') : UpBut L h h' := fun b o _ q n => u b o q n
theorem UpBut.same {L : Addr} {h h' : Heap} (s : Heap.SameBut L h h') : UpBut L h h' := fun b o n q _ => ⟨o.slots, (s.2 b n).trans q⟩
theorem UpBut.keeps {L : Addr} {h h' : Heap} (s : h.StaysIn h') : UpBut L h h' := fun b o _ q _ => ⟨o.slots, s b o q⟩
theorem UpBut.trans {L : Addr} {h h' h'' : Heap} (a : UpBut L h h') (c : UpBut L h' h'') : UpBut L h h'' := fun b o n q nf =>
  let ⟨_, e1⟩ := a b o n q nf; let ⟨sl, e2⟩ := c b _ n e1 nf; ⟨sl, e2⟩
section
variable {A : Around} {E : Value → Shared → Prop} {s : Shared} {env : Env}
theorem att_name {x attr : Str} {p p' : Pos} {Q : Value → Shared → Prop} (k : wpAny gM A (eval (.Name x p) env) (fun o s₁ => wpAny gM A (getAttr o attr true) Q E s₁) E s) :
    wpAny gM A (eval (.Attribute (.Name x p) attr p') env) Q E s := by
  rw [arm_eval_Attribute]
  show wpAny gM A (eval (.Name x p) env >>= _) Q E s
  exact wpAny_bind (wpAny_mono k (fun o s₁ h₁ => wpAny_bind (wpAny_standAt (wpAny_bind (wpAny_holding (wpAny_mono h₁ (fun r s₂ h₂ => wpAny_bind (wpAny_letTemporaryGo (wpAny_pure h₂))) fun _ _ y => y))))) fun _ _ y => y)
variable {x : Fx} {l : List Env} {cx fl : Value}
theorem fly_field {α : Type} {k : Value → Sem α} {Q : α → Shared → Prop} (F : Flies x l cx fl s.heap) (h : ∀ T : Addr, wpAny gM A (k (.ref T)) Q E s) : wpAny gM A (field (.ref x.e) 1 >>= k) Q E s := by
  obtain ⟨vs, T, oT, ts, he, h1, _⟩ := F.flown
  exact wpAny_bind (wpAny_field he rfl h1 (h T))
/-- an exception that stands in a frame comes back to it -/
theorem fly_back {f : Option Addr} {what : String} {Q : Unit → Shared → Prop} (F : Flies x l cx fl s.heap) (h : FlyTo x l cx (f.elim .none fun f => rawInt f) s (Q ())) :
    wpAny gM A (do
      if (← field (.ref x.e) 1) == .none then unsupported what
      setFlight (.ref x.e) f) Q E s := by
  refine fly_field F fun T => ?_
  rw [if_neg ref_nb]
  first
    | exact wpAny_bind (wpAny_pure (fly_set F h))
    | exact fly_set F h
theorem fly_pass {α : Type} {L : Addr} {what : String} {Q : α → Shared → Prop} (hf : env.frame = some L) (F : Flies x l cx fl s.heap) (h : FlyTo x l cx (rawInt L) s (E (.ref x.e))) : wpAny gM A (PySem.passOn what (.ref x.e) env : Sem α) Q E s := by
  unfold PySem.passOn
  refine fly_field F fun T => ?_
  rw [if_neg ref_nb]
  rw [hf]
  first
    | exact wpAny_bind (wpAny_pure (wpAny_bind (fly_set (f := some L) F fun h' F' u' => wpAny_throw (h h' F' u'))))
    | exact wpAny_bind (fly_set (f := some L) F fun h' F' u' => wpAny_throw (h h' F' u'))
end
theorem ns_di {h : Heap} {L : Addr} {mm : Str → Option Value} (hn : h.Ns L mm) : IsDi h L := let ⟨o, es, n, e, d, _⟩ := hn; ⟨o, es, n, e, d⟩
noncomputable abbrev sFau : Str := Str.ofString "fault"
noncomputable abbrev hbody (k : Nat) (np2 p1 p2 p3 cpos p4 rpos : Pos) : Stmt := .Raise (some (.Call (.Name (nmOf k) np2) [.Attribute (.Name sFau p1) sMsg p2, .Name (nmOf 66) p3] [] cpos)) (some (.Constant .none 0 p4)) rpos
/-- a frame that a handler stands in -/
structure Hf (c : Cx) (outer : List Env) (g : Heap) (s : Shared) (m : Str → Option Value) : Prop where
  fr : c.A.frames = some (c.env :: outer)
  kind : c.cs.kind = .function
  dep : c.A.depth + 1 < recursionLimit
  F : PyProof.Rows.Fr g c.L s.heap m
  X : gu.K.In g
  T : gTop g
section
variable {outer : List Env} {c : Cx} {e1 dx1 : Addr} {m : Str → Option Value} {s : Shared} {g Gb : Heap} {E : Value → Shared → Prop}
theorem Hf.cl {c : Cx} (H : Hf c outer g s m) : (c.env.scope.kind == .class || (c.env.scope.kind == .module && c.env.locals != c.env.globals)) = false := by
  show (c.cs.kind == .class || (c.cs.kind == .module && c.L != mainGlobals)) = false; rw [H.kind]; rfl
theorem fau_db : (sFau == ("__debug__" : Str)) = false := by decide
/-- the handler's own statement: a new exception, in place of the one handled -/
theorem handle_raise (Z : KX) {x : Str} {t : Tok} {sv : Value} {np2 cpos p1 p2 p3 p4 rpos : Pos} {Q : Flow → Shared → Prop} (H : Hf c outer g s m) (hh : c.A.handled = some (.ref e1)) {cx fl : Value} (Fl : Flies ⟨Gb, e1, 76, dx1⟩ (c.env :: outer) .none fl s.heap) (Ms : MsgAt Gb dx1 (.str x t))
    (hkC : c.env.kindOf (nmOf 92) = some .globalImplicit) (hkF : c.env.kindOf sFau = some .local) (hkS : c.env.kindOf (nmOf 66) = some .local) (hF : m sFau = some (.ref e1)) (hS : m (nmOf 66) = some sv) (dS : (nmOf 66 == ("__debug__" : Str)) = false)
    (hE : ∀ h7 tk e2 t1 dx2, (∀ b o, s.heap.get? b = some o → h7.get? b = some o) → s.heap.get? e2 = none → s.heap.get? dx2 = none → dx2 ≠ e2 → h7.get? e2 = some { cls := .ref 76, dict := some dx2, data := .fields #[.ref t1, .none, .ref e1, .none, .bool true, .none] } → MsgAt h7 dx2 (.str x t) → E (.ref e2) { s with heap := h7, toks := tk }) :
    wpAny gM c.A (exec (hbody 92 np2 p1 p2 p3 cpos p4 rpos) c.env) Q E s := by
  have X := H.X.keeps H.F.keep
  have T := H.T.keeps H.F.keep
  rw [arm_exec_Raise]
  refine wpAny_bind (wpAny_standAt (raise_from hh (wpAny_bind (wpAny_mono ?_ (fun v s3 h3 => wpAny_bind (wpAny_standAt (wpAny_pure h3))) fun _ _ y => y))))
  refine wpAny_Call_ofName (name_K H.F H.X (topRead_of H.T) Z.x76.ns ?_ H.kind hkC Z.x76.db)
  refine callWith_exc rfl (evalArgs_plain (spliced_more (att_name (ld H.F hF ?_ H.kind hkF fau_db)) rfl))
  obtain ⟨vs, he⟩ := Fl.ob
  obtain ⟨vs', Tb, oT, ts, he', hv1, hv2, _⟩ := Fl.flown
  refine msg_get Z X he (Ms.keeps fun o q => Fl.stays _ _ q) ?_
  refine spliced_more (ld H.F hS ?_ H.kind hkS dS) rfl
  refine spliced_none ⟨rfl, Z.x76.K.is X, ?_⟩
  refine call_exc Z X T Z.x76.K H.dep (.inl rfl) fun h6 tk6 e2 t1 dx2 st ne he2 nd nx ms => ?_
  have old : ∀ {b : Addr} {o : Obj}, s.heap.get? b = some o → b ≠ e2 := fun q1 z => by rw [z] at q1; exact absurd (ne.symm.trans q1) (fun q => nomatch q)
  obtain ⟨oC, hoC, _⟩ := Z.x76.K.is X
  refine ⟨e2, 76, t1, dx2, rfl, (Z.x76.K.is X).keeps st, he2, (old he).symm, (old hoC).symm, ⟨_, vs', st _ _ he', rfl, hv2⟩, fun h7 he7 sb7 => ?_⟩
  exact hE h7 _ e2 t1 dx2 (fun b o q1 => (sb7.2 b (old q1)).trans (st b o q1)) ne nx nd he7 (ms.keeps fun o q => (sb7.2 _ nd).trans q)
/-- an exception of the one class comes to its handler -/
theorem handle_const (Z : KX) {x : Str} {t : Tok} {sv : Value} {np np2 cpos p1 p2 p3 p4 rpos hpos : Pos} {Q : Flow → Shared → Prop} (H : Hf c outer g s m) (hgG : g.StaysIn Gb) (Fl : Flies ⟨Gb, e1, 76, dx1⟩ (c.env :: outer) .none .none s.heap) (Ms : MsgAt Gb dx1 (.str x t))
    (hkC : c.env.kindOf (nmOf 92) = some .globalImplicit) (hkF : c.env.kindOf sFau = some .local) (hkS : c.env.kindOf (nmOf 66) = some .local) (hS : m (nmOf 66) = some sv) (hne : nmOf 66 ≠ sFau) (dS : (nmOf 66 == ("__debug__" : Str)) = false)
    (hE : ∀ s2 e2 dx2 base2, Gb.StaysIn base2 → Flies ⟨base2, e2, 76, dx2⟩ (c.env :: outer) (.ref e1) (rawInt c.L) s2.heap → MsgAt base2 dx2 (.str x t) → UpBut c.L s.heap s2.heap → s2.gens = s.gens → s2.drawn = s.drawn → s2.os = s.os → E (.ref e2) s2) :
    wpAny gM c.A (noteFrame (.ref e1) c.env)
      (fun _ s₂ => wpAny gM c.A (setFlight (.ref e1) none) (fun _ s₃ =>
        wpAny gM c.A (handleBy (.ref e1) c.env [.ExceptHandler (some (.Name (nmOf 92) np)) (some sFau) [hbody 92 np2 p1 p2 p3 cpos p4 rpos] hpos]) Q E s₃) E s₂) E s := by
  have hp' := H.cl
  have nL : Gb.get? c.L = none := by
    obtain ⟨L', o, hf, hn, _⟩ := Fl.frames.2.1
    cases (some_inj hf : c.L = L')
    exact hn
  obtain ⟨hp0, gn, dr, tk0, oo⟩ := s
  refine fly_next (x := ⟨Gb, e1, 76, dx1⟩) H.fr rfl Fl fun h2 Fl2 u2 => ?_
  refine fly_set (x := ⟨Gb, e1, 76, dx1⟩) (f := none) Fl2 fun h3 Fl3 u3 => ?_
  have F3 := H.F.of_stays (fun b o q => Fl3.stays b o (hgG b o q)) (u2.trans u3)
  refine wpAny_handleBy_cons (codeAny_handlers_test (name_K F3 H.X (topRead_of H.T) Z.x76.ns ?_ H.kind hkC Z.x76.db)) (by intro q; cases q)
  obtain ⟨vs3, ho3⟩ := Fl3.ob
  refine exc_self (Z.x76.K.is (H.X.keeps F3.keep)) ho3 rfl (codeAny_handlers_suite_as ?_)
  refine fly_set (x := ⟨Gb, e1, 76, dx1⟩) (f := none) Fl3 fun h4 Fl4 u4 => ?_
  have F4 := F3.of_stays (fun b o q => Fl4.stays b o (hgG b o q)) u4
  refine wpAny_storeName_local hkF F4.ns (fun h5 hn5 hs5 => ?_) hp'
  have Fl5 := fly_put Fl4 hs5 (ns_di F4.ns) (ns_di hn5) nL
  have up5 : UpBut c.L hp0 h5 := (UpBut.of ((u2.trans u3).trans u4)).trans (UpBut.same hs5)
  have F5 : PyProof.Rows.Fr g c.L h5 (fun y => if y = sFau then some (.ref e1) else m y) := ⟨hn5, fun b o q => Fl5.stays b o (hgG b o q), F4.above⟩
  clear u2 u3 u4 Fl2 Fl3 Fl4 F3 ho3
  refine wpAny_execs_cons ?_
  refine handle_raise Z (c := { c with A := c.A.mark (some (.ref e1)) }) (s := ⟨h5, gn, dr, _, oo⟩) (cx := .none) ⟨H.fr, H.kind, H.dep, F5, H.X, H.T⟩ rfl Fl5 Ms hkC hkF hkS (if_pos rfl) ((if_neg hne).trans hS) dS fun h7 tk7 e2 t1 dx2 k57 ne nx nd he7 ms => ?_
  have fr7 : h7.FunFrames Gb (c.env :: outer) := Fl5.frames.of_keeps fun b o q1 _ => ⟨o, k57 b o q1, rfl⟩
  obtain ⟨base2, kh, fr2, hen, inB, hidden⟩ := thrown_ground (e := e2) fr7
  have neL2 : ∀ b o, h5.get? b = some o → b ≠ e2 := fun b o q1 z => by rw [z] at q1; exact absurd (ne.symm.trans q1) (fun q => nomatch q)
  have GbB : Gb.StaysIn base2 := fun b o q1 => inB b o (k57 _ _ (Fl5.stays _ _ q1)) (fun hm => by rw [(Fl5.frames.mem hm).1] at q1; cases q1) (neL2 b o (Fl5.stays _ _ q1))
  have F7 := fr_next F5 k57
  refine fly_first (x := ⟨base2, e2, 76, dx2⟩) (show (c.A.mark (some (.ref e1))).frames = some (c.env :: outer) from H.fr) rfl fr2 he7 kh hen rfl rfl rfl fun h8 Fl8 u8 => ?_
  have F8 := F7.of_stays (fun b o q1 => Fl8.stays b o (GbB b o (hgG b o q1))) u8
  have nL2 : base2.get? c.L = none := hidden c.L (.head _)
  refine wpAny_nameGoes hkF F8.ns hp' fun h9 m9 hn9 hs9 => ?_
  have Fl9 := fly_put Fl8 hs9 (ns_di F8.ns) (ns_di hn9) nL2
  refine fly_pass (x := ⟨base2, e2, 76, dx2⟩) (L := c.L) rfl Fl9 fun h10 Fl10 u10 => ?_
  refine fly_again (x := ⟨base2, e2, 76, dx2⟩) rfl Fl10 ?_
  refine fly_back (x := ⟨base2, e2, 76, dx2⟩) (f := some c.L) Fl10 fun h11 Fl11 u11 => ?_
  refine hE _ e2 dx2 base2 GbB Fl11 (ms.keeps fun o hod => inB _ _ hod (fun hm' => ?_) nd) ?_ rfl rfl rfl
  · obtain ⟨o, ho⟩ := framesOf_has Fl5.frames hm'
    exact absurd (nx.symm.trans ho) (fun q => nomatch q)
  · exact up5.trans ((UpBut.keeps k57).trans ((UpBut.of u8).trans ((UpBut.same hs9).trans (UpBut.of (u10.trans u11)))))
end
end Mine
namespace Mine
open PySem PySem.W PyProof.Rows PySem.Calls PySem.Spec
open Builtin Builtin.ObjectAttr
section
variable {n : Nat} {r : Rec} {c : Cx} {m : Str → Option Value} {s : Shared} {E : Value → Shared → Prop} {f : Fe}
/-- a display whose last item raises -/
theorem evs_then (H : RecOK n r) {pos : Pos} {x : IE} {es : List IE} : ∀ {ds : List PV} {s : Shared} {Q : List Value → Shared → Prop}, evs r f es = some ds → At n c f m s →
    (∀ s', Next s s' → wpAny gM c.A (eval x.emb c.env) (fun _ _ => False) E s') → wpAny gM c.A (spliced (backTo pos (starEach (embs (es ++ [x])) c.env))) Q E s := by
  induction es with
  | nil => intro ds s Q e X h; exact spliced_more (wpAny_mono (h s (Next.refl s)) (fun _ _ z => z.elim) fun _ _ z => z) star_one
  | cons y es ih =>
    intro ds s Q e X h
    obtain ⟨d1, h1, e⟩ := bind_some e
    obtain ⟨d2, h2, e⟩ := bind_some e
    exact spliced_more (H.ex h1 X fun v s' N V => ih h2 (X.next N) fun s'' N' => h _ (N.trans N')) star_one
end
theorem nm94 : nmOf 94 = sFau := by decide +kernel
theorem ne6694 : nmOf 66 ≠ sFau := by decide +kernel
theorem ev59 {f : Fe} : evs (ev G 50) f es59 = some [.str msg59] := by kernel_rfl
theorem fn140 {v k : PV} : gFn 140 [v, k] = some (⟨fi140, row140.ρ [v, k]⟩, ir140) := by kernel_rfl
theorem ex96 {ρ : List (Nat × PV)} {p : Pos} : (ev G 48).ex ⟨fi448, ρ⟩ (.glo 96 p) = some (.obj 140) := by kernel_rfl
theorem fe448_is {T : PV} {es : List PV} {b : Bool} : (⟨fi448, row448.ρ [.spc 0, T, .tup es, .bool b, .int 7]⟩ : Fe) = fe448 T es b := by kernel_rfl
theorem hitOf_some {o : SO} {q : List (Nat × PV) × Stmt} (h : hitOf o = some q) : o = .hit q.1 q.2 := by
  cases o <;> cases h; rfl
theorem Room.of {k n : Nat} {A : Around} (R : Room n A) (h : Nat.ble k n = true) : Room k A := R.less (Nat.le_of_ble_eq_true h)
section
variable {A : Around} {s : Shared} {Q E : Value → Shared → Prop} {l : List Env}
/-- const_convert raises -/
theorem conv_raise (Z : KX) (Zf : KF) (C : CfgOK G) {v k : PV} (hr : raisesB (convS v k) = true) {vs : List Value} (P : Place A s.heap) (Gh : Gd s.heap) (R : Room 51 A) (hA : A.frames = some l)
    (V : gVs s.heap vs [v, k]) (hE : ∀ e s', Gone l s s' e 76 true → E (.ref e) s') : wpAny gM A (call (.ref 140) vs) Q E s := by
  unfold raisesB convS at hr
  rw [fn140] at hr
  obtain ⟨q, h1, _⟩ := bind_some (isT_some hr)
  obtain ⟨o, h2, h3⟩ := bind_some h1
  cases hitOf_some h3
  have hm := hit_in 50 h2
  rw [raws140, List.mem_singleton] at hm
  rw [hm] at h2
  exact row_raise Z (r := row140) (fns_at Zf row140_at) rfl P Gh R V (ev_ok C 50) h2 Z.x76 (ev_ok C 50) (Nat.le_refl _) rfl ev59 (.inr rfl) ⟨_, rfl⟩ hA hE
end
section
variable {c : Cx} {m : Str → Option Value} {s s0 : Shared} {E : Value → Shared → Prop} {l : List Env}
/-- the try: its value -/
theorem try_val (C : CfgOK G) {ρ : List (Nat × PV)} {d : PV} (hv : (ev G 49).ex ⟨fi448, ρ⟩ etry = some d) {Q : Flow → Shared → Prop} (X : At 49 c ⟨fi448, ρ⟩ m s) (hQ : Po s d (fun v s' => Q (.ret v) s')) : wpAny gM c.A (exec st312 c.env) Q E s := by
  unfold st312
  generalize etry = e at hv ⊢
  rw [arm_exec_Try]
  exact wpAny_bind (wpAny_standAt (wpAny_tryStmt_except (wpAny_execs_cons (wpAny_Return_some ((ev_ok C 49).ex hv X hQ)))))
theorem etry_is : etry.emb = .Tuple (embs (es3 ++ [xcall])) 0 ⟨313, 19, 313, 68⟩ := rfl
theorem xcall_is : xcall = .cal (.glo 96 ⟨313, 38, 313, 51⟩) ecall ⟨313, 38, 313, 67⟩ := rfl
/-- the try: const_convert raises, the handler raises anew -/
theorem try_exc (Z : KX) (Zf : KF) (C : CfgOK G) {ρ : List (Nat × PV)} {ds : List PV} {v k d66 : PV} (h3 : evs (ev G 48) ⟨fi448, ρ⟩ es3 = some ds) (hc : evs (ev G 48) ⟨fi448, ρ⟩ ecall = some [v, k]) (hr : raisesB (convS v k) = true) (h6 : lk 66 ρ = some d66)
    {Q : Flow → Shared → Prop} (X : At 52 c ⟨fi448, ρ⟩ m s) (hA : c.A.frames = some (c.env :: l)) (h0 : c.h₀ = s0.heap) (hg : s.gens = s0.gens) (hdr : s.drawn = s0.drawn) (hos : s.os = s0.os)
    {E₀ : Value → Shared → Prop} (hE₀ : ∀ e s', Gone l s0 s' e 76 false → E₀ (.ref e) s') : wpAny gM c.A (exec st312 c.env) Q (OutE c E₀) s := by
  have H := ev_ok C 48
  obtain ⟨A₀, base, outer, hB, hF, hWb, _⟩ := X.S.below
  have ho' : outer = l := by rw [hA] at hF; injection hF with hF; injection hF with _ hF; exact hF.symm
  subst ho'
  have N := X.S.nms
  have l66 := N.loc 66 rfl
  have l94 := N.loc 94 rfl
  have g92 := N.glo 92 rfl
  have d66' := N.dbg 66 (.inl rfl)
  obtain ⟨sv, hsv, _⟩ := X.R 66 d66 rfl h6
  rw [nm94] at l94
  unfold st312
  rw [etry_is, xcall_is]
  generalize es3 = e3 at h3 ⊢
  generalize ecall = ec at hc ⊢
  rw [arm_exec_Try]
  refine wpAny_bind (wpAny_standAt (wpAny_tryStmt_except (wpAny_execs_cons (wpAny_Return_some (Tuple_ (evs_then (f := ⟨fi448, ρ⟩) H h3 (X.less (Nat.le_add_left 48 4)) fun s1 N1 => ?_))))))
  have X1 := (X.next N1).less (Nat.le_add_left 48 4)
  refine cal_arm (g := .glo 96 _) rfl (H.ex ex96 X1 fun fv s2 N2 V2 => ?_)
  cases (show fv = _ from V2)
  have X2 := X1.next N2
  obtain ⟨o140, D140⟩ := (fns_at Zf row140_at).D
  refine isfn_of H ⟨o140, _, X2.gd.kin _ _ D140.at_, D140.data⟩ hc X2 (fun b o q => q) fun vs s3 N3 V3 => ?_
  have X3 := (X.next N1).next (N2.trans N3)
  refine conv_raise Z Zf C hr X3.place X3.gd (X3.S.room.less (Nat.le_succ 51)) hA V3 fun e1 s4 G4 => ?_
  obtain ⟨⟨Gb, dx1, msg, cx, hin, Fl, Ms, ⟨x, t, rfl⟩, U, hcx⟩, gg, gd, go⟩ := G4
  cases hcx rfl
  obtain ⟨Xb, Tb⟩ := gWF_kt hWb
  have gsub : (hideAll c.h₀ (framesOf outer)).StaysIn c.h₀ := fun b o q => of_hideAll _ q
  have gnf : ∀ b o, (hideAll c.h₀ (framesOf outer)).get? b = some o → b ∉ framesOf outer := fun b o q hm => by rw [hideAll_none _ hm] at q; cases q
  have gsz : (hideAll c.h₀ (framesOf outer)).objs.size = c.h₀.objs.size := hideAll_size _ _
  have neL : ∀ {b o}, c.h₀.get? b = some o → b ≠ c.L := fun q z => absurd (Heap.lt_size q) (by rw [z]; exact Nat.not_lt.mpr X3.F.above)
  have toG : ∀ b o, c.h₀.get? b = some o → b ∉ framesOf outer → Gb.get? b = some o := fun b o q nf => hin b o (X3.F.keep _ _ q) fun hm => (in_frames (L := c.L) hm).elim (neL q) nf
  generalize hideAll c.h₀ (framesOf outer) = g at Xb Tb gsub gnf gsz
  have hgG : g.StaysIn Gb := fun b o q => toG b o (gsub b o q) (gnf b o q)
  have Fg : PyProof.Rows.Fr g c.L s4.heap m := ⟨U.ns X3.F.ns, fun b o q => Fl.stays b o (hgG b o q), by rw [gsz]; exact X3.F.above⟩
  refine handle_const Z (sv := sv) ⟨hA, N.kind, X.S.room.now1, Fg, Xb, Tb⟩ hgG Fl Ms g92 l94 l66 hsv ne6694 d66' fun s5 e2 dx2 base2 GbB Fl5 Ms5 up g5 dr5 o5 => ?_
  refine wpAny_bind (fly_again (x := ⟨base2, e2, 76, dx2⟩) rfl Fl5 (fly_set (x := ⟨base2, e2, 76, dx2⟩) (f := none) Fl5 fun h6 Fl6 u6 => ?_))
  refine hE₀ e2 _ ⟨⟨base2, dx2, _, _, fun b o q nf => GbB b o (toG b o (by rw [h0]; exact q) nf), Fl6.fewer, Ms5, ⟨x, t, rfl⟩, fun b o q nf => ?_, fun z => nomatch z⟩, ?_, ?_, ?_⟩
  · rw [← h0] at q
    obtain ⟨sl1, q1⟩ := U b o (X3.F.keep _ _ q) nf
    obtain ⟨sl2, q2⟩ := up b _ (neL q) q1 nf
    obtain ⟨sl3, q3⟩ := u6 b _ q2 nf
    exact ⟨sl3, q3⟩
  · exact g5.trans (gg.trans (N3.gens.trans (N2.gens.trans (N1.gens.trans hg))))
  · exact dr5.trans (gd.trans (N3.drawn.trans (N2.drawn.trans (N1.drawn.trans hdr))))
  · exact o5.trans (go.trans (N3.os.trans (N2.os.trans (N1.os.trans hos))))
end
theorem two_some {o : Option (List PV)} (h : two o = true) : ∃ as, o = some as ∧ as.length = 2 ∧ ∃ l, as[0]? = some (.str l) := by
  obtain ⟨as, h1, h2⟩ := bind_some (isT_some h)
  obtain ⟨q, h3, h4⟩ := bind_some h2
  obtain ⟨l, h5, _⟩ := bind_some h4
  cases pair2_some h3
  exact ⟨_, h1, rfl, l, by rw [← asStr_some h5]; rfl⟩
section
variable {A : Around} {s : Shared} {Q E : Value → Shared → Prop} {l : List Env}
/-- a call of check_conversion: what is due -/
theorem conv_ok (Z : KX) (Zf : KF) (C : CfgOK G) {T d : PV} {es : List PV} {b : Bool} (hk : Ask T es b d) {vs : List Value} (P : Place A s.heap) (Gh : Gd s.heap) (R : Room 61 A) (hA : A.frames = some l) (V : gVs s.heap vs [.spc 0, T, .tup es, .bool b, .int 7])
    (hQ : Po s d Q) (hT : d = tType → ∀ e s', Gone l s s' e 64 true → E (.ref e) s') (hCf : d = tConst → ∀ e s', Gone l s s' e 76 false → E (.ref e) s') : wpAny gM A (call (.ref 448) vs) Q E s := by
  obtain ⟨o, ho, hg⟩ := hk
  have H := ev_ok C 60
  rw [← fe448_is] at ho
  cases o with
  | nxt ρ => cases hg
  | ret x =>
    cases eqPV_eq hg
    exact row_ok (r := row448) Z.f448 rfl P Gh R V H ho fun c s₁ S N hc hcA v m' s' N' F' V' => hQ v _ ⟨fun a oa q => F'.keep a oa (by rw [hc]; exact q), N'.gens.trans N.gens, N'.drawn.trans N.drawn, N'.os.trans N.os⟩ V'
  | hit ρ st =>
    have hm := hit_in 60 ho
    rw [raws448] at hm
    have raise : ∀ {es' : List IE} {np cp rp : Pos}, st = .Raise (some (.Call (.Name (nmOf 95) np) (embs es') [] cp)) none rp → two (evs (ev G 40) ⟨fi448, ρ⟩ es') = true → eqPV d tType = true → wpAny gM A (call (.ref 448) vs) Q E s := by
      intro es' np cp rp hst h2 h3
      obtain ⟨as, h4, h5, h6⟩ := two_some h2
      rw [hst] at ho
      exact row_raise Z (r := row448) Z.f448 rfl P Gh R V H ho Z.x64 (ev_ok C 40) (Nat.le_of_ble_eq_true rfl) rfl h4 (.inl h5) h6 hA (hT (eqPV_eq h3))
    rcases List.mem_cons.mp hm with hm | hm
    · rw [hm] at hg
      exact raise hm (and_both hg).1 (and_both hg).2
    rcases List.mem_cons.mp hm with hm | hm
    · rw [hm] at hg
      exact raise hm (and_both hg).1 (and_both hg).2
    · have hm := List.mem_singleton.mp hm
      rw [hm] at hg ho
      obtain ⟨h66, h3⟩ := and_both (show tryOK d ρ = true from hg)
      obtain ⟨d6, h6, _⟩ := bind_some (isT_some h66)
      clear raise hm h66
      refine row_ok (r := row448) Z.f448 rfl P Gh R V H ho fun c s₁ S N hc hcA m2 s2 N2 F2 R2 => ?_
      have hA' : c.A.frames = some (c.env :: l) := by rw [hcA]; exact Around.frames_deeper hA
      have X2 : At 60 c ⟨fi448, ρ⟩ m2 s2 := ⟨S, F2, R2⟩
      cases hx : (ev G 49).ex ⟨fi448, ρ⟩ etry with
      | some x =>
        rw [hx] at h3
        have e := eqPV_eq (show eqPV x d = true from h3)
        rw [e] at hx
        exact try_val C hx (X2.less (Nat.le_add_left 49 11)) fun v s' N' V' => hQ v s' ⟨fun a oa q => N'.heap a oa (F2.keep a oa (by rw [hc]; exact q)), N'.gens.trans (N2.gens.trans N.gens), N'.drawn.trans (N2.drawn.trans N.drawn), N'.os.trans (N2.os.trans N.os)⟩ V'
      | none =>
        rw [hx] at h3
        obtain ⟨h4, h5⟩ := and_both h3
        obtain ⟨a, e1, e2⟩ := bind_some (isT_some h4)
        obtain ⟨_, _, e3⟩ := bind_some e2
        obtain ⟨q, e4, e5⟩ := bind_some e3
        obtain ⟨q', e6, e7⟩ := bind_some e5
        cases pair2_some e6
        exact try_exc Z Zf C e1 e4 (some_inj e7) h6 (X2.less (Nat.le_add_left 52 8)) hA' hc (N2.gens.trans N.gens) (N2.drawn.trans N.drawn) (N2.os.trans N.os) (hCf (eqPV_eq h5))
end
end Mine
namespace Mine
open PySem PySem.W PyProof.Rows PySem.Calls PySem.Spec
/-- what keeps every tuple -/
def KT1 (h h' : Heap) : Prop := ∀ a o, o.cls = .type "tuple" → (∃ xs n, o.data = .seq xs n) → h.get? a = some o → h'.get? a = some o
theorem KT1.of {h h' : Heap} (k : h.StaysIn h') : KT1 h h' := fun a o _ _ e => k a o e
theorem KT1.trans {h h' h'' : Heap} (a : KT1 h h') (b : KT1 h' h'') : KT1 h h'' := fun x o c d e => b x o c d (a x o c d e)
theorem KT1.refl (h : Heap) : KT1 h h := fun _ _ _ _ e => e
/-- an object that is no tuple -/
def NoTup (h : Heap) (a : Addr) : Prop := ∃ o, h.get? a = some o ∧ (o.cls ≠ .type "tuple" ∨ ∀ xs n, o.data ≠ .seq xs n)
theorem NoTup.ne {h : Heap} {a b : Addr} {o : Obj} (T : NoTup h a) (e : h.get? b = some o) (c : o.cls = .type "tuple") (d : ∃ xs n, o.data = .seq xs n) : b ≠ a := fun z => by
  obtain ⟨o', e', n⟩ := T
  rw [z, e'] at e; cases some_inj e
  obtain ⟨xs, k, d⟩ := d
  exact n.elim (fun n => n c) fun n => n xs k d
theorem KT1.same {h h' : Heap} {L : Addr} (s : Heap.SameBut L h h') (n : NoTup h L) : KT1 h h' := fun a o c d e => (s.2 a (n.ne e c d)).trans e
theorem NoTup.ns {h : Heap} {L : Addr} {m : Str → Option Value} : h.Ns L m → NoTup h L := fun ⟨o', es, ep, q', d', _⟩ => ⟨o', q', .inr fun xs n z => by rw [d'] at z; cases z⟩
theorem NoTup.list {h : Heap} {l : Addr} {vs : Array Value} : h.IsList l vs → NoTup h l := fun ⟨o, a, c, _⟩ => ⟨o, a, .inl (by rw [c]; decide)⟩
theorem VR.re_all {aDr bDr : Nat → Addr} {h h' : Heap} (k : KT1 h h') (d : PV) : ∀ v, pureP d = true → VR aDr h v d → VR bDr h' v d :=
  PV.rec (motive_1 := fun d => ∀ v, pureP d = true → VR aDr h v d → VR bDr h' v d) (motive_2 := fun ds => ∀ vs, pureL ds = true → VRs aDr h vs ds → VRs bDr h' vs ds)
    (fun _ _ e => e) (fun _ _ _ e => e) (fun _ _ _ e => e) (fun _ _ _ e => e) (fun _ _ _ e => e)
    (fun _ ih v p e => let ⟨a, vs, q, ⟨o, e1, e2, n, e3⟩, W⟩ := e; ⟨a, vs, q, ⟨o, k a o e2 ⟨_, _, e3⟩ e1, e2, n, e3⟩, ih _ p W⟩)
    (fun _ _ _ p _ => nomatch p)
    (fun _ _ _ e => e) (fun _ _ _ e => e) (fun _ _ _ e => e) (fun _ _ p _ => nomatch p) (fun _ p _ => nomatch p)
    (fun _ _ e => e) (fun _ _ i1 i2 vs p e => let ⟨v, ws, q, a, b⟩ := e; ⟨v, ws, q, i1 _ (and_both p).1 a, i2 _ (and_both p).2 b⟩) d
theorem VR.re {aDr bDr : Nat → Addr} {h h' : Heap} (k : KT1 h h') {v : Value} {d : PV} (p : pureP d = true) (V : VR aDr h v d) : VR bDr h' v d := VR.re_all k d v p V
theorem VRs.re {aDr bDr : Nat → Addr} {h h' : Heap} (k : KT1 h h') {ds : List PV} : ∀ {vs : List Value}, pureL ds = true → VRs aDr h vs ds → VRs bDr h' vs ds := by
  induction ds with
  | nil => exact fun _ e => e
  | cons d ds ih => exact fun p ⟨v, ws, q, a, b⟩ => ⟨v, ws, q, a.re k (and_both p).1, ih (and_both p).2 b⟩
theorem pureL_take {ds : List PV} : ∀ {i : Nat}, pureL ds = true → pureL (ds.take i) = true := by
  induction ds with
  | nil => intro i _; cases i <;> rfl
  | cons d ds ih =>
    intro i h
    cases i with
    | zero => rfl
    | succ i => exact Bool.and_eq_true_iff.mpr ⟨(and_both h).1, ih (and_both h).2⟩
theorem pure_told {ds : List PV} : pureL ds = true → pureL (ds.map toldP) = true := by
  induction ds with
  | nil => exact fun _ => rfl
  | cons d ds ih =>
    intro h
    have z : pureP (toldP d) = true := by show (true && (true && (pureP d && true))) = true; rw [(and_both h).1]; rfl
    exact Bool.and_eq_true_iff.mpr ⟨z, ih (and_both h).2⟩

theorem told_s : Str.ofString "told" = mkStr lTold := by decide +kernel
theorem con_str {A : Around} {E : Value → Shared → Prop} {s : Shared} {env : Env} {x : Str} {p : Pos} {Q : Value → Shared → Prop} (h : ∀ t tk, Q (.str x t) { s with toks := tk }) : wpAny gM A (eval (.Constant (.str x) 0 p) env) Q E s := fun _ _ _ => h _ _
theorem con_int {A : Around} {E : Value → Shared → Prop} {s : Shared} {env : Env} {i : Int} {p : Pos} {Q : Value → Shared → Prop} (h : ∀ t tk, Q (.int i t) { s with toks := tk }) : wpAny gM A (eval (.Constant (.int i) 0 p) env) Q E s := fun _ _ _ => h _ _
/-- where the comprehension's objects lie -/
structure TG (s1 : Shared) (it acc Lc le : Addr) (vs : Array Value) (ds : List PV) : Prop where
  n1 : it ≠ acc
  n2 : it ≠ Lc
  n3 : acc ≠ Lc
  old : ∀ b o, s1.heap.get? b = some o → b ≠ it ∧ b ≠ acc ∧ b ≠ Lc
  lst : s1.heap.IsList le vs
  vals : gVs s1.heap vs.toList ds
  pur : pureL ds = true
  len : ds.length ≤ 100
/-- what stands after i turns -/
structure TI (s1 : Shared) (it acc Lc le : Addr) (ds : List PV) (i : Nat) (h : Heap) : Prop where
  st : s1.heap.StaysIn h
  hit : h.IsListIter it le i
  acc : ∃ accvs : List Value, h.IsList acc accvs.toArray ∧ accvs.length = i ∧ gVs h accvs ((ds.take i).map toldP)
  ns : ∃ m, h.Ns Lc m
section
variable {A : Around} {E : Value → Shared → Prop} {s1 : Shared} {it acc Lc le : Addr} {vs : Array Value} {ds : List PV}
/-- one turn -/
theorem told_turn (T : TG s1 it acc Lc le vs ds) {i tk : Nat} {h : Heap} (I : TI s1 it acc Lc le ds i h) (hlt : i < ds.length) {env' : Env} (hloc : env'.locals = Lc) (hk : env'.scope.kind = .function) (hke : env'.kindOf sE = some .local) (hcl : (env'.scope.kind == .class || (env'.scope.kind == .module && env'.locals != env'.globals)) = false)
    {v : Value} (hv : VR gD s1.heap v ds[i]) {p1 p2 p3 p4 px : Pos} {E1 E2 E3 : Value → Shared → Prop} {Q : Shared → Prop} {h2 : Heap} (hit2 : h2.IsListIter it le (i + 1)) (sb2 : Heap.SameBut it h h2)
    (hQ : ∀ h' tk', TI s1 it acc Lc le ds (i + 1) h' → Q { s1 with heap := h', toks := tk' }) :
    wpAny gM A (assign (.Name sE px) env' v) (fun _ s₂ => wpAny gM A (eval (telt p1 p2 p3 p4) env') (fun x s₃ => wpAny gM A (call (.builtin "list.append") [.ref acc, x]) (fun _ s₄ => Q s₄) E3 s₃) E2 s₂) E1 { s1 with heap := h2, toks := tk } := by
  subst hloc
  obtain ⟨m, hn⟩ := I.ns
  obtain ⟨accvs, ha, hal, hav⟩ := I.acc
  have hn2 := hn.sameBut sb2 T.n2.symm
  refine wpAny_assign_Name (wpAny_storeName_local hke hn2 (fun h3 hn3 sb3 => ?_) hcl)
  unfold telt
  refine Tuple_ (spliced_more ?_ rfl)
  refine con_str fun t1 k1 => spliced_more (con_int fun t2 k2 => spliced_more (wpAny_Name (wpAny_loadName_local hk hke hn3 (if_pos rfl) ?_) (by decide)) rfl) rfl
  refine spliced_none (wpAny_newTuple ?_ (by show 3 ≤ sizeLine; decide))
  have st3 : s1.heap.StaysIn h3 := fun b o q => (sb3.2 b (T.old b o q).2.2).trans ((sb2.2 b (T.old b o q).1).trans (I.st b o q))
  have ha3 : h3.IsList acc accvs.toArray := ha.at fun o q => (sb3.2 _ T.n3).trans ((sb2.2 _ T.n1.symm).trans q)
  have itN : NoTup h it := let ⟨o', q', c', _⟩ := I.hit; ⟨o', q', .inl (by rw [c']; decide)⟩
  have kt : KT1 h h3 := (KT1.same sb2 itN).trans (KT1.same sb3 (.ns hn2))
  generalize hT : ({ cls := .type "tuple", data := .seq [Value.str (Str.ofString "told") t1, .int 5 t2, v].toArray } : Obj) = oT
  have hTn : oT.isFreed = false := by rw [← hT]; rfl
  have hg5 : (h3.push oT).get? h3.objs.size = some oT := Heap.get?_push_size _ hTn
  have up5 : h3.StaysIn (h3.push oT) := fun b o q => Heap.get?_push_of_some _ q
  have hto : VR gD (h3.push oT) (.ref h3.objs.size) (toldP ds[i]) :=
    ⟨_, [Value.str (Str.ofString "told") t1, .int 5 t2, v].toArray, rfl, ⟨oT, hg5, by rw [← hT], 0, by rw [← hT]⟩, _, _, rfl, ⟨t1, by rw [told_s]; rfl⟩, _, _, rfl, ⟨t2, rfl⟩, _, _, rfl, hv.mono (KS.of_stays fun b o q => up5 _ _ (st3 b o q)), rfl⟩
  show wpAny _ _ (call (.builtin "list.append") [.ref acc, .ref h3.objs.size]) _ _ { s1 with heap := h3.push oT, toks := k2 }
  generalize h3.push oT = h5 at up5 hto ⊢
  have ha5 := ha3.at fun o q => up5 _ _ q
  refine wpAny_list_append ha5 (fun h6 hl6 sb6 => ?_) (by show accvs.toArray.size ≤ sizeLine; rw [List.size_toArray, hal]; exact Nat.le_trans (Nat.le_of_lt (Nat.lt_of_lt_of_le hlt T.len)) (by decide))
  have kt6 : KT1 h5 h6 := KT1.same sb6 (.list ha5)
  refine hQ h6 k2 ⟨fun b o q => (sb6.2 b (T.old b o q).2.1).trans (up5 _ _ (st3 b o q)), (hit2.at fun o q => (sb3.2 _ T.n2).trans q).at fun o q => (sb6.2 _ T.n1).trans (up5 _ _ q), ⟨accvs ++ [.ref h3.objs.size], by rw [← List.push_toArray]; exact hl6, by rw [List.length_append, hal]; rfl, ?_⟩, _, (hn3.keeps up5).sameBut sb6 T.n3.symm⟩
  rw [List.take_succ_eq_append_getElem hlt, List.map_append]
  have hp : pureP (toldP ds[i]) = true := by
    have := pure_told (pureL_take (i := i + 1) T.pur)
    rw [List.take_succ_eq_append_getElem hlt, List.map_append] at this
    clear hQ
    generalize (ds.take i).map toldP = l at this
    induction l with
    | nil => exact (and_both this).1
    | cons a l ih => exact ih (and_both this).2
  exact VRs.append (VRs.re (kt.trans ((KT1.of up5).trans kt6)) (pure_told (pureL_take T.pur)) hav) ⟨_, _, rfl, hto.re kt6 hp, rfl⟩
/-- the turns of [('told', 5, e) for e in es] -/
theorem told_loop (hh : A.handled = none) (T : TG s1 it acc Lc le vs ds) {env' : Env} (hloc : env'.locals = Lc) (hk : env'.scope.kind = .function) (hke : env'.kindOf sE = some .local) (hcl : (env'.scope.kind == .class || (env'.scope.kind == .module && env'.locals != env'.globals)) = false)
    {p1 p2 p3 p4 px pos : Pos} {iter : Expr} {scope : Scope} {R : Result → Shared → Prop}
    (hR : ∀ h tk accvs m, s1.heap.StaysIn h → h.IsList acc accvs → gVs h accvs.toList (ds.map toldP) → h.Ns Lc m → R (.ok .next) { s1 with heap := h, toks := tk }) {h0 : Heap} {tk0 : Nat} (I0 : TI s1 it acc Lc le ds 0 h0) :
    codeAny gM A (.compLoop (.ListComp (telt p1 p2 p3 p4) [⟨.Name sE px, iter, [], 0⟩] scope pos) 0 (.ref it) (.ref acc) env') R { s1 with heap := h0, toks := tk0 } := by
  have hvl : vs.size = ds.length := T.vals.size
  refine codeAny_compLoop_list (fun n s2 => ∃ i h tk, s2 = { s1 with heap := h, toks := tk } ∧ n + i = ds.length ∧ TI s1 it acc Lc le ds i h) (fun n s2 hI => ?_) ds.length ⟨0, h0, tk0, rfl, rfl, I0⟩
  obtain ⟨i, h, tk, rfl, hni, I⟩ := hI
  have hl : h.IsList le vs := T.lst.at fun o q => I.st _ _ q
  cases n with
  | succ n =>
    have hlt : i < ds.length := by omega
    obtain ⟨v, hvi, hV⟩ := T.vals.get (List.getElem?_eq_getElem hlt)
    refine wpAny_pyNext_list_item I.hit hl (to_arr hvi) fun h2 hit2 sb2 => ?_
    exact told_turn T I hlt hloc hk hke hcl hV hit2 sb2 fun h' tk' I' => ⟨n, Nat.lt_succ_self n, i + 1, h', tk', rfl, by omega, I'⟩
  | zero =>
    have hi : i = ds.length := by omega
    subst hi
    refine wpAny_pyNext_list_end hh I.hit hl (by rw [Array.getElem?_eq_none (Nat.le_of_eq hvl)]) fun h2 he2 => ?_
    obtain ⟨accvs, ha, hal, hav⟩ := I.acc
    obtain ⟨m, hn⟩ := I.ns
    rw [List.take_of_length_le (Nat.le_refl _)] at hav
    have itN : NoTup h it := let ⟨o', q', c', _⟩ := I.hit; ⟨o', q', .inl (by rw [c']; decide)⟩
    exact hR h2 tk accvs.toArray m (fun b o q => he2 _ _ (T.old b o q).1 (I.st b o q)) (ha.at fun o q => he2 _ _ T.n1.symm q) (VRs.re (fun a o c d q => he2 _ _ (itN.ne q c d) q) (pure_told T.pur) hav) (hn.extBut he2 T.n2.symm)
/-- [('told', 5, e) for e in es] -/
theorem told_comp {s : Shared} (hh : A.handled = none) (hp : pureL ds = true) (hlen : ds.length ≤ 100) {p1 p2 p3 p4 px pos : Pos} {iter : Expr} {env : Env} {Q : Value → Shared → Prop} (hs : ∀ x, foldedSetIterable iter env x = pure x)
    (h : wpAny gM A (eval iter env) (fun v s1 => VR gD s1.heap v (.lst ds) ∧ ∀ acc vs h' tk, s1.heap.StaysIn h' → h'.IsList acc vs → gVs h' vs.toList (ds.map toldP) → Q (.ref acc) { s1 with heap := h', toks := tk }) E s) :
    wpAny gM A (eval (.ListComp (telt p1 p2 p3 p4) [⟨.Name sE px, iter, [], 0⟩] tsc pos) env) Q E s := by
  refine wpAny_ListComp (by decide) rfl (by decide) (wpAny_mono h (fun v s1 h1 => ?_) fun _ _ e => e) hs
  obtain ⟨⟨le, vs, rfl, hl, W⟩, hq⟩ := h1
  refine wpAny_pyIter_list hl ?_
  refine wpAny_newObj_type (wpAny_newFunctionEnv (by decide) (fun y hy => nomatch hy) (fun h₁ hns hsb => ?_) rfl)
  dsimp only at hns hsb ⊢
  generalize hH1 : s1.heap.push { cls := .type "list_iterator", dict := none, data := .fields #[.ref le, .int 0 0] } = H1 at hns hsb ⊢
  generalize hH2 : H1.push { cls := .type "list", dict := none, data := .seq ([] : List Value).toArray } = H2 at hns hsb ⊢
  have z1 : H1.objs.size = s1.heap.objs.size + 1 := by rw [← hH1, Heap.size_push]
  have z2 : H2.objs.size = H1.objs.size + 1 := by rw [← hH2, Heap.size_push]
  have k1 : s1.heap.StaysIn H1 := fun b o e => hH1 ▸ Heap.get?_push_of_some _ e
  have k2 : H1.StaysIn H2 := fun b o e => hH2 ▸ Heap.get?_push_of_some _ e
  have k3 : H2.StaysIn h₁ := fun b o e => hsb.extBut b o (Nat.ne_of_lt (Heap.lt_size e)) (Heap.get?_push_of_some _ e)
  have hit : h₁.IsListIter s1.heap.objs.size le 0 := ⟨_, k3 _ _ (k2 _ _ (hH1 ▸ Heap.get?_push_size _ rfl)), rfl, rfl⟩
  have hacc : h₁.IsList H1.objs.size ([] : List Value).toArray := ⟨_, k3 _ _ (hH2 ▸ Heap.get?_push_size _ rfl), rfl, _, rfl⟩
  have l1 : s1.heap.objs.size < H1.objs.size := by rw [z1]; exact Nat.lt_succ_self _
  have l2 : H1.objs.size < H2.objs.size := by rw [z2]; exact Nat.lt_succ_self _
  have T : TG s1 s1.heap.objs.size H1.objs.size H2.objs.size le vs ds := ⟨Nat.ne_of_lt l1, Nat.ne_of_lt (Nat.lt_trans l1 l2), Nat.ne_of_lt l2, fun b o e => ⟨Nat.ne_of_lt (Heap.lt_size e), Nat.ne_of_lt (Nat.lt_trans (Heap.lt_size e) l1), Nat.ne_of_lt (Nat.lt_trans (Heap.lt_size e) (Nat.lt_trans l1 l2))⟩, hl, W, hp, hlen⟩
  have I0 : TI s1 s1.heap.objs.size H1.objs.size H2.objs.size le ds 0 h₁ := ⟨fun b o e => k3 _ _ (k2 _ _ (k1 _ _ e)), hit, ⟨[], hacc, rfl, rfl⟩, _, hns⟩
  have fin : ∀ (h' : Heap) (tk : Nat) (accvs : Array Value) (m : Str → Option Value), s1.heap.StaysIn h' → h'.IsList H1.objs.size accvs → gVs h' accvs.toList (ds.map toldP) → h'.Ns H2.objs.size m →
      ∃ m, h'.Ns H2.objs.size m ∧ ∀ h'', Heap.SameBut H2.objs.size h' h'' → Q (.ref H1.objs.size) { s1 with heap := h'', toks := tk } := by
    intro h' tk accvs m st ha hv hn
    exact ⟨m, hn, fun h'' hs'' => hq H1.objs.size accvs h'' tk (fun b o e => (hs''.2 b (T.old b o e).2.2).trans (st b o e)) (ha.at fun o e => (hs''.2 _ T.n3).trans e) (VRs.re (KT1.same hs'' (.ns hn)) (pure_told hp) hv)⟩
  refine codeAny_compStart_list (told_loop hh T rfl rfl rfl rfl fin I0) ?_
  exact wpAny_pyIter_listiter hit (told_loop hh T rfl rfl rfl rfl fin I0)
end
end Mine
namespace Mine
open PySem PySem.W PyProof.Rows PySem.Calls PySem.Spec
open Builtin Builtin.ObjectAttr
/-- a place, its ground told -/
structure Pl (A : Around) (base : Heap) (l : List Env) (h : Heap) : Prop where
  B : Below A base l h
  W : gWF base
  D : Dicts l h
theorem gWF_gd {h : Heap} (W : gWF h) : Gd h := ⟨(gWF_kt W).1, (gWF_kt W).2, W⟩
section
variable {A : Around} {base h h' : Heap} {l : List Env}
theorem Pl.gd (P : Pl A base l h) : Gd h := (gWF_gd P.W).keeps P.B.stays
theorem Pl.keeps (P : Pl A base l h) (k : h.StaysIn h') : Pl A base l h' := ⟨⟨P.B.stack, fun b o e => k b o (P.B.stays b o e), P.B.frames.of_keeps fun b o e _ => ⟨o, k b o e, rfl⟩⟩, P.W, P.D.keeps k⟩
theorem Pl.hide (P : Pl A base l h) {t : Addr} (n : base.get? t = none) (nf : t ∉ framesOf l) : Pl A base l (h.hide t) := by
  refine ⟨⟨P.B.stack, fun b o e => (Heap.hide_ne h fun q => by rw [q, n] at e; cases e).trans (P.B.stays b o e), funFrames_hideAll (as := [t]) P.B.frames fun env he a ha hf => nf (List.mem_filterMap.mpr ⟨env, he, by rw [← List.mem_singleton.mp ha]; exact hf⟩)⟩, P.W, fun x hx => ?_⟩
  obtain ⟨o, es, k, q, d⟩ := P.D x hx
  exact ⟨o, es, k, (Heap.hide_ne h fun z => nf (by rw [← z]; exact hx)).trans q, d⟩
theorem Pl.push {c : Cx} {m : Str → Option Value} (P : Pl A base l c.h₀) (hA : c.A = A.deeper c.env) (hk : c.cs.kind = .function) (F : c.Fr h m) : Pl c.A base (c.env :: l) h := by
  rw [hA]
  exact ⟨P.B.push F hk, P.W, P.D.push F⟩
theorem in_hidden (P : Pl A base l h) : base.StaysIn (hideAll h (framesOf l)) := fun b o q => hideAll_get _ (P.B.stays b o q) fun hm => by rw [(P.B.frames.mem hm).1] at q; cases q
theorem Pl.site {c : Cx} {fi : FI} {n : Nat} (P : Pl A base l c.h₀) (hA : c.A = A.deeper c.env) (N : Nms c.cs fi) (R : Room (n + 1) A) : Site n c fi :=
  ⟨P.gd, N, by rw [hA]; exact R.deeper, A, base, l, P.B, by rw [hA]; exact Around.frames_deeper P.B.stack, gWF_keeps (in_hidden P) P.W, P.D⟩
theorem Pl.of_place (P : Place A h) : ∃ l, Pl A (hideAll h (framesOf l)) l h ∧ A.frames = some l := by
  obtain ⟨A₀, base, outer, m, c, h1, h2, h3, F, _, _, hw, hdc⟩ := P
  have b := h1.push (name := c.cn) (scope := c.cs) (a := c.a) (cd := c.ccd) F h3
  exact ⟨c.env :: outer, ⟨⟨h2, fun x o q => of_hideAll _ q, funFrames_hide b.frames fun env he x hx => List.mem_filterMap.mpr ⟨env, he, hx⟩⟩, hw, hdc.push F⟩, h2⟩
theorem Pl.place {c : Cx} {m : Str → Option Value} (P : Pl A base l c.h₀) (hA : c.A = A.deeper c.env) (hk : c.cs.kind = .function) (F : c.Fr h m) : Place c.A h :=
  ⟨A, base, l, m, c, P.B, by rw [hA]; exact Around.frames_deeper P.B.stack, hk, F, P.gd.kin, P.gd.top, gWF_keeps (in_hidden (P.push hA hk F)) P.W, P.D⟩
end
/-- within a class that is called -/
noncomputable abbrev Au (A : Around) (C : Addr) (vs : List Value) : Around := A.under (.builtin "type.__call__" ⟨.ref C :: vs, []⟩)
theorem Pl.under {A : Around} {base h : Heap} {l : List Env} {C : Addr} {vs : List Value} (P : Pl A base l h) : Pl (Au A C vs) base l h := ⟨⟨P.B.stack, P.B.stays, P.B.frames⟩, P.W, P.D⟩
theorem Room.under {n : Nat} {A : Around} {C : Addr} {vs : List Value} (R : Room (n + 1) A) : Room n (Au A C vs) := ⟨by have := R.depth; show A.depth + 1 + n < _; omega, by have := R.units; show A.units + 1 + 3 * n + 80 < _; omega, R.hand⟩

/-- an object of the program's own, its attributes a map -/
structure Ob (h : Heap) (x C dx : Addr) (mA : Str → Option Value) : Prop where
  obj : h.get? x = some (instObj C dx)
  ne : dx ≠ x
  ns : h.Ns1 dx mA
theorem Ob.keeps {h h' : Heap} {x C dx : Addr} {mA : Str → Option Value} (k : h.StaysIn h') (O : Ob h x C dx mA) : Ob h' x C dx mA := ⟨k _ _ O.obj, O.ne, O.ns.keeps k⟩
theorem refKey_str {e : DictEntry} (h : ∃ n t, e.key = .str n t) : e.refKey = false := by
  obtain ⟨n, t, k⟩ := h
  unfold DictEntry.refKey; rw [k]
theorem Ob.attr {h : Heap} {x C dx : Addr} {mA : Str → Option Value} (O : Ob h x C dx mA) {nm : Str} {v : Option Value} (hv : mA nm = v) : AttrAt h x C nm v := by
  obtain ⟨od, es, ep, ho, hd, hk, hu, hf⟩ := O.ns
  refine ⟨dx, od, O.obj, ho, ?_⟩
  cases v with
  | some v => exact look_msg hd ((hf _).trans hv)
  | none =>
    have z := (hf nm).trans hv
    unfold nsFind findBy at z
    rw [← Array.find?_toList] at z
    unfold lookIn
    rw [hd]
    show (match List.find? (fun x => x.key.isStr nm) es.toList with | some e => _ | none => (if es.toList.any (·.refKey) then none else some none)) = _
    rw [Option.map_eq_none_iff.mp z]
    show (if es.toList.any (·.refKey) = true then none else some none) = _
    rw [if_neg]
    intro q
    obtain ⟨e, he, q⟩ := List.any_eq_true.mp q
    rw [refKey_str (hk e (Array.mem_toList_iff.mp he))] at q; cases q
section
variable {A : Around} {E : Value → Shared → Prop} {s : Shared} {x C dx fI : Addr} {names : List Str}
theorem osa_ob (K : ClsK C fI names) {mA : Str → Option Value} {nm : Str} {v : Value} {ns : List Str} {tk : Tok} {R : Result → Shared → Prop} (hn : nm ∈ names) (X : gu.K.In s.heap) (O : Ob s.heap x C dx mA) (hw : Within mA ns) (hsz : ns.length ≤ 100)
    (hq : ∀ h' tk', Ob h' x C dx (fun y => if y = nm then some v else mA y) → Heap.SameBut dx s.heap h' → R (.ok (.ret .none)) { s with heap := h', toks := tk' }) : codeAny gM A (.call (.builtin "object.__setattr__") ⟨[.ref x, .str nm tk, v], []⟩) R s := by
  obtain ⟨hx, ne, hns⟩ := O
  obtain ⟨od, _, _, hod, _⟩ := id hns
  have I : InstAt s.heap x (instObj C dx) C (some od) := ⟨hx, rfl, rfl, hod⟩
  obtain ⟨cd, hc, hd⟩ := any_some K.dict
  refine osa_open X I K.plain (K.taker.mem hn) fun b => ?_
  refine wpAny_bind (wpAny_pure (wpAny_bind (wpAny_bind (wpAny_loadPart hx (wpAny_bind ((looks_clsIn X hc).here ?_))))))
  rw [hd]
  refine wpAny_pure (a := some dx) (wpAny_bind (wpAny_pure (wpAny_bind (wpAny_nsSet1 hns fun h' hn' hs => ?_))))
  obtain ⟨oD, esD, epD, hoD, hdD, hcD⟩ := hn'.count (Within.cons nm v hw)
  refine wpAny_bind (wpAny_lookBehind hoD (by rw [hdD]; exact pastItsLine_dict (Nat.le_trans hcD (Nat.le_trans (Nat.succ_le_succ hsz) (by decide)))) ?_)
  exact wpAny_pure (hq h' _ ⟨(hs.2 x ne.symm).trans hx, ne, hn'⟩ hs)
theorem set_ob (K : ClsK C fI names) {mA : Str → Option Value} {nm : Str} {v : Value} {ns : List Str} {Q : Unit → Shared → Prop} (hn : nm ∈ names) (X : gu.K.In s.heap) (O : Ob s.heap x C dx mA) (hw : Within mA ns) (hsz : ns.length ≤ 100)
    (hq : ∀ h' tk', Ob h' x C dx (fun y => if y = nm then some v else mA y) → Heap.SameBut dx s.heap h' → Q () { s with heap := h', toks := tk' }) : wpAny gM A (setAttr (.ref x) nm v) Q E s := by
  obtain ⟨od, _, _, hod, _⟩ := id O.ns
  exact set_plain X (od := some od) ⟨O.obj, rfl, rfl, hod⟩ K.setter (osa_ob (s := { s with toks := s.toks + 1 }) K hn X O hw hsz hq)
noncomputable abbrev OutR (Q E : Value → Shared → Prop) : Result → Shared → Prop := fun r s' => match r with | .ok (.ret v) => Q v s' | .ok _ => False | .error e => E e s'
/-- a class of the program's own is called -/
theorem call_class (K : ClsK C fI names) (X : gu.K.In s.heap) {vs : List Value} {Q : Value → Shared → Prop}
    (h : ∀ x dx h1, s.heap.StaysIn h1 → s.heap.get? x = none → s.heap.get? dx = none → Ob h1 x C dx (fun _ => none) → codeAny gM (Au A C vs) (.call (.ref fI) ⟨.ref x :: vs, []⟩) (InitBack x (OutR Q E)) { s with heap := h1 }) :
    wpAny gM A (call (.ref C) vs) Q E s := by
  obtain ⟨hh, g, d, t, os⟩ := s
  have k1 : ∀ b o, hh.get? b = some o → (hh.push emptyDict).get? b = some o := fun b o e => Heap.get?_push_of_some _ e
  have k2 : ∀ b o, (hh.push emptyDict).get? b = some o → ((hh.push emptyDict).push (instObj C hh.objs.size)).get? b = some o := fun b o e => Heap.get?_push_of_some _ e
  have hd := k2 _ _ (Heap.get?_push_size hh (o := emptyDict) rfl)
  have hx : ((hh.push emptyDict).push (instObj C hh.objs.size)).get? (hh.objs.size + 1) = some (instObj C hh.objs.size) := by
    have := Heap.get?_push_size (hh.push emptyDict) (o := instObj C hh.objs.size) rfl
    rwa [Heap.size_push] at this
  refine wpAny_call (make_core (makes_of X K.makes) (looks_findIn X K.init) (fun self => bind_fn X self K.isf) (.inl rfl) (h _ hh.objs.size _ (fun b o e => k2 _ _ (k1 b o e)) (Heap.get?_none_of_le (Nat.le_succ _)) (Heap.get?_none_of_le (Nat.le_refl _)) ⟨hx, Nat.ne_of_lt (Nat.lt_succ_self _), ?_⟩))
  exact Heap.Ns1.of_empty ⟨_, #[], _, hd, rfl, fun e he => absurd he (by simp), fun _ => rfl⟩
/-- an __init__ is entered: the object's table is no part of the ground -/
theorem init_enter {base : Heap} {l : List Env} {o : Obj} {fd : FuncData} {g : Addr} (D : FnD g o fd) {body : List Stmt} (hb : fd.body = .stmts body) {fi : FI} (N : Nms fd.scope fi) {vs : List Value} {binds : List (Str × Value)} {n : Nat} (P : Pl A base l s.heap) (R : Room (n + 1) A)
    (n0 : base.get? dx = none) (nf : dx ∉ framesOf l) (hdx : ∃ od, s.heap.get? dx = some od) (hbind : BindsTo s fd ⟨vs, []⟩ binds) (hbl : ∀ y ∈ binds, fd.scope.names.lookup y.1 = some .local) {R' : Result → Shared → Prop}
    (k : ∀ (c : Cx) (s₁ : Shared), Site n c fi → c.Fr s₁.heap (fun y => binds.reverse.lookup y) → Next s s₁ → c.h₀ = s.heap.hide dx → c.A = A.deeper c.env → (c.cs = fd.scope ∧ c.cn = fd.qualname ∧ c.ccd = fd.code) → Pl A base l c.h₀ → c.L ≠ dx → wpAny gM c.A (execs body c.env) (fun fl s' => R' (.ok (.ret (match fl with | .ret v => v | _ => .none))) s')
      (fun e s' => wpAny gM c.A (leaving c.env e) (fun _ s'' => R' (.error e) s'') (fun e' s'' => R' (.error e') s'') s') s₁) :
    codeAny gM A (.call (.ref g) ⟨vs, []⟩) R' s := by
  have G := P.gd
  refine codeAny_call_def (fd := fd) (body := body) (binds := binds) R.now (G.kin _ _ D.at_) D.data G.top.nolimit (codeRec_of G.kin D.code) hb hbind D.cell hbl (fun h₁ hns hk₁ => ?_) D.co D.gen D.kind
  rw [D.env]
  have P' := P.hide n0 nf
  obtain ⟨od, hdx⟩ := hdx
  exact k ⟨A.deeper (envOf fd.qualname fd.scope s.heap.objs.size g fd.code), fd.qualname, fd.scope, s.heap.objs.size, g, fd.code, s.heap.hide dx⟩ _ (P'.site rfl N R) ⟨hns, fun b o q => hk₁ b o (Heap.of_hide q), Nat.le_of_eq (Heap.hide_size _ _)⟩ ⟨hk₁, rfl, rfl, rfl⟩ rfl rfl ⟨rfl, rfl, rfl⟩ P' (Nat.ne_of_gt (Heap.lt_size hdx))
end
end Mine
namespace Mine
open PySem PySem.W PyProof.Rows PySem.Calls PySem.Spec
noncomputable def AK.val (m : Str → Option Value) (h : Heap) (v : Value) : AK → Prop
  | .loc x => m x = some v
  | .lis => ∃ a, v = .ref a ∧ h.IsList a #[]
  | .dic => ∃ a, v = .ref a ∧ DictIs h a []
  | _ => True
noncomputable def okAS (nms : List (Str × NameKind)) (names : List Str) (m : Str → Option Value) : List AS → Bool
  | [] => true
  | t :: l => names.contains t.a && (t.k.ok nms m && okAS nms names m l)
noncomputable def lastK (n : Str) : List AS → Option AK
  | [] => none
  | t :: l => Option.casesOn (motive := fun _ => Option AK) (lastK n l) (cond (n == t.a) (some t.k) none) some
noncomputable abbrev fe0 : Fe := ⟨⟨[], []⟩, []⟩
theorem nms0 {cs : Scope} (h : cs.kind = .function) : Nms cs ⟨[], []⟩ := ⟨h, (fun x q => nomatch q), (fun x q => nomatch q), (fun x q => q.elim (fun q => nomatch q) fun q => nomatch q), (fun x y q => nomatch q)⟩
theorem okN_both {nms : List (Str × NameKind)} {y : Str} (h : okN nms y = true) : nms.lookup y = some .local ∧ (y == ("__debug__" : Str)) = false := by
  obtain ⟨h1, h2⟩ := and_both h
  exact ⟨eq_of_beq h1, by cases q : (y == ("__debug__" : Str)) with | false => rfl | true => rw [q] at h2; cases h2⟩
section
variable {n : Nat} {c : Cx} {m : Str → Option Value} {s : Shared} {E : Value → Shared → Prop} {nms : List (Str × NameKind)}
theorem lrel0 {h : Heap} : LRel ⟨[], []⟩ h m [] := fun x d q => nomatch q
/-- a name of the frame's -/
theorem ldn {f : Fe} (X : At n c f m s) (hN : c.cs.names = nms) {y : Str} {v : Value} {p : Pos} (hy : okN nms y = true) (hm : m y = some v) {Q : Value → Shared → Prop} (h : Q v s) : wpAny gM c.A (eval (.Name y p) c.env) Q E s :=
  ld X.F hm h X.S.nms.kind (by rw [← hN] at hy; exact (okN_both hy).1) (okN_both hy).2
theorem kind_ok {f : Fe} {dx : Addr} (X : At (n + 2) c f m s) (hN : c.cs.names = nms) {k : AK} {p : Pos} (hk : k.ok nms m = true) (hd : IsDi s.heap dx) {Q : Value → Shared → Prop} (h : ∀ v s', Next s s' → (∀ hh : Heap, (∀ b o, b ≠ dx → s'.heap.get? b = some o → hh.get? b = some o) → k.val m hh v) → Q v s') : wpAny gM c.A (eval (k.emb p) c.env) Q E s := by
  obtain ⟨od, es, ep, ho, hd⟩ := hd
  cases k with
  | loc y =>
    obtain ⟨h1, h2⟩ := and_both hk
    obtain ⟨v, hv⟩ := Option.isSome_iff_exists.mp h2
    exact ldn X hN h1 hv (h v s (Next.refl s) fun _ _ => hv)
  | non => exact wpAny_pure (h _ s (Next.refl s) fun _ _ => trivial)
  | tru b => exact wpAny_pure (h _ s (Next.refl s) fun _ _ => trivial)
  | lis =>
    refine (r_zero (n + 2)).ex (e := .lst [] p) (d := .lst []) rfl X fun v s' N V => h v s' N fun hh k => ?_
    obtain ⟨a, ⟨vs⟩, rfl, ⟨o, e, hc, nn, hl⟩, hv⟩ := V
    cases (show vs = [] from hv)
    exact ⟨a, rfl, o, k a o (fun z => by rw [z, N.heap _ _ ho] at e; cases some_inj e; rw [hd] at hl; cases hl) e, hc, nn, hl⟩
  | tup => exact (r_zero (n + 2)).ex (e := .tup [] 0 p) (d := .tup []) rfl X fun v s' N V => h v s' N fun _ _ => trivial
  | dic =>
    obtain ⟨o, ho', hd'⟩ := Heap.dictOf_iff.mp (Heap.DictOf.new (knd := PySem.strKind PRG gu.w) s.heap)
    exact wpAny_Dict_empty (h _ _ (Next.push _ _) fun hh k => ⟨_, rfl, o, k _ o (Nat.ne_of_gt (Heap.lt_size ho)) ho', hd', X.F.notModules (modules_low X.S.gd.top.nolimit)⟩)
/-- the attributes after a list of assignments -/
noncomputable def RelA (m : Str → Option Value) (mA : Str → Option Value) : List AS → (Heap → Prop) → (Str → Option Value) → Prop
  | [], _, mA' => mA' = mA
  | t :: l, W, mA' => ∃ v, (∀ h, W h → t.k.val m h v) ∧ RelA m (fun y => if y = t.a then some v else mA y) l W mA'
theorem RelA.get {l : List AS} {W : Heap → Prop} : ∀ {mA mA' : Str → Option Value}, RelA m mA l W mA' → ∀ {h : Heap}, W h → ∀ {y : Str}, (∀ {k : AK}, lastK y l = some k → ∃ v, mA' y = some v ∧ k.val m h v) ∧ (lastK y l = none → mA' y = mA y) := by
  induction l with
  | nil => intro mA mA' R h hW y; cases (show mA' = mA from R); exact ⟨fun {k} q => (nomatch q), fun _ => rfl⟩
  | cons t l ih =>
    rintro mA mA' ⟨v, hv, R⟩ h hW y
    obtain ⟨i1, i2⟩ := ih R hW (y := y)
    have e : lastK y (t :: l) = Option.casesOn (motive := fun _ => Option AK) (lastK y l) (cond (y == t.a) (some t.k) none) some := rfl
    cases hl : lastK y l with
    | some k' =>
      rw [hl] at e
      exact ⟨fun q => i1 (by rw [hl, ← q, e]), fun q => by rw [e] at q; cases q⟩
    | none =>
      rw [hl] at e
      have i2 := i2 hl
      cases hy : (y == t.a) with
      | true =>
        rw [hy] at e
        rw [if_pos (eq_of_beq hy)] at i2
        exact ⟨fun q => by rw [e] at q; cases some_inj q; exact ⟨v, i2, hv h hW⟩, fun q => by rw [e] at q; cases q⟩
      | false =>
        rw [hy] at e
        rw [if_neg (fun z => by rw [z, beq_self_eq_true] at hy; cases hy)] at i2
        exact ⟨fun q => (by rw [e] at q; cases q), fun _ => i2⟩
/-- a list of assignments of an __init__ -/
theorem inits_ok {x C dx fI : Addr} {names : List Str} (K : ClsK C fI names) (hN : c.cs.names = nms) (hself : m sSelf = some (.ref x)) (hsN : okN nms sSelf = true) (hL : c.L ≠ dx) (h0 : c.h₀.get? dx = none) {rest : List Stmt} {Q : Flow → Shared → Prop} {l : List AS} :
    ∀ {s : Shared} {mA : Str → Option Value} {ns : List Str}, okAS nms names m l = true → At (n + 2) c fe0 m s → Ob s.heap x C dx mA → Within mA ns → ns.length + l.length ≤ 100 →
      (∀ s' mA', NextL dx s s' → At (n + 2) c fe0 m s' → Ob s'.heap x C dx mA' → (∃ ns', Within mA' ns' ∧ ns'.length = ns.length + l.length) → RelA m mA l (fun h => ∀ b o, b ≠ dx → s'.heap.get? b = some o → h.get? b = some o) mA' → wpAny gM c.A (execs rest c.env) Q E s') →
      wpAny gM c.A (execs (l.map AS.emb ++ rest) c.env) Q E s := by
  induction l with
  | nil => intro s mA ns _ X O hw _ h; exact h s mA (NextL.of (Next.refl s)) X O ⟨ns, hw, rfl⟩ rfl
  | cons t l ih =>
    intro s mA ns hl X O hw hlen h
    obtain ⟨h1, hl⟩ := and_both hl
    obtain ⟨h2, hl⟩ := and_both hl
    have hle : ns.length + 1 + l.length ≤ 100 := by rw [Nat.add_assoc, Nat.add_comm 1]; exact hlen
    refine wpAny_execs_cons (plainObj_wpAny_Assign_Attribute (kind_ok X hN h2 (ns_di O.ns.ns) fun v s1 N1 hv => ?_) (by cases t.k <;> rfl))
    have X1 := X.next N1
    refine ldn X1 hN hsN hself ?_
    have O1 := O.keeps N1.heap
    refine set_ob K (List.contains_iff_mem.mp h1) X1.gd.kin O1 hw (Nat.le_trans (Nat.le_add_right _ _) (Nat.le_trans (Nat.add_le_add_right (Nat.le_succ _) _) hle)) fun h' tk' O2 sb => ?_
    obtain ⟨oD, esD, epD, hoD, hdD, _⟩ := O1.ns
    have N2 : NextL dx s1 { s1 with heap := h', toks := tk' } := ⟨fun b o ne e => (sb.2 b ne).trans e, ks_dict hoD hdD sb, rfl, rfl, rfl⟩
    have X2 : At (n + 2) c fe0 m { s1 with heap := h', toks := tk' } := ⟨X.S, X1.F.change sb hL.symm h0, lrel0⟩
    refine ih hl X2 O2 (Within.cons _ _ hw) hle fun s' mA' N3 X3 O3 hw3 R3 => ?_
    obtain ⟨ns', w1, w2⟩ := hw3
    refine h s' mA' (((NextL.of N1).trans N2).trans N3) X3 O3 ⟨ns', w1, by rw [w2, List.length_cons, List.length_cons, Nat.add_right_comm, ← Nat.add_assoc]⟩ ⟨v, fun hh hW => hv hh fun b o ne e => hW _ _ ne (N3.heap _ _ ne (N2.heap _ _ ne e)), R3⟩
end
end Mine
namespace Mine
open PySem PySem.W PyProof.Rows PySem.Calls PySem.Spec
noncomputable abbrev bnd (ps : List Str) (ex : List (Str × Value)) (vs : List Value) : Str → Option Value := fun y => (ps.zip vs ++ ex).reverse.lookup y
/-- where an __init__ stands -/
structure InF (A' : Around) (base : Heap) (lf : List Env) (nms : List (Str × NameKind)) (n : Nat) (c : Cx) (m : Str → Option Value) (s s₁ : Shared) (x C dx : Addr) : Prop where
  X : At (n + 2) c fe0 m s₁
  N : c.cs.names = nms
  O : Ob s₁.heap x C dx (fun _ => none)
  L : c.L ≠ dx
  h0 : c.h₀.get? dx = none
  next : Next s s₁
  nx : s.heap.get? x = none
  ndx : s.heap.get? dx = none
  P : Pl A' base lf c.h₀
  hA : c.A = A'.deeper c.env
section
variable {A : Around} {E Q : Value → Shared → Prop} {s : Shared} {C fI : Addr} {names : List Str} {nms : List (Str × NameKind)} {ps : List Str} {ex : List (Str × Value)} {base : Heap} {lf : List Env} {n : Nat} {vs : List Value}
theorem class_enter (K : ClsK C fI names) {body : List Stmt} (I : InK fI nms ps ex body) (P : Pl A base lf s.heap) (R : Room (n + 4) A) (hl : ps.length = vs.length + 1)
    (h : ∀ c s₁ x dx, InF (Au A C vs) base lf nms n c (bnd ps ex (.ref x :: vs)) s s₁ x C dx → wpAny gM c.A (execs body c.env) (fun fl s' => fl = .next ∧ Q (.ref x) s') (OutE c E) s₁) : wpAny gM A (call (.ref C) vs) Q E s := by
  obtain ⟨o, D⟩ := I.D
  refine call_class K P.gd.kin fun x dx h1 st nx ndx O => ?_
  have P1 : Pl (Au A C vs) base lf h1 := (P.keeps st).under
  have nb : base.get? dx = none := none_back P.B.stays ndx
  have nf : dx ∉ framesOf lf := fun hm => by
    obtain ⟨o, ho⟩ := framesOf_has P.B.frames hm
    rw [ndx] at ho; cases ho
  obtain ⟨od, _, _, hod, _⟩ := id O.ns
  have X1 : gu.K.In h1 := P1.gd.kin
  refine init_enter (s := { s with heap := h1 }) D I.body (nms0 I.kind) P1 R.under nb nf ⟨od, hod⟩ (I.binds (vs := .ref x :: vs) X1 hl.symm) (fun y hy => ?_) fun c s₁ S F N hc hA hcs P2 neL => ?_
  · have hz : y.1 ∈ ps ++ ex.map (·.1) := by
      rcases List.mem_append.mp hy with hy | hy
      · exact List.mem_append_left _ (List.of_mem_zip hy).1
      · exact List.mem_append_right _ (List.mem_map.mpr ⟨y, hy, rfl⟩)
    rw [I.names]
    exact (okN_both (List.all_eq_true.mp I.locs _ hz)).1
  · have N0 : Next s s₁ := ⟨fun b o e => N.heap _ _ (st b o e), N.gens, N.drawn, N.os⟩
    have h0 : c.h₀.get? dx = none := by rw [hc]; exact Heap.hide_self _ _
    have O1 : Ob s₁.heap x C dx (fun _ => none) := O.keeps N.heap
    refine wpAny_mono (h c s₁ x dx ⟨⟨S, F, lrel0⟩, by rw [hcs.1]; exact I.names, O1, neL, h0, N0, nx, ndx, P2, hA⟩) (fun fl s' q => ?_) fun _ _ e => e
    obtain ⟨rfl, q⟩ := q
    exact ⟨rfl, q⟩
/-- an __init__ of plain assignments -/
theorem class_ok (K : ClsK C fI names) {l : List AS} (I : InK fI nms ps ex (l.map AS.emb)) (P : Pl A base lf s.heap) (R : Room (n + 4) A) (hl : ps.length = vs.length + 1) (hlen : l.length ≤ 100)
    (hok : ∀ x, bnd ps ex (.ref x :: vs) sSelf = some (.ref x) ∧ (okN nms sSelf && okAS nms names (bnd ps ex (.ref x :: vs)) l) = true)
    (h : ∀ s' x dx mA, Next s s' → s.heap.get? x = none → s.heap.get? dx = none → Ob s'.heap x C dx mA → RelA (bnd ps ex (.ref x :: vs)) (fun _ => none) l (fun h => ∀ b o, b ≠ dx → s'.heap.get? b = some o → h.get? b = some o) mA → Q (.ref x) s') : wpAny gM A (call (.ref C) vs) Q E s := by
  refine class_enter K I P R hl fun c s₁ x dx F => ?_
  obtain ⟨h1, h2⟩ := hok x
  obtain ⟨h2, h3⟩ := and_both h2
  have z := inits_ok (rest := []) (E := OutE c E) K F.N h1 h2 F.L F.h0 (Q := fun fl s' => fl = .next ∧ Q (.ref x) s') (ns := []) h3 F.X F.O Within.nil (by rw [List.length_nil, Nat.zero_add]; exact hlen)
    fun s' mA N X O _ Rl => wpAny_execs_nil ⟨rfl, h s' x dx mA ⟨fun b o e => N.heap b o (fun z => by rw [z, F.ndx] at e; cases e) (F.next.heap b o e), N.gens.trans F.next.gens, N.drawn.trans F.next.drawn, N.os.trans F.next.os⟩ F.nx F.ndx O Rl⟩
  rwa [List.append_nil] at z
end
end Mine
namespace Mine
open PySem PySem.W PyProof.Rows PySem.Calls PySem.Spec PySem.SeqAt
noncomputable def ps605 : List Str := [Str.ofString "self", Str.ofString "packages"]
/-- a frame that a hand walks in -/
structure Fm (base : Heap) (lf : List Env) (n : Nat) (c : Cx) (f : Fe) (m : Str → Option Value) (s : Shared) : Prop where
  X : At n c f m s
  P : ∃ A', Pl A' base lf c.h₀ ∧ c.A = A'.deeper c.env
section
variable {base : Heap} {lf : List Env} {n : Nat} {c : Cx} {f : Fe} {m : Str → Option Value} {s s' : Shared} {E : Value → Shared → Prop}
theorem Fm.pl (F : Fm base lf n c f m s) : Pl c.A base (c.env :: lf) s.heap := let ⟨_, P, hA⟩ := F.P; P.push hA F.X.S.nms.kind F.X.F
theorem Fm.place (F : Fm base lf n c f m s) : Place c.A s.heap := let ⟨_, P, hA⟩ := F.P; P.place hA F.X.S.nms.kind F.X.F
theorem Fm.next (F : Fm base lf n c f m s) (N : Next s s') : Fm base lf n c f m s' := ⟨F.X.next N, F.P⟩
theorem Fm.at {f' : Fe} {m' : Str → Option Value} (F : Fm base lf n c f m s) (X : At n c f' m' s') : Fm base lf n c f' m' s' := ⟨X, F.P⟩
/-- a call of something of the written part -/
theorem glob_callK {x : Str} {g : Addr} (N : GNm x g) (X : At n c f m s) (hk : c.cs.names.lookup x = some .globalImplicit) {e : Expr} {rest : List Expr} {p q : Pos} {Q : Value → Shared → Prop}
    (h : wpAny gM c.A (spliced (backTo q (starEach (e :: rest) c.env))) (fun vs s1 => gu.K.In s1.heap ∧ wpAny gM c.A (call (.ref g) vs) Q E s1) E s) (he : starEach (e :: rest) c.env = (false, eval e c.env) :: starEach rest c.env) (hp : (backTo q (starEach rest c.env)).any (·.1) = false) :
    wpAny gM c.A (eval (.Call (.Name x p) (e :: rest) [] q) c.env) Q E s :=
  wpAny_Call_ofName (name_K X.F X.S.gd.kin (topRead_of X.S.gd.top) N.ns (callWith_K X.S.gd.kin N.keep h he hp) X.S.nms.kind hk N.db)
theorem glob_call {x : Str} {g : Addr} (N : GNm x g) (X : At n c f m s) (hk : c.cs.names.lookup x = some .globalImplicit) {e : Expr} {rest : List Expr} {p q : Pos} {Q : Value → Shared → Prop}
    (h : wpAny gM c.A (spliced (backTo q (starEach (e :: rest) c.env))) (fun vs s1 => s.heap.StaysIn s1.heap ∧ wpAny gM c.A (call (.ref g) vs) Q E s1) E s) (he : starEach (e :: rest) c.env = (false, eval e c.env) :: starEach rest c.env) (hp : (backTo q (starEach rest c.env)).any (·.1) = false) :
    wpAny gM c.A (eval (.Call (.Name x p) (e :: rest) [] q) c.env) Q E s :=
  glob_callK N X hk (wpAny_mono h (fun vs s1 z => ⟨X.gd.kin.keeps z.1, z.2⟩) fun _ _ z => z) he hp
theorem glob_call0 {x : Str} {g : Addr} (N : GNm x g) (X : At n c f m s) (hk : c.cs.names.lookup x = some .globalImplicit) {p q : Pos} {Q : Value → Shared → Prop}
    (h : wpAny gM c.A (call (.ref g) []) Q E s) : wpAny gM c.A (eval (.Call (.Name x p) [] [] q) c.env) Q E s :=
  wpAny_Call_ofName (name_K X.F X.S.gd.kin (topRead_of X.S.gd.top) N.ns (callWith_K0 X.gd.kin N.keep h) X.S.nms.kind hk N.db)
theorem dict0_new (X : At n c f m s) {p : Pos} {Q : Value → Shared → Prop} (h : ∀ d s', Next s s' → DictIs s'.heap d [] → s.heap.get? d = none → Q (.ref d) s') : wpAny gM c.A (eval (.Dict [] [] p) c.env) Q E s := by
  obtain ⟨o, ho, hd⟩ := Heap.dictOf_iff.mp (Heap.DictOf.new (knd := PySem.strKind PRG gu.w) s.heap)
  exact wpAny_Dict_empty (h _ _ (Next.push _ _) ⟨o, ho, hd, X.F.notModules (modules_low X.S.gd.top.nolimit)⟩ (Heap.get?_none_of_le (Nat.le_refl _)))
/-- arguments, the last an empty display -/
theorem args_dict {r : Rec} {k : Nat} (H : RecOK k r) {q p : Pos} {es : List IE} : ∀ {ds : List PV} {s : Shared} {Q : List Value → Shared → Prop}, evs r f es = some ds → At k c f m s →
    (∀ vs d s', Next s s' → gVs s'.heap vs ds → DictIs s'.heap d [] → s.heap.get? d = none → Q (vs ++ [.ref d]) s') → wpAny gM c.A (spliced (backTo q (starEach (embs es ++ [.Dict [] [] p]) c.env))) Q E s := by
  induction es with
  | nil => intro ds s Q e X h; cases some_inj e; exact spliced_more (dict0_new X fun d s' N D n => spliced_none (h [] d s' N rfl D n)) rfl
  | cons x es ih =>
    intro ds s Q e X h
    obtain ⟨d1, h1, e⟩ := bind_some e
    obtain ⟨d2, h2, e⟩ := bind_some e
    cases some_inj e
    refine spliced_more (H.ex h1 X fun v s' N V => ih h2 (X.next N) fun vs d s'' N' V' D n => h (v :: vs) d s'' (N.trans N') ⟨v, vs, rfl, V.mono N'.KS, V'⟩ D (none_back N.heap n)) star_one
theorem plainD {q p : Pos} {env : Env} (es : List IE) : (backTo q (starEach (embs es ++ [.Dict [] [] p]) env)).any (·.1) = false := by
  induction es with
  | nil => rfl
  | cons x es ih =>
    rw [show starEach (embs (x :: es) ++ [.Dict [] [] p]) env = _ from star_one]
    exact ih
/-- a display's pairs are kept -/
theorem carr {h : Heap} {ds : List (PV × PV)} : ∀ {vs : List (Value × Value)}, (∀ d ∈ ds, ∃ l, d.1 = .str l) → VRP h vs ds → ∃ kvs, Carries (PySem.strKind PRG gu.w) vs kvs ∧ kvs.length = ds.length := by
  induction ds with
  | nil => intro vs _ V; cases (show vs = [] from V); exact ⟨[], trivial, rfl⟩
  | cons d ds ih =>
    rintro vs hk ⟨k, v, ws, rfl, V1, _, W⟩
    obtain ⟨l, hl⟩ := hk d (.head _)
    rw [hl] at V1
    obtain ⟨t, rfl⟩ := V1
    obtain ⟨kvs, c1, c2⟩ := ih (fun d hd => hk d (.tail _ hd)) W
    exact ⟨(mkStr l, v) :: kvs, ⟨strKind_is _ _ _ _, rfl, c1⟩, congrArg Nat.succ c2⟩
/-- what storing a display's pairs leaves -/
theorem dict_fill (X : At n c f m s) {vs : List (Value × Value)} {kvs : List (Str × Value)} (hc : Carries (PySem.strKind PRG gu.w) vs kvs) (hl : kvs.length ≤ 15) {s1 : Shared} (N : Next { s with heap := s.heap.push dict0 } s1) {Q : Shared → Prop}
    (h : ∀ s' kvs', Next s s' → NextL s.heap.objs.size s1 s' → DictIs s'.heap s.heap.objs.size kvs' → kvs' = merged [] kvs → Q s') : wpAny gM c.A (storeL s.heap.objs.size vs) (fun _ s' => Q s') E s1 := by
  have D0 : s1.heap.DictOf (PySem.strKind PRG gu.w) s.heap.objs.size [] := (Heap.DictOf.new (knd := PySem.strKind PRG gu.w) s.heap).keep N.heap
  refine wpAny_storeAll (knd := PySem.strKind PRG gu.w) vs kvs [] s1 _ hc D0 (by rw [List.length_nil, Nat.zero_add]; exact Nat.le_trans hl (by decide)) fun h' D hs => ?_
  obtain ⟨o, es', ep, ho, hx, hd, _⟩ := D0
  obtain ⟨o', ho', hd'⟩ := Heap.dictOf_iff.mp D
  exact h _ _ (next_dict N hs (Nat.le_refl _)) ⟨fun b o ne e => (hs.2 b ne).trans e, ks_dict ho hd hs, rfl, rfl, rfl⟩ ⟨o', ho', hd', X.F.notModules (modules_low X.S.gd.top.nolimit)⟩ rfl
/-- a display of texts -/
theorem dict_any {r : Rec} (H : RecOK n r) {pos : Pos} {es : List (IE × IE)} {ds : List (PV × PV)} {Q : Value → Shared → Prop} (e : evps r f es = some ds) (hne : es ≠ []) (hlen : es.length ≤ 15) (hd : ds.length ≤ 15) (hk : ∀ d ∈ ds, ∃ l, d.1 = .str l) (X : At n c f m s)
    (h : ∀ v s', Next s s' → Q v s') : wpAny gM c.A (eval (.Dict (keysE es) (valsE es) pos) c.env) Q E s := by
  refine Dict_ok H e hne hlen X fun vs s1 N V => ?_
  obtain ⟨kvs, hc, hl⟩ := carr hk V
  exact dict_fill X hc (by rw [hl]; exact hd) N fun s' _ N' _ _ _ => h _ s' N'
end
noncomputable abbrev sUnd : Str := Str.ofString "underlying"
section
variable {base : Heap} {lf : List Env} {n : Nat} {c : Cx} {f : Fe} {m : Str → Option Value} {s s' : Shared} {E Q : Value → Shared → Prop}
theorem ok576 {a b d e : Value} (x : Addr) : bnd ps576 [] (.ref x :: [a, b, d, e]) sSelf = some (.ref x) ∧ (okN nms576 sSelf && okAS nms576 at576 (bnd ps576 [] (.ref x :: [a, b, d, e])) as576) = true := ⟨by kernel_rfl, by kernel_rfl⟩
/-- a row is made -/
theorem row_at (Z : KO) {A : Around} (P : Pl A base lf s.heap) (R : Room (n + 4) A) {a b v d : Value}
    (h : ∀ s' x dx mA, Next s s' → s.heap.get? x = none → s.heap.get? dx = none → Ob s'.heap x 579 dx mA → mA sUnd = some v → mA sMet = some d → Q (.ref x) s') : wpAny gM A (call (.ref 579) [a, b, v, d]) Q E s := by
  refine class_ok Z.c579 Z.i576 P R rfl (by decide) (fun x => ok576 x) fun s' x dx mA N nx nd O Rl => ?_
  have g := fun {y : Str} => Rl.get (h := s'.heap) (fun _ _ _ e => e) (y := y)
  obtain ⟨v1, e1, e2⟩ := (g (y := sUnd)).1 (k := .loc sUnd) (by kernel_rfl)
  obtain ⟨v2, e3, e4⟩ := (g (y := sMet)).1 (k := .loc sMet) (by kernel_rfl)
  have e2' : some v = some v1 := e2
  have e4' : some d = some v2 := e4
  exact h s' x dx mA N nx nd O (e1.trans e2'.symm) (e3.trans e4'.symm)
end
end Mine
namespace Mine
open PySem PySem.W PyProof.Rows PySem.Calls PySem.Spec PySem.SeqAt
theorem merged_len (kvs : List (Str × Value)) : ∀ acc : List (Str × Value), (merged acc kvs).length ≤ acc.length + kvs.length := by
  induction kvs with
  | nil => exact fun acc => Nat.le_refl _
  | cons q kvs ih =>
    intro acc
    have h := ih (stored acc q.1 q.2)
    have e := stored_length_le acc q.1 q.2
    rw [List.length_cons]
    exact Nat.le_trans (show (merged (stored acc q.1 q.2) kvs).length ≤ _ from h) (by omega)
noncomputable def vFun : PV := .str [102, 117, 110, 99]
noncomputable def vText : PV := .tup [vFun, .tup [], .tup [pStr], .bool false]
noncomputable def vAdd : PV := .tup [vFun, .tup [pInt], .tup [], .bool false]
noncomputable def vHeld : PV := .tup [.str [115, 116, 114, 117, 99, 116], .tup [.tup [.str [115, 116, 97, 116, 101], pInt, .bool false]]]
noncomputable def vPlain : PV := .tup [vFun, .tup [], .tup [], .bool false]
noncomputable def sy (l : List Nat) : PV := .str l
noncomputable def kr1 : List (Nat × PV) := [(108, vText)]
noncomputable def kr2 : List (Nat × PV) := (109, vAdd) :: kr1
noncomputable def kr3 : List (Nat × PV) := (110, vHeld) :: kr2
noncomputable def kr6 : List (Nat × PV) := (112, .any) :: (111, .any) :: (9, .any) :: kr3
theorem kr_e1 : (ev GL 20).ex ⟨fi590, []⟩ kr_text = some vText := by kernel_rfl
theorem kr_e2 : (ev GL 20).ex ⟨fi590, kr1⟩ kr_adding = some vAdd := by kernel_rfl
theorem kr_e3 : (ev GL 20).ex ⟨fi590, kr2⟩ kr_held = some vHeld := by kernel_rfl
noncomputable def isStr : PV → Bool
  | .str _ => true
  | _ => false
noncomputable def strKeys (o : Option (List (PV × PV))) : Bool := isT (o.bind fun l => some (Nat.ble l.length 15 && l.all fun d => isStr d.1))
theorem strKeys_of {o : Option (List (PV × PV))} (h : strKeys o = true) : ∃ ds, o = some ds ∧ ds.length ≤ 15 ∧ ∀ d ∈ ds, ∃ l, d.1 = .str l := by
  obtain ⟨ds, h1, h2⟩ := bind_some (isT_some h)
  obtain ⟨h3, h4⟩ := and_both (some_inj h2)
  refine ⟨ds, h1, Nat.le_of_ble_eq_true h3, fun d hd => ?_⟩
  have := List.all_eq_true.mp h4 d hd
  cases e : d.1 with
  | str l => exact ⟨l, rfl⟩
  | _ => rw [e] at this; cases this
theorem kr_k1 : strKeys (evps (ev GL 20) ⟨fi590, kr3⟩ kr_told) = true := by decide +kernel
theorem kr_k2 : strKeys (evps (ev GL 20) ⟨fi590, (9, .any) :: kr3⟩ kr_locks) = true := by decide +kernel
theorem kr_k3 : strKeys (evps (ev GL 20) ⟨fi590, (111, .any) :: (9, .any) :: kr3⟩ kr_waits) = true := by decide +kernel
noncomputable def four (o : Option (List PV)) : Bool := isT (o.bind fun l => some (Nat.beq l.length 4))
noncomputable def three (o : Option (List PV)) : Bool := isT (o.bind fun l => some (Nat.beq l.length 3))
theorem len_of {k : Nat} {o : Option (List PV)} (h : isT (o.bind fun l => some (Nat.beq l.length k)) = true) : ∃ ds, o = some ds ∧ ds.length = k := by
  obtain ⟨ds, h1, h2⟩ := bind_some (isT_some h)
  exact ⟨ds, h1, Nat.eq_of_beq_eq_true (some_inj h2)⟩
theorem kr_r0k : three (evs (ev GL 20) ⟨fi590, kr6⟩ kr_r0) = true := by decide +kernel
theorem kr_rk : four (evs (ev GL 20) ⟨fi590, kr6⟩ kr_r1) = true ∧ four (evs (ev GL 20) ⟨fi590, kr6⟩ kr_r2) = true ∧ four (evs (ev GL 20) ⟨fi590, kr6⟩ kr_r3) = true := ⟨by decide +kernel, by decide +kernel, by decide +kernel⟩
theorem vs3 {vs : List Value} (h : vs.length = 3) : ∃ a b d, vs = [a, b, d] := by
  cases vs with
  | nil => cases h
  | cons a vs => cases vs with
    | nil => cases h
    | cons b vs => cases vs with
      | nil => cases h
      | cons d vs => cases vs with
        | nil => exact ⟨a, b, d, rfl⟩
        | cons => cases h
theorem vs4 {vs : List Value} (h : vs.length = 4) : ∃ a b d e, vs = [a, b, d, e] := by
  cases vs with
  | nil => cases h
  | cons a vs => obtain ⟨b, d, e, rfl⟩ := vs3 (Nat.succ.inj h); exact ⟨a, b, d, e, rfl⟩
section
variable {base : Heap} {lf : List Env} {n : Nat} {c : Cx} {f : Fe} {m : Str → Option Value} {s s' : Shared} {E Q : Value → Shared → Prop}
theorem cal_split {es : List IE} {x : Expr} {q : Pos} {env : Env} (h : es ≠ []) : ∃ e rest, embs es ++ [x] = e :: rest ∧ starEach (e :: rest) env = (false, eval e env) :: starEach rest env ∧ ∀ (p : Pos), x = .Dict [] [] p → (backTo q (starEach rest env)).any (·.1) = false := by
  cases es with
  | nil => exact absurd rfl h
  | cons e es => exact ⟨e.emb, embs es ++ [x], rfl, star_one, fun p hx => by rw [hx]; exact plainD es⟩
/-- NamedRow(..), its last argument an empty display -/
theorem row_dict (Z : KO) {r : Rec} {k : Nat} (H : RecOK k r) (F : Fm base lf (n + 5) c f m s) (hkn : k ≤ n + 5) (hk : c.cs.names.lookup sRow = some .globalImplicit) {es : List IE} {ds : List PV} {pn pd q : Pos} (he : es ≠ []) (e : evs r f es = some ds) (hl : ds.length = 3)
    (h : ∀ s' x dx mA a b v dm, Next s s' → s.heap.get? x = none → s.heap.get? dx = none → s.heap.get? dm = none → Ob s'.heap x 579 dx mA → mA sUnd = some v → mA sMet = some (.ref dm) → gVs s'.heap [a, b, v] ds → DictIs s'.heap dm [] → Q (.ref x) s') :
    wpAny gM c.A (eval (.Call (.Name sRow pn) (embs es ++ [.Dict [] [] pd]) [] q) c.env) Q E s := by
  obtain ⟨e1, rest, h1, h2, h3⟩ := cal_split (x := .Dict [] [] pd) (q := q) (env := c.env) he
  have z := args_dict (E := E) H (q := q) (p := pd) (Q := fun vs s1 => s.heap.StaysIn s1.heap ∧ wpAny gM c.A (call (.ref 579) vs) Q E s1) e (F.X.less hkn) fun vs dm s1 N V D nd => ⟨N.heap, by
    obtain ⟨a, b, v, rfl⟩ := vs3 (V.length.trans hl)
    refine row_at Z (F.next N).pl F.X.S.room.pred fun s2 x dx mA N2 nx ndx O u1 u2 => ?_
    exact h s2 x dx mA a b v dm (N.trans N2) (none_back N.heap nx) (none_back N.heap ndx) nd O u1 u2 (VRs.mono N2.KS V) (D.keeps N2.heap)⟩
  rw [h1] at z ⊢
  exact glob_call Z.gRow F.X hk z h2 (h3 pd rfl)
/-- NamedRow(..), whatever it is made of -/
theorem row_any (Z : KO) {r : Rec} {k : Nat} (H : RecOK k r) (F : Fm base lf (n + 5) c f m s) (hkn : k ≤ n + 5) (hk : c.cs.names.lookup sRow = some .globalImplicit) {es : List IE} {ds : List PV} {pn q : Pos} (e : evs r f es = some ds) (hl : ds.length = 4)
    (h : ∀ s' x, Next s s' → Q (.ref x) s') : wpAny gM c.A (eval (.Call (.Name sRow pn) (embs es) [] q) c.env) Q E s := by
  have z := evs_ok (E := E) H (pos := q) (Q := fun vs s1 => s.heap.StaysIn s1.heap ∧ wpAny gM c.A (call (.ref 579) vs) Q E s1) e (F.X.less hkn) fun vs s1 N V => ⟨N.heap, by
    obtain ⟨a, b, v, d, rfl⟩ := vs4 (V.length.trans hl)
    exact row_at Z (F.next N).pl F.X.S.room.pred fun s2 x dx mA N2 _ _ _ _ _ => h s2 x (N.trans N2)⟩
  cases es with
  | nil => cases some_inj e; cases hl
  | cons x es => exact glob_call Z.gRow F.X hk z star_one (args_plain es)
theorem sRow_is : sRow = nmOf 114 := by decide +kernel
/-- known_rows() -/
theorem kr_ok (Z : KO) (CL : CfgOK GL) (F : Fm base lf 40 c f m s) (h : ∀ s' d kvs, Next s s' → s.heap.get? d = none → DictIs s'.heap d kvs → kvs.length ≤ 4 → Q (.ref d) s') : wpAny gM c.A (call (.ref 590) []) Q E s := by
  obtain ⟨o, D⟩ := Z.f590.D
  have H := ev_ok CL 20
  refine enter_ok D Z.f590.body Z.f590.nms.1 F.place F.X.gd F.X.S.room (Z.f590.binds F.X.gd.kin rfl) (fun y hy => nomatch hy) fun c2 s1 S F2 N hc hA => ?_
  have hP : ∃ A', Pl A' base (c.env :: lf) c2.h₀ ∧ c2.A = A'.deeper c2.env := ⟨c.A, by rw [hc]; exact F.pl, hA⟩
  have X1 : At 39 c2 ⟨fi590, []⟩ _ s1 := ⟨S, F2, fun x d _ e => nomatch e⟩
  have le : 20 ≤ 39 := by decide
  obtain ⟨q0, f0, g0⟩ := len_of kr_r0k
  obtain ⟨q1, f1, g1⟩ := len_of kr_rk.1
  obtain ⟨q2, f2, g2⟩ := len_of kr_rk.2.1
  obtain ⟨q3, f3, g3⟩ := len_of kr_rk.2.2
  obtain ⟨d1, e1, l1, k1⟩ := strKeys_of kr_k1
  obtain ⟨d2, e2, l2, k2⟩ := strKeys_of kr_k2
  obtain ⟨d3, e3, l3, k3⟩ := strKeys_of kr_k3
  have x1 := kr_e1
  have x2 := kr_e2
  have x3 := kr_e3
  have w1 : okA kr_text = true := rfl
  have w2 : okA kr_adding = true := rfl
  have w3 : okA kr_held = true := rfl
  have n1 : kr_told ≠ [] ∧ kr_told.length ≤ 15 := ⟨List.cons_ne_nil _ _, Nat.le_of_ble_eq_true rfl⟩
  have n2 : kr_locks ≠ [] ∧ kr_locks.length ≤ 15 := ⟨List.cons_ne_nil _ _, Nat.le_of_ble_eq_true rfl⟩
  have n3 : kr_waits ≠ [] ∧ kr_waits.length ≤ 15 := ⟨List.cons_ne_nil _ _, Nat.le_of_ble_eq_true rfl⟩
  unfold body590
  generalize kr_r0 = r0 at f0 ⊢
  generalize kr_r1 = r1 at f1 ⊢
  generalize kr_r2 = r2 at f2 ⊢
  generalize kr_r3 = r3 at f3 ⊢
  generalize kr_text = y1 at x1 w1 ⊢
  generalize kr_adding = y2 at x2 w2 ⊢
  generalize kr_held = y3 at x3 w3 ⊢
  generalize kr_told = y4 at e1 n1 ⊢
  generalize kr_locks = y5 at e2 n2 ⊢
  generalize kr_waits = y6 at e3 n3 ⊢
  refine wpAny_execs_cons (wpAny_Assign_Name (H.ex x1 (X1.less le) fun v s2 N2 V => put_ok (x := 108) (X1.next N2) rfl V fun s3 m3 N3 X3 => ?_) (no_swap CL w1))
  refine wpAny_execs_cons (wpAny_Assign_Name (H.ex x2 (X3.less le) fun v s4 N4 V => put_ok (x := 109) (X3.next N4) rfl V fun s5 m5 N5 X5 => ?_) (no_swap CL w2))
  refine wpAny_execs_cons (wpAny_Assign_Name (H.ex x3 (X5.less le) fun v s6 N6 V => put_ok (x := 110) (X5.next N6) rfl V fun s7 m7 N7 X7 => ?_) (no_swap CL w3))
  refine wpAny_execs_cons (wpAny_Assign_Name (dict_any H e1 n1.1 n1.2 l1 k1 (X7.less le) fun v s8 N8 => put_ok (x := 9) (X7.next N8) (d := .any) rfl trivial fun s9 m9 N9 X9 => ?_) rfl)
  refine wpAny_execs_cons (wpAny_Assign_Name (dict_any H e2 n2.1 n2.2 l2 k2 (X9.less le) fun v sa Na => put_ok (x := 111) (X9.next Na) (d := .any) rfl trivial fun sb mb Nb Xb => ?_) rfl)
  refine wpAny_execs_cons (wpAny_Assign_Name (dict_any H e3 n3.1 n3.2 l3 k3 (Xb.less le) fun v sc Nc => put_ok (x := 112) (Xb.next Nc) (d := .any) rfl trivial fun sd md Nd Xd => ?_) rfl)
  have NL : NextL c2.L s1 sd := (((((NextL.of N2).trans N3).trans ((NextL.of N4).trans N5)).trans ((NextL.of N6).trans N7)).trans ((NextL.of N8).trans N9)).trans (((NextL.of Na).trans Nb).trans ((NextL.of Nc).trans Nd))
  have Fd : Fm base (c.env :: lf) 39 c2 ⟨fi590, kr6⟩ md sd := ⟨Xd, hP⟩
  clear X1 X3 X5 X7 X9 Xb N2 N3 N4 N5 N6 N7 N8 N9 Na Nb Nc Nd
  have hk : c2.cs.names.lookup sRow = some .globalImplicit := by rw [sRow_is]; exact S.nms.glo 114 rfl
  have ne0 : r0 ≠ [] := fun z => by rw [z] at f0; cases some_inj f0; cases g0
  have le5 : 20 ≤ 34 + 5 := by decide
  unfold kr_rows
  refine wpAny_execs_cons (wpAny_Return_some (Dict_X (List.cons_ne_nil _ _) (Nat.le_of_ble_eq_true rfl) ?_))
  have M0 : Next sd { sd with heap := sd.heap.push dict0 } := Next.push _ _
  have bk : ∀ {s' : Shared}, Next sd s' → Next s s' := fun M => back hc N (NL.trans (NextL.of M)) (fr_next Fd.X.F M.heap)
  refine pairs_X (con_str fun t1 j1 => (row_dict Z H (Fd.next (M0.trans (Next.toks _ _))) le5 hk ne0 f0 g0 fun s2 x1 _ _ _ _ _ _ M1 _ _ _ _ _ _ _ _ => ?_))
  refine pairs_X (con_str fun t2 j2 => (row_any Z H (Fd.next ((M0.trans (Next.toks _ _)).trans (M1.trans (Next.toks _ _)))) le5 hk f1 g1 fun s3 x2 M2 => ?_))
  refine pairs_X (con_str fun t3 j3 => (row_any Z H (Fd.next (((M0.trans (Next.toks _ _)).trans (M1.trans (Next.toks _ _))).trans (M2.trans (Next.toks _ _)))) le5 hk f2 g2 fun s4 x3 M3 => ?_))
  refine pairs_X (con_str fun t4 j4 => (row_any Z H (Fd.next ((((M0.trans (Next.toks _ _)).trans (M1.trans (Next.toks _ _))).trans (M2.trans (Next.toks _ _))).trans (M3.trans (Next.toks _ _)))) le5 hk f3 g3 fun s5 x4 M4 => evalPairs_nil ?_))
  have M05 : Next { sd with heap := sd.heap.push dict0 } s5 := ((((Next.toks _ _).trans (M1.trans (Next.toks _ _))).trans (M2.trans (Next.toks _ _))).trans (M3.trans (Next.toks _ _))).trans M4
  refine dict_fill Xd (vs := [(.str (Str.ofString "error") t1, .ref x1), (.str (Str.ofString "runtime.Error") t2, .ref x2), (.str (Str.ofString "sync.Mutex") t3, .ref x3), (.str (Str.ofString "sync.WaitGroup") t4, .ref x4)]) (kvs := [(Str.ofString "error", .ref x1), (Str.ofString "runtime.Error", .ref x2), (Str.ofString "sync.Mutex", .ref x3), (Str.ofString "sync.WaitGroup", .ref x4)]) ⟨strKind_is _ _ _ _, rfl, strKind_is _ _ _ _, rfl, strKind_is _ _ _ _, rfl, strKind_is _ _ _ _, rfl, trivial⟩ (Nat.le_of_ble_eq_true rfl) M05 fun s6 kvs' M6 _ D6 hkv => ?_
  refine h s6 _ kvs' (bk M6) ?_ D6 (by rw [hkv]; exact merged_len _ [])
  refine none_back (h := s.heap) (h' := sd.heap) (fun b o e => ?_) (Heap.get?_none_of_le (Nat.le_refl _))
  have := (bk (Next.refl sd)).heap b o e
  exact this
end
end Mine
namespace Mine
open PySem PySem.W PyProof.Rows PySem.Calls PySem.Spec PySem.SeqAt
noncomputable abbrev sBase : Str := Str.ofString "base_of"
theorem InF.fm {A' : Around} {base : Heap} {lf : List Env} {nms : List (Str × NameKind)} {n : Nat} {c : Cx} {m : Str → Option Value} {s s₁ s' : Shared} {x C dx : Addr} (F : InF A' base lf nms n c m s s₁ x C dx) (X : At (n + 2) c fe0 m s') : Fm base lf (n + 2) c fe0 m s' := ⟨X, A', F.P, F.hA⟩
/-- a world is made -/
structure WorldAt (s s' : Shared) (x dx : Addr) (mA : Str → Option Value) (dN : Addr) (kvs : List (Str × Value)) : Prop where
  next : Next s s'
  nx : s.heap.get? x = none
  ndx : s.heap.get? dx = none
  nN : s.heap.get? dN = none
  neX : dN ≠ x
  neD : dN ≠ dx
  ob : Ob s'.heap x 622 dx mA
  named : mA sNamed = some (.ref dN)
  base : mA sBase = none
  dict : DictIs s'.heap dN kvs
  len : kvs.length ≤ 4
theorem DictIs.sameBut {h h' : Heap} {d : Addr} {kvs : List (Str × Value)} (D : DictIs h d kvs) (k : ∀ o, h.get? d = some o → h'.get? d = some o) : DictIs h' d kvs := let ⟨o, a, b⟩ := D; ⟨o, k _ a, b⟩
theorem DictIs.lt {h : Heap} {d : Addr} {kvs : List (Str × Value)} (D : DictIs h d kvs) : ∃ o, h.get? d = some o := let ⟨o, a, _⟩ := D; ⟨o, a⟩
theorem ne_new {h : Heap} {a b : Addr} {o : Obj} (n : h.get? a = none) (e : h.get? b = some o) : a ≠ b := fun z => by rw [z, e] at n; cases n
noncomputable abbrev ex605 : List (Str × Value) := [(Str.ofString "packages", .none)]
theorem w605 (x : Addr) : bnd [sSelf] ex605 [.ref x] sSelf = some (.ref x) ∧ okN nms605 sSelf = true ∧ okAS nms605 at605 (bnd [sSelf] ex605 [.ref x]) as605a = true ∧ okAS nms605 at605 (bnd [sSelf] ex605 [.ref x]) as605b = true := ⟨by kernel_rfl, by kernel_rfl, by kernel_rfl, by kernel_rfl⟩
theorem w605k : lastK sNamed as605b = none ∧ lastK sBase as605b = none ∧ lastK sBase as605a = none := ⟨by kernel_rfl, by kernel_rfl, by kernel_rfl⟩
theorem w605n : nms605.lookup (Str.ofString "known_rows") = some .globalImplicit ∧ sNamed ∈ at605 := ⟨by kernel_rfl, by decide +kernel⟩
theorem w605l : as605a.length = 1 ∧ as605b.length ≤ 20 := ⟨rfl, by decide⟩
section
variable {base : Heap} {lf : List Env} {n : Nat} {s : Shared} {E Q : Value → Shared → Prop}
theorem world_ok (Z : KO) (CL : CfgOK GL) {A : Around} (P : Pl A base lf s.heap) (R : Room 42 A) (h : ∀ s' x dx mA dN kvs, WorldAt s s' x dx mA dN kvs → Q (.ref x) s') : wpAny gM A (call (.ref 622) []) Q E s := by
  refine class_enter (n := 38) Z.c622 Z.i605s P R rfl fun c s1 x dx F => ?_
  obtain ⟨hs, hN, ok1, ok2⟩ := w605 x
  obtain ⟨k1, k2, k3⟩ := w605k
  obtain ⟨g1, g2⟩ := w605n
  obtain ⟨l1, l2⟩ := w605l
  generalize as605a = la at ok1 k3 l1 ⊢
  generalize as605b = lb at ok2 k1 k2 l2 ⊢
  refine inits_ok Z.c622 F.N hs hN F.L F.h0 (ns := []) ok1 F.X F.O Within.nil (by rw [l1]; decide) fun s2 mA1 N2 X2 O2 hw2 R2 => ?_
  obtain ⟨ns2, hw2, hl2⟩ := hw2
  unfold st605
  refine wpAny_execs_cons (plainObj_wpAny_Assign_Attribute (glob_call0 Z.gKr X2 (by rw [F.N]; exact g1) (kr_ok Z CL (F.fm X2) fun s3 d kvs N3 nd D hlk => ?_)) rfl)
  have X3 := X2.next N3
  have O3 := O2.keeps N3.heap
  refine ldn X3 F.N hN hs (set_ob Z.c622 g2 X3.gd.kin O3 hw2 (by rw [hl2, l1]; decide) fun h4 tk4 O4 sb4 => ?_)
  obtain ⟨oD, esD, epD, hoD, hdD, _⟩ := O3.ns
  have N4 : NextL dx s3 { s3 with heap := h4, toks := tk4 } := ⟨fun b o ne e => (sb4.2 b ne).trans e, ks_dict hoD hdD sb4, rfl, rfl, rfl⟩
  have X4 : At 40 c fe0 (bnd [sSelf] ex605 [.ref x]) { s3 with heap := h4, toks := tk4 } := ⟨X3.S, X3.F.change sb4 F.L.symm F.h0, lrel0⟩
  have nd2 : d ≠ dx := by obtain ⟨o, e⟩ := (ns_di O2.ns.ns); obtain ⟨_, _, e, _⟩ := e; exact ne_new nd e
  have z := inits_ok (rest := []) (E := OutE c E) (Q := fun fl s' => fl = .next ∧ Q (.ref x) s') Z.c622 F.N hs hN F.L F.h0 ok2 X4 O4 (Within.cons sNamed (.ref d) hw2) (by rw [List.length_cons, hl2, l1]; exact Nat.le_trans (Nat.add_le_add_left l2 _) (by decide)) fun s5 mA N5 X5 O5 _ R5 => ?_
  · rw [List.append_nil] at z; exact z
  have kN : NextL dx s1 s5 := ((N2.trans (NextL.of N3)).trans N4).trans N5
  refine wpAny_execs_nil ⟨rfl, h s5 x dx mA d kvs ⟨⟨fun b o e => kN.heap b o (fun z => by rw [z, F.ndx] at e; cases e) (F.next.heap b o e), kN.gens.trans F.next.gens, kN.drawn.trans F.next.drawn, kN.os.trans F.next.os⟩, F.nx, F.ndx, ?_, ?_, nd2, O5, ?_, ?_, ?_, hlk⟩⟩
  · refine none_back (h' := s2.heap) (fun b o e => ?_) nd
    exact N2.heap b o (fun z => by rw [z, F.ndx] at e; cases e) (F.next.heap b o e)
  · exact ne_new nd O2.obj
  · rw [(R5.get (h := s5.heap) (fun _ _ _ e => e)).2 k1]; exact if_pos rfl
  · rw [(R5.get (h := s5.heap) (fun _ _ _ e => e)).2 k2]
    exact (if_neg (by decide +kernel)).trans ((R2.get (h := s2.heap) (fun _ _ _ e => e)).2 k3)
  · exact (D.sameBut (h' := h4) fun o e => (sb4.2 _ nd2).trans e).sameBut fun o e => N5.heap _ _ nd2 e
end
/-- a name is stored -/
theorem store_at {n : Nat} {c : Cx} {m : Str → Option Value} {s : Shared} {E : Value → Shared → Prop} {nms : List (Str × NameKind)} (X : At n c fe0 m s) (hN : c.cs.names = nms) {y : Str} (hy : nms.lookup y = some .local) {v : Value} {Q : Unit → Shared → Prop}
    (h : ∀ s', NextL c.L s s' → At n c fe0 (fun z => if z = y then some v else m z) s' → Q () s') : wpAny gM c.A (storeName c.env y v) Q E s := by
  refine wpAny_storeName_local (by rw [← hN] at hy; exact hy) X.F.ns (fun h' hn hs => ?_) (by show (c.cs.kind == .class || (c.cs.kind == .module && c.L != mainGlobals)) = false; rw [X.S.nms.kind]; rfl)
  obtain ⟨oL, es, ep, hL, hLd, _⟩ := X.F.ns
  exact h _ ⟨fun b o ne e => (hs.2 b ne).trans e, ks_dict hL hLd hs, rfl, rfl, rfl⟩ ⟨X.S, X.F.set hn hs, lrel0⟩
end Mine
namespace Mine
open PySem PySem.W PyProof.Rows PySem.Calls PySem.Spec PySem.SeqAt
/-- the table of the lambda's codes -/
def TabSt (h : Heap) : Prop := h.get? 649 = some (tabObj #[]) ∨ ∃ c : Addr, h.get? 649 = some (tabObj #[rawInt 465, rawInt 53, .ref c]) ∧ c ≠ (649 : Nat) ∧ h.CodeRec (.ref c) qLam
theorem TabSt.data {h : Heap} (T : TabSt h) : ∃ o vs, h.get? 649 = some o ∧ o.data = .fields vs := by
  rcases T with h | ⟨c, h, _⟩ <;> exact ⟨_, _, h, rfl⟩
theorem code_to {h h' : Heap} {c : Addr} {q : Str} (C : h.CodeRec (.ref c) q) (k : ∀ o vs t, o.data = .fields vs → vs[1]? = some (.str q t) → h.get? c = some o → h'.get? c = some o) : h'.CodeRec (.ref c) q := by
  obtain ⟨c₂, oc, vs, t, e2, hoc, hd, hv⟩ := C
  cases e2
  exact ⟨c, oc, vs, t, rfl, k oc vs t hd hv hoc, hd, hv⟩
/-- what keeps the table -/
theorem TabSt.keeps {h h' : Heap} (T : TabSt h) (k : ∀ b o vs, o.data = .fields vs → (b = 649 ∨ ∃ t, vs[1]? = some (.str qLam t)) → h.get? b = some o → h'.get? b = some o) : TabSt h' := by
  rcases T with h1 | ⟨c, h1, h2, h3⟩
  · exact .inl (k _ _ _ rfl (.inl rfl) h1)
  · exact .inr ⟨c, k _ _ _ rfl (.inl rfl) h1, h2, code_to h3 fun o vs t d v e => k _ _ _ d (.inr ⟨t, v⟩) e⟩
section
variable {n : Nat} {c : Cx} {m : Str → Option Value} {s : Shared} {E : Value → Shared → Prop}
theorem lam_env (hcn : c.cn = Str.ofString "_law_checker") : c.env.qual ++ "<lambda>" = qLam := by
  show c.cn ++ _ ++ _ = _
  rw [hcn]; decide +kernel
theorem lam_end (X : At n c fe0 m s) (hcn : c.cn = Str.ofString "_law_checker") (hcd : c.ccd = .ref 653) (hL : c.L ≠ (649 : Nat)) (h0 : c.h₀.get? 649 = none) (Cd : CodeHd c.h₀ 653 649) (TS : TabSt s.heap) {Q : Value → Shared → Prop}
    (h : ∀ s' f, NextL 649 s s' → s.heap.get? f = none → TabSt s'.heap → IsTold s'.heap f → At n c fe0 m s' → Q (.ref f) s') : wpAny gM c.A (eval lamX c.env) Q E s := by
  unfold lamX
  refine kla_eval rfl ?_
  rw [lam_env hcn]
  have T := X.S.gd.top
  have hg := T.g.keeps X.F.keep
  have Cs := Cd.keeps X.F.keep
  obtain ⟨bm, ob, b1, b2, b3, b4, b5, b6⟩ := T.bmain
  obtain ⟨o9, v9, e9, d9⟩ := TS.data
  have hgP : mainGlobals ≠ (649 : Nat) := fun q => by
    obtain ⟨o, es, ep, e, hd, _⟩ := hg
    rw [q, e9] at e; cases some_inj e; rw [d9] at hd; cases hd
  have hbP : bm ≠ (649 : Nat) := fun q => by
    have e := X.F.keep _ _ b3
    rw [q, e9] at e; cases some_inj e; rw [d9] at b6; cases b6
  have hbG : bm ≠ mainGlobals := fun q => by
    obtain ⟨o, es, ep, e, hd, _⟩ := T.g
    rw [q, e] at b3; cases some_inj b3; rw [hd] at b6; cases b6
  have hb : s.heap.BuiltinsAt gu.mg 649 := ⟨bm, ob, b1, b2, hbG, hbP, X.F.keep _ _ b3, b4, b5, b6⟩
  have fin : ∀ (h' : Heap) (tk : Nat) (f c' : Addr) (pm ct : Value), Heap.ExtBut 649 s.heap h' → s.heap.objs.size ≤ h'.objs.size → f = h'.objs.size → (h'.push (lamO pm c' ct)).CodeRec (.ref c') qLam → TabSt (h'.push (lamO pm c' ct)) → Q (.ref f) { s with heap := h'.push (lamO pm c' ct), toks := tk } := by
    intro h' tk f c' pm ct hx hsz hf hc hT
    subst hf
    have kp : ∀ b o, b ≠ (649 : Nat) → s.heap.get? b = some o → (h'.push (lamO pm c' ct)).get? b = some o := fun b o ne e => Heap.get?_push_of_some _ (hx _ _ ne e)
    refine h _ _ ⟨kp, fun a o ⟨xs, k, d⟩ e => kp a o (fun z => by rw [z, e9] at e; cases some_inj e; rw [d9] at d; cases d) e, rfl, rfl, rfl⟩ (Heap.get?_none_of_le hsz) hT ⟨pm, c', ct, Heap.get?_push_size _ rfl, hc⟩ ⟨X.S, fr_but X.F h0 hL kp, lrel0⟩
  have push : ∀ (h' : Heap) (oo : Obj), h'.StaysIn (h'.push oo) := fun h' oo b o e => Heap.get?_push_of_some _ e
  rcases TS with h1 | ⟨cc, h1, h2, h3⟩
  · refine kla_makeFunction (mg := gu.mg) (P := 649) rfl rfl hg hcd Cs h1 trivial rfl hgP hb fun c' ctv h' tk hx hge hlt hrec htb => ?_
    have ne : c' ≠ (649 : Nat) := fun z => absurd (Heap.lt_size e9) (by rw [← z]; exact Nat.not_lt.mpr hge)
    refine fin h' tk _ c' _ ctv hx (Nat.le_of_lt (Nat.lt_of_le_of_lt hge hlt)) rfl (code_keeps (push h' _) hrec) (.inr ⟨c', Heap.get?_push_of_some _ htb, ne, code_keeps (push h' _) hrec⟩)
  · refine kla_makeFunctionHit (mg := gu.mg) (P := 649) rfl rfl hg hcd Cs h1 trivial (by rfl) hb fun ctv h' tk hk hsz => ?_
    exact fin h' tk _ cc _ ctv (fun b o _ e => hk b o e) hsz rfl (code_keeps (push h' _) (code_keeps hk h3)) (.inr ⟨cc, Heap.get?_push_of_some _ (hk _ _ h1), h2, code_keeps (push h' _) (code_keeps hk h3)⟩)
end
end Mine
namespace Mine
open PySem PySem.W PyProof.Rows PySem.Calls PySem.Spec PySem.SeqAt
theorem Ob.to {h h' : Heap} {x C dx : Addr} {mA : Str → Option Value} (O : Ob h x C dx mA) (k1 : ∀ o, h.get? x = some o → h'.get? x = some o) (k2 : ∀ o, h.get? dx = some o → h'.get? dx = some o) : Ob h' x C dx mA := ⟨k1 _ O.obj, O.ne, O.ns.at k2⟩
theorem Ob.inD {h : Heap} {x C dx : Addr} {mA : Str → Option Value} (O : Ob h x C dx mA) : ∃ o, h.get? dx = some o := let ⟨o, _, _, e, _⟩ := O.ns; ⟨o, e⟩
/-- an attribute of an object's own is read -/
theorem ob_get {A : Around} {s : Shared} {E Q : Value → Shared → Prop} {x C dx : Addr} {mA : Str → Option Value} {nm : Str} {v : Value} (X : gu.K.In s.heap) (O : Ob s.heap x C dx mA) (hv : mA nm = some v) (hh : handedIn v = true) (Z : AttF C nm) (h : Q v { s with toks := s.toks + 1 }) : wpAny gM A (getAttr (.ref x) nm true) Q E s := by
  obtain ⟨h1, h2, a, h3, h4⟩ := Z
  obtain ⟨ox, od, I, hg⟩ := (O.attr hv).at
  exact get_value X I (plainGet_of h1).1 (findObj_own h2 h3 h4 hg) hh h
/-- a row as it was made -/
structure RowF (s0 : Shared) (h : Heap) (r : Addr) (d : PV) : Prop where
  nr : s0.heap.get? r = none
  go : ∃ dr mr v dm, s0.heap.get? dr = none ∧ s0.heap.get? dm = none ∧ Ob h r 579 dr mr ∧ mr sUnd = some v ∧ mr sMet = some (.ref dm) ∧ gV h v d ∧ DictIs h dm []
theorem RowF.to {s0 : Shared} {h h' : Heap} {r : Addr} {d : PV} (R : RowF s0 h r d) (k : ∀ b o, s0.heap.get? b = none → h.get? b = some o → h'.get? b = some o) (ks : KS h h') : RowF s0 h' r d := by
  obtain ⟨nr, dr, mr, v, dm, n1, n2, O, u1, u2, V, D⟩ := R
  exact ⟨nr, dr, mr, v, dm, n1, n2, O.to (fun o => k _ o nr) (fun o => k _ o n1), u1, u2, V.mono ks, D.sameBut fun o => k _ o n2⟩
theorem RowF.step {s0 s s' : Shared} {r t : Addr} {d : PV} (R : RowF s0 s.heap r d) (N : NextL t s s') (ht : ∃ o, s0.heap.get? t = some o) : RowF s0 s'.heap r d := by
  obtain ⟨o, ht⟩ := ht
  exact R.to (fun b o n e => N.heap b o (ne_new n ht) e) N.ks
theorem RowF.next {s0 s s' : Shared} {r : Addr} {d : PV} (R : RowF s0 s.heap r d) (N : Next s s') : RowF s0 s'.heap r d := R.to (fun b o _ e => N.heap b o e) N.KS
/-- a world as it stands: its table changes -/
structure WorF (s0 : Shared) (h : Heap) (w dN : Addr) (kvs : List (Str × Value)) : Prop where
  nw : s0.heap.get? w = none
  nN : s0.heap.get? dN = none
  ne : dN ≠ w
  go : ∃ dw mw, s0.heap.get? dw = none ∧ dN ≠ dw ∧ Ob h w 622 dw mw ∧ mw sNamed = some (.ref dN) ∧ mw sBase = none
  dict : DictIs h dN kvs
theorem WorF.to {s0 : Shared} {h h' : Heap} {w dN : Addr} {kvs kvs' : List (Str × Value)} (R : WorF s0 h w dN kvs) (k : ∀ b o, b ≠ dN → s0.heap.get? b = none → h.get? b = some o → h'.get? b = some o) (D : DictIs h' dN kvs') : WorF s0 h' w dN kvs' := by
  obtain ⟨nw, nN, ne, ⟨dw, mw, n1, n2, O, u1, u2⟩, _⟩ := R
  exact ⟨nw, nN, ne, ⟨dw, mw, n1, n2, O.to (fun o => k _ o ne.symm nw) (fun o => k _ o n2.symm n1), u1, u2⟩, D⟩
theorem WorF.step {s0 s s' : Shared} {w dN t : Addr} {kvs : List (Str × Value)} (R : WorF s0 s.heap w dN kvs) (N : NextL t s s') (ht : ∃ o, s0.heap.get? t = some o) : WorF s0 s'.heap w dN kvs := by
  obtain ⟨o, ht⟩ := ht
  exact R.to (fun b o _ n e => N.heap b o (ne_new n ht) e) (R.dict.sameBut fun o e => N.heap _ o (ne_new R.nN ht) e)
theorem WorF.next {s0 s s' : Shared} {w dN : Addr} {kvs : List (Str × Value)} (R : WorF s0 s.heap w dN kvs) (N : Next s s') : WorF s0 s'.heap w dN kvs := R.to (fun b o _ _ e => N.heap b o e) (R.dict.keeps N.heap)
theorem WorldAt.f {s s' : Shared} {w dw dN : Addr} {mw : Str → Option Value} {kvs : List (Str × Value)} (W : WorldAt s s' w dw mw dN kvs) : WorF s s'.heap w dN kvs := ⟨W.nx, W.nN, W.neX, ⟨dw, mw, W.ndx, W.neD, W.ob, W.named, W.base⟩, W.dict⟩
section
variable {n : Nat} {c : Cx} {m : Str → Option Value} {s s0 : Shared} {E : Value → Shared → Prop}
/-- world.named[key] = v -/
theorem set_row (Z : KO) (X : At n c fe0 m s) (hN : c.cs.names = nms654) {w dN : Addr} {kvs : List (Str × Value)} (hm : m sWorld = some (.ref w)) (W : WorF s0 s.heap w dN kvs) (hl : kvs.length ≤ 10) (hL : ∃ o, s0.heap.get? c.L = some o) (h0 : c.h₀.StaysIn s0.heap) {v : Value} {key : Str} {p1 p2 p3 : Pos} {Q : Flow → Shared → Prop}
    (h : ∀ s', NextL dN s s' → At n c fe0 m s' → WorF s0 s'.heap w dN (stored kvs key v) → Q .next s') :
    wpAny gM c.A (eval (.Attribute (.Name sWorld p1) sNamed p2) c.env) (fun ov s2 => wpAny gM c.A (eval (.Constant (.str key) 0 p3) c.env) (fun iv s3 => wpAny gM c.A (setItem ov iv v) (fun _ => Q .next) E s3) E s2) E s := by
  obtain ⟨dw, mw, n1, n2, O, u1, u2⟩ := W.go
  refine att_name (ldn X hN (by kernel_rfl) hm (ob_get X.gd.kin O u1 rfl Z.aNamed (con_str fun t tk => ?_)))
  obtain ⟨o, a, b, e⟩ := W.dict
  have D : s.heap.DictOf (PySem.strKind PRG gu.w) dN kvs := Heap.dictOf_iff.mpr ⟨o, a, b⟩
  refine wpAny_setItem_pairs (knd := PySem.strKind PRG gu.w) (s := { s with toks := tk }) (strKind_is PRG gu.w key t) D (fun h' D' sb => ?_) (Nat.le_trans hl (by decide))
  obtain ⟨oL, hL⟩ := hL
  obtain ⟨od, es, ep, ho, hx, hd, _⟩ := D
  obtain ⟨o', a', b'⟩ := Heap.dictOf_iff.mp D'
  refine h _ ⟨fun b o ne e => (sb.2 b ne).trans e, ks_dict ho hd sb, rfl, rfl, rfl⟩ ⟨X.S, X.F.change sb (ne_new W.nN hL) (none_back h0 W.nN), lrel0⟩ ?_
  exact W.to (fun b o ne _ e => (sb.2 b ne).trans e) ⟨o', a', b', e⟩
end
end Mine
namespace Mine
open PySem PySem.W PyProof.Rows PySem.Calls PySem.Spec PySem.SeqAt
theorem find_map {k k' : Str} {v : Value} (l : List (Str × Value)) : (l.map fun kv => if kv.1 = k then (kv.1, v) else kv).find? (fun kv => decide (kv.1 = k')) = (l.find? fun kv => decide (kv.1 = k')).map fun kv => if kv.1 = k then (kv.1, v) else kv := by
  rw [List.find?_map]
  congr 2
  funext kv
  show decide ((if kv.1 = k then (kv.1, v) else kv).1 = k') = _
  by_cases h : kv.1 = k
  · rw [if_pos h]
  · rw [if_neg h]
theorem value_other {kvs : List (Str × Value)} {k k' : Str} {v : Value} (ne : k' ≠ k) : valueAt (stored kvs k v) k' = valueAt kvs k' := by
  unfold valueAt stored
  by_cases h : (kvs.any fun kv => decide (kv.1 = k)) = true
  · rw [if_pos h, find_map]
    cases e : kvs.find? fun kv => decide (kv.1 = k') with
    | none => rfl
    | some kv =>
      have hk : kv.1 = k' := by simpa using List.find?_some e
      show some (if kv.1 = k then (kv.1, v) else kv).2 = some kv.2
      rw [if_neg (by rw [hk]; exact ne)]
  · rw [if_neg h, List.find?_append]
    have z : [(k, v)].find? (fun kv : Str × Value => decide (kv.1 = k')) = none := by
      rw [List.find?_cons_of_neg (by simpa using ne.symm)]; rfl
    rw [z, Option.or_none]
theorem value_same {kvs : List (Str × Value)} {k : Str} {v : Value} : valueAt (stored kvs k v) k = some v := by
  unfold valueAt stored
  by_cases h : (kvs.any fun kv => decide (kv.1 = k)) = true
  · rw [if_pos h, find_map]
    cases e : kvs.find? fun kv => decide (kv.1 = k) with
    | none =>
      obtain ⟨x, hx, hd⟩ := List.any_eq_true.mp h
      exact absurd hd (List.find?_eq_none.mp e x hx)
    | some kv =>
      have hk : kv.1 = k := by simpa using List.find?_some e
      show some (if kv.1 = k then (kv.1, v) else kv).2 = _
      rw [if_pos hk]
  · rw [if_neg h, List.find?_append]
    have z : kvs.find? (fun kv => decide (kv.1 = k)) = none := by
      rw [List.find?_eq_none]
      exact fun x hx hd => h (List.any_eq_true.mpr ⟨x, hx, hd⟩)
    rw [z, Option.none_or, List.find?_cons_of_pos (by exact decide_eq_true rfl)]
    rfl
/-- the special objects' addresses -/
noncomputable def adr (cA w dN r1 r2 dR f : Addr) : Nat → Addr := fun k => [cA, w, dN, r1, r2, dR, f].getD k 0
/-- a row, at a heap -/
def RowG (h : Heap) (r : Addr) (d : PV) : Prop := ∃ dr mr v dm, Ob h r 579 dr mr ∧ mr sUnd = some v ∧ mr sMet = some (.ref dm) ∧ gV h v d ∧ DictIs h dm []
noncomputable abbrev sReaders : Str := Str.ofString "readers"
theorem nms_ck : nmOf 28 = sWorld ∧ nmOf 83 = sReaders ∧ nmOf 77 = sNamed ∧ nmOf 79 = sUnd ∧ nmOf 29 = sBase := ⟨by decide +kernel, by decide +kernel, by decide +kernel, by decide +kernel, by decide +kernel⟩
/-- a checker and what it holds -/
structure ChkG (h : Heap) (cA w dN r1 r2 dR f : Addr) : Prop where
  chk : ∃ dc mc, Ob h cA 555 dc mc ∧ mc sWorld = some (.ref w) ∧ mc sReaders = some (.ref dR) ∧ mc (nmOf 63) = none ∧ mc (nmOf 67) = none ∧ mc (nmOf 69) = none
  wor : ∃ dw mw, Ob h w 622 dw mw ∧ mw sNamed = some (.ref dN) ∧ mw sBase = none
  named : ∃ kvs, DictIs h dN kvs ∧ valueAt kvs (mkStr lMN) = some (.ref r1) ∧ valueAt kvs (mkStr lMS) = some (.ref r2)
  r1 : RowG h r1 pInt8
  r2 : RowG h r2 pStr
  readers : DictIs h dR [(mkStr lTold, .ref f)]
  told : IsTold h f
theorem ad_of {h : Heap} {cA w dN r1 r2 dR f : Addr} (C : ChkG h cA w dN r1 r2 dR f) : AdAt h (adr cA w dN r1 r2 dR f) where
  named := C.named
  readers := C.readers
  told := C.told
  att := by
    intro k x d e
    obtain ⟨a1, a2, a3, a4, _⟩ := nms_ck
    obtain ⟨dc, mc, O, c1, c2, _⟩ := C.chk
    obtain ⟨dw, mw, O', w1, _⟩ := C.wor
    obtain ⟨dr1, m1, v1, _, O1, u1, _, V1, _⟩ := C.r1
    obtain ⟨dr2, m2, v2, _, O2, u2, _, V2, _⟩ := C.r2
    rw [← a1] at c1; rw [← a2] at c2; rw [← a3] at w1; rw [← a4] at u1 u2
    exact AllL.mem (P := fun q : Nat × Nat × PV => ∃ v, AttrAt h (adr cA w dN r1 r2 dR f q.1) (clsOf q.1) (nmOf q.2.1) (some v) ∧ VR (adr cA w dN r1 r2 dR f) h v q.2.2) (l := attT)
      ⟨⟨_, O.attr c1, rfl⟩, ⟨_, O.attr c2, rfl⟩, ⟨_, O'.attr w1, rfl⟩, ⟨_, O1.attr u1, V1.re (.refl h) rfl⟩, ⟨_, O2.attr u2, V2.re (.refl h) rfl⟩, trivial⟩ (look2_mem e)
  met := by
    intro k x g e
    obtain ⟨_, _, _, _, a5⟩ := nms_ck
    obtain ⟨dc, mc, O, _, _, c3, c4, c5⟩ := C.chk
    obtain ⟨dw, mw, O', _, w2⟩ := C.wor
    rw [← a5] at w2
    exact AllL.mem (P := fun q : Nat × Nat × Addr => AttrAt h (adr cA w dN r1 r2 dR f q.1) (clsOf q.1) (nmOf q.2.1) none) (l := metT) ⟨O'.attr w2, O.attr c3, O.attr c4, O.attr c5, trivial⟩ (look2_mem e)
  rows := by
    intro k hk
    obtain ⟨dr1, m1, v1, d1, O1, _, u1, _, D1⟩ := C.r1
    obtain ⟨dr2, m2, v2, d2, O2, _, u2, _, D2⟩ := C.r2
    cases h3 : Nat.beq k 3 with
    | true => cases Nat.eq_of_beq_eq_true h3; exact ⟨_, O1.attr u1, D1⟩
    | false =>
      rw [h3] at hk
      cases Nat.eq_of_beq_eq_true (of_decide_eq_true (show decide (Nat.beq k 4 = true) = true from hk))
      exact ⟨_, O2.attr u2, D2⟩
/-- what a heap must hold of the new one -/
structure K3 (s s' : Shared) (hb : Heap) : Prop where
  new : ∀ b o, s.heap.get? b = none → s'.heap.get? b = some o → hb.get? b = some o
  ks : KS s'.heap hb
  recs : ∀ b o vs t, o.data = .fields vs → vs[1]? = some (.str qLam t) → s'.heap.get? b = some o → hb.get? b = some o
structure CkAt (s s' : Shared) (cA : Addr) : Prop where
  next : NextL 649 s s'
  tab : TabSt s'.heap
  ad : ∃ aDr : Nat → Addr, aDr 0 = cA ∧ ∀ hb, K3 s s' hb → AdAt hb aDr
end Mine
namespace Mine
open PySem PySem.W PyProof.Rows PySem.Calls PySem.Spec PySem.SeqAt
theorem n654 : okN nms654 sWorld = true ∧ nms654.lookup sWorld = some .local ∧ nms654.lookup (Str.ofString "World") = some .globalImplicit ∧ nms654.lookup sRow = some .globalImplicit ∧ nms654.lookup (Str.ofString "Checker") = some .globalImplicit := ⟨by kernel_rfl, by kernel_rfl, by kernel_rfl, by kernel_rfl, by kernel_rfl⟩
theorem ckN_ev : ∃ a b, evs (ev Γ0 20) fe0 ckN = some [a, b, pInt8] := ⟨.str [109, 46, 78], .str [109], by kernel_rfl⟩
theorem ckS_ev : ∃ a b, evs (ev Γ0 20) fe0 ckS = some [a, b, pStr] := ⟨.str [109, 46, 83], .str [109], by kernel_rfl⟩
theorem ok464 {a b d e f g : Value} (x : Addr) : bnd (ps464.take 7) [(Str.ofString "outer", .none)] (.ref x :: [a, b, d, e, f, g]) sSelf = some (.ref x) ∧ (okN nms464 sSelf && okAS nms464 at464 (bnd (ps464.take 7) [(Str.ofString "outer", .none)] (.ref x :: [a, b, d, e, f, g])) as464) = true := ⟨by kernel_rfl, by kernel_rfl⟩
theorem key_mn : Str.ofString "m.N" = mkStr lMN ∧ Str.ofString "m.S" = mkStr lMS ∧ mkStr lMN ≠ mkStr lMS := ⟨by decide +kernel, by decide +kernel, by decide +kernel⟩
theorem last464 : lastK sWorld as464 = some (.loc sWorld) ∧ lastK sReaders as464 = some (.loc sReaders) ∧ lastK (nmOf 63) as464 = none ∧ lastK (nmOf 67) as464 = none ∧ lastK (nmOf 69) as464 = none := ⟨by kernel_rfl, by kernel_rfl, by kernel_rfl, by kernel_rfl, by kernel_rfl⟩
section
variable {base : Heap} {lf : List Env} {n : Nat} {c : Cx} {m : Str → Option Value} {s : Shared} {E Q : Value → Shared → Prop}
theorem VRs.third {h : Heap} {a b v : Value} {x y d : PV} (V : gVs h [a, b, v] [x, y, d]) : gV h v d := by
  obtain ⟨_, _, e1, _, _, _, e2, _, _, _, e3, V, _⟩ := V
  cases e1; cases e2; cases e3; exact V
/-- the checker's class is called -/
theorem chk_class (Z : KO) {A : Around} (P : Pl A base lf s.heap) (R : Room (n + 4) A) {w dR : Addr} {b d e g : Value}
    (h : ∀ s' x, Next s s' → s.heap.get? x = none → (∃ dc mc, s.heap.get? dc = none ∧ Ob s'.heap x 555 dc mc ∧ mc sWorld = some (.ref w) ∧ mc sReaders = some (.ref dR) ∧ mc (nmOf 63) = none ∧ mc (nmOf 67) = none ∧ mc (nmOf 69) = none) → Q (.ref x) s') : wpAny gM A (call (.ref 555) [.ref w, b, d, e, .ref dR, g]) Q E s := by
  refine class_ok Z.c555 Z.i464 P R rfl (by decide) (fun x => ok464 x) fun s' x dx mA N nx nd O Rl => ?_
  have G := fun {y : Str} => Rl.get (h := s'.heap) (fun _ _ _ e => e) (y := y)
  obtain ⟨k1, k2, k3, k4, k5⟩ := last464
  obtain ⟨v1, e1, e2⟩ := G.1 k1
  obtain ⟨v2, e3, e4⟩ := G.1 k2
  have e2' : some (.ref w) = some v1 := e2
  have e4' : some (.ref dR) = some v2 := e4
  exact h s' x N nx ⟨dx, mA, nd, O, e1.trans e2'.symm, e3.trans e4'.symm, G.2 k3, G.2 k4, G.2 k5⟩
/-- a row is stored in the world -/
theorem put_row (Z : KO) (F : Fm base lf (n + 25) c fe0 m s) (hN : c.cs.names = nms654) {w dN : Addr} {kvs : List (Str × Value)} {s0 : Shared} (hm : m sWorld = some (.ref w)) (W : WorF s0 s.heap w dN kvs) (hl : kvs.length ≤ 10) (hL : ∃ o, s0.heap.get? c.L = some o) (h0 : c.h₀.StaysIn s0.heap)
    {es : List IE} {d : PV} (hes : ∃ a b, evs (ev Γ0 20) fe0 es = some [a, b, d]) {key : Str} {p1 p2 p3 p4 p5 p6 p7 p8 : Pos} {Q : Flow → Shared → Prop}
    (h : ∀ s3 s' r, Next s s3 → NextL dN s3 s' → Fm base lf (n + 25) c fe0 m s' → WorF s0 s'.heap w dN (stored kvs key (.ref r)) → RowF s s'.heap r d → Q .next s') :
    wpAny gM c.A (exec (.Assign [.Subscript (.Attribute (.Name sWorld p1) sNamed p2) (.Constant (.str key) 0 p3) p4] (.Call (.Name sRow p5) (embs es ++ [.Dict [] [] p6]) [] p7) p8) c.env) Q E s := by
  obtain ⟨a, b, hes⟩ := hes
  refine wpAny_Assign_Subscript (row_dict Z (r_zero 20) (n := n + 20) F (Nat.le_add_left 20 (n + 5)) (by rw [hN]; exact n654.2.2.2.1) (fun z => by rw [z] at hes; cases some_inj hes) hes rfl fun s3 r dr mr a' b' v dm N nr nd nm O u1 u2 V D => ?_) rfl
  have W3 := W.next N
  have F3 := F.next N
  refine set_row Z F3.X hN hm W3 hl hL h0 fun s' N' X' W' => ?_
  obtain ⟨oN, hoN⟩ := W.dict.lt
  exact h s3 s' r N N' ⟨X', F.P⟩ W' (RowF.step (s := s3) ⟨nr, dr, mr, v, dm, nd, nm, O, u1, u2, VRs.third V, D⟩ N' ⟨oN, hoN⟩)
end
end Mine
namespace Mine
open PySem PySem.W PyProof.Rows PySem.Calls PySem.Spec PySem.SeqAt
theorem IsTold.to {h h' : Heap} {f : Addr} (I : IsTold h f) (k1 : ∀ o, h.get? f = some o → h'.get? f = some o) (k2 : ∀ b o vs t, o.data = .fields vs → vs[1]? = some (.str qLam t) → h.get? b = some o → h'.get? b = some o) : IsTold h' f :=
  let ⟨pm, c, ct, h1, h2⟩ := I; ⟨pm, c, ct, k1 _ h1, code_to h2 fun o vs t d v e => k2 c o vs t d v e⟩
theorem RowF.g {s0 : Shared} {h h' : Heap} {r : Addr} {d : PV} (R : RowF s0 h r d) (k : ∀ b o, s0.heap.get? b = none → h.get? b = some o → h'.get? b = some o) (ks : KS h h') : RowG h' r d := by
  obtain ⟨_, dr, mr, v, dm, n1, n2, O, u1, u2, V, D⟩ := R.to k ks
  exact ⟨dr, mr, v, dm, O, u1, u2, V, D⟩
section
variable {base : Heap} {lf : List Env} {n : Nat} {c : Cx} {m : Str → Option Value} {s : Shared} {E Q : Value → Shared → Prop}
/-- the readers' table -/
theorem readers_ok (X : At n c fe0 m s) (hcn : c.cn = Str.ofString "_law_checker") (hcd : c.ccd = .ref 653) (hL : c.L ≠ (649 : Nat)) (h0 : c.h₀.get? 649 = none) (Cd : CodeHd c.h₀ 653 649) (TS : TabSt s.heap) {p : Pos} {Q : Value → Shared → Prop}
    (h : ∀ s' dR f, NextL 649 s s' → At n c fe0 m s' → TabSt s'.heap → IsTold s'.heap f → s.heap.get? f = none → s.heap.get? dR = none → DictIs s'.heap dR [(mkStr lTold, .ref f)] → Q (.ref dR) s') : wpAny gM c.A (eval (.Dict (keysX ckD) (valsX ckD) p) c.env) Q E s := by
  unfold ckD
  refine Dict_X (List.cons_ne_nil _ _) (Nat.le_of_ble_eq_true rfl) (pairs_X (con_str fun t1 k1 => ?_))
  generalize hs1 : ({ s with heap := s.heap.push dict0 } : Shared) = s1
  have M1 : Next s { s1 with toks := k1 } := by rw [← hs1]; exact (Next.push s dict0).trans (Next.toks _ _)
  have hd0 : s1.heap.get? s.heap.objs.size = some dict0 := by rw [← hs1]; exact Heap.get?_push_size _ rfl
  have TS1 : TabSt s1.heap := TS.keeps fun b o _ _ _ e => M1.heap b o e
  refine lam_end (X.next M1) hcn hcd hL h0 Cd TS1 fun s2 f N2 nf T2 I2 X2 => evalPairs_nil ?_
  have sz : s.heap.objs.size ≠ (649 : Nat) := by obtain ⟨o9, v9, e9, _⟩ := TS.data; exact Nat.ne_of_gt (Heap.lt_size e9)
  have hd2 : s2.heap.get? s.heap.objs.size = some dict0 := N2.heap _ _ sz hd0
  have D0 : s2.heap.DictOf (PySem.strKind PRG gu.w) s.heap.objs.size [] := by
    obtain ⟨o, ho, hd⟩ := Heap.dictOf_iff.mp (Heap.DictOf.new (knd := PySem.strKind PRG gu.w) s.heap)
    cases some_inj (ho.symm.trans (Heap.get?_push_size _ rfl))
    exact Heap.dictOf_iff.mpr ⟨_, hd2, hd⟩
  refine wpAny_storeAll (knd := PySem.strKind PRG gu.w) [(.str (Str.ofString "told") t1, .ref f)] [(Str.ofString "told", .ref f)] [] s2 _ ⟨strKind_is _ _ _ _, rfl, trivial⟩ D0 (by show 0 + 1 ≤ sizeLine; decide) fun h3 D3 sb => ?_
  have nf1 : s.heap.get? f = none := none_back M1.heap nf
  have fne : f ≠ s.heap.objs.size := ne_new nf hd0
  have N3 : NextL 649 s { s2 with heap := h3, toks := s2.toks + 1 } := by
    have k : ∀ b o, b ≠ (649 : Nat) → s.heap.get? b = some o → h3.get? b = some o := fun b o ne e => (sb.2 b (Nat.ne_of_lt (Heap.lt_size e))).trans (N2.heap b o ne (M1.heap b o e))
    obtain ⟨o9, v9, e9, d9⟩ := TS.data
    exact ⟨k, fun a o ⟨xs, j, d⟩ e => k a o (fun z => by rw [z, e9] at e; cases some_inj e; rw [d9] at d; cases d) e, N2.gens.trans M1.gens, N2.drawn.trans M1.drawn, N2.os.trans M1.os⟩
  have recs : ∀ b o vs, o.data = .fields vs → s2.heap.get? b = some o → h3.get? b = some o := fun b o vs d e => (sb.2 b fun z => by rw [z, hd2] at e; cases some_inj e; cases d).trans e
  obtain ⟨o', ho', hd'⟩ := Heap.dictOf_iff.mp D3
  refine h _ _ f N3 ⟨X.S, fr_but X.F h0 hL N3.heap, lrel0⟩ (T2.keeps fun b o vs d _ e => recs b o vs d e) (I2.to (fun o e => (sb.2 f fne).trans e) fun b o vs t d _ e => recs b o vs d e) nf1 (Heap.get?_none_of_le (Nat.le_refl _)) ⟨o', ho', ?_, X.F.notModules (modules_low X.S.gd.top.nolimit)⟩
  rw [← told_s]; exact hd'
/-- what a readers' table leaves -/
noncomputable abbrev RdP (c : Cx) (n : Nat) (m : Str → Option Value) (s : Shared) (Q : Value → Shared → Prop) : Prop := ∀ s' dR f, NextL 649 s s' → At n c fe0 m s' → TabSt s'.heap → IsTold s'.heap f → s.heap.get? f = none → s.heap.get? dR = none → DictIs s'.heap dR [(mkStr lTold, .ref f)] → Q (.ref dR) s'
/-- Checker(world, 'm', None, 'm.f', .., None) -/
theorem chk_args (Z : KO) (F : Fm base lf (n + 5) c fe0 m s) (hN : c.cs.names = nms654) {w : Addr} (hm : m sWorld = some (.ref w)) {ed : Expr} {x1 x2 : Str} {p1 p2 p3 p4 p5 p6 p7 : Pos} {Q : Value → Shared → Prop} (hst : ∀ rest, starEach (ed :: rest) c.env = (false, eval ed c.env) :: starEach rest c.env)
    (hed : ∀ {s1 : Shared} {Q : Value → Shared → Prop}, Next s s1 → RdP c (n + 5) m s1 Q → wpAny gM c.A (eval ed c.env) Q E s1)
    (h : ∀ s' x f dR, NextL 649 s s' → s.heap.get? x = none → s.heap.get? f = none → s.heap.get? dR = none → TabSt s'.heap → IsTold s'.heap f → DictIs s'.heap dR [(mkStr lTold, .ref f)] →
      (∃ dc mc, s.heap.get? dc = none ∧ Ob s'.heap x 555 dc mc ∧ mc sWorld = some (.ref w) ∧ mc sReaders = some (.ref dR) ∧ mc (nmOf 63) = none ∧ mc (nmOf 67) = none ∧ mc (nmOf 69) = none) → Q (.ref x) s') :
    wpAny gM c.A (eval (.Call (.Name (Str.ofString "Checker") p1) [.Name sWorld p2, .Constant (.str x1) 0 p3, .Constant .none 0 p4, .Constant (.str x2) 0 p5, ed, .Constant .none 0 p6] [] p7) c.env) Q E s := by
  have n5 := n654.2.2.2.2
  have n1 := n654.1
  have old : ∀ {s1 s2 : Shared}, Next s s1 → NextL 649 s1 s2 → TabSt s2.heap → ∀ {b : Addr}, s2.heap.get? b = none → s.heap.get? b = none := fun {s1 s2} N M T {b} q => by
    cases z : s.heap.get? b with
    | none => rfl
    | some o =>
      by_cases hb : b = (649 : Nat)
      · obtain ⟨o9, v9, e9, _⟩ := T.data
        rw [hb, e9] at q; cases q
      · have := M.heap b o hb (N.heap _ _ z); rw [q] at this; cases this
  refine glob_callK Z.gChk F.X (by rw [hN]; exact n5) (spliced_more (ldn F.X hN n1 hm ?_) rfl) rfl ?_
  · refine spliced_more (con_str fun t1 k1 => ?_) rfl
    refine spliced_more (wpAny_pure ?_) rfl
    refine spliced_more (con_str fun t2 k2 => ?_) rfl
    have N1 : Next s { s with toks := k2 } := Next.toks _ _
    refine spliced_more (hed N1 fun s2 dR f N2 X2 T2 I2 nf nR D2 => ?_) (hst _)
    refine spliced_more (wpAny_pure ?_) rfl
    refine spliced_none ⟨X2.gd.kin, ?_⟩
    have F2 : Fm base lf (n + 5) c fe0 m s2 := ⟨X2, F.P⟩
    refine chk_class Z F2.pl F.X.S.room.pred fun s3 x N3 nx G => ?_
    have N13 : NextL 649 s s3 := ((NextL.of N1).trans N2).trans (NextL.of N3)
    obtain ⟨dc, mc, ndc, G⟩ := G
    exact h s3 x f dR N13 (old N1 N2 T2 nx) nf nR (T2.keeps fun b o _ _ _ e => N3.heap b o e) (I2.to (fun o e => N3.heap _ o e) fun b o _ _ _ _ e => N3.heap b o e) (D2.keeps N3.heap) ⟨dc, mc, old N1 N2 T2 ndc, G⟩
  · show (false || (false || (false || ((backTo p7 (starEach (ed :: [.Constant .none 0 p6]) c.env)).any (·.1)))) ) = false
    rw [hst]; rfl
theorem TabSt.step {s s' : Shared} {t : Addr} (T : TabSt s.heap) (N : NextL t s s') (ht : IsDi s.heap t) : TabSt s'.heap := T.keeps fun b o vs d _ e => N.heap b o (fun z => by
  obtain ⟨o', es, k, e', d'⟩ := ht
  rw [z, e'] at e; cases some_inj e; rw [d] at d'; cases d') e
theorem DictIs.di {h : Heap} {d : Addr} {kvs : List (Str × Value)} (D : DictIs h d kvs) : IsDi h d := let ⟨o, a, ⟨es, ep, _, hd, _⟩, _⟩ := D; ⟨o, es, ep, a, hd⟩
theorem TabSt.has {h : Heap} (T : TabSt h) : ∃ o, h.get? (649 : Nat) = some o := let ⟨o, _, e, _⟩ := T.data; ⟨o, e⟩
theorem ns_keep {s s' : Shared} {t : Addr} (d : IsDi s.heap t) (N : Next s s') : IsDi s'.heap t := let ⟨o, es, k, e, q⟩ := d; ⟨o, es, k, N.heap _ _ e, q⟩
/-- the whole of a checker, at a heap that holds what is new -/
theorem chk_fin {s s1 s3 s5 s7 s8 : Shared} {w dN r1 r2 x f dR : Addr} {kvs : List (Str × Value)} (f1 : ∀ {b}, s1.heap.get? b = none → s.heap.get? b = none) (f3 : ∀ {b}, s3.heap.get? b = none → s.heap.get? b = none) (f5 : ∀ {b}, s5.heap.get? b = none → s.heap.get? b = none) (f7 : ∀ {b}, s7.heap.get? b = none → s.heap.get? b = none)
    (W : WorF s1 s8.heap w dN (stored (stored kvs (Str.ofString "m.N") (.ref r1)) (Str.ofString "m.S") (.ref r2))) (R1 : RowF s3 s8.heap r1 pInt8) (R2 : RowF s5 s8.heap r2 pStr) (nf : s7.heap.get? f = none) (nx : s7.heap.get? x = none) (nR : s7.heap.get? dR = none) (I : IsTold s8.heap f) (D : DictIs s8.heap dR [(mkStr lTold, .ref f)])
    (G : ∃ dc mc, s7.heap.get? dc = none ∧ Ob s8.heap x 555 dc mc ∧ mc sWorld = some (.ref w) ∧ mc sReaders = some (.ref dR) ∧ mc (nmOf 63) = none ∧ mc (nmOf 67) = none ∧ mc (nmOf 69) = none) {hb : Heap} (K : K3 s s8 hb) : AdAt hb (adr x w dN r1 r2 dR f) := by
  obtain ⟨dc, mc, ndc, O, G⟩ := G
  obtain ⟨nw, nN, ne, ⟨dw, mw, n1, n2, O', u1, u2⟩, D'⟩ := W
  obtain ⟨k1, k2, k3⟩ := key_mn
  refine ad_of ⟨⟨dc, mc, O.to (fun o => K.new _ o (f7 nx)) (fun o => K.new _ o (f7 ndc)), G⟩, ⟨dw, mw, O'.to (fun o => K.new _ o (f1 nw)) (fun o => K.new _ o (f1 n1)), u1, u2⟩, ⟨_, D'.sameBut fun o => K.new _ o (f1 nN), ?_, ?_⟩,
    R1.g (fun b o n => K.new b o (f3 n)) K.ks, R2.g (fun b o n => K.new b o (f5 n)) K.ks, D.sameBut fun o => K.new _ o (f7 nR), I.to (fun o => K.new _ o (f7 nf)) K.recs⟩
  · rw [k1, k2, value_other k3, value_same]
  · rw [k2, value_same]
theorem checker_ok (Z : KO) (Y : KC) (CL : CfgOK GL) {A : Around} (P : Pl A base lf s.heap) (R : Room 48 A) (nb : base.get? 649 = none) (nf : (649 : Nat) ∉ framesOf lf) (TS : TabSt s.heap) (Cd : CodeHd base 653 649) (h : ∀ s' cA, CkAt s s' cA → Q (.ref cA) s') : wpAny gM A (call (.ref 654) []) Q E s := by
  obtain ⟨o, D⟩ := Y.I.D
  obtain ⟨o9, v9, e9, d9⟩ := id TS.data
  refine wpAny_call (init_enter (n := 47) (dx := 649) D Y.I.body (nms0 Y.I.kind) P R nb nf ⟨o9, e9⟩ (Y.I.binds P.gd.kin rfl) (fun y hy => nomatch hy) fun c s1 S F N1 hc hA hcs P2 neL => ?_)
  have hN : c.cs.names = nms654 := by rw [hcs.1]; exact Y.I.names
  have hcn : c.cn = Str.ofString "_law_checker" := hcs.2.1.trans Y.cn
  have hcd : c.ccd = .ref 653 := hcs.2.2.trans Y.cd
  have h0 : c.h₀.get? 649 = none := by rw [hc]; exact Heap.hide_self _ _
  have X1 : At 47 c fe0 _ s1 := ⟨S, F, lrel0⟩
  have F1 : Fm base lf 47 c fe0 _ s1 := ⟨X1, A, P2, hA⟩
  have e91 := N1.heap _ _ e9
  have TS1 : TabSt s1.heap := TS.keeps fun b o _ _ _ e => N1.heap b o e
  have CdC : CodeHd c.h₀ 653 649 := Cd.keeps P2.B.stays
  obtain ⟨oL, _, _, hoL, hdL, _⟩ := F.ns
  have hL1 : ∃ o, s1.heap.get? c.L = some o := ⟨oL, hoL⟩
  have h91 : ∃ o, s1.heap.get? (649 : Nat) = some o := ⟨o9, e91⟩
  have st1 : c.h₀.StaysIn s1.heap := F.keep
  obtain ⟨n1, n2, n3, n4, n5⟩ := n654
  have hs1 := ckN_ev
  have hs2 := ckS_ev
  unfold body654
  generalize ckN = e1 at hs1 ⊢
  generalize ckS = e2 at hs2 ⊢
  -- world = World()
  refine wpAny_execs_cons (wpAny_Assign_Name (glob_call0 Z.gWorld X1 (by rw [hN]; exact n3) (world_ok Z CL F1.pl (S.room.less (Nat.le_add_left 42 5)) fun s2 w dw mw dN kvs W => store_at (X1.next W.next) hN n2 fun s3 N3 X3 => ?_)) rfl)
  have W3 : WorF s1 s3.heap w dN kvs := W.f.step N3 hL1
  have m3 : (fun z => if z = sWorld then some (Value.ref w) else bnd [] [] [] z) sWorld = some (.ref w) := if_pos rfl
  have L3 : kvs.length ≤ 4 := W.len
  have N13 : NextL c.L s1 s3 := (NextL.of W.next).trans N3
  have X3 : At 47 c fe0 (fun z => if z = sWorld then some (Value.ref w) else bnd [] [] [] z) s3 := X3
  generalize (fun z => if z = sWorld then some (Value.ref w) else bnd [] [] [] z) = m at X3 m3
  clear W N3
  have F3 : Fm base lf 47 c fe0 m s3 := ⟨X3, F1.P⟩
  obtain ⟨oN, hoN⟩ := W3.dict.lt
  have hN3 : ∃ o, s3.heap.get? dN = some o := ⟨oN, hoN⟩
  have nN1 := W3.nN
  -- the two rows
  refine wpAny_execs_cons (put_row Z (n := 22) F3 hN m3 W3 (Nat.le_trans L3 (by decide)) hL1 st1 hs1 fun s4 s5 r1 N4 N5 F5 W5 R5 => ?_)
  have l5 := stored_length_le kvs (Str.ofString "m.N") (.ref r1)
  refine wpAny_execs_cons (put_row Z (n := 22) F5 hN m3 W5 (Nat.le_trans (Nat.le_trans l5 (Nat.succ_le_succ L3)) (by decide)) hL1 st1 hs2 fun s6 s7 r2 N6 N7 F7 W7 R7 => ?_)
  have R7' : RowF s3 s7.heap r1 pInt8 := (R5.next N6).step N7 hN3
  -- the checker
  have ed0 := fun {s1 : Shared} {Q : Value → Shared → Prop} (N : Next s7 s1) (T : TabSt s7.heap) (hq : RdP c 47 m s1 Q) => readers_ok (E := OutE c E) (p := ⟨465, 44, 465, 91⟩) (F7.X.next N) hcn hcd neL h0 CdC (T.keeps fun b o _ _ _ e => N.heap b o e) hq
  have st0 : ∀ rest, starEach (.Dict (keysX ckD) (valsX ckD) ⟨465, 44, 465, 91⟩ :: rest) c.env = (false, eval (.Dict (keysX ckD) (valsX ckD) ⟨465, 44, 465, 91⟩) c.env) :: starEach rest c.env := fun _ => rfl
  generalize Expr.Dict (keysX ckD) (valsX ckD) ⟨465, 44, 465, 91⟩ = ed at ed0 st0 ⊢
  have ks7 := F7.X.F.keep
  have T3 : TabSt s3.heap := TS1.step N13 ⟨oL, _, _, hoL, hdL⟩
  have D3 := W3.dict.di
  have T5 : TabSt s5.heap := (show TabSt s4.heap from T3.keeps fun b o _ _ _ e => N4.heap b o e).step N5 (ns_keep D3 N4)
  have T7 : TabSt s7.heap := (show TabSt s6.heap from T5.keeps fun b o _ _ _ e => N6.heap b o e).step N7 (ns_keep W5.dict.di N6)
  have frs : ∀ {si : Shared}, c.h₀.StaysIn si.heap → TabSt si.heap → ∀ {b : Addr}, si.heap.get? b = none → s.heap.get? b = none := fun {si} k T {b} q => by
    cases z : s.heap.get? b with
    | none => rfl
    | some o =>
      by_cases hb : b = (649 : Nat)
      · obtain ⟨o', e'⟩ := T.has; rw [hb, e'] at q; cases q
      · have := k b o (by rw [hc]; exact (Heap.hide_ne _ hb).trans z); rw [q] at this; cases this
  have k3 := X3.F.keep
  have k5 := F5.X.F.keep
  refine wpAny_execs_cons (wpAny_Return_some (chk_args Z (n := 42) F7 hN m3 st0 (fun N q => ed0 N T7 q) fun s8 x f dR N8 nx nf nR T8 I8 D8 G8 => ?_))
  have h93 := T3.has
  have W8 := W7.step N8 h91
  have R8 := R7'.step N8 h93
  have R8' := R7.step N8 T5.has
  have ksL : ∀ b o, b ≠ (649 : Nat) → s.heap.get? b = some o → s8.heap.get? b = some o := fun b o ne e => N8.heap b o ne (ks7 b o (by rw [hc]; exact (Heap.hide_ne _ ne).trans e))
  have NL : NextL 649 s s8 := ⟨ksL, fun a o ⟨xs, j, d⟩ e => ksL a o (fun z => by rw [z, e9] at e; cases some_inj e; rw [d9] at d; cases d) e,
    N8.gens.trans (N7.gens.trans (N6.gens.trans (N5.gens.trans (N4.gens.trans (N13.gens.trans N1.gens))))), N8.drawn.trans (N7.drawn.trans (N6.drawn.trans (N5.drawn.trans (N4.drawn.trans (N13.drawn.trans N1.drawn))))), N8.os.trans (N7.os.trans (N6.os.trans (N5.os.trans (N4.os.trans (N13.os.trans N1.os)))))⟩
  exact h s8 x ⟨NL, T8, adr x w dN r1 r2 dR f, rfl, fun hb K => chk_fin (none_back N1.heap) (frs k3 T3) (frs k5 T5) (frs ks7 T7) W8 R8 R8' nf nx nR I8 D8 G8 K⟩
end
end Mine
namespace Mine
open PySem PySem.W PyProof.Rows PySem.Calls PySem.Spec PySem.SeqAt
/-- what a caught exception leaves -/
structure Cgt (l : List Env) (s s' : Shared) : Prop where
  keep : ∀ b o, s.heap.get? b = some o → b ∉ framesOf l → s'.heap.get? b = some o
  up : s.heap.UpToSlots s'.heap
  gens : s'.gens = s.gens
  drawn : s'.drawn = s.drawn
  os : s'.os = s.os
section
variable {c : Cx} {outer : List Env} {m : Str → Option Value} {s s4 : Shared} {g : Heap} {e : Addr} {pl : Bool} {E : Value → Shared → Prop}
/-- the two clauses of _law_told -/
theorem told_catch (Z : KX) {np1 np2 p1 p2 p3 p4 hp1 hp2 : Pos} {wT wC : Str} {Q : Flow → Shared → Prop} {C : Addr} (H : Hf c outer g s4 m) (hg : ∀ b o, g.get? b = some o → b ∉ framesOf (c.env :: outer)) (Gn : Gone (c.env :: outer) s4 s e C pl)
    (hkT : c.env.kindOf (nmOf 95) = some .globalImplicit) (hkC : c.env.kindOf (nmOf 92) = some .globalImplicit) (hC : (C = 64 ∧ ∀ s' t, Cgt (c.env :: outer) s4 s' → Q (.ret (.str wT t)) s') ∨ (C = 76 ∧ ∀ s' t, Cgt (c.env :: outer) s4 s' → Q (.ret (.str wC t)) s')) :
    wpAny gM c.A (noteFrame (.ref e) c.env)
      (fun _ s₂ => wpAny gM c.A (setFlight (.ref e) none) (fun _ s₃ =>
        wpAny gM c.A (handleBy (.ref e) c.env [.ExceptHandler (some (.Name (nmOf 95) np1)) none [.Return (some (wrd wT p1)) p2] hp1, .ExceptHandler (some (.Name (nmOf 92) np2)) none [.Return (some (wrd wC p3)) p4] hp2]) Q E s₃) E s₂) E s := by
  obtain ⟨⟨Gb, dx1, msg, cx, hin, Fl, Ms, _, U, _⟩, gg, gd, go⟩ := Gn
  have hgG : g.StaysIn Gb := fun b o q => hin b o (H.F.keep b o q) (hg b o q)
  have fin : ∀ {s' : Shared}, Flies ⟨Gb, e, C, dx1⟩ (c.env :: outer) cx .none s'.heap → s.heap.UpToSlots s'.heap → s'.gens = s.gens → s'.drawn = s.drawn → s'.os = s.os → Cgt (c.env :: outer) s4 s' :=
    fun F' u' a b d => ⟨fun b o q nf => F'.stays b o (hin b o q nf), U.trans u', a.trans gg, b.trans gd, d.trans go⟩
  refine fly_next (x := ⟨Gb, e, C, dx1⟩) H.fr rfl Fl fun h2 Fl2 u2 => ?_
  refine fly_set (x := ⟨Gb, e, C, dx1⟩) (f := none) Fl2 fun h3 Fl3 u3 => ?_
  have F3 := H.F.of_stays (fun b o q => Fl3.stays b o (hgG b o q)) (U.trans (u2.trans u3))
  obtain ⟨vs1, ho1⟩ := Fl3.ob
  have I64 := Z.x64.K.is (H.X.keeps F3.keep)
  have I76 := Z.x76.K.is (H.X.keeps F3.keep)
  refine wpAny_handleBy_cons (codeAny_handlers_test (name_K F3 H.X (topRead_of H.T) Z.x64.ns ?_ H.kind hkT Z.x64.db)) (by intro q; cases q)
  rcases hC with ⟨rfl, hC⟩ | ⟨rfl, hC⟩
  · refine exc_self I64 ho1 rfl (codeAny_handlers_suite ?_)
    refine fly_set (x := ⟨Gb, e, 64, dx1⟩) (f := none) Fl3 fun h4 Fl4 u4 => ?_
    exact wpAny_execs_cons (wpAny_Return_some (con_str fun t tk => hC _ t (fin Fl4 (u2.trans (u3.trans u4)) rfl rfl rfl)))
  · refine exc_other I76 I64 ho1 rfl ?_
    refine wpAny_handleBy_cons (codeAny_handlers_test (name_K F3 H.X (topRead_of H.T) Z.x76.ns ?_ H.kind hkC Z.x76.db)) (by intro q; cases q)
    refine exc_self I76 ho1 rfl (codeAny_handlers_suite ?_)
    refine fly_set (x := ⟨Gb, e, 76, dx1⟩) (f := none) Fl3 fun h4 Fl4 u4 => ?_
    exact wpAny_execs_cons (wpAny_Return_some (con_str fun t tk => hC _ t (fin Fl4 (u2.trans (u3.trans u4)) rfl rfl rfl)))
end
/-- what is asked of a call, its values weaker -/
def AskW (T : PV) (ds : List PV) (b : Bool) (d : PV) : Prop := ∃ es, Ask T es b d ∧ (es = ds.map toldP ∨ (es.length = ds.length ∧ ∀ x ∈ es, x = .any))
theorem weaken {aDr : Nat → Addr} {h : Heap} {ds : List PV} : ∀ {es : List PV} {vs : List Value}, es.length = ds.length → (∀ x ∈ es, x = .any) → VRs aDr h vs ds → VRs aDr h vs es := by
  induction ds with
  | nil => intro es vs hl _ V; rw [List.length_eq_zero_iff.mp hl]; exact V
  | cons d ds ih =>
    rintro es vs hl ha ⟨v, ws, rfl, _, W⟩
    cases es with
    | nil => cases hl
    | cons x es => exact ⟨v, ws, rfl, by rw [ha x (.head _)]; exact trivial, ih (Nat.succ.inj hl) (fun y hy => ha y (.tail _ hy)) W⟩
theorem AskW.vals {aDr : Nat → Addr} {h : Heap} {vs : List Value} {ds es : List PV} (he : es = ds.map toldP ∨ (es.length = ds.length ∧ ∀ x ∈ es, x = .any)) (V : VRs aDr h vs (ds.map toldP)) : VRs aDr h vs es := by
  rcases he with rfl | ⟨h1, h2⟩
  · exact V
  · exact weaken (by rw [h1, List.length_map]) h2 V
end Mine
namespace Mine
open PySem PySem.W PyProof.Rows PySem.Calls PySem.Spec PySem.SeqAt
theorem boot_tuple : bootBuiltins (Str.ofString "tuple") = some (.type "tuple") := by boot_by_name
theorem evalArgs_more {A : Around} {E : Value → Shared → Prop} {s : Shared} {env : Env} {e : Expr} {rest : List Expr} {pos : Pos} {f : Value} {Q : Args → Shared → Prop} (h : wpAny gM A (spliced (backTo pos (starEach (e :: rest) env))) (fun vs s' => Q ⟨vs, []⟩ s') E s)
    (he : starEach (e :: rest) env = (false, eval e env) :: starEach rest env := by rfl) : wpAny gM A (evalArgs f true (backTo pos (starEach (e :: rest) env)) []) Q E s := by
  rw [he] at h ⊢
  exact evalArgs_plain h
theorem n659 : (okN nms659 sT && (okN nms659 sEs && okN nms659 sSp)) = true ∧ nms659.lookup sConv = some .globalImplicit ∧ nms659.lookup sLck = some .globalImplicit ∧ nms659.lookup sTup = some .globalImplicit ∧ nms659.lookup (nmOf 95) = some .globalImplicit ∧ nms659.lookup (nmOf 92) = some .globalImplicit ∧ sTup ≠ "__name__" := ⟨by kernel_rfl, by kernel_rfl, by kernel_rfl, by kernel_rfl, by kernel_rfl, by kernel_rfl, by decide +kernel⟩
section
variable {base : Heap} {lf : List Env} {n : Nat} {c : Cx} {m : Str → Option Value} {s : Shared} {E Q : Value → Shared → Prop}
/-- tuple([('told', 5, e) for e in es]) -/
theorem tup_eval (K : KTd) (X : At n c fe0 m s) (hN : c.cs.names = nms659) {vE : Value} {ds : List PV} (hE : m sEs = some vE) (VE : gV s.heap vE (.lst ds)) (hp : pureL ds = true) (hlen : ds.length ≤ 100) {p q : Pos} (h : Po s (.tup (ds.map toldP)) Q) : wpAny gM c.A (eval (.Call (.Name sTup p) [tcomp] [] q) c.env) Q E s := by
  obtain ⟨h1, _, _, h4, _, _, h7⟩ := n659
  have hEs := (and_both (and_both h1).2).1
  refine wpAny_Call_ofName (name_B X.F X.S.gd.kin (topRead_of X.S.gd.top) K.tup boot_tuple h7 ?_ X.S.nms.kind (by rw [← hN] at h4; exact h4) (by decide))
  refine callWith_excType rfl (evalArgs_more (spliced_more (told_comp (ds := ds) X.S.room.hand hp hlen (fun _ => rfl) (ldn X hN hEs hE ⟨VE, fun acc ts h3 tk3 st3 hl3 hv3 => spliced_none ?_⟩)) rfl))
  have hts : ts.size = ds.length := by have := hv3.size; rwa [List.length_map] at this
  refine call_tuple_list hl3 (fun h4 st4 => ?_) (by rw [hts]; exact Nat.le_trans hlen (by decide))
  generalize hT5 : ({ cls := .type "tuple", data := .seq ts } : Obj) = oT
  have hg5 : (h4.push oT).get? h4.objs.size = some oT := Heap.get?_push_size _ (by rw [← hT5]; rfl)
  have up5 : h4.StaysIn (h4.push oT) := fun b o q => Heap.get?_push_of_some _ q
  exact h _ _ ⟨fun b o q => up5 _ _ (st4 _ _ (st3 b o q)), rfl, rfl, rfl⟩ ⟨_, ts, rfl, ⟨oT, hg5, by rw [← hT5], 0, by rw [← hT5]⟩, VRs.mono (KS.of_stays fun b o q => up5 _ _ (st4 _ _ q)) hv3⟩
/-- the call of check_conversion, up to itself -/
theorem told_args (Z : KO) (Y : KC) (K : KTd) (CL : CfgOK GL) (F : Fm base lf (n + 50) c fe0 m s) (hN : c.cs.names = nms659) {vT vE : Value} {sp : Bool} {ds : List PV} (hT : m sT = some vT) (hE : m sEs = some vE) (hS : m sSp = some (.bool sp)) (VE : gV s.heap vE (.lst ds)) (hp : pureL ds = true) (hlen : ds.length ≤ 100)
    (nb : base.get? 649 = none) (nf : (649 : Nat) ∉ framesOf (c.env :: lf)) (h0 : c.h₀.get? 649 = none) (TS : TabSt s.heap) (Cd : CodeHd base 653 649)
    (h : ∀ s2 s5 cA ta t, CkAt s s2 cA → Next s2 s5 → Fm base lf (n + 50) c fe0 m s5 → gV s5.heap (.ref ta) (.tup (ds.map toldP)) → wpAny gM c.A (call (.ref 448) [.ref cA, vT, .ref ta, .bool sp, .int 7 t]) Q E s5) : wpAny gM c.A (eval ecall659 c.env) Q E s := by
  obtain ⟨h1, h2, h3, _⟩ := n659
  have X := F.X
  have hL : c.L ≠ (649 : Nat) := fun z => nf (by rw [← z]; exact .head _)
  unfold ecall659
  refine glob_callK K.gConv X (by rw [hN]; exact h2) (spliced_more (glob_call0 Y.g X (by rw [hN]; exact h3) (checker_ok Z Y CL F.pl (X.S.room.less (Nat.le_add_left 48 (n + 2))) nb nf TS Cd fun s2 cA K2 => ?_)) rfl) rfl rfl
  have X2 : At (n + 50) c fe0 m s2 := ⟨X.S, fr_but X.F h0 hL K2.next.heap, lrel0⟩
  refine spliced_more (ldn X2 hN (and_both h1).1 hT ?_) rfl
  refine spliced_more (tup_eval K X2 hN hE (VE.mono K2.next.ks) hp hlen fun v s3 N3 V3 => ?_) rfl
  refine spliced_more (ldn (X2.next N3) hN (and_both (and_both h1).2).2 hS ?_) rfl
  refine spliced_more (con_int fun t tk => ?_) rfl
  obtain ⟨ta, ts, rfl, ht, W⟩ := V3
  have N5 : Next s2 { s3 with toks := tk } := N3.trans (Next.toks s3 tk)
  refine spliced_none ⟨(X2.next N5).gd.kin, h s2 _ cA ta t K2 N5 ⟨X2.next N5, F.P⟩ ⟨ta, ts, rfl, ht, W⟩⟩
end
end Mine
namespace Mine
open PySem PySem.W PyProof.Rows PySem.Calls PySem.Spec PySem.SeqAt
theorem InKU.hbl {g : Addr} {nms : List (Str × NameKind)} {ps : List Str} {ex : List (Str × Value)} {body : List Stmt} (I : InK g nms ps ex body) {vs : List Value} : ∀ y ∈ ps.zip vs ++ ex, (fdAt g).scope.names.lookup y.1 = some .local := fun y hy => by
  have hz : y.1 ∈ ps ++ ex.map (·.1) := by
    rcases List.mem_append.mp hy with hy | hy
    · exact List.mem_append_left _ (List.of_mem_zip hy).1
    · exact List.mem_append_right _ (List.mem_map.mpr ⟨y, hy, rfl⟩)
  rw [I.names]
  exact (okN_both (List.all_eq_true.mp I.locs _ hz)).1
theorem KT1.ofKS {h h' : Heap} (k : KS h h') : KT1 h h' := fun a o _ d e => k a o d e
/-- what a call of _law_told leaves -/
structure TdAt (lf : List Env) (s s' : Shared) : Prop where
  keep : ∀ b o, b ≠ (649 : Nat) → b ∉ framesOf lf → s.heap.get? b = some o → s'.heap.get? b = some o
  up : UpBut 649 s.heap s'.heap
  tab : TabSt s'.heap
  gens : s'.gens = s.gens
  drawn : s'.drawn = s.drawn
  os : s'.os = s.os
/-- every frame is a table of names -/
theorem di_not {h : Heap} {l : List Addr} (D : ∀ x ∈ l, IsDi h x) {b : Addr} {o : Obj} (e : h.get? b = some o) (n : ∀ es k, o.data ≠ .dict es k) : b ∉ l := fun hm => by
  obtain ⟨o', es, k, e', d⟩ := D b hm
  rw [e] at e'; cases some_inj e'; exact n es k d
theorem word_t : Str.ofString "type" = mkStr [116, 121, 112, 101] ∧ Str.ofString "const" = mkStr [99, 111, 110, 115, 116] := ⟨by decide +kernel, by decide +kernel⟩
section
variable {base : Heap} {lf : List Env} {s : Shared} {E Q : Value → Shared → Prop} {A : Around}
theorem k3_of {l : List Env} {s1 s2 s5 : Shared} (N : Next s2 s5) (D1 : ∀ x ∈ framesOf l, IsDi s1.heap x) (D5 : ∀ x ∈ framesOf l, IsDi s5.heap x) : K3 s1 s2 (hideAll s5.heap (framesOf l)) where
  new b o n e := hideAll_get _ (N.heap b o e) fun hm => by obtain ⟨o', _, _, e', _⟩ := D1 b hm; rw [n] at e'; cases e'
  ks a o d e := hideAll_get _ (N.heap a o e) (di_not D5 (N.heap a o e) fun es k z => by obtain ⟨xs, n, d⟩ := d; rw [z] at d; cases d)
  recs b o vs t d _ e := hideAll_get _ (N.heap b o e) (di_not D5 (N.heap b o e) fun es k z => by rw [z] at d; cases d)
theorem told_walk (Z : KO) (Y : KC) (Zx : KX) (K : KTd) (CL : CfgOK GL) (SD : ∀ aDr, SConv aDr) {T d : PV} {ds : List PV} {sp : Bool} (hpT : pureP T = true) (hpD : pureL ds = true) (hlen : ds.length ≤ 100) (hpd : pureP d = true) (hk : AskW T ds sp d)
    (P : Pl A base lf s.heap) (R : Room 62 A) (nb : base.get? 649 = none) (nf : (649 : Nat) ∉ framesOf lf) (TS : TabSt s.heap) (Cd : CodeHd base 653 649) {vT vE : Value} (VT : gV s.heap vT T) (VE : gV s.heap vE (.lst ds))
    (hQ : ∀ v s', TdAt lf s s' → gV s'.heap v d → Q v s') : wpAny gM A (call (.ref 659) [vT, vE, .bool sp]) Q E s := by
  obtain ⟨o, D⟩ := K.I.D
  obtain ⟨o9, v9, e9, d9⟩ := id TS.data
  refine wpAny_call (init_enter (n := 61) (dx := 649) D K.I.body (nms0 K.I.kind) P R nb nf ⟨o9, e9⟩ (K.I.binds P.gd.kin rfl) K.I.hbl fun c s1 S F N1 hc hA hcs P2 neL => ?_)
  have hN : c.cs.names = nms659 := by rw [hcs.1]; exact K.I.names
  have h0 : c.h₀.get? 649 = none := by rw [hc]; exact Heap.hide_self _ _
  have X1 : At 61 c fe0 (bnd ps659 [] [vT, vE, .bool sp]) s1 := ⟨S, F, lrel0⟩
  have F1 : Fm base lf (11 + 50) c fe0 (bnd ps659 [] [vT, vE, .bool sp]) s1 := ⟨X1, A, P2, hA⟩
  have TS1 : TabSt s1.heap := TS.keeps fun b o _ _ _ e => N1.heap b o e
  have fr : c.A.frames = some (c.env :: lf) := by rw [hA]; exact Around.frames_deeper P.B.stack
  have nf' : (649 : Nat) ∉ framesOf (c.env :: lf) := fun hm => (in_frames (L := c.L) hm).elim (fun z => neL z.symm) nf
  have old : ∀ {b : Addr} {o : Obj}, b ≠ (649 : Nat) → s.heap.get? b = some o → c.h₀.get? b = some o := fun ne e => by rw [hc]; exact (Heap.hide_ne _ ne).trans e
  obtain ⟨es, hask, hes⟩ := hk
  have m1 : bnd ps659 [] [vT, vE, .bool sp] sT = some vT := by kernel_rfl
  have m2 : bnd ps659 [] [vT, vE, .bool sp] sEs = some vE := by kernel_rfl
  have m3 : bnd ps659 [] [vT, vE, .bool sp] sSp = some (.bool sp) := by kernel_rfl
  generalize bnd ps659 [] [vT, vE, .bool sp] = m at F1 m1 m2 m3
  clear X1 F
  unfold body659
  refine wpAny_execs_cons ?_
  rw [arm_exec_Try]
  refine wpAny_bind (wpAny_standAt (wpAny_tryStmt_except (wpAny_execs_cons (wpAny_Return_some ?_))))
  refine told_args Z Y K CL F1 hN m1 m2 m3 (VE.mono N1.KS) hpD hlen nb nf' h0 TS1 Cd fun s2 s5 cA ta t K2 N5 F5 Vt => ?_
  obtain ⟨aDr, ha0, AD⟩ := K2.ad
  have keep5 := F5.X.F.keep
  have T5 : TabSt s5.heap := K2.tab.keeps fun b o _ _ _ e => N5.heap b o e
  have dl : ∀ {si : Shared}, c.h₀.StaysIn si.heap → si.heap.Ns c.L m → ∀ x ∈ framesOf (c.env :: lf), IsDi si.heap x := fun {si} k n x hx => by
    rcases in_frames (L := c.L) hx with rfl | hx
    · exact ns_di n
    · obtain ⟨o, es, j, e, d⟩ := P2.D x hx
      exact ⟨o, es, j, k _ _ e, d⟩
  have D5 := dl keep5 F5.X.F.ns
  have hb := in_hidden F5.pl
  have Wh : WA aDr (hideAll s5.heap (framesOf (c.env :: lf))) := ⟨⟨(gWF_kt P.W).1.keeps hb, (gWF_kt P.W).2.keeps hb⟩, AD _ (k3_of N5 (dl F1.X.F.keep F1.X.F.ns) D5)⟩
  have sub : (hideAll s5.heap (framesOf (c.env :: lf))).StaysIn s5.heap := fun b o q => of_hideAll _ q
  have W5 : WA aDr s5.heap := ⟨⟨Wh.1.1.keeps sub, Wh.1.2.keeps sub⟩, Wh.2.keeps sub⟩
  have ks : KS s.heap s5.heap := (N1.KS.trans K2.next.ks).trans N5.KS
  have gg : s5.gens = s.gens ∧ s5.drawn = s.drawn ∧ s5.os = s.os := ⟨N5.gens.trans (K2.next.gens.trans N1.gens), N5.drawn.trans (K2.next.drawn.trans N1.drawn), N5.os.trans (K2.next.os.trans N1.os)⟩
  have hVs : VRs aDr s5.heap ([] ++ [.ref cA, vT, .ref ta, .bool sp, .int 7 t]) [.spc 0, T, .tup es, .bool sp, .int 7] := by
    obtain ⟨a, vs, e, ht, W⟩ := Vt
    exact ⟨_, _, rfl, by rw [← ha0]; rfl, _, _, rfl, VT.re (.ofKS ks) hpT, _, _, rfl, ⟨a, vs, e, ht, AskW.vals hes (VRs.re (.refl _) (pure_told hpD) W)⟩, _, _, rfl, rfl, _, _, rfl, ⟨t, rfl⟩, rfl⟩
  -- where a fault is caught
  have H : Hf c lf (hideAll c.h₀ (framesOf lf)) s5 m := ⟨fr, S.nms.kind, S.room.now1, ⟨F5.X.F.ns, fun b o q => keep5 b o (of_hideAll _ q), by rw [hideAll_size]; exact F5.X.F.above⟩, (gWF_kt P.W).1.keeps (in_hidden P2), (gWF_kt P.W).2.keeps (in_hidden P2)⟩
  have hg : ∀ b o, (hideAll c.h₀ (framesOf lf)).get? b = some o → b ∉ framesOf (c.env :: lf) := fun b o q hm => (in_frames (L := c.L) hm).elim (fun z => absurd (Heap.lt_size (of_hideAll _ q)) (by rw [z]; exact Nat.not_lt.mpr F5.X.F.above)) fun hm => by rw [hideAll_none _ hm] at q; cases q
  have fin : ∀ {s'}, Cgt (c.env :: lf) s5 s' → TdAt lf s s' := fun {s'} C => ⟨fun b o ne nl e => C.keep b o (keep5 _ _ (old ne e)) fun hm => (in_frames (L := c.L) hm).elim (fun z => absurd (Heap.lt_size (old ne e)) (by rw [z]; exact Nat.not_lt.mpr F5.X.F.above)) nl,
    fun b o ne e nd => C.up b o (keep5 _ _ (old ne e)) nd, T5.keeps fun b o vs d _ e => C.keep b o e (di_not D5 e fun es k z => by rw [z] at d; cases d), C.gens.trans gg.1, C.drawn.trans gg.2.1, C.os.trans gg.2.2⟩
  obtain ⟨_, _, _, _, kT, kC, _⟩ := n659
  have kT' : c.env.kindOf (nmOf 95) = some .globalImplicit := by rw [← hN] at kT; exact kT
  have kC' : c.env.kindOf (nmOf 92) = some .globalImplicit := by rw [← hN] at kC; exact kC
  refine SD aDr hask ⟨A, base, lf, m, c, P2.B, fr, S.nms.kind, F5.X.F, P2.gd.kin, P2.gd.top, Wh, P2.D⟩ W5 S.room fr hVs (fun v s' N V => ?_) (fun hd e s' Gn => ?_) fun hd e s' Gn => ?_
  · exact hQ v s' ⟨fun b o ne _ e => N.heap _ _ (keep5 _ _ (old ne e)), fun b o ne e _ => ⟨o.slots, N.heap _ _ (keep5 _ _ (old ne e))⟩, T5.keeps fun b o _ _ _ e => N.heap b o e, N.gens.trans gg.1, N.drawn.trans gg.2.1, N.os.trans gg.2.2⟩ (V.re (.refl _) hpd)
  · exact told_catch Zx H hg Gn kT' kC' (.inl ⟨rfl, fun s' t C => hQ _ s' (fin C) (by rw [hd]; exact ⟨t, by rw [word_t.1]⟩)⟩)
  · exact told_catch Zx H hg Gn kT' kC' (.inr ⟨rfl, fun s' t C => hQ _ s' (fin C) (by rw [hd]; exact ⟨t, by rw [word_t.2]⟩)⟩)
end
end Mine
namespace Mine
open PySem PySem.W PyProof.Rows PySem.Calls PySem.Spec PySem.SeqAt
/-- the configuration with a checker, its own helpers P -/
noncomputable def GP (P : Nat → Addr → List PV → Option PV) : Cfg := ⟨fun x => lk x gGlobs, gAtt, gMet, P, gFn, gBlt, gBmet, gSget, gCin, gSpf, gHol⟩
def PrimOK (P : Nat → Addr → List PV → Option PV) : Prop := ∀ {n g ds d}, P n g ds = some d → CaOK (n + 1) g ds d ∧ ∃ o fd, gu.K.lookup g = some o ∧ o.data = .func fd
theorem gp_ok (Z : KF) (hW : ∀ {h}, gWF h → AdAt h gD) {P : Nat → Addr → List PV → Option PV} (hP : PrimOK P) : CfgOK (GP P) where
  glob := g_glob Z
  att := g_att Z hW
  met := g_met Z hW
  prim := hP
  fn := g_fn Z
  blt := fun {i ds d} e {A s vs Q E} hu V h => g_blt e hu V h
  bmet := g_bmet
  sget := g_sget Z hW
  cin := g_cin hW
  hsw := hx_swap
  hol e := (holP e).go
  spo := g_spo hW
  spf := g_spf hW
theorem gl_ok (Z : KF) (hP : PrimOK gPrimL) : CfgOK GL where
  glob := g_glob Z
  att e := nomatch e
  met e := nomatch e
  prim := hP
  fn := g_fn Z
  blt := fun {i ds d} e {A s vs Q E} hu V h => g_blt e hu V h
  bmet := g_bmet
  sget := l_sget Z
  cin e := nomatch e
  hsw := hx_swap
  hol e := (holP e).go
  spo e := nomatch e
  spf e := nomatch e
theorem FnKU.is {g : Addr} {fi : FI} {ps : List Nat} {ex : List (Nat × Bool)} {body : List Stmt} (F : FnK g fi ps ex body) : ∃ o fd, gu.K.lookup g = some o ∧ o.data = .func fd := let ⟨o, D⟩ := F.D; ⟨o, _, D.at_, D.data⟩
theorem prim666_ok (F : FnK 666 fi666 ps666 [] (embS ir666)) {n : Nat} (hn : 20 ≤ n) {ds : List PV} {r : PV} (h : prim666 ds = some r) : CaOK (n + 1) 666 ds r := by
  obtain ⟨d, h1, h2⟩ := bind_some h
  cases l1_some h1
  obtain ⟨k, rfl, hs⟩ := sort_is h2
  intro A s vs Q E P G R V hq
  obtain ⟨o, D⟩ := F.D
  obtain ⟨binds, hb, hbl, hR⟩ := fnk_binds (r := row666) F rfl G.kin V
  have hb6 := fun {c : Cx} {m : Str → Option Value} {s : Shared} {E : Value → Shared → Prop} {Q : Flow → Shared → Prop} => @body666 c m s E k r hs Q
  have hρ : row666.ρ [.tup (ktPV k)] = [(22, .tup (ktPV k))] := rfl
  rw [hρ] at hR
  refine enter_ok D F.body F.nms.1 P G R hb hbl fun c s₁ S Fr N hc hA => ?_
  generalize embS ir666 = body at hb6 ⊢
  exact hb6 ⟨⟨S.gd, S.nms, S.room.less hn, S.below⟩, Fr, hR.mono N.KS⟩ fun v m' s' N' F' V' => hq v s' (back hc N N' F') V'
theorem primL_ok (F : FnK 666 fi666 ps666 [] (embS ir666)) : PrimOK gPrimL := fun {n g ds d} e => by
  obtain ⟨h1, e1⟩ := cond_some e
  obtain ⟨h2, e2⟩ := cond_some e1
  cases Nat.eq_of_beq_eq_true h2
  exact ⟨prim666_ok F (Nat.le_of_ble_eq_true h1) e2, F.is⟩
end Mine
namespace Mine
open PySem PySem.W PyProof.Rows PySem.Calls PySem.Spec PySem.SeqAt
/-- all but some addresses is kept -/
structure NextP (p : Addr → Prop) (s s' : Shared) : Prop where
  heap : ∀ b o, p b → s.heap.get? b = some o → s'.heap.get? b = some o
  ks : KS s.heap s'.heap
  gens : s'.gens = s.gens
  drawn : s'.drawn = s.drawn
  os : s'.os = s.os
section
variable {p : Addr → Prop} {s s' s'' : Shared}
theorem NextP.of (a : Next s s') : NextP p s s' := ⟨fun b o _ e => a.heap b o e, a.KS, a.gens, a.drawn, a.os⟩
theorem NextP.ofL {L : Addr} (a : NextL L s s') (h : ∀ b, p b → b ≠ L) : NextP p s s' := ⟨fun b o n e => a.heap b o (h b n) e, a.ks, a.gens, a.drawn, a.os⟩
theorem NextP.trans (a : NextP p s s') (b : NextP p s' s'') : NextP p s s'' := ⟨fun x o n e => b.heap x o n (a.heap x o n e), a.ks.trans b.ks, b.gens.trans a.gens, b.drawn.trans a.drawn, b.os.trans a.os⟩
end
section
variable {A : Around} {base h₀ : Heap} {lf : List Env} {n : Nat} {s : Shared} {E Q : Value → Shared → Prop}
/-- a function is entered by hand -/
theorem fn_enter {g : Addr} {nms : List (Str × NameKind)} {ps : List Str} {ex : List (Str × Value)} {body : List Stmt} (I : InK g nms ps ex body) (P : Pl A base lf h₀) (R : Room (n + 3) A) (hk : h₀.StaysIn s.heap) (hz : h₀.objs.size = s.heap.objs.size) {vs : List Value} (hl : vs.length = ps.length)
    (h : ∀ c s₁, Fm base lf (n + 2) c fe0 (bnd ps ex vs) s₁ → c.cs.names = nms → c.h₀ = h₀ → c.L = s.heap.objs.size → Next s s₁ → wpAny gM c.A (execs body c.env) (OutQ Q) (OutE c E) s₁) : wpAny gM A (call (.ref g) vs) Q E s := by
  obtain ⟨o, D⟩ := I.D
  have G := P.gd.keeps hk
  refine wpAny_call (codeAny_call_def (fd := fdAt g) (body := body) (binds := ps.zip vs ++ ex) R.now (G.kin _ _ D.at_) D.data G.top.nolimit (codeRec_of G.kin D.code) I.body (I.binds G.kin hl) D.cell I.hbl (fun h₁ hns hk₁ => ?_) D.co D.gen D.kind)
  rw [D.env]
  exact h ⟨A.deeper (envOf (fdAt g).qualname (fdAt g).scope s.heap.objs.size g (fdAt g).code), (fdAt g).qualname, (fdAt g).scope, s.heap.objs.size, g, (fdAt g).code, h₀⟩ _ ⟨⟨P.site rfl (nms0 I.kind) R, ⟨hns, fun b o q => hk₁ b o (hk b o q), Nat.le_of_eq hz⟩, lrel0⟩, A, P, rfl⟩ I.names rfl rfl ⟨hk₁, rfl, rfl, rfl⟩
end
noncomputable abbrev noE : Value → Shared → Prop := fun _ _ => False
theorem no_mono {α : Type} {A : Around} {t : Sem α} {Q : α → Shared → Prop} {E : Value → Shared → Prop} {s : Shared} (h : wpAny gM A t Q noE s) : wpAny gM A t Q E s := wpAny_mono h (fun _ _ z => z) fun _ _ z => z.elim
section
variable {c : Cx} {n : Nat} {m : Str → Option Value} {s : Shared} {E Q : Value → Shared → Prop} {nms : List (Str × NameKind)}
/-- a for over a list of one -/
theorem for_one {p : Addr → Prop} (hh : c.A.handled = none) (hN : c.cs.names = nms) {y : Str} (hy : nms.lookup y = some .local) {py pos : Pos} {it : Expr} {b : List Stmt} {Q : Flow → Shared → Prop} (hs : ∀ x, foldedSetIterable it c.env x = pure x)
    (h : wpAny gM c.A (eval it c.env) (fun v s1 => ∃ l x m, v = .ref l ∧ s1.heap.IsList l #[x] ∧ p l ∧ At n c fe0 m s1 ∧ (∀ a, s1.heap.get? a = none → p a) ∧ (∀ b, p b → b ≠ c.L) ∧
      ∀ s2, NextL c.L s1 s2 → At n c fe0 (fun z => if z = y then some x else m z) s2 → wpAny gM c.A (execs b c.env) (fun fl s3 => fl = .next ∧ NextP p s2 s3 ∧ ∃ m', At n c fe0 m' s3 ∧ ∀ s4, NextP p s1 s4 → At n c fe0 m' s4 → Q .next s4) noE s2) noE s) :
    wpAny gM c.A (exec (.For (.Name y py) it b [] pos) c.env) Q E s := by
  refine no_mono (wpAny_For (wpAny_mono h (fun v s1 h1 => ?_) fun _ _ z => z) hs)
  obtain ⟨l, x, m, rfl, hl, pl, X, pn, pL, hb⟩ := h1
  have hn := Heap.get?_none_of_le (h := s1.heap) (Nat.le_refl _)
  have pI := pn _ hn
  have neL : s1.heap.objs.size ≠ c.L := pL _ pI
  have old : ∀ {b o}, s1.heap.get? b = some o → b ≠ s1.heap.objs.size := fun e => Nat.ne_of_lt (Heap.lt_size e)
  refine wpAny_pyIter_list hl ?_
  refine codeAny_forLoop_any (fun k s2 => match k with
    | 0 => ∃ m', At n c fe0 m' s2 ∧ NextP p s1 s2 ∧ s2.heap.IsListIter s1.heap.objs.size l 1 ∧ (∀ s4, NextP p s1 s4 → At n c fe0 m' s4 → Q .next s4)
    | _ + 1 => s2 = _) (fun k s2 hI => ?_) 1 rfl
  cases k with
  | zero =>
    obtain ⟨m', X2, N2, hit, hq⟩ := hI
    refine wpAny_pyNext_list_end hh hit (hl.at fun o e => N2.heap _ o pl e) rfl fun h' he => wpAny_execs_nil (hq _ ⟨fun b o q e => he b o (old e) (N2.heap b o q e), fun a o d e => ?_, N2.gens, N2.drawn, N2.os⟩ ⟨X2.S, fr_but X2.F ?_ neL.symm fun b o ne e => he b o ne e, lrel0⟩)
    · exact he a o (old e) (N2.ks a o d e)
    · cases q : c.h₀.get? s1.heap.objs.size with
      | none => rfl
      | some o => exact absurd (old (X.F.keep _ _ q)) (fun z => z rfl)
  | succ k =>
    subst hI
    have N0 : Next s1 { s1 with heap := s1.heap.push { cls := .type "list_iterator", data := .fields #[.ref l, .int 0 0] } } := Next.push _ _
    refine wpAny_pyNext_list_item (i := 0) (items := #[x]) ⟨_, Heap.get?_push_size _ rfl, rfl, rfl⟩ (hl.at fun o e => N0.heap _ _ e) rfl fun h2 hit2 sb => ?_
    have N1 : Next s1 { s1 with heap := h2 } := ⟨fun b o e => (sb.2 b (old e)).trans (N0.heap b o e), rfl, rfl, rfl⟩
    refine wpAny_pure (wpAny_assign_Name (store_at (X.next N1) hN hy fun s3 N3 X3 => ?_))
    have N13 : NextP p s1 s3 := (NextP.of N1).trans (NextP.ofL N3 pL)
    refine wpAny_mono (hb s3 ((NextL.of N1).trans N3) X3) (fun fl s4 h4 => ?_) fun _ _ z => z.elim
    obtain ⟨rfl, N4, m', X4, hq⟩ := h4
    exact ⟨0, Nat.succ_pos _, m', X4, N13.trans N4, (hit2.at fun o e => N4.heap _ o pI (N3.heap _ o neL e)), hq⟩
/-- a for over an empty dict -/
theorem for_dict0 {A : Around} {t it : Expr} {b : List Stmt} {p : Pos} {env : Env} {Q : Flow → Shared → Prop} (hh : A.handled = none) (hs : ∀ x, foldedSetIterable it env x = pure x)
    (h : wpAny gM A (eval it env) (fun v s' => ∃ d, v = .ref d ∧ DictIs s'.heap d [] ∧ ∀ s2, Next s' s2 → Q .next s2) noE s) : wpAny gM A (exec (.For t it b [] p) env) Q E s := by
  refine no_mono (wpAny_For (wpAny_mono h (fun v s' h1 => ?_) fun _ _ z => z) hs)
  obtain ⟨d, rfl, ⟨o, a, b, e⟩, h2⟩ := h1
  obtain ⟨ep, D⟩ := (Heap.dictOf_iff.mpr ⟨o, a, b⟩).dictAt
  refine wpAny_pyIter_dict e D ?_
  refine codeAny_forLoop_any (fun _ s2 => s2 = _) (fun n s2 q => ?_) 0 rfl
  subst q
  exact wpAny_pyNext_dict_end (knd := PySem.strKind PRG gu.w) (i := 0) (kvs := []) hh ⟨_, Heap.get?_push_size _ rfl, rfl, rfl⟩ (D.push _) rfl fun h' he => wpAny_execs_nil (h2 _ ⟨fun b o q => he b o (Nat.ne_of_lt (Heap.lt_size q)) (Heap.get?_push_of_some _ q), rfl, rfl, rfl⟩)
/-- an item of a tuple -/
theorem item_is {X : Expr} {i : Int} {a d : PV} {p1 p2 : Pos} {P : Shared → Prop} (hX : wpAny gM c.A (eval X c.env) (fun v s1 => gV s1.heap v a ∧ P s1) E s) (e : subv a (.int i) = some d) (h : ∀ v s1 s2, P s1 → Next s1 s2 → gV s2.heap v d → Q v s2) :
    wpAny gM c.A (eval (.Subscript X (.Constant (.int i) 0 p1) p2) c.env) Q E s := by
  refine Subscript_ (wpAny_mono hX (fun v s1 h1 => con_int fun t tk => ?_) fun _ _ z => z)
  have N : Next s1 { s1 with toks := tk } := Next.toks _ _
  exact subv_ok (s := { s1 with toks := tk }) (b := .int i) h1.1 ⟨t, rfl⟩ e (fun _ _ => rfl) fun v' s2 N2 V => h v' s1 s2 h1.2 (N.trans N2) V
/-- X[0] == word -/
theorem tag_is {X : Expr} {w : Str} {l : List Nat} {r : List PV} {p1 p2 p3 p4 : Pos} {P : Shared → Prop} {Q : Bool → Shared → Prop} (hX : wpAny gM c.A (eval X c.env) (fun v s1 => gV s1.heap v (.tup (.str l :: r)) ∧ P s1) E s)
    (h : ∀ s1 s2, P s1 → Next s1 s2 → Q (mkStr l == w) s2) : wpAny gM c.A (isTrue (.Compare (.Subscript X (.Constant (.int 0) 0 p1) p2) [.Eq] [.Constant (.str w) 0 p3] p4) c.env (eval (.Compare (.Subscript X (.Constant (.int 0) 0 p1) p2) [.Eq] [.Constant (.str w) 0 p3] p4) c.env)) Q E s := by
  refine wpAny_isTrue_Compare1 (item_is hX (d := .str l) rfl fun v s1 s2 p N V => con_str fun t tk => ?_) (by rfl)
  obtain ⟨u, rfl⟩ := V
  exact SeqAt.RcAt.str_str _ _ _ _ PRG gu.w _ _ (wpAny_truthy_bool (h s1 _ p (N.trans (Next.toks _ _))))
end
/-- X.attr, X a subscript -/
theorem att_sub {A : Around} {E Q : Value → Shared → Prop} {s : Shared} {env : Env} {x i : Expr} {attr : Str} {p p' : Pos} (k : wpAny gM A (eval (.Subscript x i p) env) (fun o s₁ => wpAny gM A (getAttr o attr true) Q E s₁) E s) :
    wpAny gM A (eval (.Attribute (.Subscript x i p) attr p') env) Q E s := by
  rw [arm_eval_Attribute]
  show wpAny gM A (eval (.Subscript x i p) env >>= _) Q E s
  exact wpAny_bind (wpAny_mono k (fun o s₁ h₁ => wpAny_bind (wpAny_standAt (wpAny_bind (wpAny_holding (wpAny_mono h₁ (fun r s₂ h₂ => wpAny_bind (wpAny_letTemporaryGo (wpAny_pure h₂))) fun _ _ y => y))))) fun _ _ y => y)
/-- an attribute of an object's own is read -/
theorem attr_get {A : Around} {s : Shared} {E Q : Value → Shared → Prop} {x C : Addr} {nm : Str} {v : Value} (X : gu.K.In s.heap) (O : AttrAt s.heap x C nm (some v)) (hh : handedIn v = true) (Z : AttF C nm) (h : Q v { s with toks := s.toks + 1 }) : wpAny gM A (getAttr (.ref x) nm true) Q E s := by
  obtain ⟨h1, h2, a, h3, h4⟩ := Z
  obtain ⟨ox, od, I, hg⟩ := O.at
  exact get_value X I (plainGet_of h1).1 (findObj_own h2 h3 h4 hg) hh h
end Mine
namespace Mine
open PySem PySem.W PyProof.Rows PySem.Calls PySem.Spec PySem.SeqAt
noncomputable abbrev P0 : Nat → Addr → List PV → Option PV := fun _ _ _ => none
theorem p0_ok : PrimOK P0 := fun e => nomatch e
noncomputable abbrev wNamed : Str := Str.ofString "named"
/-- a type that is asked for its methods -/
structure TF (T b : PV) : Prop where
  go : ∃ l r lb rb, T = .tup (.str l :: r) ∧ b = .tup (.str lb :: rb) ∧ (mkStr lb == Str.ofString "struct") = false ∧ (mkStr lb == Str.ofString "interface") = false ∧ ((mkStr l == wNamed) = true → ∃ lk k, r = [.str lk] ∧ gSget (.spc 2) lk = some (.spc k) ∧ (Nat.beq k 3 || Nat.beq k 4 = true))
  base : (ev (GP P0) 8).ca 612 [.spc 1, T] = some b
theorem nk {a : List Nat} {w : Str} (h : (mkStr a == w) = false) {P : Prop} : (mkStr a == w) = true → P := fun q => by rw [h] at q; cases q
theorem tf_same {l : List Nat} {r : List PV} (h : ((mkStr l == Str.ofString "struct") || ((mkStr l == Str.ofString "interface") || (mkStr l == wNamed))) = false) (hb : (ev (GP P0) 8).ca 612 [.spc 1, .tup (.str l :: r)] = some (.tup (.str l :: r))) : ∃ b, TF (.tup (.str l :: r)) b := by
  obtain ⟨h1, h2⟩ := Bool.or_eq_false_iff.mp h
  obtain ⟨h2, h3⟩ := Bool.or_eq_false_iff.mp h2
  exact ⟨_, ⟨_, _, _, _, rfl, rfl, h1, h2, nk h3⟩, hb⟩
theorem tf_named {lk lb : List Nat} {l : List Nat} {rb : List PV} {k : Nat} (h : ((mkStr lb == Str.ofString "struct") || (mkStr lb == Str.ofString "interface")) = false) (e : gSget (.spc 2) lk = some (.spc k)) (hk : (Nat.beq k 3 || Nat.beq k 4 = true)) (hb : (ev (GP P0) 8).ca 612 [.spc 1, .tup [.str l, .str lk]] = some (.tup (.str lb :: rb))) : ∃ b, TF (.tup [.str l, .str lk]) b := by
  obtain ⟨h1, h2⟩ := Bool.or_eq_false_iff.mp h
  exact ⟨_, ⟨_, _, _, _, rfl, rfl, h1, h2, fun _ => ⟨lk, k, rfl, e, hk⟩⟩, hb⟩
theorem tf_of {T : PV} (h : anyPV T namedOK = true) : ∃ b, TF T b := by
  have hm : ∀ {l : List PV}, anyPV T l = true → T ∈ l := fun {l} => by
    induction l with
    | nil => intro h; cases h
    | cons x r ih =>
      intro h
      cases q : eqPV T x with
      | true => rw [eqPV_eq q]; exact .head _
      | false => exact .tail _ (ih (by rw [anyPV, q] at h; exact h))
  have al : AllL (fun T => ∃ b, TF T b) namedOK := ⟨tf_same (by decide +kernel) (by kernel_rfl), tf_same (by decide +kernel) (by kernel_rfl), tf_same (by decide +kernel) (by kernel_rfl), tf_same (by decide +kernel) (by kernel_rfl),
    tf_named (lb := [105, 110, 116]) (rb := [tInt8]) (lk := lMN) (k := 3) (by decide +kernel) rfl rfl (by kernel_rfl), tf_same (by decide +kernel) (by kernel_rfl), tf_named (lb := [115, 116, 114, 105, 110, 103]) (rb := []) (lk := lMS) (k := 4) (by decide +kernel) rfl rfl (by kernel_rfl), tf_same (by decide +kernel) (by kernel_rfl), tf_same (by decide +kernel) (by kernel_rfl), trivial⟩
  exact al.mem (hm h)
section
variable {base : Heap} {lf : List Env} {n : Nat} {c : Cx} {m : Str → Option Value} {s : Shared} {E Q : Value → Shared → Prop} {nms : List (Str × NameKind)} {T b : PV} {vW : Value} {ta : Addr}
theorem n77 : nmOf 77 = Str.ofString "named" ∧ nmOf 29 = Str.ofString "base_of" := ⟨by decide +kernel, by decide +kernel⟩
theorem o175 : okN nms175 sWorld = true ∧ okN nms175 sTold = true := ⟨by kernel_rfl, by kernel_rfl⟩
/-- own_methods: no methods -/
theorem own_ok (Z : KF) (hW : ∀ {h}, gWF h → AdAt h gD) (K : KN) {A : Around} (P : Pl A base lf s.heap) (R : Room (n + 3) A) (VW : gV s.heap vW (.spc 1)) (VT : gV s.heap (.ref ta) T) (hT : TF T b) (h : ∀ d s', Next s s' → DictIs s'.heap d [] → Q (.ref d) s') : wpAny gM A (call (.ref 175) [vW, .ref ta]) Q E s := by
  refine fn_enter K.i175 P R (fun _ _ e => e) rfl rfl fun c s1 F hN _ _ N1 => ?_
  have C : CfgOK (GP P0) := gp_ok Z hW (P := P0) p0_ok
  have X := F.X
  obtain ⟨l, r, lb, rb, rfl, -, -, -, hn⟩ := hT.go
  have VW1 := VW.mono N1.KS
  have VT1 := VT.mono N1.KS
  have m1 : bnd [sWorld, sTold] [] [vW, .ref ta] sWorld = some vW := by kernel_rfl
  have m2 : bnd [sWorld, sTold] [] [vW, .ref ta] sTold = some (.ref ta) := by kernel_rfl
  generalize bnd [sWorld, sTold] [] [vW, .ref ta] = m at X m1 m2
  clear F
  obtain ⟨o1, o2⟩ := o175
  refine wpAny_execs_cons (wpAny_Return_some (wpAny_IfExp (tag_is (P := fun s2 => s2 = s1) (ldn X hN o2 m2 ⟨VT1, rfl⟩) fun s2 s3 e N => ?_)))
  subst e
  have X3 := X.next N
  cases hb : (mkStr l == wNamed) with
  | false =>
    exact dict0_new X3 fun d s4 N4 D _ => h d s4 ((N1.trans N).trans N4) D
  | true =>
    obtain ⟨lk, k, rfl, e, hk⟩ := hn hb
    show wpAny gM c.A _ _ _ s3
    refine att_sub (Subscript_ (att_name (ldn X3 hN o1 m1 ?_)))
    rw [← n77.1]
    refine C.att (a := .spc 1) (d := .spc 2) rfl X3.gd (VW1.mono N.KS) fun v s4 N4 V4 => ?_
    have X4 := X3.next N4
    refine item_is (P := fun s5 => s5 = s4) (d := .str lk) (ldn X4 hN o2 m2 ⟨VT1.mono (N.trans N4).KS, rfl⟩) rfl fun iv s5 s6 e5 N6 V6 => ?_
    subst e5
    have X6 := X4.next N6
    refine C.sget (a := .spc 2) (l := lk) e (fun _ _ => rfl) X6.gd (V4.mono N6.KS) V6 fun v7 s7 N7 V7 => ?_
    cases (show v7 = .ref (gD k) from V7)
    have X7 := X6.next N7
    obtain ⟨dm, a1, a2⟩ := (hW X7.gd.wf).rows hk
    exact attr_get X7.gd.kin a1 rfl K.aMet (h dm _ (((((N1.trans N).trans N4).trans N6).trans N7).trans (Next.toks _ _)) a2)
end
end Mine
namespace Mine
open PySem PySem.W PyProof.Rows PySem.Calls PySem.Spec PySem.SeqAt
noncomputable abbrev sFound : Str := Str.ofString "found"
theorem unfold1 {es : List Expr} {env : Env} {A : Around} {E : Value → Shared → Prop} {s : Shared} {e : Expr} {rest : List Expr} {q : Pos} {Q : List Value → Shared → Prop} (he : starEach (e :: rest) env = (false, eval e env) :: starEach rest env)
    (h : wpAny gM A (eval e env) (fun v s1 => wpAny gM A (spliced (backTo q (starEach rest env))) (fun vs s2 => Q (v :: vs) s2) E s1) E s) : wpAny gM A (spliced (backTo q (starEach (e :: rest) env))) Q E s := spliced_more h he
section
variable {base : Heap} {lf : List Env} {n : Nat} {c : Cx} {m : Str → Option Value} {s : Shared} {E Q : Value → Shared → Prop} {nms : List (Str × NameKind)} {T b : PV} {vW : Value} {ta : Addr} {Γ : Cfg}
/-- x, y = g(..), b -/
theorem asg_two (X : At n c fe0 m s) (hN : c.cs.names = nms) {x y : Str} (hx : nms.lookup x = some .local) (hy : nms.lookup y = some .local) {k k' : Nat} {px py pt p pv pos : Pos} {g b : Expr} {as : List Expr} {st : Stmt} (est : st = .Assign [.Tuple [.Name x px, .Name y py] k pt] (.Tuple [.Call g as [] p, b] k' pv) pos) (hl : px.line = py.line) (hne : (x == y) = false) (hne' : (y == x) = false) (hst : isSt b = false)
    (sb : starEach [b] c.env = [(false, eval b c.env)]) {Q : Flow → Shared → Prop}
    (h : wpAny gM c.A (eval (.Call g as [] p) c.env) (fun v1 s1 => wpAny gM c.A (eval b c.env) (fun v2 s2 => ∃ d1 d2, At n c fe0 m s2 ∧ gV s2.heap v1 d1 ∧ gV s2.heap v2 d2 ∧
      ∀ w1 w2 s3, NextL c.L s2 s3 → gV s3.heap w1 d1 → gV s3.heap w2 d2 → At n c fe0 (fun z => if z = x then some w1 else if z = y then some w2 else m z) s3 → Q .next s3) E s1) E s) :
    wpAny gM c.A (exec st c.env) Q E s := by
  subst est
  refine Assign_Tuple_swapped (names := [x, y]) (Tuple_ (spliced_more (wpAny_mono h (fun v1 s1 h1 => ?_) fun _ _ z => z) rfl)) rfl (swap_two X.S.nms.kind (by rw [← hN] at hx; exact hx) (by rw [← hN] at hy; exact hy) hl hne hne' hst)
  refine spliced_more (wpAny_mono h1 (fun v2 s2 h2 => ?_) fun _ _ z => z) sb
  refine spliced_none ?_
  obtain ⟨d1, d2, X2, V1, V2, hq⟩ := h2
  refine new_tup (ds := [d1, d2]) ⟨v1, [v2], rfl, V1, v2, [], rfl, V2, rfl⟩ rfl fun v s3 N3 V => ?_
  refine unpack_two (X2.next N3) V fun w1 w2 s4 N4 W1 W2 => ?_
  have X4 := (X2.next N3).next N4
  refine in_order2 (bindName_ (store_at X4 hN hy fun s5 N5 X5 => bindName_ (store_at X5 hN hx fun s6 N6 X6 => ?_)))
  have ks := N5.ks.trans N6.ks
  exact hq w1 w2 s6 (((NextL.of (N3.trans N4)).trans N5).trans N6) (W1.mono ks) (W2.mono ks) X6
/-- x.told, x an object -/
theorem told_at (K : KN) (X : At n c fe0 m s) (hN : c.cs.names = nms) {y : Str} (oy : okN nms y = true) {rc dR : Addr} {mR : Str → Option Value} (hm : m y = some (.ref rc)) (O : Ob s.heap rc 157 dR mR) (ht : mR sTold = some (.ref ta)) {p p' : Pos} (h : ∀ s', Next s s' → Q (.ref ta) s') :
    wpAny gM c.A (eval (.Attribute (.Name y p) sTold p') c.env) Q E s := att_name (ldn X hN oy hm (ob_get X.gd.kin O ht rfl K.aTold (h _ (Next.toks _ _))))
/-- world.base_of(e) -/
theorem base_call (C : CfgOK (GP P0)) (X : At (n + 8) c fe0 m s) (hN : c.cs.names = nms) (ow : okN nms sWorld = true) (hw : m sWorld = some vW) (VW : gV s.heap vW (.spc 1)) (hT : TF T b) {e : Expr} (se : starEach [e] c.env = [(false, eval e c.env)]) {p1 p2 p3 : Pos} (hp : p2.endLine = p3.line)
    (he : wpAny gM c.A (eval e c.env) (fun v s' => Next s s' ∧ gV s'.heap v T ∧ Po s' b Q) E s) : wpAny gM c.A (eval (.Call (.Attribute (.Name sWorld p1) sBase p2) [e] [] p3) c.env) Q E s := by
  rw [arm_eval_Call]
  show wpAny gM c.A (eval (.Name sWorld p1) c.env >>= _) Q E s
  refine wpAny_bind (ldn X hN ow hw (wpAny_bind (wpAny_standAt ?_)))
  unfold methodCall calleeOf methodCallPos
  have hf : methodCallForm ([e].length + ([] : List Keyword).length) (backTo p3 (starEach [e] c.env)) (backToKw p3 (keywordEach [] c.env)) = true := by
    rw [se]; rfl
  rw [hf]
  simp only [if_true, Bool.not_true, Bool.false_or, hp, beq_self_eq_true]
  have bm := fun {pl : Sem Bool} {Q : Value × List Value → Shared → Prop} {E : Value → Shared → Prop} (h : Q (.ref 612, [vW]) s) => C.met (a := .spc 1) (x := 29) (g := 612) (pl := pl) (E := E) rfl (A := c.A) X.gd VW h
  rw [n77.2] at bm
  obtain ⟨o, fd, o1, o2⟩ := (ev_ok C 8).isf hT.base
  refine wpAny_bind (wpAny_holding (bm (wpAny_bind (wpAny_pure (callWith_function (o := o) (fd := fd) (evalArgs_more (spliced_more (wpAny_mono he (fun v s1 h1 => spliced_none ?_) fun _ _ z => z) se) se))))))
  obtain ⟨N, V, hq⟩ := h1
  have X1 := X.next N
  refine ⟨⟨X1.gd.kin _ _ o1, o2⟩, CaOK.at ((ev_ok C 8).ca hT.base) (X1.less (Nat.le_add_left 8 n)) (vs := [vW, v]) ⟨_, _, rfl, VW.mono N.KS, _, _, rfl, V, rfl⟩ hq⟩
theorem o187 : okN nms187 sWorld = true ∧ okN nms187 sReached = true ∧ nms187.lookup (Str.ofString "base") = some .local ∧ nms187.lookup sFound = some .local ∧ okN nms187 (Str.ofString "base") = true ∧ okN nms187 sFound = true := ⟨by kernel_rfl, by kernel_rfl, by kernel_rfl, by kernel_rfl, by kernel_rfl, by kernel_rfl⟩
/-- embedded_in: nothing -/
theorem embedded_ok (Z : KF) (hW : ∀ {h}, gWF h → AdAt h gD) (K : KM) {A : Around} (P : Pl A base lf s.heap) (R : Room 12 A) (VW : gV s.heap vW (.spc 1)) (VT : gV s.heap (.ref ta) T) (hT : TF T b) {rc dR : Addr} {mR : Str → Option Value} (O : Ob s.heap rc 157 dR mR) (ht : mR sTold = some (.ref ta))
    (h : Po s (.lst []) Q) : wpAny gM A (call (.ref 187) [vW, .ref rc]) Q E s := by
  refine fn_enter (n := 7) K.i187 P (R.less (by decide)) (fun _ _ e => e) rfl rfl fun c s1 F hN h0 _ N1 => ?_
  have C : CfgOK (GP P0) := gp_ok Z hW (P := P0) p0_ok
  have X := F.X
  have m1 : bnd [sWorld, sReached] [] [vW, .ref rc] sWorld = some vW := by kernel_rfl
  have m2 : bnd [sWorld, sReached] [] [vW, .ref rc] sReached = some (.ref rc) := by kernel_rfl
  generalize bnd [sWorld, sReached] [] [vW, .ref rc] = m at X m1 m2
  clear F
  obtain ⟨o1, o2, o3, o4, o5, o6⟩ := o187
  obtain ⟨l, r, lb, rb, -, rfl, hst, -, -⟩ := id hT.go
  unfold body187
  refine wpAny_execs_cons (asg_two X hN o3 o4 (st := b187_0) rfl rfl (by decide +kernel) (by decide +kernel) rfl rfl ?_)
  refine base_call (n := 1) C X hN o1 m1 (VW.mono N1.KS) hT rfl rfl (told_at K.K X hN o2 m2 (O.keeps N1.heap) ht fun s2 N2 => ⟨N2, VT.mono (N1.trans N2).KS, fun v1 s3 N3 V1 => ?_⟩)
  have X3 := (X.next N2).next N3
  refine (r_zero 1).ex (e := .lst [] _) (d := .lst []) rfl (X3.less (by decide)) fun v2 s4 N4 V2 => ⟨_, _, X.next ((N2.trans N3).trans N4), V1.mono N4.KS, V2, fun w1 w2 s5 N5 W1 W2 X5 => ?_⟩
  unfold b187_1 b187_2
  refine wpAny_execs_cons (wpAny_If (tag_is (P := fun s6 => s6 = s5) (ldn X5 hN o5 (if_pos rfl) ⟨W1, rfl⟩) fun s6 s7 e N7 => ?_))
  subst e
  rw [hst]
  refine wpAny_execs_nil (wpAny_execs_cons (wpAny_Return_some (ldn (X5.next N7) hN o6 ((if_neg (by decide +kernel)).trans (if_pos rfl)) (h w2 s7 ?_ (W2.mono N7.KS)))))
  exact back h0 N1 ((NextL.of ((N2.trans N3).trans N4)).trans (N5.trans (NextL.of N7))) (X5.next N7).F
end
end Mine
namespace Mine
open PySem PySem.W PyProof.Rows PySem.Calls PySem.Spec PySem.SeqAt
noncomputable abbrev tLv : Str := Str.ofString "Reached"
/-- the levels as they stand -/
structure LvF (h : Heap) (lv dL dS la : Addr) (vW : Value) : Prop where
  ob : ∃ mL ns, Ob h lv 211 dL mL ∧ mL sWorld = some vW ∧ mL sHere = some (.ref la) ∧ mL sSeen = some (.ref dS) ∧ Within mL ns ∧ ns.length ≤ 4 ∧ mL sGo = none
  seen : ∃ kvs, DictIs h dS kvs ∧ kvs.length ≤ 2
  ne : dL ≠ dS
structure RcF (h : Heap) (la rc dR ta : Addr) : Prop where
  ob : ∃ mR, Ob h rc 157 dR mR ∧ mR sTold = some (.ref ta)
  lst : h.IsList la #[.ref rc]
theorem RcF.to {h h' : Heap} {la rc dR ta : Addr} (R : RcF h la rc dR ta) (k1 : ∀ o, h.get? rc = some o → h'.get? rc = some o) (k2 : ∀ o, h.get? dR = some o → h'.get? dR = some o) (k3 : ∀ o, h.get? la = some o → h'.get? la = some o) : RcF h' la rc dR ta := by
  obtain ⟨⟨mR, O, t⟩, l⟩ := R
  exact ⟨⟨mR, O.to k1 k2, t⟩, l.at k3⟩
theorem RcF.has {h : Heap} {la rc dR ta : Addr} (R : RcF h la rc dR ta) : (∃ o, h.get? rc = some o) ∧ (∃ o, h.get? dR = some o) ∧ ∃ o, h.get? la = some o := by
  obtain ⟨⟨mR, O, t⟩, ⟨o, e, _⟩⟩ := R
  exact ⟨⟨_, O.obj⟩, O.inD, o, e⟩
/-- no two of the levels' parts are one -/
structure Dis (dL dS la rc dR : Addr) : Prop where
  a1 : dL ≠ rc
  a2 : dL ≠ dR
  a3 : dL ≠ la
  b1 : dS ≠ rc
  b2 : dS ≠ dR
  b3 : dS ≠ la
structure LvAt (s s' : Shared) (lv dL dS la rc dR ta : Addr) (vW : Value) : Prop where
  next : Next s s'
  nv : s.heap.get? lv = none
  nL : s.heap.get? dL = none
  nS : s.heap.get? dS = none
  na : s.heap.get? la = none
  nr : s.heap.get? rc = none
  nR : s.heap.get? dR = none
  hr : RcF s'.heap la rc dR ta
  hl : LvF s'.heap lv dL dS la vW
  dis : Dis dL dS la rc dR
  ne : lv ≠ dS
section
variable {base : Heap} {lf : List Env} {n : Nat} {c : Cx} {m : Str → Option Value} {s : Shared} {E Q : Value → Shared → Prop} {nms : List (Str × NameKind)} {T b : PV} {vW : Value} {ta : Addr}
theorem ok201 {vW vT : Value} (x : Addr) : bnd ps201 [] (.ref x :: [vW, vT]) sSelf = some (.ref x) ∧ bnd ps201 [] (.ref x :: [vW, vT]) sTold = some vT ∧ bnd ps201 [] (.ref x :: [vW, vT]) sWorld = some vW ∧ okN nms201 sSelf = true ∧ okN nms201 sTold = true ∧ okAS nms201 at201 (bnd ps201 [] (.ref x :: [vW, vT])) as201a = true ∧ nms201.lookup (Str.ofString "Reached") = some .globalImplicit := ⟨by kernel_rfl, by kernel_rfl, by kernel_rfl, by kernel_rfl, by kernel_rfl, by kernel_rfl, by kernel_rfl⟩
theorem ok154 {a b : Value} (x : Addr) : bnd ps154 [] (.ref x :: [a, b]) sSelf = some (.ref x) ∧ (okN nms154 sSelf && okAS nms154 at154 (bnd ps154 [] (.ref x :: [a, b])) as154) = true := ⟨by kernel_rfl, by kernel_rfl⟩
theorem in201 : sHere ∈ at201 ∧ sSeen ∈ at201 ∧ sHere ≠ sWorld ∧ sSeen ≠ sWorld ∧ sSeen ≠ sHere ∧ lastK sTold as154 = some (.loc sTold) ∧ lastK sWorld as201a = some (.loc sWorld) ∧ lastK sGo as201a = none ∧ sGo ≠ sHere ∧ sGo ≠ sSeen := ⟨by decide +kernel, by decide +kernel, by decide +kernel, by decide +kernel, by decide +kernel, by kernel_rfl, by kernel_rfl, by kernel_rfl, by decide +kernel, by decide +kernel⟩
/-- Reached(told, ()) -/
theorem reached_ok (K : KN) {A : Around} (P : Pl A base lf s.heap) (R : Room (n + 4) A) {v2 : Value} (h : ∀ s' x dx, Next s s' → s.heap.get? x = none → s.heap.get? dx = none → (∃ mR, Ob s'.heap x 157 dx mR ∧ mR sTold = some (.ref ta)) → Q (.ref x) s') : wpAny gM A (call (.ref 157) [.ref ta, v2]) Q E s := by
  refine class_ok K.c157 K.i154 P R rfl (by decide) (fun x => ok154 x) fun s' x dx mA N nx nd O Rl => ?_
  obtain ⟨v, e1, e2⟩ := (Rl.get (h := s'.heap) (fun _ _ _ e => e) (y := sTold)).1 in201.2.2.2.2.2.1
  exact h s' x dx N nx nd ⟨mA, O, e1.trans (show some (Value.ref ta) = some v from e2).symm⟩
/-- Levels(world, told) -/
theorem levels_ok (K : KL) {A : Around} (P : Pl A base lf s.heap) (R : Room (n + 8) A) (h : ∀ s' lv dL dS la rc dR, LvAt s s' lv dL dS la rc dR ta vW → Q (.ref lv) s') : wpAny gM A (call (.ref 211) [vW, .ref ta]) Q E s := by
  refine class_enter (n := n + 4) K.c211 K.i201 P R rfl fun c s1 x dx F => ?_
  obtain ⟨hs, mT, mW, hN, oT, ok1, kR⟩ := ok201 (vW := vW) (vT := .ref ta) x
  obtain ⟨i1, i2, n1, n2, n3, -, l1, l2, g1, g2⟩ := in201
  generalize bnd ps201 [] (.ref x :: [vW, .ref ta]) = m at F hs mT mW ok1
  have len1 : as201a.length = 1 := rfl
  unfold st201 as201b
  generalize as201a = la1 at ok1 l1 l2 len1 ⊢
  refine inits_ok K.c211 F.N hs hN F.L F.h0 (ns := []) ok1 F.X F.O Within.nil (by rw [len1]; decide) fun s2 mA N2 X2 O2 hw2 R2 => ?_
  obtain ⟨ns2, hw2, hl2⟩ := hw2
  have lW : mA sWorld = some vW := by
    obtain ⟨v, e1, e2⟩ := (R2.get (h := s2.heap) (fun _ _ _ e => e) (y := sWorld)).1 l1
    exact e1.trans ((show m sWorld = some v from e2).symm.trans mW)
  have lG : mA sGo = none := (R2.get (h := s2.heap) (fun _ _ _ e => e) (y := sGo)).2 l2
  refine wpAny_execs_cons (plainObj_wpAny_Assign_Attribute (List_ (spliced_more (glob_call K.M.K.gReached X2 (by rw [F.N]; exact kR) (spliced_more (ldn X2 F.N oT mT (spliced_more ((r_zero 2).ex (e := .tup [] 0 _) (d := .tup []) rfl (X2.less (Nat.le_add_left 2 _)) fun v s3 N3 V3 => spliced_none ⟨N3.heap, reached_ok (n := n + 2) K.M.K (F.fm (X2.next N3)).pl X2.S.room fun s4 rc dR N4 nrc ndR OR => ?_⟩) rfl)) rfl) rfl rfl) rfl)) rfl)
  have X4 := (X2.next N3).next N4
  refine spliced_none (wpAny_newList ?_ (by show 1 ≤ _; decide))
  have N5 : Next s4 { s4 with heap := s4.heap.push { cls := .type "list", data := .seq ([Value.ref rc] : List Value).toArray } } := Next.push _ _
  have X5 := X4.next N5
  have N25 := (N3.trans N4).trans N5
  have RC : RcF (s4.heap.push { cls := .type "list", data := .seq ([Value.ref rc] : List Value).toArray }) s4.heap.objs.size rc dR ta := ⟨let ⟨mR, O, t⟩ := OR; ⟨mR, O.keeps N5.heap, t⟩, ⟨_, Heap.get?_push_size _ rfl, rfl, _, rfl⟩⟩
  have nla : s4.heap.get? s4.heap.objs.size = none := Heap.get?_none_of_le (Nat.le_refl _)
  generalize s4.heap.objs.size = la at RC nla ⊢
  generalize hs5 : ({ s4 with heap := s4.heap.push { cls := .type "list", data := .seq ([Value.ref rc] : List Value).toArray } } : Shared) = s5 at N5 X5 N25 ⊢
  replace RC : RcF s5.heap la rc dR ta := by rw [← hs5]; exact RC
  clear hs5
  have O5 := O2.keeps N25.heap
  have hd2 : ∃ o, s2.heap.get? dx = some o := O2.inD
  have hd4 : ∃ o, s4.heap.get? dx = some o := let ⟨o, e⟩ := hd2; ⟨o, N4.heap _ _ (N3.heap _ _ e)⟩
  have hd3 : ∃ o, s3.heap.get? dx = some o := let ⟨o, e⟩ := hd2; ⟨o, N3.heap _ _ e⟩
  have d1 : rc ≠ dx := let ⟨o, e⟩ := hd3; ne_new nrc e
  have d2 : dR ≠ dx := let ⟨o, e⟩ := hd3; ne_new ndR e
  have d3 : la ≠ dx := let ⟨o, e⟩ := hd4; ne_new nla e
  -- self.here = ..
  refine ldn X5 F.N hN hs (set_ob K.c211 i1 X5.gd.kin O5 hw2 (by rw [hl2, len1]; decide) fun h6 tk6 O6 sb6 => ?_)
  obtain ⟨oD, esD, epD, hoD, hdD, _⟩ := O5.ns
  have N6 : NextL dx s5 { s5 with heap := h6, toks := tk6 } := ⟨fun b o ne e => (sb6.2 b ne).trans e, ks_dict hoD hdD sb6, rfl, rfl, rfl⟩
  have X6 : At (n + 4 + 2) c fe0 m { s5 with heap := h6, toks := tk6 } := ⟨X5.S, X5.F.change sb6 F.L.symm F.h0, lrel0⟩
  generalize hs6 : ({ s5 with heap := h6, toks := tk6 } : Shared) = s6 at N6 X6 ⊢
  replace O6 : Ob s6.heap x 211 dx (fun y => if y = sHere then some (.ref la) else mA y) := by rw [← hs6]; exact O6
  clear hs6 sb6
  -- self.seen = {}
  refine wpAny_execs_cons (plainObj_wpAny_Assign_Attribute (dict0_new X6 fun dS s7 N7 D7 nS => ?_) rfl)
  have X7 := X6.next N7
  have O7 := O6.keeps N7.heap
  have d4 : dS ≠ dx := let ⟨o, e⟩ := O6.inD; ne_new nS e
  refine ldn X7 F.N hN hs (set_ob K.c211 i2 X7.gd.kin O7 (Within.cons _ _ hw2) (by rw [List.length_cons, hl2, len1]; decide) fun h8 tk8 O8 sb8 => ?_)
  obtain ⟨oE, esE, epE, hoE, hdE, _⟩ := O7.ns
  have N8 : NextL dx s7 { s7 with heap := h8, toks := tk8 } := ⟨fun b o ne e => (sb8.2 b ne).trans e, ks_dict hoE hdE sb8, rfl, rfl, rfl⟩
  have kN : NextL dx s1 { s7 with heap := h8, toks := tk8 } := (((N2.trans (NextL.of N25)).trans N6).trans (NextL.of N7)).trans N8
  have k57 : NextL dx s5 { s7 with heap := h8, toks := tk8 } := (N6.trans (NextL.of N7)).trans N8
  have R6 : RcF s6.heap la rc dR ta := RC.to (fun o => N6.heap _ o d1) (fun o => N6.heap _ o d2) (fun o => N6.heap _ o d3)
  have z6 := R6.has
  have old : ∀ {b o}, s.heap.get? b = some o → b ≠ dx := fun e z => by rw [z, F.ndx] at e; cases e
  have k23 : ∀ {b}, s2.heap.get? b = none → s.heap.get? b = none := fun {b} nb => by
    cases q : s.heap.get? b with
    | none => rfl
    | some o => have := N2.heap _ o (old q) (F.next.heap _ o q); rw [nb] at this; cases this
  have k3 : ∀ {b}, s3.heap.get? b = none → s.heap.get? b = none := fun nb => k23 (none_back N3.heap nb)
  refine wpAny_execs_nil ⟨rfl, h _ x dx dS la rc dR ⟨⟨fun b o e => kN.heap b o (old e) (F.next.heap b o e), kN.gens.trans F.next.gens, kN.drawn.trans F.next.drawn, kN.os.trans F.next.os⟩, F.nx, F.ndx, ?_, k3 (none_back N4.heap nla), k3 nrc, k3 ndR, (RC.to (fun o => k57.heap _ o d1) (fun o => k57.heap _ o d2) (fun o => k57.heap _ o d3)),
    ⟨⟨_, _, O8, (if_neg n2.symm).trans ((if_neg n1.symm).trans lW), (if_neg n3.symm).trans (if_pos rfl), if_pos rfl, Within.cons _ _ (Within.cons _ _ hw2), by rw [List.length_cons, List.length_cons, hl2, len1]; decide, (if_neg g2).trans ((if_neg g1).trans lG)⟩, ⟨[], D7.sameBut fun o e => N8.heap _ o d4 e, Nat.zero_le _⟩, d4.symm⟩, ⟨d1.symm, d2.symm, d3.symm, ?_, ?_, ?_⟩, ?_⟩⟩
  · cases q : s.heap.get? dS with
    | none => rfl
    | some o =>
      have := N6.heap _ o (old q) (N25.heap _ o (N2.heap _ o (old q) (F.next.heap _ o q)))
      rw [nS] at this; cases this
  · obtain ⟨o, e⟩ := z6.1; exact ne_new nS e
  · obtain ⟨o, e⟩ := z6.2.1; exact ne_new nS e
  · obtain ⟨o, e⟩ := z6.2.2; exact ne_new nS e
  · exact (ne_new nS O6.obj).symm
end
end Mine
namespace Mine
open PySem PySem.W PyProof.Rows PySem.Calls PySem.Spec PySem.SeqAt
noncomputable abbrev sLater : Str := Str.ofString "later"
section
variable {base : Heap} {lf : List Env} {n : Nat} {c : Cx} {m : Str → Option Value} {s : Shared} {E Q : Value → Shared → Prop} {nms : List (Str × NameKind)} {T b : PV} {vW : Value} {ta : Addr} {lv dL dS la rc dR : Addr}
theorem o208 : okN nms208 sSelf = true ∧ okN nms208 sReached = true ∧ nms208.lookup sReached = some .local ∧ nms208.lookup sLater = some .local ∧ okN nms208 sLater = true ∧ nms208.lookup (Str.ofString "embedded_in") = some .globalImplicit ∧ sSelf ≠ sReached ∧ sSelf ≠ sLater ∧ sLater ≠ sReached := ⟨by kernel_rfl, by kernel_rfl, by kernel_rfl, by kernel_rfl, by kernel_rfl, by kernel_rfl, by decide +kernel, by decide +kernel, by decide +kernel⟩
theorem n_next {p : Addr → Prop} {s s' : Shared} (N : NextP p s s') : ∀ {b o}, p b → s.heap.get? b = some o → s'.heap.get? b = some o := fun q e => N.heap _ _ q e
/-- the levels' facts, but for what is kept -/
theorem LvF.to {h h' : Heap} (L : LvF h lv dL dS la vW) (k1 : ∀ o, h.get? lv = some o → h'.get? lv = some o) (k2 : ∀ o, h.get? dL = some o → h'.get? dL = some o) (k3 : ∀ o, h.get? dS = some o → h'.get? dS = some o) : LvF h' lv dL dS la vW := by
  obtain ⟨⟨mL, ns, O, r⟩, ⟨kvs, D, l⟩, ne⟩ := L
  exact ⟨⟨mL, ns, O.to k1 k2, r⟩, ⟨kvs, D.sameBut k3, l⟩, ne⟩
/-- the levels, but for what is seen -/
def LvO (h : Heap) (lv dL dS la : Addr) (vW : Value) : Prop := ∃ mL ns, Ob h lv 211 dL mL ∧ mL sWorld = some vW ∧ mL sHere = some (.ref la) ∧ mL sSeen = some (.ref dS) ∧ Within mL ns ∧ ns.length ≤ 4 ∧ mL sGo = none
theorem LvO.to {h h' : Heap} (L : LvO h lv dL dS la vW) (k1 : ∀ o, h.get? lv = some o → h'.get? lv = some o) (k2 : ∀ o, h.get? dL = some o → h'.get? dL = some o) : LvO h' lv dL dS la vW := by
  obtain ⟨mL, ns, O, r⟩ := L
  exact ⟨mL, ns, O.to k1 k2, r⟩
/-- an attribute of the levels -/
theorem here_at (K : KL) (X : At n c fe0 m s) (hN : c.cs.names = nms) {y : Str} (oy : okN nms y = true) (hm : m y = some (.ref lv)) (L : LvO s.heap lv dL dS la vW) {p p' : Pos} (h : ∀ s', Next s s' → Q (.ref la) s') : wpAny gM c.A (eval (.Attribute (.Name y p) sHere p') c.env) Q E s := by
  obtain ⟨mL, ns, O, a, b, c, d⟩ := L
  exact att_name (ldn X hN oy hm (ob_get X.gd.kin O b rfl K.aHere (h _ (Next.toks _ _))))
/-- the first loop of go_on -/
theorem go_seen (K : KL) (X : At (n + 2) c fe0 m s) (hN : c.cs.names = nms208) (hm : m sSelf = some (.ref lv)) (L : LvF s.heap lv dL dS la vW) (RC : RcF s.heap la rc dR ta) (D : Dis dL dS la rc dR) (VT : gV s.heap (.ref ta) T) (hT : TF T b) (neS : dS ≠ c.L) (hS : c.h₀.get? dS = none) (neA : la ≠ c.L)
    (hL : lv ≠ c.L ∧ rc ≠ c.L ∧ dR ≠ c.L ∧ dL ≠ c.L ∧ lv ≠ dS) {Q : Flow → Shared → Prop}
    (h : ∀ m' s', NextP (fun b => b ≠ c.L ∧ b ≠ dS) s s' → At (n + 2) c fe0 m' s' → m' sSelf = some (.ref lv) → Q .next s') : wpAny gM c.A (exec b208_0 c.env) Q E s := by
  obtain ⟨o1, o2, o3, o4, o5, o6, e1, e2, e3⟩ := o208
  unfold b208_0
  refine for_one (p := fun b => b ≠ c.L ∧ b ≠ dS) (n := n + 2) X.S.room.hand hN o3 (fun _ => rfl) (here_at K X hN o1 hm L.ob fun s2 N2 => ⟨la, .ref rc, m, rfl, RC.lst.at fun o e => N2.heap _ _ e, ⟨neA, D.b3.symm⟩, X.next N2, fun a na => ⟨?_, ?_⟩, fun b z => z.1, fun s3 N3 X3 => ?_⟩)
  · obtain ⟨o, _, _, e, _⟩ := (X.next N2).F.ns
    exact ne_new na e
  · obtain ⟨kvs, ⟨o, e, _⟩, _⟩ := L.seen
    exact ne_new na (N2.heap _ _ e)
  have m1 : (fun z => if z = sReached then some (Value.ref rc) else m z) sSelf = some (.ref lv) := (if_neg e1).trans hm
  have m2 : (fun z => if z = sReached then some (Value.ref rc) else m z) sReached = some (.ref rc) := if_pos rfl
  generalize (fun z => if z = sReached then some (Value.ref rc) else m z) = m' at X3 m1 m2
  obtain ⟨mR, OR, ht⟩ := RC.ob
  have OR3 : Ob s3.heap rc 157 dR mR := (OR.keeps N2.heap).to (fun o => N3.heap _ o hL.2.1) fun o => N3.heap _ o hL.2.2.1
  have VT3 := (VT.mono N2.KS).mono N3.ks
  have fin : ∀ {s6 : Shared} {q : Flow → Shared → Prop}, NextP (fun b => b ≠ c.L ∧ b ≠ dS) s3 s6 → At (n + 2) c fe0 m' s6 → (q = fun fl s3_1 => fl = .next ∧ NextP (fun b => b ≠ c.L ∧ b ≠ dS) s3 s3_1 ∧ ∃ m', At (n + 2) c fe0 m' s3_1 ∧ ∀ s4, NextP (fun b => b ≠ c.L ∧ b ≠ dS) s2 s4 → At (n + 2) c fe0 m' s4 → Q .next s4) → q .next s6 := fun {s6 q} N X e => by
    subst e
    exact ⟨rfl, N, m', X, fun s4 N4 X4 => h m' s4 ((NextP.of N2).trans N4) X4 m1⟩
  obtain ⟨l, r, lb, rb, rfl, -, -, -, hn⟩ := hT.go
  refine wpAny_execs_cons (wpAny_If (tag_is (P := fun s4 => Next s3 s4) (told_at K.M.K X3 hN o2 m2 OR3 ht fun s4 N4 => ⟨VT3.mono N4.KS, N4⟩) fun s4 s5 N4 N5 => ?_))
  have N35 := N4.trans N5
  have X5 := X3.next N35
  cases hb : (mkStr l == wNamed) with
  | false => exact wpAny_execs_nil (wpAny_execs_nil (fin (NextP.of N35) X5 rfl))
  | true =>
    obtain ⟨lk, k, rfl, -, -⟩ := hn hb
    have L5 : LvF s5.heap lv dL dS la vW := L.to (fun o e => N35.heap _ o (N3.heap _ o hL.1 (N2.heap _ o e))) (fun o e => N35.heap _ o (N3.heap _ o hL.2.2.2.1 (N2.heap _ o e))) fun o e => N35.heap _ o (N3.heap _ o neS (N2.heap _ o e))
    obtain ⟨⟨mL, ns, OL, -, -, hs, -, -⟩, ⟨kvs, DS, hk⟩, -⟩ := L5
    refine wpAny_execs_cons (wpAny_Assign_Subscript (wpAny_pure (att_name (ldn X5 hN o1 m1 (ob_get X5.gd.kin OL hs rfl K.aSeen (item_is (P := fun s4 => Next s5 s4) (a := .tup [.str l, .str lk]) (d := .str lk) (told_at K.M.K (X5.next (Next.toks s5 (s5.toks + 1))) hN o2 m2 (OR3.keeps N35.heap) ht fun s6 N6 => ⟨VT3.mono (N35.trans ((Next.toks s5 (s5.toks + 1)).trans N6)).KS, (Next.toks s5 (s5.toks + 1)).trans N6⟩) rfl fun iv s6 s7 N6 N7 V7 => ?_))))) rfl)
    obtain ⟨t, rfl⟩ := V7
    have N57 := N6.trans N7
    have X7 := X5.next N57
    obtain ⟨o, a, b, e⟩ := DS.keeps N57.heap
    have DD : s7.heap.DictOf (PySem.strKind PRG gu.w) dS kvs := Heap.dictOf_iff.mpr ⟨o, a, b⟩
    refine wpAny_setItem_pairs (knd := PySem.strKind PRG gu.w) (strKind_is PRG gu.w (mkStr lk) t) DD (fun h' D' sb => ?_) (Nat.le_trans hk (by decide))
    obtain ⟨od, es, ep, ho, hx, hd, _⟩ := DD
    refine wpAny_execs_nil (wpAny_execs_nil (fin (s6 := { s7 with heap := h', toks := s7.toks + 1 }) ((NextP.of (N35.trans N57)).trans ⟨fun b o n e => (sb.2 b n.2).trans e, ks_dict ho hd sb, rfl, rfl, rfl⟩) ⟨X7.S, X7.F.change sb neS hS, lrel0⟩ rfl))
/-- the second loop of go_on: nothing is embedded -/
theorem go_later (Z : KF) (hW : ∀ {h}, gWF h → AdAt h gD) (K : KL) (F : Fm base lf (n + 12) c fe0 m s) (hN : c.cs.names = nms208) (hm : m sSelf = some (.ref lv)) (L : LvO s.heap lv dL dS la (.ref (gD 1))) (RC : RcF s.heap la rc dR ta) (VT : gV s.heap (.ref ta) T) (hT : TF T b) (neA : la ≠ c.L)
    (hL : lv ≠ c.L ∧ rc ≠ c.L ∧ dR ≠ c.L ∧ dL ≠ c.L) {Q : Flow → Shared → Prop} {l2 : Addr} (hl : m sLater = some (.ref l2))
    (h : ∀ m' s', NextP (fun b => b ≠ c.L) s s' → At (n + 12) c fe0 m' s' → m' sSelf = some (.ref lv) → m' sLater = some (.ref l2) → Q .next s') : wpAny gM c.A (exec b208_2 c.env) Q E s := by
  obtain ⟨o1, o2, o3, o4, o5, o6, e1, e2, e3⟩ := o208
  have X := F.X
  unfold b208_2
  refine for_one (p := fun b => b ≠ c.L) (n := n + 12) X.S.room.hand hN o3 (fun _ => rfl) (here_at K X hN o1 hm L fun s2 N2 => ⟨la, .ref rc, m, rfl, RC.lst.at fun o e => N2.heap _ _ e, neA, X.next N2, fun a na => ?_, fun b z => z, fun s3 N3 X3 => ?_⟩)
  · obtain ⟨o, _, _, e, _⟩ := (X.next N2).F.ns
    exact ne_new na e
  have m1 : (fun z => if z = sReached then some (Value.ref rc) else m z) sSelf = some (.ref lv) := (if_neg e1).trans hm
  have m2 : (fun z => if z = sReached then some (Value.ref rc) else m z) sReached = some (.ref rc) := if_pos rfl
  have m3 : (fun z => if z = sReached then some (Value.ref rc) else m z) sLater = some (.ref l2) := (if_neg e3).trans hl
  generalize (fun z => if z = sReached then some (Value.ref rc) else m z) = m' at X3 m1 m2 m3
  obtain ⟨mR, OR, ht⟩ := RC.ob
  have OR3 : Ob s3.heap rc 157 dR mR := (OR.keeps N2.heap).to (fun o => N3.heap _ o hL.2.1) fun o => N3.heap _ o hL.2.2.1
  have VT3 := (VT.mono N2.KS).mono N3.ks
  obtain ⟨mL, ns, OL, hw, -⟩ : LvO s3.heap lv dL dS la (.ref (gD 1)) := L.to (fun o e => N3.heap _ o hL.1 (N2.heap _ o e)) fun o e => N3.heap _ o hL.2.2.2 (N2.heap _ o e)
  refine wpAny_execs_cons (for_none (d := .lst []) X.S.room.hand (fun _ => rfl) rfl (glob_call K.M.gEmb X3 (by rw [hN]; exact o6) (spliced_more (att_name (ldn X3 hN o1 m1 (ob_get X3.gd.kin OL hw rfl K.aWorld (spliced_more (ldn (X3.next (Next.toks s3 (s3.toks + 1))) hN o2 m2 (spliced_none ⟨fun b o e => e, ?_⟩)) rfl)))) rfl) rfl rfl))
  have X4 := X3.next (Next.toks s3 (s3.toks + 1))
  refine embedded_ok Z hW K.M (T := T) (b := b) (F.at X4).pl (X4.S.room.less (Nat.le_add_left _ _)) rfl VT3 hT OR3 ht fun v s5 N5 V5 => ⟨V5, fun h' hk => ?_⟩
  have N6 : Next s3 { s5 with heap := h' } := ((Next.toks s3 (s3.toks + 1)).trans N5).trans ⟨hk, rfl, rfl, rfl⟩
  exact wpAny_execs_nil ⟨rfl, NextP.of N6, m', X3.next N6, fun s7 N7 X7 => h m' s7 ((NextP.of N2).trans N7) X7 m1 m3⟩
theorem in208 : sHere ∈ at201 := by decide +kernel
/-- levels.go_on() -/
theorem go_on_ok (Z : KF) (hW : ∀ {h}, gWF h → AdAt h gD) (K : KL) {A : Around} (P : Pl A base lf s.heap) (R : Room 16 A) (b1 : base.get? dL = none) (b2 : base.get? dS = none) (f1 : dL ∉ framesOf lf) (f2 : dS ∉ framesOf lf) (VT : gV s.heap (.ref ta) T) (hT : TF T b) (L : LvF s.heap lv dL dS la (.ref (gD 1))) (RC : RcF s.heap la rc dR ta) (D : Dis dL dS la rc dR) (hlS : lv ≠ dS)
    (h : ∀ s', NextP (fun b => b ≠ dL ∧ b ≠ dS) s s' → (∃ mL l2, Ob s'.heap lv 211 dL mL ∧ mL sHere = some (.ref l2) ∧ s'.heap.IsList l2 #[]) → Q .none s') : wpAny gM A (call (.ref 208) [.ref lv]) Q E s := by
  refine fn_enter (n := 12) K.i208 ((P.hide b1 f1).hide b2 f2) (R.less (by decide)) (fun b o e => Heap.of_hide (Heap.of_hide e)) ((Heap.hide_size _ _).trans (Heap.hide_size _ _)) rfl fun c s1 F hN h0 hcL N1 => ?_
  have X := F.X
  have hS : c.h₀.get? dS = none := by rw [h0]; exact Heap.hide_self _ _
  have hD : c.h₀.get? dL = none := by rw [h0, Heap.hide_ne _ L.ne]; exact Heap.hide_self _ _
  have old : ∀ {b o}, s.heap.get? b = some o → b ≠ c.L := fun e => by rw [hcL]; exact Nat.ne_of_lt (Heap.lt_size e)
  obtain ⟨⟨o1, e1⟩, ⟨o2, e2⟩, o3, e3⟩ := RC.has
  obtain ⟨⟨mL, ns, OL, -⟩, ⟨kvs, ⟨o5, e5, -⟩, -⟩, -⟩ := id L
  obtain ⟨o4, e4⟩ := OL.inD
  have n1 := old e1
  have n2 := old e2
  have n3 := old e3
  have n4 := old e4
  have n5 := old e5
  have n6 := old OL.obj
  have m1 : bnd [sSelf] [] [.ref lv] sSelf = some (.ref lv) := by kernel_rfl
  generalize bnd [sSelf] [] [.ref lv] = m at X m1
  replace F := F.at X
  obtain ⟨p1, p2, p3, p4, p5, p6, q1, q2, q3⟩ := o208
  unfold body208
  have RC1 : RcF s1.heap la rc dR ta := RC.to (fun o => N1.heap _ o) (fun o => N1.heap _ o) fun o => N1.heap _ o
  have L1 : LvF s1.heap lv dL dS la (.ref (gD 1)) := L.to (fun o => N1.heap _ o) (fun o => N1.heap _ o) fun o => N1.heap _ o
  refine wpAny_execs_cons (go_seen (n := 12) K X hN m1 L1 RC1 D (VT.mono N1.KS) hT n5 hS n3 ⟨n6, n1, n2, n4, hlS⟩ fun m2 s2 N2 X2 hm2 => ?_)
  have p2 : ∀ {b o}, b ≠ c.L → b ≠ dS → s.heap.get? b = some o → s2.heap.get? b = some o := fun x y e => N2.heap _ _ ⟨x, y⟩ (N1.heap _ _ e)
  have N12 : NextP (fun b => b ≠ dL ∧ b ≠ dS) s s2 := ⟨fun b o z e => p2 (old e) z.2 e, N1.KS.trans N2.ks, N2.gens.trans N1.gens, N2.drawn.trans N1.drawn, N2.os.trans N1.os⟩
  refine wpAny_execs_cons (wpAny_Assign_Name ((r_zero 2).ex (e := .lst [] _) (d := .lst []) rfl (X2.less (Nat.le_add_left 2 _)) fun v s3 N3 V3 => store_at (X2.next N3) hN p4 fun s4 N4 X4 => ?_) rfl)
  obtain ⟨l2, ⟨vs⟩, rfl, I2, hv⟩ := V3
  cases (show vs = [] from hv)
  have m4 : (fun z => if z = sLater then some (Value.ref l2) else m2 z) sSelf = some (.ref lv) := (if_neg q2).trans hm2
  have m5 : (fun z => if z = sLater then some (Value.ref l2) else m2 z) sLater = some (.ref l2) := if_pos rfl
  generalize (fun z => if z = sLater then some (Value.ref l2) else m2 z) = m3 at X4 m4 m5
  have nl : l2 ≠ c.L := fun z => by
    obtain ⟨o, es, ep, e, hd, _⟩ := (X2.next N3).F.ns
    obtain ⟨o', e', _, j, d'⟩ := I2
    rw [z, e] at e'; cases some_inj e'; rw [hd] at d'; cases d'
  have p4' : ∀ {b o}, b ≠ c.L → b ≠ dS → s.heap.get? b = some o → s4.heap.get? b = some o := fun x y e => N4.heap _ _ x (N3.heap _ _ (p2 x y e))
  have N24 := (NextL.of N3).trans N4
  refine wpAny_execs_cons (go_later (n := 2) Z hW K (F.at X4) hN m4 (LvO.to L.ob (fun o e => p4' n6 hlS e) fun o e => p4' n4 L.ne e) (RC.to (fun o e => p4' n1 D.b1.symm e) (fun o e => p4' n2 D.b2.symm e) fun o e => p4' n3 D.b3.symm e) ((VT.mono N12.ks).mono N24.ks) hT n3 ⟨n6, n1, n2, n4⟩ m5 fun m6 s6 N6 X6 h6 h7 => ?_)
  have I6 := I2.at fun o e => N6.heap _ o nl (N4.heap _ o nl e)
  obtain ⟨mL6, ns6, O6, -, -, -, hw6, hl6⟩ : LvO s6.heap lv dL dS la (.ref (gD 1)) := LvO.to L.ob (fun o e => N6.heap _ o n6 (p4' n6 hlS e)) fun o e => N6.heap _ o n4 (p4' n4 L.ne e)
  refine wpAny_execs_cons (plainObj_wpAny_Assign_Attribute (ldn X6 hN p5 h7 (ldn X6 hN p1 h6 (set_ob K.c211 in208 X6.gd.kin O6 hw6 (Nat.le_trans hl6.1 (by decide)) fun h' tk' O7 sb => wpAny_execs_nil ?_))) rfl)
  have nlD : l2 ≠ dL := fun z => by
    obtain ⟨o, es, ep, e, hd, _⟩ := O6.ns
    obtain ⟨o', e', _, j, d'⟩ := I6
    rw [z, e] at e'; cases some_inj e'; rw [hd] at d'; cases d'
  obtain ⟨oD, esD, epD, hoD, hdD, _⟩ := O6.ns
  refine h _ ⟨fun b o z e => (sb.2 b z.1).trans (N6.heap _ _ (old e) (p4' (old e) z.2 e)), ((N12.ks.trans N24.ks).trans N6.ks).trans (ks_dict hoD hdD sb), N6.gens.trans (N24.gens.trans N12.gens), N6.drawn.trans (N24.drawn.trans N12.drawn), N6.os.trans (N24.os.trans N12.os)⟩ ⟨_, l2, O7, if_pos rfl, I6.at fun o e => (sb.2 _ nlD).trans e⟩
end
end Mine
namespace Mine
open PySem PySem.W PyProof.Rows PySem.Calls PySem.Spec PySem.SeqAt
noncomputable abbrev sLevels : Str := Str.ofString "levels"
noncomputable abbrev sB : Str := Str.ofString "base"
section
variable {base : Heap} {lf : List Env} {n : Nat} {c : Cx} {m : Str → Option Value} {s : Shared} {E Q : Value → Shared → Prop} {nms : List (Str × NameKind)} {T b : PV} {vW : Value} {ta : Addr} {lv dL dS la rc dR : Addr}
theorem boot_sorted : bootBuiltins (Str.ofString "sorted") = some (.builtin "sorted") := by boot_by_name
/-- sorted({}) -/
theorem sorted_ok (X : At n c fe0 m s) {d : Addr} (D : DictIs s.heap d []) (h : ∀ a s', c.h₀.StaysIn s'.heap → s'.gens = s.gens ∧ s'.drawn = s.drawn ∧ s'.os = s.os → s'.heap.IsList a #[] → Q (.ref a) s') : wpAny gM c.A (call (.builtin "sorted") [.ref d]) Q E s := by
  obtain ⟨o, a, b, lo⟩ := D
  obtain ⟨ep, hat⟩ := (Heap.dictOf_iff.mpr ⟨o, a, b⟩).dictAt
  refine kdu_sorted (kdl_dict (knd := PySem.strKind PRG gu.w) (kvs := []) (ep := ep) lo) X.S.room.hand X.F News.nil hat (Nat.zero_le _) fun D h' tk vs F' N' _ hl _ => ?_
  cases List.eq_nil_of_length_eq_zero hl
  obtain ⟨z, z1, z2⟩ := N' _ (.head _)
  refine wpAny_call_entry PyProof.Rows.slot_list_sort ⟨_, z, rfl⟩ PyProof.Rows.entry_list_sort (list_sort_tree (n := 0) (vs := []) (ns := []) z .nil (by decide) fun out ns' hI hp _ => ⟨.none, rfl, ?_⟩) (PyProof.Rows.args_list_sort _)
  cases hp.eq_nil
  cases hI' : out.toList with
  | cons => rw [hI'] at hI; cases hI
  | nil =>
    have ho : out = #[] := Array.toList_eq_nil_iff.mp hI'
    subst ho
    have l1 : D < h'.objs.size := Heap.lt_size z
    obtain ⟨e1, q⟩ := sortedHeap_at (vs := []) (out := #[]) z
    refine h D _ (fun b o e => ?_) ⟨rfl, rfl, rfl⟩ ⟨_, q, rfl, _, rfl⟩
    have e' := F'.keep b o e
    exact (sortedHeap_old (fun w => by rw [w, z2] at e; cases e) (Heap.lt_size e')).trans e'
theorem o236 : okN nms236 sWorld = true ∧ okN nms236 sTold = true ∧ okN nms236 sLevels = true ∧ okN nms236 sFound = true ∧ okN nms236 sReached = true ∧ okN nms236 sB = true ∧ nms236.lookup (Str.ofString "Levels") = some .globalImplicit ∧ nms236.lookup (Str.ofString "own_methods") = some .globalImplicit ∧ nms236.lookup sSorted = some .globalImplicit :=
  ⟨by kernel_rfl, by kernel_rfl, by kernel_rfl, by kernel_rfl, by kernel_rfl, by kernel_rfl, by kernel_rfl, by kernel_rfl, by kernel_rfl⟩
theorem d236 : sLevels ≠ sReached ∧ sFound ≠ sReached ∧ sWorld ≠ sReached ∧ sLevels ≠ sB ∧ sFound ≠ sB ∧ sReached ≠ sB ∧ sWorld ≠ sB ∧ sFound ≠ sLevels ∧ sWorld ≠ sLevels ∧ sWorld ≠ sFound := ⟨by decide +kernel, by decide +kernel, by decide +kernel, by decide +kernel, by decide +kernel, by decide +kernel, by decide +kernel, by decide +kernel, by decide +kernel, by decide +kernel⟩
theorem okN_lk {nms : List (Str × NameKind)} {y : Str} (h : okN nms y = true) : nms.lookup y = some .local := (okN_both h).1
/-- what the loop's names are -/
structure MW (m : Str → Option Value) (lv d : Addr) : Prop where
  w : m sWorld = some (.ref (gD 1))
  l : m sLevels = some (.ref lv)
  f : m sFound = some (.ref d)
theorem MW.put {y : Str} {v : Value} {d : Addr} (M : MW m lv d) (h1 : sWorld ≠ y) (h2 : sLevels ≠ y) (h3 : sFound ≠ y) : MW (fun z => if z = y then some v else m z) lv d := ⟨(if_neg h1).trans M.w, (if_neg h2).trans M.l, (if_neg h3).trans M.f⟩
/-- the loop over what is reached -/
theorem reach_ok (Z : KF) (hW : ∀ {h}, gWF h → AdAt h gD) (K : KQ) (F : Fm base lf (n + 10) c fe0 m s) (hN : c.cs.names = nms236) {d : Addr} (M : MW m lv d) (L : LvO s.heap lv dL dS la vW) (RC : RcF s.heap la rc dR ta) (VT : gV s.heap (.ref ta) T) (hT : TF T b) (n1 : la ≠ c.L) (n2 : rc ≠ c.L) (n3 : dR ≠ c.L) {Q : Flow → Shared → Prop}
    (h : ∀ m' s', NextP (fun b => b ≠ c.L) s s' → At (n + 10) c fe0 m' s' → MW m' lv d → Q .next s') : wpAny gM c.A (exec f236 c.env) Q E s := by
  obtain ⟨o1, o2, o3, o4, o5, o6, g1, g2, -⟩ := o236
  obtain ⟨e1, e2, e3, e4, e5, e6, e7, -⟩ := d236
  have C : CfgOK (GP P0) := gp_ok Z hW (P := P0) p0_ok
  have X := F.X
  unfold f236
  refine for_one (p := fun b => b ≠ c.L) (n := n + 10) X.S.room.hand hN (okN_lk o5) (fun _ => rfl) (here_at K.L X hN o3 M.l L fun s2 N2 => ⟨la, .ref rc, m, rfl, RC.lst.at fun o e => N2.heap _ _ e, n1, X.next N2, fun a na => ?_, fun b z => z, fun s3 N3 X3 => ?_⟩)
  · obtain ⟨o, _, _, e, _⟩ := (X.next N2).F.ns
    exact ne_new na e
  have M3 := M.put (v := .ref rc) e3 e1 e2
  have m2 : (fun z => if z = sReached then some (Value.ref rc) else m z) sReached = some (.ref rc) := if_pos rfl
  replace X3 : At (n + 10) c fe0 (fun z => if z = sReached then some (Value.ref rc) else m z) s3 := X3
  generalize (fun z => if z = sReached then some (Value.ref rc) else m z) = m3 at X3 M3 m2
  obtain ⟨mR, OR, ht⟩ := RC.ob
  have OR3 : Ob s3.heap rc 157 dR mR := (OR.keeps N2.heap).to (fun o => N3.heap _ o n2) fun o => N3.heap _ o n3
  have VT3 := (VT.mono N2.KS).mono N3.ks
  -- base = ..
  unfold a236
  refine wpAny_execs_cons (wpAny_Assign_Name (base_call (n := n + 2) C X3 hN o1 M3.w rfl hT rfl rfl (told_at K.L.M.K X3 hN o5 m2 OR3 ht fun s4 N4 => ⟨N4, VT3.mono N4.KS, fun v s5 N5 V5 => store_at ((X3.next N4).next N5) hN (okN_lk o6) fun s6 N6 X6 => ?_⟩)) rfl)
  have M6 := M3.put (v := v) e7 e4 e5
  have b6 : (fun z => if z = sB then some v else m3 z) sB = some v := if_pos rfl
  have r6 : (fun z => if z = sB then some v else m3 z) sReached = some (.ref rc) := (if_neg e6).trans m2
  replace X6 : At (n + 10) c fe0 (fun z => if z = sB then some v else m3 z) s6 := X6
  generalize (fun z => if z = sB then some v else m3 z) = m6 at X6 M6 b6 r6
  have N36 := (NextL.of (N4.trans N5)).trans N6
  have OR6 : Ob s6.heap rc 157 dR mR := OR3.to (fun o => N36.heap _ o n2) fun o => N36.heap _ o n3
  have VT6 := VT3.mono N36.ks
  have VB6 := V5.mono N6.ks
  -- the methods of its own
  unfold h236
  refine wpAny_execs_cons (for_dict0 X.S.room.hand (fun _ => rfl) (glob_call K.L.M.K.gOwn X6 (by rw [hN]; exact g2) (spliced_more (ldn X6 hN o1 M6.w (spliced_more (told_at K.L.M.K X6 hN o5 r6 OR6 ht fun s7 N7 => spliced_none ⟨N7.heap, ?_⟩) rfl)) rfl) rfl rfl))
  refine own_ok (n := n + 7) Z hW K.L.M.K (T := T) (b := b) (F.at (X6.next N7)).pl X6.S.room rfl (VT6.mono N7.KS) hT fun d8 s8 N8 D8 => ⟨d8, rfl, D8, fun s9 N9 => ?_⟩
  have N69 := (N7.trans N8).trans N9
  have X9 := X6.next N69
  -- the interface's
  obtain ⟨l, r, lb, rb, -, rfl, -, hi, -⟩ := hT.go
  unfold i236
  refine wpAny_execs_cons (for_none (d := .tup []) X.S.room.hand (fun _ => rfl) rfl (wpAny_IfExp (tag_is (P := fun s => s = s9) (ldn X9 hN o6 b6 ⟨VB6.mono N69.KS, rfl⟩) fun s10 s11 e N11 => ?_)))
  subst e
  rw [hi]
  refine (r_zero 2).ex (e := .tup [] 0 _) (d := .tup []) rfl ((X9.next N11).less (Nat.le_add_left 2 _)) fun v12 s12 N12 V12 => ⟨V12, fun h' hk => ?_⟩
  have N612 : Next s6 { s12 with heap := h' } := ((N69.trans N11).trans N12).trans ⟨hk, rfl, rfl, rfl⟩
  exact wpAny_execs_nil ⟨rfl, NextP.ofL (N36.trans (NextL.of N612)) fun _ z => z, m6, X6.next N612, fun s4 N4 X4 => h m6 s4 ((NextP.of N2).trans N4) X4 M6⟩
end
end Mine
namespace Mine
open PySem PySem.W PyProof.Rows PySem.Calls PySem.Spec PySem.SeqAt
section
variable {base : Heap} {lf : List Env} {n : Nat} {c : Cx} {m : Str → Option Value} {s : Shared} {E Q : Value → Shared → Prop} {nms : List (Str × NameKind)} {T b : PV} {vW : Value} {ta : Addr} {lv dL dS la rc dR : Addr}
/-- levels.here != [] -/
theorem ne_test (K : KL) (X : At n c fe0 m s) (hn : 2 ≤ n) (hN : c.cs.names = nms) {y : Str} (oy : okN nms y = true) {mL : Str → Option Value} (hm : m y = some (.ref lv)) (O : Ob s.heap lv 211 dL mL) (hl : mL sHere = some (.ref la)) {items : Array Value} (I : s.heap.IsList la items) {p1 p2 p3 p4 : Pos} {Q : Bool → Shared → Prop}
    (h : ∀ s', Next s s' → Q (items.size != 0) s') : wpAny gM c.A (isTrue (.Compare (.Attribute (.Name y p1) sHere p2) [.NotEq] [.List [] p3] p4) c.env (eval (.Compare (.Attribute (.Name y p1) sHere p2) [.NotEq] [.List [] p3] p4) c.env)) Q E s := by
  refine wpAny_isTrue_Compare1 (att_name (ldn X hN oy hm (ob_get X.gd.kin O hl rfl K.aHere ?_))) rfl
  have N1 : Next s { s with toks := s.toks + 1 } := Next.toks _ _
  refine (r_zero 2).ex (e := .lst [] p3) (d := .lst []) rfl ((X.next N1).less hn) fun v s2 N2 V2 => ?_
  obtain ⟨l2, ⟨vs⟩, rfl, I2, hv⟩ := V2
  cases (show vs = [] from hv)
  have I' : s2.heap.IsList la items := I.at fun o e => N2.heap _ _ e
  have hu : c.A.units < cLine := Nat.lt_of_le_of_lt (Nat.le_add_right _ _) X.S.room.u
  have q := wpAny_truthy_bool (M := gM) (A := c.A) (E := E) (h s2 (N1.trans N2))
  cases hz : (items.size != 0) with
  | true =>
    rw [hz] at q
    exact SeqAt.RcNeAt.lists_lengths I' I2 hz hu PRG gu.w _ _ q
  | false =>
    rw [hz] at q
    have h0 : items.size = 0 := by simpa using hz
    refine SeqAt.RcNeAt.lists (items := items) (items2 := #[]) (e := fun _ => true) I' I2 h0 hu (fun j j1 _ => absurd j1 (by rw [h0]; exact Nat.not_lt_zero j)) PRG gu.w _ _ ?_
    rw [h0]; exact q
/-- names_of_methods: none -/
theorem names_ok (Z : KF) (hW : ∀ {h}, gWF h → AdAt h gD) (K : KQ) {A : Around} (P : Pl A base lf s.heap) (R : Room 21 A) (VT : gV s.heap (.ref ta) T) (hT : TF T b) (h : Po s (.lst []) Q) : wpAny gM A (call (.ref 236) [.ref (gD 1), .ref ta]) Q E s := by
  refine fn_enter (n := 18) K.i236 P R (fun _ _ e => e) rfl rfl fun c s1 F hN h0 hcL N1 => ?_
  have X := F.X
  have mW : bnd [sWorld, sTold] [] [.ref (gD 1), .ref ta] sWorld = some (.ref (gD 1)) := by kernel_rfl
  have mT : bnd [sWorld, sTold] [] [.ref (gD 1), .ref ta] sTold = some (.ref ta) := by kernel_rfl
  generalize bnd [sWorld, sTold] [] [.ref (gD 1), .ref ta] = m at X mW mT
  replace F := F.at X
  obtain ⟨o1, o2, o3, o4, o5, o6, g1, g2, g3⟩ := o236
  obtain ⟨-, -, -, -, -, -, -, e8, e9, e10⟩ := d236
  obtain ⟨oL, esL, epL, eL, dLL, _⟩ := X.F.ns
  have VT1 := VT.mono N1.KS
  unfold body236
  refine wpAny_execs_cons (asg_two X hN (okN_lk o3) (okN_lk o4) (st := b236_0) rfl rfl (by decide +kernel) (by decide +kernel) rfl rfl ?_)
  refine glob_call K.L.gLevels X (by rw [hN]; exact g1) (spliced_more (ldn X hN o1 mW (spliced_more (ldn X hN o2 mT (spliced_none ⟨fun _ _ e => e, levels_ok (n := 12) K.L F.pl X.S.room fun s2 lv dL dS la rc dR LA => ?_⟩)) rfl)) rfl) rfl rfl
  have N2 := LA.next
  refine dict0_new (X.next N2) fun d s3 N3 D3 nd => ⟨.obj lv, .obj d, X.next (N2.trans N3), rfl, rfl, fun w1 w2 s4 N4 W1 W2 X4 => ?_⟩
  cases (show w1 = _ from W1)
  cases (show w2 = _ from W2)
  have nc : ∀ {a : Addr}, s1.heap.get? a = none → a ≠ c.L := fun q => ne_new q eL
  have nv := nc LA.nv
  have nL := nc LA.nL
  have nS := nc LA.nS
  have na := nc LA.na
  have nr := nc LA.nr
  have nR := nc LA.nR
  have M4 : MW (fun z => if z = sLevels then some (Value.ref lv) else if z = sFound then some (Value.ref d) else m z) lv d := ⟨(if_neg e9).trans ((if_neg e10).trans mW), if_pos rfl, (if_neg e8).trans (if_pos rfl)⟩
  replace X4 : At 20 c fe0 (fun z => if z = sLevels then some (Value.ref lv) else if z = sFound then some (Value.ref d) else m z) s4 := X4
  generalize (fun z => if z = sLevels then some (Value.ref lv) else if z = sFound then some (Value.ref d) else m z) = m4 at X4 M4
  have k4 : ∀ {b o}, b ≠ c.L → s2.heap.get? b = some o → s4.heap.get? b = some o := fun n e => N4.heap _ _ n (N3.heap _ _ e)
  have RC4 : RcF s4.heap la rc dR ta := LA.hr.to (fun o => k4 nr) (fun o => k4 nR) fun o => k4 na
  have LV4 : LvF s4.heap lv dL dS la (.ref (gD 1)) := LA.hl.to (fun o => k4 nv) (fun o => k4 nL) fun o => k4 nS
  have dc : d ≠ c.L := ne_new nd (N2.heap _ _ eL)
  have dl : d ≠ dL := by obtain ⟨mL, ns, O, -⟩ := LA.hl.ob; obtain ⟨o, e⟩ := O.inD; exact ne_new nd e
  have ds : d ≠ dS := by obtain ⟨kvs, ⟨o, e, -⟩, -⟩ := LA.hl.seen; exact ne_new nd e
  have D4 := D3.sameBut fun o e => N4.heap _ o dc e
  have VT4 := ((VT1.mono N2.KS).mono N3.KS).mono N4.ks
  have G4 : s4.gens = s.gens ∧ s4.drawn = s.drawn ∧ s4.os = s.os := ⟨N4.gens.trans (N3.gens.trans (N2.gens.trans N1.gens)), N4.drawn.trans (N3.drawn.trans (N2.drawn.trans N1.drawn)), N4.os.trans (N3.os.trans (N2.os.trans N1.os))⟩
  obtain ⟨mL4, ns4, OL4, lw4, lh4, ls4, lN4, ll4, lg4⟩ := LV4.ob
  unfold b236_1
  refine wpAny_execs_cons (no_mono (whl_start 2 (whl_turn PassesOwn.never (ne_test K.L X4 (by decide) hN o3 M4.l OL4 lh4 RC4.lst fun s5 N5 => WhlIf.yes rfl ?_))))
  have X5 := X4.next N5
  -- the turn
  refine wpAny_execs_cons (reach_ok (n := 10) Z hW K (F.at X5) hN M4 ⟨mL4, ns4, OL4.keeps N5.heap, lw4, lh4, ls4, lN4, ll4, lg4⟩ (RC4.to (fun o => N5.heap _ o) (fun o => N5.heap _ o) fun o => N5.heap _ o) (VT4.mono N5.KS) hT na nr nR fun m6 s6 N6 X6 M6 => ?_)
  have k6 : ∀ {b o}, b ≠ c.L → s4.heap.get? b = some o → s6.heap.get? b = some o := fun n e => N6.heap _ _ n (N5.heap _ _ e)
  have RC6 : RcF s6.heap la rc dR ta := RC4.to (fun o => k6 nr) (fun o => k6 nR) fun o => k6 na
  have LV6 : LvF s6.heap lv dL dS la (.ref (gD 1)) := LV4.to (fun o => k6 nv) (fun o => k6 nL) fun o => k6 nS
  have P6 := (F.at X6).pl
  have none_base : ∀ {a : Addr}, s1.heap.get? a = none → base.get? a = none ∧ a ∉ framesOf (c.env :: lf) := fun {a} q => ⟨none_back P.B.stays (none_back N1.heap q), fun hm => (in_frames (L := c.L) hm).elim (nc q) fun hm => by
    obtain ⟨o, e⟩ := framesOf_has P.B.frames hm
    have := N1.heap _ _ e; rw [q] at this; cases this⟩
  obtain ⟨b1, f1⟩ := none_base LA.nL
  obtain ⟨b2, f2⟩ := none_base LA.nS
  unfold g236
  obtain ⟨w1, w2, w3⟩ := K.go
  obtain ⟨o8, D8⟩ := K.L.i208.D
  obtain ⟨mL6, ns6, OL6, -, -, -, -, -, lg6⟩ := LV6.ob
  obtain ⟨ox, od, I6, hg⟩ := (OL6.attr lg6).at
  refine wpAny_execs_cons (wpAny_Expr (mca_gen (es := []) rfl rfl rfl (ldn X6 hN o3 M6.l (method_fn X6.gd.kin I6 (plainGet_of w1).1 (plainGet_of w1).2 w2 w3 (by show (lookIn _ _).map _ = _; rw [hg]; rfl) (isfn_of (r_zero 2) ⟨o8, _, X6.gd.kin _ _ D8.at_, D8.data⟩ (ds := []) rfl (X6.less (by decide)) (fun _ _ e => e) fun vs s7 N7 V7 => ?_)))) (by show (c.cs.kind == .module && _) = false; rw [X6.S.nms.kind]; rfl))
  cases (show vs = [] from V7)
  have X7 := X6.next N7
  refine go_on_ok Z hW K.L (F.at X7).pl (X7.S.room.less (by decide)) b1 b2 f1 f2 ((VT4.mono (N5.KS.trans N6.ks)).mono N7.KS) hT (LV6.to (fun o => N7.heap _ o) (fun o => N7.heap _ o) fun o => N7.heap _ o) (RC6.to (fun o => N7.heap _ o) (fun o => N7.heap _ o) fun o => N7.heap _ o) LA.dis LA.ne fun s8 N8 hO => ?_
  obtain ⟨mL8, l8, O8, h8, I8⟩ := hO
  have hn : ∀ {a : Addr}, s1.heap.get? a = none → c.h₀.get? a = none := fun q => by rw [h0]; exact none_back N1.heap q
  have X8 : At 20 c fe0 m6 s8 := ⟨X7.S, ⟨by
    obtain ⟨o, es, ep, ho, r⟩ := X7.F.ns
    exact ⟨o, es, ep, N8.heap _ _ ⟨nL.symm, nS.symm⟩ ho, r⟩, fun b o q => N8.heap b o ⟨(fun z => by rw [z, hn LA.nL] at q; cases q), (fun z => by rw [z, hn LA.nS] at q; cases q)⟩ (X7.F.keep b o q), X7.F.above⟩, lrel0⟩
  have D8' : DictIs s8.heap d [] := D4.sameBut fun o e => N8.heap _ o ⟨dl, ds⟩ (N7.heap _ o (k6 dc e))
  have G8 : s8.gens = s.gens ∧ s8.drawn = s.drawn ∧ s8.os = s.os := ⟨N8.gens.trans (N7.gens.trans (N6.gens.trans (N5.gens.trans G4.1))), N8.drawn.trans (N7.drawn.trans (N6.drawn.trans (N5.drawn.trans G4.2.1))), N8.os.trans (N7.os.trans (N6.os.trans (N5.os.trans G4.2.2)))⟩
  refine wpAny_execs_nil (whl_turn (k := 0) PassesOwn.never (ne_test K.L X8 (by decide) hN o3 M6.l O8 h8 I8 fun s9 N9 => WhlIf.no rfl (wpAny_execs_nil ?_)))
  -- sorted(found)
  have X9 := X8.next N9
  unfold b236_2
  refine wpAny_execs_cons (wpAny_Return_some (wpAny_Call_ofName (name_B X9.F X9.S.gd.kin (topRead_of X9.S.gd.top) K.srt boot_sorted (by decide) ?_ X9.S.nms.kind (by rw [← hN] at g3; exact g3) (by decide))))
  refine callWith_builtin rfl (evalArgs_more (spliced_more (ldn X9 hN o4 M6.f (spliced_none (sorted_ok X9 (D8'.keeps N9.heap) fun a s10 k10 g10 I10 => ?_))) rfl))
  exact h _ s10 ⟨fun b o e => k10 b o (by rw [h0]; exact e), g10.1.trans (N9.gens.trans G8.1), g10.2.1.trans (N9.drawn.trans G8.2.1), g10.2.2.trans (N9.os.trans G8.2.2)⟩ ⟨a, #[], rfl, I10, rfl⟩
end
theorem prim236_ok (Z : KF) (hW : ∀ {h}, gWF h → AdAt h gD) (K : KQ) {n : Nat} (hn : 20 ≤ n) {ds : List PV} {r : PV} (h : prim236 ds = some r) : CaOK (n + 1) 236 ds r := by
  obtain ⟨q, h1, h2⟩ := bind_some h
  cases pair2_some h1
  obtain ⟨k, h3, h4⟩ := bind_some h2
  obtain ⟨h5, h6⟩ := cond_some h4
  cases some_inj h6
  obtain ⟨h7, h8⟩ := and_both h5
  obtain ⟨b, hT⟩ := tf_of h8
  intro A s vs Q E P G R V hq
  obtain ⟨v1, w, rfl, V1, v2, w', rfl, V2, hn'⟩ := V
  cases (show w' = [] from hn')
  obtain ⟨q1, q2⟩ := q
  cases q1 with
  | spc k' =>
    cases some_inj h3
    cases Nat.eq_of_beq_eq_true h7
    cases (show v1 = .ref (gD 1) from V1)
    obtain ⟨l, Pp, _⟩ := Pl.of_place P
    obtain ⟨l', r', -, -, rfl, -⟩ := id hT.go
    obtain ⟨ta, xs, rfl, V2'⟩ := id V2
    exact names_ok Z hW K Pp (R.less (Nat.succ_le_succ hn)) V2 hT hq
  | _ => cases h3
theorem InKU.is {g : Addr} {nms : List (Str × NameKind)} {ps : List Str} {ex : List (Str × Value)} {body : List Stmt} (I : InK g nms ps ex body) : ∃ o fd, gu.K.lookup g = some o ∧ o.data = .func fd := let ⟨o, D⟩ := I.D; ⟨o, _, D.at_, D.data⟩
theorem prim_ok (Z : KF) (hW : ∀ {h}, gWF h → AdAt h gD) (K : KQ) (F : FnK 666 fi666 ps666 [] (embS ir666)) : PrimOK gPrim := fun {n g ds d} e => by
  obtain ⟨h1, e1⟩ := cond_some e
  have hn := Nat.le_of_ble_eq_true h1
  rcases cond_or e1 with ⟨q, e2⟩ | ⟨_, e2⟩
  · cases Nat.eq_of_beq_eq_true q
    exact ⟨prim236_ok Z hW K hn e2, K.i236.is⟩
  · obtain ⟨q, e3⟩ := cond_some e2
    cases Nat.eq_of_beq_eq_true q
    exact ⟨prim666_ok F hn e3, F.is⟩
/-- the configuration with a checker is sound -/
theorem g_ok (Z : KF) (hW : ∀ {h}, gWF h → AdAt h gD) (K : KQ) (F : FnK 666 fi666 ps666 [] (embS ir666)) : CfgOK G := gp_ok Z hW (P := gPrim) (prim_ok Z hW K F)
theorem l_ok (Z : KF) (F : FnK 666 fi666 ps666 [] (embS ir666)) : CfgOK GL := gl_ok Z (primL_ok F)
end Mine
namespace Mine
open PySem PySem.W PyProof.Rows PySem.Calls PySem.Spec PySem.SeqAt
noncomputable abbrev sInt : Str := Str.ofString "int"
/-- what a step keeps -/
structure Kp (p : Addr → Prop) (s s' : Shared) : Prop where
  heap : ∀ b o, p b → s.heap.get? b = some o → s'.heap.get? b = some o
  gens : s'.gens = s.gens
  drawn : s'.drawn = s.drawn
  os : s'.os = s.os
section
variable {p q : Addr → Prop} {s s' s'' : Shared}
theorem Kp.of (N : Next s s') : Kp p s s' := ⟨fun b o _ e => N.heap b o e, N.gens, N.drawn, N.os⟩
theorem Kp.trans (a : Kp p s s') (b : Kp p s' s'') : Kp p s s'' := ⟨fun x o n e => b.heap x o n (a.heap x o n e), b.gens.trans a.gens, b.drawn.trans a.drawn, b.os.trans a.os⟩
theorem Kp.more (a : Kp p s s') (h : ∀ b, q b → p b) : Kp q s s' := ⟨fun x o n e => a.heap x o (h x n) e, a.gens, a.drawn, a.os⟩
theorem Kp.ofL {L : Addr} (a : NextL L s s') : Kp (· ≠ L) s s' := ⟨fun x o n e => a.heap x o n e, a.gens, a.drawn, a.os⟩
end
theorem boot_int : bootBuiltins (Str.ofString "int") = some (.type "int") := by boot_by_name
theorem boot_len : bootBuiltins (Str.ofString "len") = some (.builtin "len") := by boot_by_name
theorem boot_max : bootBuiltins (Str.ofString "max") = some (.builtin "max") := by boot_by_name
theorem boot_min : bootBuiltins (Str.ofString "min") = some (.builtin "min") := by boot_by_name
theorem boot_range : bootBuiltins (Str.ofString "range") = some (.type "range") := by boot_by_name
/-- an expression that gives a whole number -/
def IntP (c : Cx) (n : Nat) (m : Str → Option Value) (hs : Heap) (e : Expr) (P : Int → Prop) : Prop :=
  ∀ {s : Shared} {Q E : Value → Shared → Prop}, At n c fe0 m s → hs.StaysIn s.heap → (∀ i t s', P i → Next s s' → Q (.int i t) s') → wpAny gM c.A (eval e c.env) Q E s
noncomputable abbrev anyI : Int → Prop := fun _ => True
section
variable {c : Cx} {n : Nat} {m : Str → Option Value} {hs : Heap} {nms : List (Str × NameKind)} {P P1 P2 : Int → Prop} {a b : Expr} {p : Pos}
theorem ip_loc (hN : c.cs.names = nms) {y : Str} (oy : okN nms y = true) {i : Int} {t : Tok} (hm : m y = some (.int i t)) : IntP c n m hs (.Name y p) (· = i) := fun {s Q E} X _ h => ldn X hN oy hm (h i t s rfl (Next.refl s))
theorem ip_con {i : Int} : IntP c n m hs (.Constant (.int i) 0 p) (· = i) := fun {s Q E} _ _ h => con_int fun t tk => h i t _ rfl (Next.toks _ _)
theorem ip_src (hN : c.cs.names = nms) (oy : okN nms sSrc = true) {ls : Addr} {vs : Array Value} {j : Nat} {i : Int} {t : Tok} (hj : j < 2) (hl : hs.IsList ls vs) (hi : vs[j]? = some (.int i t)) (hm : m sSrc = some (.ref ls)) {p1 p2 : Pos} : IntP c n m hs (.Subscript (.Name sSrc p1) (.Constant (.int (Int.ofNat j)) 0 p2) p) (· = i) := fun {s Q E} X k h => by
  refine Subscript_ (ldn X hN oy hm (con_int fun u tk => ?_))
  have hl' : s.heap.IsList ls vs := hl.at fun o e => k _ _ e
  refine tail_any (s := { s with toks := tk }) hl'.typeIs slot_list_getitem.lookup (wpAny_getItem_list hl' (Int.natCast_nonneg j) ?_ hi (h i t _ rfl (Next.toks _ _))) rfl
  exact Int.lt_of_lt_of_le (Int.ofNat_lt.mpr hj) (by decide)
theorem ip_bin {op : Operator} (ha : IntP c n m hs a P1) (hb : IntP c n m hs b P2) (hop : ∀ {s : Shared} {Q E : Value → Shared → Prop} {i j t u}, P1 i → P2 j → (∀ k t s', P k → Next s s' → Q (.int k t) s') → wpAny gM c.A (binaryOp op (.int i t) (.int j u)) Q E s) : IntP c n m hs (.BinOp a op b p) P := fun {s Q E} X k h =>
  wpAny_BinOp (ha X k fun i t s1 pi N1 => hb (X.next N1) (fun b o e => N1.heap _ _ (k b o e)) fun j u s2 pj N2 => hop pi pj fun k t s3 pk N3 => h k t s3 pk ((N1.trans N2).trans N3))
theorem ip_add (ha : IntP c n m hs a P1) (hb : IntP c n m hs b P2) : IntP c n m hs (.BinOp a .Add b p) anyI := ip_bin ha hb fun _ _ h => PyProof.Rows.add_int (h _ _ _ trivial (Next.toks _ _))
theorem ip_sub (ha : IntP c n m hs a P1) (hb : IntP c n m hs b P2) : IntP c n m hs (.BinOp a .Sub b p) anyI := ip_bin ha hb fun _ _ h => sub_int' (h _ _ _ trivial (Next.toks _ _))
theorem ip_mulR {j : Int} (ha : IntP c n m hs a P1) (hb : IntP c n m hs b (· = j)) (hj : Builtin.Int.intBits j ≤ 64) : IntP c n m hs (.BinOp a .Mult b p) anyI := ip_bin ha hb fun _ e h => mul_int (h _ _ _ trivial (Next.toks _ _)) (IntMulOk.of_right (by rw [e]; exact hj))
theorem ip_mulL {k : Int} (ha : IntP c n m hs a (fun i => 0 ≤ i ∧ i < 2147483647)) (hb : IntP c n m hs b P2) : IntP c n m hs (.BinOp a .Mult b p) anyI := ip_bin ha hb fun e _ h => mul_int (h _ _ _ trivial (Next.toks _ _)) (IntMulOk.of_left (PySem.intBits_le_64 (by have := e.1; omega) (by have := e.2; omega)))
theorem ip_mod {j : Int} (ha : IntP c n m hs a P1) (hb : IntP c n m hs b (· = j)) (hj : 0 < j) : IntP c n m hs (.BinOp a .Mod b p) (fun i => 0 ≤ i ∧ i < j) := ip_bin ha hb fun {s Q E i j' t u} _ e h => by
  cases e
  exact mod_int' (Int.ne_of_gt hj) (h _ _ _ ⟨Int.fmod_nonneg_of_pos _ hj, Int.fmod_lt_of_pos _ hj⟩ (Next.toks _ _))
theorem ip_div {j : Int} (ha : IntP c n m hs a P1) (hb : IntP c n m hs b (· = j)) (hj : 0 < j) (hl : j.natAbs.log2 < 9000) : IntP c n m hs (.BinOp a .FloorDiv b p) anyI := ip_bin ha hb fun {s Q E i j' t u} _ e h => by
  cases e
  exact floordiv_int (Int.ne_of_gt hj) (h _ _ _ trivial (Next.toks _ _)) (.inl (PyProof.noPylong_of_log2 hl))
/-- a builtin's name is called, with one argument -/
theorem ip_int (K : KB) (hN : c.cs.names = nms) (hg : nms.lookup (Str.ofString "int") = some .globalImplicit) (ha : IntP c n m hs a P) (he : starEach [a] c.env = [(false, eval a c.env)]) {p1 : Pos} : IntP c n m hs (.Call (.Name (Str.ofString "int") p1) [a] [] p) P := fun {s Q E} X k h => by
  refine wpAny_Call_ofName (name_B X.F X.S.gd.kin (topRead_of X.S.gd.top) K.int boot_int (by decide) ?_ X.S.nms.kind (by rw [← hN] at hg; exact hg) (by decide))
  refine callWith_excType (by rw [he]; rfl) (evalArgs_more (spliced_more (ha X k fun i t s1 pi N1 => spliced_none ?_) he) he)
  exact PySem.call_int_int (h i t s1 pi N1)
end
end Mine
namespace Mine
open PySem PySem.W PyProof.Rows PySem.Calls PySem.Spec PySem.SeqAt
noncomputable abbrev sDrawn : Str := Str.ofString "drawn"
/-- the list that the draws are made from -/
def SrcAt (h : Heap) (ls : Addr) : Prop := ∃ (x y : Int) (t1 t2 : Tok), h.IsList ls #[.int x t1, .int y t2]
theorem SrcAt.to {h h' : Heap} {ls : Addr} (S : SrcAt h ls) (k : ∀ o, h.get? ls = some o → h'.get? ls = some o) : SrcAt h' ls := let ⟨x, y, t1, t2, I⟩ := S; ⟨x, y, t1, t2, I.at k⟩
theorem SrcAt.noT {h : Heap} {ls : Addr} (S : SrcAt h ls) : NoTup h ls := let ⟨_, _, _, _, I⟩ := S; .list I
section
variable {base : Heap} {lf : List Env} {n : Nat} {c : Cx} {m : Str → Option Value} {s : Shared} {E Q : Value → Shared → Prop} {nms : List (Str × NameKind)} {ls : Addr}
theorem o640 : okN nms640 sSrc = true ∧ okN nms640 sTop = true ∧ okN nms640 sDrawn = true ∧ nms640.lookup (Str.ofString "int") = some .globalImplicit ∧ sSrc ≠ sDrawn ∧ sTop ≠ sDrawn := ⟨by kernel_rfl, by kernel_rfl, by kernel_rfl, by kernel_rfl, by decide +kernel, by decide +kernel⟩
/-- source[j] = v -/
theorem set_src (X : At n c fe0 m s) (hN : c.cs.names = nms) (oy : okN nms sSrc = true) (hm : m sSrc = some (.ref ls)) {vs : Array Value} (hl : s.heap.IsList ls vs) (hls : c.h₀.get? ls = none) (nL : c.L ≠ ls) {j : Nat} (hj : j < vs.size) (hj2 : j < 2) {v : Value} {p1 p2 : Pos} {Q : Unit → Shared → Prop}
    (h : ∀ s', Kp (· ≠ ls) s s' → s'.heap.IsList ls (vs.setIfInBounds j v) → At n c fe0 m s' → Q () s') : wpAny gM c.A (eval (.Name sSrc p1) c.env) (fun ov s2 => wpAny gM c.A (eval (.Constant (.int (Int.ofNat j)) 0 p2) c.env) (fun iv s3 => wpAny gM c.A (setItem ov iv v) Q E s3) E s2) E s := by
  refine ldn X hN oy hm (con_int fun t tk => ?_)
  refine wpAny_setItem_list (s := { s with toks := tk }) (k := Int.ofNat j) hl (Int.natCast_nonneg j) (Int.lt_of_lt_of_le (Int.ofNat_lt.mpr hj2) (by decide)) (Int.ofNat_lt.mpr hj) fun h' I sb => ?_
  have k : ∀ b o, b ≠ ls → s.heap.get? b = some o → h'.get? b = some o := fun b o n e => (sb.2 b n).trans e
  exact h _ ⟨k, rfl, rfl, rfl⟩ I ⟨X.S, fr_but X.F hls nL k, lrel0⟩
/-- _law_take(source, top) -/
theorem take_ok (K : KTk) {A : Around} (P : Pl A base lf s.heap) (R : Room (n + 3) A) (nb : base.get? ls = none) (nf : ls ∉ framesOf lf) (S : SrcAt s.heap ls) {top : Int} {tt : Tok} (h0 : 0 < top) (h1 : top < 1000)
    (h : ∀ r t s', 0 ≤ r → r < top → Kp (· ≠ ls) s s' → SrcAt s'.heap ls → Q (.int r t) s') : wpAny gM A (call (.ref 640) [.ref ls, .int top tt]) Q E s := by
  refine fn_enter (n := n) K.i640 (P.hide nb nf) R (fun b o e => Heap.of_hide e) (Heap.hide_size _ _) rfl fun c s1 F hN hh hcL N1 => ?_
  obtain ⟨o1, o2, o3, g1, e1, e2⟩ := o640
  have X := F.X
  have hls : c.h₀.get? ls = none := by rw [hh]; exact Heap.hide_self _ _
  have kp : ∀ {s2 : Shared} {m2 : Str → Option Value}, At (n + 2) c fe0 m2 s2 → ∀ b o, b ≠ ls → s.heap.get? b = some o → s2.heap.get? b = some o := fun X b o n e => X.F.keep b o (by rw [hh]; exact (Heap.hide_ne _ n).trans e)
  have mS : bnd [sSrc, sTop] [] [.ref ls, .int top tt] sSrc = some (.ref ls) := by kernel_rfl
  have mT : bnd [sSrc, sTop] [] [.ref ls, .int top tt] sTop = some (.int top tt) := by kernel_rfl
  generalize bnd [sSrc, sTop] [] [.ref ls, .int top tt] = m at X mS mT
  clear F
  obtain ⟨x, y, t1, t2, I⟩ := S
  have I1 := I.at fun o e => N1.heap _ _ e
  have nL : c.L ≠ ls := by obtain ⟨o, e, _⟩ := I; rw [hcL]; exact Nat.ne_of_gt (Heap.lt_size e)
  have hlog : top.natAbs.log2 < 9000 := Nat.lt_of_le_of_lt (Nat.log2_le_self _) (by omega)
  have G1 : s1.gens = s.gens ∧ s1.drawn = s.drawn ∧ s1.os = s.os := ⟨N1.gens, N1.drawn, N1.os⟩
  have rest : ∀ {s2 : Shared}, Next s1 s2 → wpAny gM c.A (execs [b640_1, b640_2] c.env) (OutQ Q) (OutE c E) s2 := fun {s2} N2 => by
    have X2 := X.next N2
    have I2 := I1.at fun o e => N2.heap _ _ e
    unfold b640_1 b640_2
    refine wpAny_execs_cons (wpAny_Assign_Subscript ((ip_mod (ip_int K.B hN g1 (ip_add (ip_mulR (ip_src hN o1 (j := 1) (by decide) I2 rfl mS) ip_con (by decide)) ip_con) rfl) ip_con (by decide)) X2 (fun _ _ e => e) fun i t s3 hi N3 => set_src (j := 1) (X2.next N3) hN o1 mS (I2.at fun o e => N3.heap _ _ e) hls nL (Nat.lt_succ_self 1) (by decide) fun s4 K4 I4 X4 => ?_) rfl)
    have hI4 : s4.heap.IsList ls #[.int x t1, .int i t] := I4
    have sq : ∀ {p p1 p2 : Pos}, IntP c (n + 2) m s4.heap (.Subscript (.Name sSrc p1) (.Constant (.int (Int.ofNat 1)) 0 p2) p) (fun i => 0 ≤ i ∧ i < 2147483647) := fun {p p1 p2} {s Q E} X k hq => ip_src hN o1 (j := 1) (by decide) hI4 rfl mS X k fun j t s' e => hq j t s' (by rw [e]; exact hi)
    refine wpAny_execs_cons (wpAny_Return_some ((ip_mod (ip_int K.B hN g1 (ip_div (ip_mod (ip_int K.B hN g1 (ip_mulL (k := 0) sq (ip_src hN o1 (j := 1) (by decide) hI4 rfl mS)) rfl) ip_con (by decide)) ip_con (by decide) (by decide +kernel)) rfl) (ip_loc hN o2 mT) h0) X4 (fun _ _ e => e) fun r t' s5 hr N5 => ?_))
    exact h r t' s5 hr.1 hr.2 ⟨kp (X4.next N5), N5.gens.trans (K4.gens.trans (N3.gens.trans (N2.gens.trans G1.1))), N5.drawn.trans (K4.drawn.trans (N3.drawn.trans (N2.drawn.trans G1.2.1))), N5.os.trans (K4.os.trans (N3.os.trans (N2.os.trans G1.2.2)))⟩ ⟨x, i, t1, t, hI4.at fun o e => N5.heap _ _ e⟩
  unfold body640
  generalize [b640_1, b640_2] = rs at rest ⊢
  unfold b640_0
  refine wpAny_execs_cons (wpAny_If (wpAny_isTrue_Compare1 (ip_src hN o1 (j := 0) (by decide) I1 rfl mS X (fun _ _ e => e) fun i t s2 e N2 => con_int fun u tk => PyProof.Rows.gt_int (wpAny_truthy_bool ?_)) rfl))
  have N2' : Next s1 { s2 with toks := tk } := N2.trans (Next.toks _ _)
  generalize ({ s2 with toks := tk } : Shared) = s3 at N2' ⊢
  by_cases hx : (0 : Int) < i
  · rw [decide_eq_true hx]
    show wpAny gM c.A (execs _ c.env) _ _ s3
    have X3 := X.next N2'
    have I3 := I1.at fun o e => N2'.heap _ _ e
    refine wpAny_execs_cons (wpAny_Assign_Name ((ip_mod (ip_int K.B hN g1 (ip_src hN o1 (j := 0) (by decide) I3 rfl mS) rfl) (ip_loc hN o2 mT) h0) X3 (fun _ _ e => e) fun r t s4 hr N4 => store_at (X3.next N4) hN (okN_lk o3) fun s5 N5 X5 => ?_) rfl)
    have mS5 : (fun z => if z = sDrawn then some (Value.int r t) else m z) sSrc = some (.ref ls) := (if_neg e1).trans mS
    have mT5 : (fun z => if z = sDrawn then some (Value.int r t) else m z) sTop = some (.int top tt) := (if_neg e2).trans mT
    have mD5 : (fun z => if z = sDrawn then some (Value.int r t) else m z) sDrawn = some (.int r t) := if_pos rfl
    replace X5 : At (n + 2) c fe0 (fun z => if z = sDrawn then some (Value.int r t) else m z) s5 := X5
    generalize (fun z => if z = sDrawn then some (Value.int r t) else m z) = m5 at X5 mS5 mT5 mD5
    have I5 := I3.at fun o e => N5.heap _ _ nL.symm (N4.heap _ _ e)
    refine wpAny_execs_cons (wpAny_Assign_Subscript ((ip_div (ip_src hN o1 (j := 0) (by decide) I5 rfl mS5) (ip_loc hN o2 mT5) h0 hlog) X5 (fun _ _ e => e) fun i' t' s6 _ N6 => set_src (j := 0) (X5.next N6) hN o1 mS5 (I5.at fun o e => N6.heap _ _ e) hls nL (Nat.zero_lt_succ 1) (by decide) fun s7 K7 I7 X7 => ?_) rfl)
    refine wpAny_execs_cons (wpAny_Return_some (ldn X7 hN o3 mD5 ?_))
    exact h r t s7 hr.1 hr.2 ⟨kp X7, K7.gens.trans (N6.gens.trans (N5.gens.trans (N4.gens.trans (N2'.gens.trans G1.1)))), K7.drawn.trans (N6.drawn.trans (N5.drawn.trans (N4.drawn.trans (N2'.drawn.trans G1.2.1)))), K7.os.trans (N6.os.trans (N5.os.trans (N4.os.trans (N2'.os.trans G1.2.2))))⟩ ⟨i', y, t', t2, I7⟩
  · rw [decide_eq_false hx]
    show wpAny gM c.A (execs [] c.env) _ _ s3
    exact wpAny_execs_nil (rest N2')
end
end Mine
namespace Mine
open PySem PySem.W PyProof.Rows PySem.Calls PySem.Spec PySem.SeqAt
noncomputable def row673 : FnRow := ⟨673, fi673, [], [], ir673⟩
theorem ev673 : (ev GL 20).st ⟨fi673, row673.ρ []⟩ row673.body = some (.ret (.lst okTypes)) := by kernel_rfl
section
variable {base : Heap} {lf : List Env} {n : Nat} {c : Cx} {m : Str → Option Value} {s : Shared} {E Q : Value → Shared → Prop} {nms : List (Str × NameKind)} {ls le : Addr} {hs : Heap} {P : Int → Prop} {a : Expr} {p : Pos}
/-- _law_types() -/
theorem types_ok (K : KOn) (CL : CfgOK GL) {A : Around} (P : Place A s.heap) (G : Gd s.heap) (R : Room 21 A) (h : Po s (.lst okTypes) Q) : wpAny gM A (call (.ref 673) []) Q E s := by
  have e := ev673
  generalize okTypes = ts at e h
  exact row_ok (r := row673) (ds := []) K.f673 rfl P G R (vs := []) rfl (ev_ok CL 20) e fun c s₁ S N hc hcA v m' s' N' F' V' => h v _ (back hc N N' F') V'
/-- len(x) of a list -/
theorem ip_len (K : KB) (hN : c.cs.names = nms) (hg : nms.lookup (Str.ofString "len") = some .globalImplicit) {y : Str} (oy : okN nms y = true) (hm : m y = some (.ref le)) {vs : Array Value} (hl : hs.IsList le vs) (hz : vs.size < 1000) {p1 p2 : Pos} : IntP c n m hs (.Call (.Name (Str.ofString "len") p1) [.Name y p2] [] p) (· = (vs.size : Int)) := fun {s Q E} X k h => by
  refine wpAny_Call_ofName (name_B X.F X.S.gd.kin (topRead_of X.S.gd.top) K.len boot_len (by decide) ?_ X.S.nms.kind (by rw [← hN] at hg; exact hg) (by decide))
  refine callWith_builtin rfl (evalArgs_more (spliced_more (ldn X hN oy hm (spliced_none ?_)) rfl))
  exact call_len_list (hl.at fun o e => k _ _ e) (Int.lt_of_lt_of_le (Int.ofNat_lt.mpr hz) (by decide)) (h _ _ _ rfl ⟨fun _ _ e => e, rfl, rfl, rfl⟩)
theorem o647 : okN nms647 sSrc = true ∧ okN nms647 sThings = true ∧ nms647.lookup (Str.ofString "len") = some .globalImplicit ∧ nms647.lookup (Str.ofString "_law_take") = some .globalImplicit := ⟨by kernel_rfl, by kernel_rfl, by kernel_rfl, by kernel_rfl⟩
/-- a list's item, its place a number that was drawn -/
theorem list_item {A : Around} {vs : Array Value} {r : Int} {t : Tok} {value slice : Expr} (hl : s.heap.IsList le vs) (r0 : 0 ≤ r) (r1 : r < vs.size) (hz : vs.size < 1000) (hs : ∀ o iv, subscripted slice false o iv = operate [o, iv] (getItem o iv)) (h : ∀ v, v ∈ vs.toList → Q v s) : wpAny gM A (subscriptTail value slice (.ref le) (.int r t)) Q E s := by
  have hr : r.toNat < vs.size := by omega
  exact tail_any hl.typeIs slot_list_getitem.lookup (wpAny_getItem_list hl r0 (by omega) (Array.getElem?_eq_getElem hr) (h _ (Array.getElem_mem_toList hr))) (hs _ _)
/-- _law_one(source, things) -/
theorem draw_ok (K : KOn) {A : Around} (P : Pl A base lf s.heap) (R : Room (n + 6) A) (nb : base.get? ls = none) (nf : ls ∉ framesOf lf) (S : SrcAt s.heap ls) {vs : Array Value} (hl : s.heap.IsList le vs) (ne : le ≠ ls) (h0 : 0 < vs.size) (h1 : vs.size < 1000)
    (h : ∀ v s', v ∈ vs.toList → Kp (· ≠ ls) s s' → SrcAt s'.heap ls → Q v s') : wpAny gM A (call (.ref 647) [.ref ls, .ref le]) Q E s := by
  refine fn_enter (n := n + 3) K.i647 (P.hide nb nf) R (fun b o e => Heap.of_hide e) (Heap.hide_size _ _) rfl fun c s1 F hN hh hcL N1 => ?_
  obtain ⟨o1, o2, g1, g2⟩ := o647
  have X := F.X
  have mS : bnd [sSrc, sThings] [] [.ref ls, .ref le] sSrc = some (.ref ls) := by kernel_rfl
  have mT : bnd [sSrc, sThings] [] [.ref ls, .ref le] sThings = some (.ref le) := by kernel_rfl
  generalize bnd [sSrc, sThings] [] [.ref ls, .ref le] = m at X mS mT
  replace F := F.at X
  have S1 := S.to fun o e => N1.heap _ o e
  have l1 := hl.at fun o e => N1.heap _ o e
  have nf1 : ls ∉ framesOf (c.env :: lf) := fun hm => (in_frames (L := c.L) hm).elim (fun z => by
    obtain ⟨x, y, t1, t2, o, e, _⟩ := S
    exact absurd (Heap.lt_size e) (by rw [z, hcL]; exact Nat.lt_irrefl _)) nf
  unfold body647 b647_0
  refine wpAny_execs_cons (wpAny_Return_some (Subscript_ (ldn X hN o2 mT ?_)))
  refine glob_call K.gTake X (by rw [hN]; exact g2) (spliced_more (ldn X hN o1 mS (spliced_more (ip_len (le := le) K.T.B hN g1 o2 mT l1 h1 X (fun _ _ e => e) fun i t s2 e N2 => spliced_none ⟨N2.heap, ?_⟩) rfl)) rfl) rfl rfl
  cases e
  refine take_ok (n := n + 2) K.T (F.at (X.next N2)).pl X.S.room nb nf1 (S1.to fun o e => N2.heap _ o e) (Int.ofNat_lt.mpr h0) (by omega) fun r t3 s3 r0 r1 K3 S3 => ?_
  have l3 : s3.heap.IsList le vs := l1.at fun o e => K3.heap _ o ne (N2.heap _ o e)
  exact list_item l3 r0 r1 h1 (fun _ _ => rfl) fun v hv => h v s3 hv ((Kp.of (N1.trans N2)).trans K3) S3
end
end Mine
namespace Mine
open PySem PySem.W PyProof.Rows PySem.Calls PySem.Spec PySem.SeqAt
noncomputable abbrev sCell : Str := Str.ofString "cell"
noncomputable abbrev sBig : Str := Str.ofString "big"
noncomputable abbrev sMix : Str := Str.ofString "mixed"
section
variable {base : Heap} {lf : List Env} {n : Nat} {c : Cx} {m : Str → Option Value} {s : Shared} {E Q : Value → Shared → Prop} {nms : List (Str × NameKind)} {la : Addr} {hs : Heap} {P P1 P2 : Int → Prop} {a b : Expr} {p : Pos}
theorem ip_mul (ha : IntP c n m hs a P1) (hb : IntP c n m hs b P2) (hj : ∀ j, P2 j → Builtin.Int.intBits j ≤ 64) : IntP c n m hs (.BinOp a .Mult b p) anyI := ip_bin ha hb fun _ e h => mul_int (h _ _ _ trivial (Next.toks _ _)) (IntMulOk.of_right (hj _ e))
theorem ip_pow {p1 p2 : Pos} : IntP c n m hs (.BinOp (.Constant (.int 10) 0 p1) .Pow (.Constant (.int 18) 0 p2) p) anyI := ip_bin ip_con ip_con fun {s Q E i j t u} e1 e2 h => by
  cases e1; cases e2
  exact pow_int_small (by decide) (by decide) (by decide) (h _ _ _ trivial (Next.toks _ _))
theorem ip_any (ha : IntP c n m hs a P) : IntP c n m hs a anyI := fun {s Q E} X k h => ha X k fun i t s' _ N => h i t s' trivial N
theorem ip_neg {p2 : Pos} : IntP c n m hs (.UnaryOp .USub (.Constant (.int 1) 0 p) p2) anyI := fun {s Q E} X k h => wpAny_UnaryOp (con_int fun t tk => PyProof.Rows.neg_int (h _ _ _ trivial ⟨fun _ _ e => e, rfl, rfl, rfl⟩))
/-- max(a, b) -/
theorem ip_max (K : KB) (hN : c.cs.names = nms) (hg : nms.lookup (Str.ofString "max") = some .globalImplicit) (ha : IntP c n m hs a P1) (hb : IntP c n m hs b P2) (he2 : starEach [a, b] c.env = (false, eval a c.env) :: starEach [b] c.env) (he1 : starEach [b] c.env = [(false, eval b c.env)]) {p1 : Pos} : IntP c n m hs (.Call (.Name (Str.ofString "max") p1) [a, b] [] p) (fun k => ∃ i j, P1 i ∧ P2 j ∧ k = if i < j then j else i) := fun {s Q E} X k h => by
  refine wpAny_Call_ofName (name_B X.F X.S.gd.kin (topRead_of X.S.gd.top) K.max boot_max (by decide) ?_ X.S.nms.kind (by rw [← hN] at hg; exact hg) (by decide))
  refine callWith_builtin (by rw [he2, he1]; rfl) (evalArgs_more (spliced_more (ha X k fun i t s1 pi N1 => ?_) he2) he2)
  refine spliced_more (hb (X.next N1) (fun b o e => N1.heap _ _ (k b o e)) fun j u s2 pj N2 => spliced_none ?_) he1
  refine PySem.Flt.max_two_num X.S.room.hand (.int _ _) (.int _ _) fun h3 k3 kp3 => ?_
  have N : Next s { s2 with heap := h3, toks := k3 } := (N1.trans N2).trans ⟨kp3, rfl, rfl, rfl⟩
  cases q : PySem.Flt.ltV (.int i t) (.int j u) with
  | true => exact h j u _ ⟨i, j, pi, pj, (if_pos (of_decide_eq_true q)).symm⟩ N
  | false => exact h i t _ ⟨i, j, pi, pj, (if_neg (of_decide_eq_false q)).symm⟩ N
/-- min(a, b) -/
theorem ip_min (K : KB) (hN : c.cs.names = nms) (hg : nms.lookup (Str.ofString "min") = some .globalImplicit) (ha : IntP c n m hs a P1) (hb : IntP c n m hs b P2) (he2 : starEach [a, b] c.env = (false, eval a c.env) :: starEach [b] c.env) (he1 : starEach [b] c.env = [(false, eval b c.env)]) {p1 : Pos} : IntP c n m hs (.Call (.Name (Str.ofString "min") p1) [a, b] [] p) (fun k => ∃ i j, P1 i ∧ P2 j ∧ k = if j < i then j else i) := fun {s Q E} X k h => by
  refine wpAny_Call_ofName (name_B X.F X.S.gd.kin (topRead_of X.S.gd.top) K.min boot_min (by decide) ?_ X.S.nms.kind (by rw [← hN] at hg; exact hg) (by decide))
  refine callWith_builtin (by rw [he2, he1]; rfl) (evalArgs_more (spliced_more (ha X k fun i t s1 pi N1 => ?_) he2) he2)
  refine spliced_more (hb (X.next N1) (fun b o e => N1.heap _ _ (k b o e)) fun j u s2 pj N2 => spliced_none ?_) he1
  refine PySem.Flt.min_two_num X.S.room.hand (.int _ _) (.int _ _) fun h3 k3 kp3 => ?_
  have N : Next s { s2 with heap := h3, toks := k3 } := (N1.trans N2).trans ⟨kp3, rfl, rfl, rfl⟩
  cases q : PySem.Flt.ltV (.int j u) (.int i t) with
  | true => exact h j u _ ⟨i, j, pi, pj, (if_pos (of_decide_eq_true q)).symm⟩ N
  | false => exact h i t _ ⟨i, j, pi, pj, (if_neg (of_decide_eq_false q)).symm⟩ N
/-- int(a >= b) -/
theorem ip_intb (K : KB) (hN : c.cs.names = nms) (hg : nms.lookup (Str.ofString "int") = some .globalImplicit) (ha : IntP c n m hs a P1) (hb : IntP c n m hs b P2) {p1 p2 : Pos} (hm : behindInMarks .GtE b = false) : IntP c n m hs (.Call (.Name (Str.ofString "int") p1) [.Compare a [.GtE] [b] p2] [] p) (fun i => i = 0 ∨ i = 1) := fun {s Q E} X k h => by
  refine wpAny_Call_ofName (name_B X.F X.S.gd.kin (topRead_of X.S.gd.top) K.int boot_int (by decide) ?_ X.S.nms.kind (by rw [← hN] at hg; exact hg) (by decide))
  refine callWith_excType rfl (evalArgs_more (spliced_more (wpAny_Compare1 (ha X k fun i t s1 pi N1 => hb (X.next N1) (fun b o e => N1.heap _ _ (k b o e)) fun j u s2 pj N2 => PySem.P.ge_int ?_) hm) rfl))
  refine spliced_none (PySem.call_int_bool ?_)
  exact h _ _ _ (by split <;> simp) ((N1.trans N2).trans (Next.toks _ _))
theorem o633 : okN nms633 sScript = true ∧ okN nms633 sK = true ∧ okN nms633 sCell = true ∧ okN nms633 sBig = true ∧ okN nms633 sMix = true ∧ nms633.lookup (Str.ofString "len") = some .globalImplicit ∧ nms633.lookup (Str.ofString "max") = some .globalImplicit ∧ nms633.lookup (Str.ofString "int") = some .globalImplicit := ⟨by kernel_rfl, by kernel_rfl, by kernel_rfl, by kernel_rfl, by kernel_rfl, by kernel_rfl, by kernel_rfl, by kernel_rfl⟩
theorem d633 : sScript ≠ sCell ∧ sK ≠ sCell ∧ sK ≠ sBig ∧ sBig ≠ sMix := ⟨by decide +kernel, by decide +kernel, by decide +kernel, by decide +kernel⟩
/-- _law_pool(script, k) -/
theorem pool_ok (K : KOn) {A : Around} (P : Pl A base lf s.heap) (R : Room (n + 3) A) {items : List Value} (hl : s.heap.IsList la items.toArray) (hI : ∀ v ∈ items, ∃ i t, v = .int i t) (hlen : items.length < 1000) {k : Int} {kt : Tok} (k0 : 0 ≤ k) (k1 : k < 10)
    (h : ∀ ls s', Next s s' → s.heap.get? ls = none → SrcAt s'.heap ls → Q (.ref ls) s') : wpAny gM A (call (.ref 633) [.ref la, .int k kt]) Q E s := by
  refine fn_enter (n := n) K.i633 P R (fun _ _ e => e) rfl rfl fun c s1 F hN h0 hcL N1 => ?_
  obtain ⟨o1, o2, o3, o4, o5, g1, g2, g3⟩ := o633
  obtain ⟨e1, e2, e3, e4⟩ := d633
  have X := F.X
  have mS : bnd [sScript, sK] [] [.ref la, .int k kt] sScript = some (.ref la) := by kernel_rfl
  have mK : bnd [sScript, sK] [] [.ref la, .int k kt] sK = some (.int k kt) := by kernel_rfl
  generalize bnd [sScript, sK] [] [.ref la, .int k kt] = m at X mS mK
  clear F
  have l1 := hl.at fun o e => N1.heap _ o e
  have kb : ∀ j, j = k → Builtin.Int.intBits j ≤ 64 := fun j e => PySem.intBits_le_64 (by omega) (by omega)
  have B := K.T.B
  have hz : items.toArray.size < 1000 := by rw [List.size_toArray]; exact hlen
  unfold body633
  -- cell = ..
  unfold b633_0
  have go : ∀ {i : Int} {t : Tok} {s2 : Shared}, Next s1 s2 → wpAny gM c.A (storeName c.env sCell (.int i t)) (fun _ s' => wpAny gM c.A (execs [b633_1, b633_2, b633_3] c.env) (OutQ Q) (OutE c E) s') (OutE c E) s2 := fun {i t s2} N2 => store_at (X.next N2) hN (okN_lk o3) fun s3 N3 X3 => by
    have mC : (fun z => if z = sCell then some (Value.int i t) else m z) sCell = some (.int i t) := if_pos rfl
    have mK3 : (fun z => if z = sCell then some (Value.int i t) else m z) sK = some (.int k kt) := (if_neg e2).trans mK
    replace X3 : At (n + 2) c fe0 (fun z => if z = sCell then some (Value.int i t) else m z) s3 := X3
    generalize (fun z => if z = sCell then some (Value.int i t) else m z) = m3 at X3 mC mK3
    unfold b633_1
    refine wpAny_execs_cons (wpAny_Assign_Name (ip_max B hN g2 (ip_int B hN g3 (ip_loc hN o3 mC) rfl) (ip_int B hN g3 (ip_sub ip_neg (ip_loc hN o3 mC)) rfl) rfl rfl X3 (fun _ _ e => e) fun j u s4 _ N4 => store_at (X3.next N4) hN (okN_lk o4) fun s5 N5 X5 => ?_) rfl)
    have mB : (fun z => if z = sBig then some (Value.int j u) else m3 z) sBig = some (.int j u) := if_pos rfl
    have mK5 : (fun z => if z = sBig then some (Value.int j u) else m3 z) sK = some (.int k kt) := (if_neg e3).trans mK3
    replace X5 : At (n + 2) c fe0 (fun z => if z = sBig then some (Value.int j u) else m3 z) s5 := X5
    generalize (fun z => if z = sBig then some (Value.int j u) else m3 z) = m5 at X5 mB mK5
    unfold b633_2
    refine wpAny_execs_cons (wpAny_Assign_Name (ip_mod (ip_int B hN g3 (ip_mulR (ip_add (ip_add (ip_add (ip_mod (ip_int B hN g3 (ip_loc hN o4 mB) rfl) ip_con (by decide)) (ip_mul (ip_mul ip_con (ip_loc hN o2 mK5) kb) (ip_loc hN o2 mK5) kb)) (ip_mul ip_con (ip_loc hN o2 mK5) kb)) ip_con) ip_con (by decide)) rfl) ip_con (by decide) X5 (fun _ _ e => e) fun l w s6 _ N6 => store_at (X5.next N6) hN (okN_lk o5) fun s7 N7 X7 => ?_) rfl)
    have mM : (fun z => if z = sMix then some (Value.int l w) else m5 z) sMix = some (.int l w) := if_pos rfl
    have mB7 : (fun z => if z = sMix then some (Value.int l w) else m5 z) sBig = some (.int j u) := (if_neg e4).trans mB
    replace X7 : At (n + 2) c fe0 (fun z => if z = sMix then some (Value.int l w) else m5 z) s7 := X7
    generalize (fun z => if z = sMix then some (Value.int l w) else m5 z) = m7 at X7 mM mB7
    unfold b633_3
    refine wpAny_execs_cons (wpAny_Return_some (List_ (spliced_more (ip_mul (ip_loc hN o4 mB7) (ip_intb B hN g3 (ip_loc hN o4 mB7) ip_pow rfl) (fun j e => by rcases e with rfl | rfl <;> decide) X7 (fun _ _ e => e) fun i8 t8 s8 _ N8 => ?_) rfl)))
    refine spliced_more (ldn (X7.next N8) hN o5 mM (spliced_none (wpAny_newList ?_ (by show 2 ≤ _; decide)))) rfl
    have nL : s.heap.get? s8.heap.objs.size = none := by
      cases q : s.heap.get? s8.heap.objs.size with
      | none => rfl
      | some o => exact absurd (Heap.lt_size (N8.heap _ _ (X7.F.keep _ _ (by rw [h0]; exact q)))) (Nat.lt_irrefl _)
    refine h _ _ ⟨fun b o e => Heap.get?_push_of_some _ (N8.heap _ _ (X7.F.keep b o (by rw [h0]; exact e))), N8.gens.trans (N7.gens.trans (N6.gens.trans (N5.gens.trans (N4.gens.trans (N3.gens.trans (N2.gens.trans N1.gens)))))), N8.drawn.trans (N7.drawn.trans (N6.drawn.trans (N5.drawn.trans (N4.drawn.trans (N3.drawn.trans (N2.drawn.trans N1.drawn)))))), N8.os.trans (N7.os.trans (N6.os.trans (N5.os.trans (N4.os.trans (N3.os.trans (N2.os.trans N1.os))))))⟩ nL ⟨i8, l, t8, w, _, Heap.get?_push_size _ rfl, rfl, _, rfl⟩
  generalize [b633_1, b633_2, b633_3] = rs at go ⊢
  refine wpAny_execs_cons (wpAny_Assign_Name (wpAny_IfExp (wpAny_isTrue_Compare1 (ldn X hN o2 mK (ip_len (le := la) B hN g1 o1 mS l1 hz X (fun _ _ e => e) fun i t s2 e N2 => PySem.P.lt_int (wpAny_truthy_bool ?_))) rfl)) rfl)
  cases e
  have X2 := X.next N2
  by_cases hk : k < (items.toArray.size : Int)
  · rw [decide_eq_true hk]
    refine Subscript_ (ldn X2 hN o1 mS (ldn X2 hN o2 mK ?_))
    refine list_item (l1.at fun o e => N2.heap _ o e) k0 hk hz (fun _ _ => rfl) fun v hv => ?_
    obtain ⟨i, t, rfl⟩ := hI v (by simpa using hv)
    exact go N2
  · rw [decide_eq_false hk]
    exact con_int fun t tk => go (N2.trans (Next.toks _ _))
end
end Mine
namespace Mine
open PySem PySem.W PyProof.Rows PySem.Calls PySem.Spec PySem.SeqAt
noncomputable def fiV : FI := ⟨[8, 4], []⟩
noncomputable def wInt : PV := .str [105, 110, 116]
noncomputable def wStr : PV := .str [115, 116, 114, 105, 110, 103]
noncomputable def wBool : PV := .str [98, 111, 111, 108]
noncomputable def wLoc : PV := .str [108, 111, 99, 97, 108]
noncomputable def wTyp : PV := .str [116, 121, 112, 101, 100]
noncomputable def words : List PV := [wInt, wInt, wStr, wBool, wLoc, wLoc, wTyp]
noncomputable def nums8 : List Int := [0, 127, 128, -128, -129, 65535, 65536, 300]
theorem v_nums_ev : (ev GL 20).ex ⟨fiV, []⟩ v_nums = some (.lst (nums8.map .int)) := by kernel_rfl
theorem v_words_ev : (ev GL 20).ex ⟨fiV, []⟩ v_words = some (.lst words) := by kernel_rfl
theorem v_c_ev : evs (ev GL 20) ⟨fiV, []⟩ [v_c1, v_c2, v_c3] = some [tConst, pUInt, .int 4] := by kernel_rfl
theorem v_l1_ev : (ev GL 20).ex ⟨fiV, []⟩ v_l1 = some wLoc := by kernel_rfl
theorem v_l_ev : evs (ev GL 20) ⟨fiV, []⟩ [v_l3, v_l4] = some [.int 4, .int 3] := by kernel_rfl
/-- what a word leads to -/
def WdOK (d : PV) : Prop := ∃ b1 b2 b3, (ev GL 20).tr ⟨fiV, [(8, d)]⟩ v_t1 = some b1 ∧ (ev GL 20).tr ⟨fiV, [(8, d)]⟩ v_t2 = some b2 ∧ (ev GL 20).tr ⟨fiV, [(8, d)]⟩ v_t3 = some b3 ∧
  (b1 = false → b2 = false → b3 = false → ∃ e, (ev GL 20).ex ⟨fiV, [(8, d)]⟩ v_last = some e ∧ anyPV e es1 = true)
noncomputable def wdB (d : PV) : Bool := isT (((ev GL 20).tr ⟨fiV, [(8, d)]⟩ v_t1).bind fun b1 => ((ev GL 20).tr ⟨fiV, [(8, d)]⟩ v_t2).bind fun b2 => ((ev GL 20).tr ⟨fiV, [(8, d)]⟩ v_t3).bind fun b3 =>
  cond b1 (some true) (cond b2 (some true) (cond b3 (some true) (((ev GL 20).ex ⟨fiV, [(8, d)]⟩ v_last).bind fun e => some (anyPV e es1)))))
theorem wd_all : words.all wdB = true := by kernel_rfl
theorem wd_ok {d : PV} (h : d ∈ words) : WdOK d := by
  have q := isT_some (List.all_eq_true.mp wd_all _ h)
  obtain ⟨b1, h1, q⟩ := bind_some q
  obtain ⟨b2, h2, q⟩ := bind_some q
  obtain ⟨b3, h3, q⟩ := bind_some q
  refine ⟨b1, b2, b3, h1, h2, h3, fun z1 z2 z3 => ?_⟩
  subst z1; subst z2; subst z3
  obtain ⟨e, h4, q⟩ := bind_some q
  exact ⟨e, h4, some_inj q⟩
/-- a number's pair -/
def PrOK (i : Int) : Prop := ∃ es, (ev GL 20).ex ⟨fiV, [(4, .int i)]⟩ v_pair = some (.lst es) ∧ (es.length == 2 && es.all fun e => anyPV e es1) = true
noncomputable def prB (i : Int) : Bool := isT ((((ev GL 20).ex ⟨fiV, [(4, .int i)]⟩ v_pair).bind asLst).bind fun es => some (es.length == 2 && es.all fun e => anyPV e es1))
theorem pr_all : nums8.all prB = true := by kernel_rfl
theorem pr_ok {i : Int} (h : i ∈ nums8) : PrOK i := by
  obtain ⟨es, q1, q2⟩ := bind_some (isT_some (List.all_eq_true.mp pr_all _ h))
  obtain ⟨d, q3, q4⟩ := bind_some q1
  cases asLst_some q4
  exact ⟨es, q3, some_inj q2⟩
theorem nums_u : nums8.all (fun i => anyPV (.tup [tConst, pUInt, .int 4, .int i]) es1) = true := by kernel_rfl
theorem types_l : (okTypes.take 9).all (fun t => pureP t && anyPV (.tup [wLoc, t, .int 4, .int 3]) es1) = true := by kernel_rfl
theorem anyPV_mem {d : PV} : ∀ {l : List PV}, anyPV d l = true → d ∈ l := fun {l} => by
  induction l with
  | nil => intro h; cases h
  | cons x r ih =>
    intro h
    cases q : eqPV d x with
    | true => rw [eqPV_eq q]; exact .head _
    | false => exact .tail _ (ih (by rw [anyPV, q] at h; exact h))
theorem es1_all : es1.all (fun e => pureP e && match e with | .tup _ => true | _ => false) = true := by kernel_rfl
theorem es1_is {e : PV} (h : e ∈ es1) : pureP e = true ∧ ∃ l, e = .tup l := by
  obtain ⟨h1, h2⟩ := and_both (List.all_eq_true.mp es1_all _ h)
  cases e with
  | tup l => exact ⟨h1, l, rfl⟩
  | _ => cases h2
theorem Kp.kt {ls : Addr} {s s' : Shared} (K : Kp (· ≠ ls) s s') (S : SrcAt s.heap ls) : KT1 s.heap s'.heap := fun a o c d e => K.heap a o (S.noT.ne e c d) e
/-- a list that is no source: its size, or its first item, says so -/
theorem not_src {ls le : Addr} {vs : Array Value} {h : Heap} (hl : h.IsList le vs) (S : SrcAt h ls) (hv : vs.size ≠ 2 ∨ ∃ r, vs[0]? = some (.ref r)) : le ≠ ls := fun z => by
  obtain ⟨x, y, t1, t2, o, e, _, n, d⟩ := S
  obtain ⟨o', e', _, n', d'⟩ := hl
  rw [z, e] at e'; cases some_inj e'
  rw [d] at d'
  injection d' with q _
  subst q
  exact hv.elim (fun z => z rfl) fun ⟨r, z⟩ => by cases z
section
variable {base : Heap} {lf : List Env} {n : Nat} {c : Cx} {m : Str → Option Value} {s s' : Shared} {E Q : Value → Shared → Prop} {nms : List (Str × NameKind)} {ls le : Addr} {fi : FI} {ρ : List (Nat × PV)}
/-- a frame that draws -/
structure Dw (base : Heap) (lf : List Env) (n : Nat) (c : Cx) (m : Str → Option Value) (s : Shared) (ls : Addr) : Prop where
  F : Fm base lf n c fe0 m s
  S : SrcAt s.heap ls
  hm : m sSrc = some (.ref ls)
  nL : c.L ≠ ls
  n0 : c.h₀.get? ls = none
  nb : base.get? ls = none
  nf : ls ∉ framesOf lf
theorem Dw.next (D : Dw base lf n c m s ls) (N : Next s s') : Dw base lf n c m s' ls := ⟨D.F.next N, D.S.to fun o e => N.heap _ o e, D.hm, D.nL, D.n0, D.nb, D.nf⟩
theorem Dw.drawn (D : Dw base lf n c m s ls) (K : Kp (· ≠ ls) s s') (S : SrcAt s'.heap ls) : Dw base lf n c m s' ls := ⟨D.F.at ⟨D.F.X.S, fr_but D.F.X.F D.n0 D.nL K.heap, lrel0⟩, S, D.hm, D.nL, D.n0, D.nb, D.nf⟩
theorem Dw.put (D : Dw base lf n c m s ls) {m' : Str → Option Value} (N : NextL c.L s s') (X : At n c fe0 m' s') (hm : m' sSrc = some (.ref ls)) : Dw base lf n c m' s' ls := ⟨D.F.at X, D.S.to fun o e => N.heap _ o D.nL.symm e, hm, D.nL, D.n0, D.nb, D.nf⟩
theorem At.fe (X : At n c fe0 m s) (N : Nms c.cs fi) (R : LRel fi s.heap m ρ) : At n c ⟨fi, ρ⟩ m s := ⟨⟨X.S.gd, N, X.S.room, X.S.below⟩, X.F, R⟩
theorem lrel_nil {h : Heap} : LRel fi h m [] := fun x d _ e => nomatch e
theorem lrel_cons {h : Heap} {x : Nat} {v : Value} {d : PV} (R : LRel fi h m ρ) (hm : m (nmOf x) = some v) (V : gV h v d) : LRel fi h m ((x, d) :: ρ) := fun y d' hy e => by
  rcases cond_or (show cond (Nat.beq y x) (some d) (lk y ρ) = some d' from e) with ⟨q, h1⟩ | ⟨q, h1⟩
  · cases some_inj h1; cases Nat.eq_of_beq_eq_true q; exact ⟨v, hm, V⟩
  · exact R y d' hy h1
/-- one of a list's things is drawn -/
theorem draw_eval (K : KOn) (g1 : GNm (Str.ofString "_law_one") 647) (D : Dw base lf (n + 6) c m s ls) (hN : c.cs.names = nms) (oS : okN nms sSrc = true) (hg : nms.lookup (Str.ofString "_law_one") = some .globalImplicit) {X : Expr} (he : starEach [X] c.env = [(false, eval X c.env)]) {p1 p2 p3 : Pos}
    (h : wpAny gM c.A (eval X c.env) (fun v s1 => Next s s1 ∧ ∃ le vs, v = .ref le ∧ s1.heap.IsList le vs ∧ le ≠ ls ∧ 0 < vs.size ∧ vs.size < 1000 ∧ ∀ v s2, v ∈ vs.toList → Kp (· ≠ ls) s1 s2 → Dw base lf (n + 6) c m s2 ls → Q v s2) E s) :
    wpAny gM c.A (eval (.Call (.Name (Str.ofString "_law_one") p1) [.Name sSrc p2, X] [] p3) c.env) Q E s := by
  refine glob_call g1 D.F.X (by rw [hN]; exact hg) (spliced_more (ldn D.F.X hN oS D.hm (spliced_more (wpAny_mono h (fun v s1 h1 => ?_) fun _ _ z => z) he)) rfl) rfl (by rw [he]; rfl)
  obtain ⟨N, le, vs, rfl, hl, ne, q0, q1, hq⟩ := h1
  have D1 := D.next N
  refine spliced_none ⟨N.heap, draw_ok (n := n) K D1.F.pl D1.F.X.S.room D.nb (fun hm => (in_frames (L := c.L) hm).elim (fun z => D.nL z.symm) D.nf) D1.S hl ne q0 q1 fun v s2 hv K2 S2 => hq v s2 hv K2 (D1.drawn K2 S2)⟩
theorem lst_is {v : Value} {ds : List PV} {h : Heap} (V : gV h v (.lst ds)) : ∃ le vs, v = .ref le ∧ h.IsList le vs ∧ gVs h vs.toList ds ∧ vs.size = ds.length := by
  obtain ⟨a, vs, rfl, I, W⟩ := V
  exact ⟨a, vs, rfl, I, W, W.size⟩
end
end Mine
namespace Mine
open PySem PySem.W PyProof.Rows PySem.Calls PySem.Spec PySem.SeqAt
noncomputable abbrev sNums : Str := Str.ofString "numbers"
theorem o701 : okN nms701 sSrc = true ∧ okN nms701 sNums = true ∧ okN nms701 (nmOf 8) = true ∧ okN nms701 (nmOf 4) = true ∧ nms701.lookup (Str.ofString "_law_one") = some .globalImplicit ∧ nms701.lookup (Str.ofString "_law_types") = some .globalImplicit ∧ chkFn nms701 fiV [] [] = true := ⟨by kernel_rfl, by kernel_rfl, by kernel_rfl, by kernel_rfl, by kernel_rfl, by kernel_rfl, by decide +kernel⟩
theorem d701 : sSrc ≠ sNums ∧ sSrc ≠ nmOf 8 ∧ sNums ≠ nmOf 8 ∧ sSrc ≠ nmOf 4 ∧ sNums ≠ nmOf 4 := ⟨by decide +kernel, by decide +kernel, by decide +kernel, by decide +kernel, by decide +kernel⟩
noncomputable abbrev Gn : Shared → Shared → Prop := Kp fun _ => False
theorem Kp.gn {p : Addr → Prop} {s s' : Shared} (K : Kp p s s') : Gn s s' := K.more fun _ z => z.elim
theorem NextL.gn {L : Addr} {s s' : Shared} (K : NextL L s s') : Gn s s' := (Kp.ofL K).gn
theorem Next.gn {s s' : Shared} (K : Next s s') : Gn s s' := Kp.of K
/-- the list of numbers -/
def NumsAt (h : Heap) (ln : Addr) : Prop := ∃ vn, h.IsList ln vn ∧ vn.size = 8 ∧ ∀ v ∈ vn.toList, ∃ i t, v = .int i t ∧ i ∈ nums8
theorem NumsAt.to {h h' : Heap} {ln : Addr} (N : NumsAt h ln) (k : ∀ o, h.get? ln = some o → h'.get? ln = some o) : NumsAt h' ln := let ⟨vn, I, r⟩ := N; ⟨vn, I.at k, r⟩
section
variable {base : Heap} {lf : List Env} {n : Nat} {c : Cx} {m : Str → Option Value} {s s' : Shared} {E Q : Value → Shared → Prop} {nms : List (Str × NameKind)} {ls le ln : Addr} {fi : FI} {ρ : List (Nat × PV)}
/-- a frame that draws numbers -/
structure Dn (base : Heap) (lf : List Env) (c : Cx) (m : Str → Option Value) (s : Shared) (ls ln : Addr) : Prop where
  D : Dw base lf 27 c m s ls
  mn : m sNums = some (.ref ln)
  nl : ln ≠ ls
  nL : ln ≠ c.L
  N : NumsAt s.heap ln
theorem Dn.next (D : Dn base lf c m s ls ln) (N : Next s s') : Dn base lf c m s' ls ln := ⟨D.D.next N, D.mn, D.nl, D.nL, D.N.to fun o e => N.heap _ o e⟩
theorem Dn.drawn (D : Dn base lf c m s ls ln) (K : Kp (· ≠ ls) s s') (D' : Dw base lf 27 c m s' ls) : Dn base lf c m s' ls ln := ⟨D', D.mn, D.nl, D.nL, D.N.to fun o e => K.heap _ o D.nl e⟩
theorem Dn.put (D : Dn base lf c m s ls ln) (N : NextL c.L s s') {y : Str} {v : Value} (X : At 27 c fe0 (fun z => if z = y then some v else m z) s') (h1 : sSrc ≠ y) (h2 : sNums ≠ y) : Dn base lf c (fun z => if z = y then some v else m z) s' ls ln :=
  ⟨D.D.put N X ((if_neg h1).trans D.D.hm), (if_neg h2).trans D.mn, D.nl, D.nL, D.N.to fun o e => N.heap _ o D.nL e⟩
/-- a number is drawn -/
theorem draw_num (K : KVl) (hN : c.cs.names = nms701) (D : Dn base lf c m s ls ln) {p1 p2 p3 p4 : Pos} (h : ∀ i t s', i ∈ nums8 → Kp (· ≠ ls) s s' → Dn base lf c m s' ls ln → Q (.int i t) s') :
    wpAny gM c.A (eval (.Call (.Name (Str.ofString "_law_one") p1) [.Name sSrc p2, .Name sNums p4] [] p3) c.env) Q E s := by
  obtain ⟨o1, o2, -, -, g1, -⟩ := o701
  obtain ⟨vn, I, hz, hv⟩ := D.N
  refine draw_eval (n := 21) K.O K.g1 D.D hN o1 g1 rfl (ldn D.D.F.X hN o2 D.mn ⟨Next.refl s, ln, vn, rfl, I, D.nl, by omega, by omega, fun v s2 hm K2 D2 => ?_⟩)
  obtain ⟨i, t, rfl, hi⟩ := hv v hm
  exact h i t s2 hi K2 (D.drawn K2 D2)
theorem x20 (X : At 27 c fe0 m s) (hN : c.cs.names = nms701) (R : LRel fiV s.heap m ρ) : At 20 c ⟨fiV, ρ⟩ m s := (X.fe (nms_of (ps := []) (ex := []) X.S.nms.kind (by rw [hN]; exact o701.2.2.2.2.2.2)).1 R).less (by decide)
/-- [9] of a list -/
theorem list_to {l : Addr} {items : Array Value} {b : Nat} {q1 q2 : Pos} {value : Expr} {A : Around} {env : Env} (hl : s.heap.IsList l items) (hb : b ≤ items.size) (hsz : items.size ≤ sizeLine) (h : ∀ le s', Next s s' → s'.heap.IsList le (items.toList.take b).toArray → Q (.ref le) s')
    (hs : ∀ sl, subscripted (.Slice none (some (.Constant (.int (b : Int)) 0 q1)) none q2) false (.ref l) (.ref sl) = operate [.ref sl, .ref l] (getItem (.ref l) (.ref sl))) :
    wpAny gM A (eval (.Slice none (some (.Constant (.int (b : Int)) 0 q1)) none q2) env) (fun i s₂ => wpAny gM A (subscriptTail value (.Slice none (some (.Constant (.int (b : Int)) 0 q1)) none q2) (.ref l) i) Q E s₂) E s := by
  refine slice_to (j := (b : Int)) fun u tk => ?_
  have hl' : (s.heap.push (slO .none (.int (b : Int) u))).IsList l items := hl.push _
  refine tail_any (ops := [.ref s.heap.objs.size, .ref l]) (s := { s with heap := s.heap.push (slO .none (.int (b : Int) u)), toks := tk }) hl'.typeIs slot_list_getitem.lookup
    (wpAny_getItem_list_slice (s := { s with heap := s.heap.push (slO .none (.int (b : Int) u)), toks := tk }) hl' (Heap.IsSliceOf.new ..) .none (.int _ _) .none (by simp) ?_ hsz) (hs _)
  rw [slicePick_upto _ _ hb]
  exact h _ _ ⟨fun x ox e => Heap.get?_push_of_some _ (Heap.get?_push_of_some _ e), rfl, rfl, rfl⟩ ⟨_, Heap.get?_push_size _ rfl, rfl, _, rfl⟩
/-- expressions, and one more behind them -/
theorem evs_app {r : Rec} {k : Nat} {f : Fe} (H : RecOK k r) {q : Pos} {X : Expr} (he : starEach [X] c.env = [(false, eval X c.env)]) {es : List IE} : ∀ {ds : List PV} {s : Shared} {Q : List Value → Shared → Prop}, evs r f es = some ds → At k c f m s →
    (∀ vs s', Next s s' → gVs s'.heap vs ds → wpAny gM c.A (eval X c.env) (fun v s2 => Q (vs ++ [v]) s2) E s') → wpAny gM c.A (spliced (backTo q (starEach (embs es ++ [X]) c.env))) Q E s := by
  induction es with
  | nil => intro ds s Q e _ h; cases some_inj e; exact spliced_more (wpAny_mono (h [] s (Next.refl s) rfl) (fun v s2 z => spliced_none z) fun _ _ z => z) he
  | cons x es ih =>
    intro ds s Q e X h
    obtain ⟨d1, h1, e⟩ := bind_some e
    obtain ⟨d2, h2, e⟩ := bind_some e
    cases some_inj e
    exact spliced_more (H.ex h1 X fun v s' N V => ih h2 (X.next N) fun vs s'' N' V' => h (v :: vs) s'' (N.trans N') ⟨v, vs, rfl, V.mono N'.KS, V'⟩) star_one
/-- a whole number -/
theorem value_int (K : KVl) (CL : CfgOK GL) (hN : c.cs.names = nms701) (D : Dn base lf c m s ls ln) {p1 p2 p3 p4 p5 : Pos}
    (h : ∀ v s' e, e ∈ es1 → Gn s s' → Dw base lf 27 c m s' ls → gV s'.heap v e → Q v s') : wpAny gM c.A (eval (.Tuple (embs [v_c1, v_c2, v_c3] ++ [.Call (.Name (Str.ofString "_law_one") p1) [.Name sSrc p2, .Name sNums p4] [] p3]) 0 p5) c.env) Q E s := by
  have hc := v_c_ev
  generalize [v_c1, v_c2, v_c3] = es at hc
  refine Tuple_ (evs_app (ev_ok CL 20) rfl hc (x20 D.D.F.X hN lrel_nil) fun vs s1 N1 V1 => ?_)
  have D1 := D.next N1
  refine draw_num K hN D1 fun i t s2 hi K2 D2 => ?_
  have V2 : gVs s2.heap vs [tConst, pUInt, .int 4] := VRs.re (K2.kt D1.D.S) rfl V1
  refine new_tup (ds := [tConst, pUInt, .int 4] ++ [.int i]) (V2.append (es := [.int i]) ⟨.int i t, [], rfl, ⟨t, rfl⟩, rfl⟩) rfl fun v s3 N3 V3 => ?_
  exact h v s3 _ (anyPV_mem (List.all_eq_true.mp nums_u i hi)) (N1.gn.trans (K2.gn.trans N3.gn)) (D2.D.next N3) V3
/-- a local -/
theorem value_loc (K : KVl) (CL : CfgOK GL) (hN : c.cs.names = nms701) (D : Dn base lf c m s ls ln) {p1 p2 p3 p4 p5 p6 p7 p8 p9 : Pos}
    (h : ∀ v s' e, e ∈ es1 → Gn s s' → Dw base lf 27 c m s' ls → gV s'.heap v e → Q v s') :
    wpAny gM c.A (eval (.Tuple (v_l1.emb :: .Call (.Name (Str.ofString "_law_one") p1) [.Name sSrc p2, .Subscript (.Call (.Name (Str.ofString "_law_types") p3) [] [] p4) (.Slice none (some (.Constant (.int 9) 0 p5)) none p6) p7] [] p8 :: embs [v_l3, v_l4]) 0 p9) c.env) Q E s := by
  obtain ⟨o1, -, -, -, g1, g2, -⟩ := o701
  have H := ev_ok CL 20
  have h1 := v_l1_ev
  have h2 := v_l_ev
  generalize v_l1 = l1 at h1
  generalize [v_l3, v_l4] = es at h2
  refine Tuple_ (spliced_more (H.ex h1 (x20 D.D.F.X hN lrel_nil) fun v1 s1 N1 V1 => ?_) star_one)
  have D1 := D.next N1
  refine spliced_more (draw_eval (n := 21) K.O K.g1 D1.D hN o1 g1 rfl (Subscript_ (glob_call0 K.gT D1.D.F.X (by rw [hN]; exact g2) (types_ok K.O CL D1.D.F.place D1.D.F.X.gd (D1.D.F.X.S.room.less (by decide)) fun v2 s2 N2 V2 => ?_)))) rfl
  obtain ⟨lt, vt, rfl, ht, Wt, hsz⟩ := lst_is V2
  have hsz : vt.size = 10 := hsz
  refine list_to (b := 9) ht (by omega) (by rw [hsz]; decide) (fun le s3 N3 h3 => ?_) (fun _ => rfl)
  have W3 : gVs s3.heap (vt.toList.take 9) (okTypes.take 9) := (VRs.take 9 Wt).mono N3.KS
  have h9 : (vt.toList.take 9).toArray.size = 9 := by simp [hsz]
  have D3 := (D1.next N2).next N3
  refine ⟨N2.trans N3, le, _, rfl, h3, not_src h3 D3.D.S (.inl (by rw [h9]; decide)), by rw [h9]; decide, by rw [h9]; decide, fun v s4 hv K4 D4 => ?_⟩
  obtain ⟨d, hd, Vd⟩ := W3.mem v (by simpa using hv)
  obtain ⟨q1, q2⟩ := and_both (List.all_eq_true.mp types_l d hd)
  have kt := K4.kt D3.D.S
  have W1 : gV s4.heap v1 wLoc := VR.re kt rfl (V1.mono (N2.trans N3).KS)
  have Wd : gV s4.heap v d := VR.re kt q1 Vd
  refine evs_ok H h2 (x20 D4.F.X hN lrel_nil) fun vs s5 N5 V5 => ?_
  refine new_tup (ds := wLoc :: d :: [.int 4, .int 3]) ⟨_, _, rfl, W1.mono N5.KS, _, _, rfl, Wd.mono N5.KS, V5⟩ rfl fun v6 s6 N6 V6 => ?_
  exact h v6 s6 _ (anyPV_mem q2) (N1.gn.trans ((N2.trans N3).gn.trans (K4.gn.trans (N5.trans N6).gn))) (D4.next (N5.trans N6)) V6
/-- a typed constant -/
theorem value_typ (K : KVl) (CL : CfgOK GL) (hN : c.cs.names = nms701) (D : Dn base lf c m s ls ln) {p1 p2 p3 p4 p5 p6 p7 p8 p9 p0 : Pos} {Q : Flow → Shared → Prop}
    (h : ∀ v s' e, e ∈ es1 → Gn s s' → (∃ m', Dw base lf 27 c m' s' ls) → gV s'.heap v e → Q (.ret v) s') :
    wpAny gM c.A (execs [.Assign [.Name (nmOf 4) p1] (.Call (.Name (Str.ofString "_law_one") p2) [.Name sSrc p3, .Name sNums p4] [] p5) p6, .Return (some (.Call (.Name (Str.ofString "_law_one") p7) [.Name sSrc p8, v_pair.emb] [] p9)) p0] c.env) Q E s := by
  obtain ⟨o1, -, -, o4, g1, -⟩ := o701
  obtain ⟨-, -, -, e4, e5⟩ := d701
  refine wpAny_execs_cons (wpAny_Assign_Name (draw_num K hN D fun i t s2 hi K2 D2 => store_at D2.D.F.X hN (okN_lk o4) fun s3 N3 X3 => ?_) rfl)
  obtain ⟨es, q1, q2⟩ := pr_ok hi
  obtain ⟨q3, q4⟩ := and_both q2
  have D3 := D2.put N3 X3 e4 e5
  generalize v_pair = ip at q1
  refine wpAny_execs_cons (wpAny_Return_some (draw_eval (n := 21) K.O K.g1 D3.D hN o1 g1 star_one ((ev_ok CL 20).ex q1 (x20 D3.D.F.X hN (lrel_cons (v := .int i t) (d := .int i) lrel_nil (if_pos rfl) ⟨t, rfl⟩)) fun v4 s4 N4 V4 => ?_)))
  obtain ⟨le, vs, rfl, hl, W, hz⟩ := lst_is V4
  have hz2 : vs.size = 2 := hz.trans (eq_of_beq q3)
  have D4 := D3.next N4
  have ne : le ≠ ls := not_src hl D4.D.S (.inr (by
    cases es with
    | nil => cases q3
    | cons e0 es =>
      obtain ⟨_, l0, rfl⟩ := es1_is (anyPV_mem (and_both q4).1)
      obtain ⟨v0, ws, q, ⟨a, _, rfl, _⟩, _⟩ := W
      exact ⟨a, by rw [← Array.getElem?_toList, q]; rfl⟩))
  refine ⟨N4, le, vs, rfl, hl, ne, by omega, by omega, fun v s5 hv K5 D5 => ?_⟩
  obtain ⟨e, he, Ve⟩ := W.mem v hv
  have me := anyPV_mem (List.all_eq_true.mp q4 e he)
  exact h v s5 e me (K2.gn.trans (N3.gn.trans (N4.gn.trans K5.gn))) ⟨_, D5⟩ (VR.re (K5.kt D4.D.S) (es1_is me).1 Ve)
/-- what a word leads to: the statements behind it -/
theorem value_tail (K : KVl) (CL : CfgOK GL) (hN : c.cs.names = nms701) (D : Dn base lf c m s ls ln) {d : PV} {v : Value} (hw : m (nmOf 8) = some v) (V : gV s.heap v d) (hd : d ∈ words) {Q : Flow → Shared → Prop}
    (hQ : ∀ v s' e, e ∈ es1 → Gn s s' → (∃ m', Dw base lf 27 c m' s' ls) → gV s'.heap v e → Q (.ret v) s') : wpAny gM c.A (execs [s701_2, s701_3, s701_4, s701_5] c.env) Q E s := by
  obtain ⟨b1, b2, b3, t1, t2, t3, hl⟩ := wd_ok hd
  obtain ⟨l, rfl⟩ : ∃ l, d = .str l := by
    have : words.all (fun d => match d with | .str _ => true | _ => false) = true := by kernel_rfl
    have z := List.all_eq_true.mp this d hd
    cases d <;> first | exact ⟨_, rfl⟩ | cases z
  clear hd
  obtain ⟨o1, o2, o3, o4, g1, g2, -⟩ := o701
  obtain ⟨e1, e2, e3, e4, e5⟩ := d701
  have H := ev_ok CL 20
  have R : ∀ {h : Heap}, LRel fiV h m [(8, .str l)] := fun {h} => lrel_cons lrel_nil hw V
  unfold s701_2
  refine wpAny_execs_cons (wpAny_If (H.tr t1 (x20 D.D.F.X hN R) fun s1 N1 => ?_))
  have D1 := D.next N1
  cases b1 with
  | true =>
    exact wpAny_execs_cons (wpAny_Return_some (value_int K CL hN D1 fun v s2 e he g D2 V => hQ v s2 e he (N1.gn.trans g) ⟨m, D2⟩ V))
  | false =>
    refine wpAny_execs_nil ?_
    unfold s701_3
    refine wpAny_execs_cons (wpAny_If (H.tr t2 (x20 D1.D.F.X hN R) fun s2 N2 => ?_))
    have D2 := D1.next N2
    cases b2 with
    | true => exact wpAny_execs_cons (wpAny_Return_some (value_loc K CL hN D2 fun v s3 e he g D3 V => hQ v s3 e he ((N1.trans N2).gn.trans g) ⟨m, D3⟩ V))
    | false =>
      refine wpAny_execs_nil ?_
      unfold s701_4
      refine wpAny_execs_cons (wpAny_If (H.tr t3 (x20 D2.D.F.X hN R) fun s3 N3 => ?_))
      have D3 := D2.next N3
      cases b3 with
      | true => exact value_typ K CL hN D3 fun v s4 e he g D4 V => hQ v s4 e he (((N1.trans N2).trans N3).gn.trans g) D4 V
      | false =>
        refine wpAny_execs_nil ?_
        obtain ⟨e, h4, h5⟩ := hl rfl rfl rfl
        unfold s701_5
        exact wpAny_execs_cons (wpAny_Return_some (H.ex h4 (x20 D3.D.F.X hN R) fun v5 s5 N5 V5 => hQ v5 s5 e (anyPV_mem h5) (((N1.trans N2).trans N3).trans N5).gn ⟨m, (D3.next N5).D⟩ V5))
end
end Mine
namespace Mine
open PySem PySem.W PyProof.Rows PySem.Calls PySem.Spec PySem.SeqAt
section
variable {base : Heap} {lf : List Env} {n : Nat} {c : Cx} {m : Str → Option Value} {s s' : Shared} {E Q : Value → Shared → Prop} {ls : Addr}
/-- _law_value(source) -/
theorem value_ok (K : KVl) (CL : CfgOK GL) {A : Around} (P : Pl A base lf s.heap) (R : Room 28 A) (nb : base.get? ls = none) (nf : ls ∉ framesOf lf) (S : SrcAt s.heap ls)
    (h : ∀ v s' e, e ∈ es1 → Kp (· ≠ ls) s s' → SrcAt s'.heap ls → gV s'.heap v e → Q v s') : wpAny gM A (call (.ref 701) [.ref ls]) Q E s := by
  refine fn_enter (n := 25) K.i701 (P.hide nb nf) R (fun b o e => Heap.of_hide e) (Heap.hide_size _ _) rfl fun c s1 F hN hh hcL N1 => ?_
  obtain ⟨o1, o2, o3, o4, g1, g2, -⟩ := o701
  obtain ⟨e1, e2, e3, -⟩ := d701
  have mS : bnd [sSrc] [] [.ref ls] sSrc = some (.ref ls) := by kernel_rfl
  generalize bnd [sSrc] [] [.ref ls] = m at F mS
  have n0 : c.h₀.get? ls = none := by rw [hh]; exact Heap.hide_self _ _
  have nL : c.L ≠ ls := by obtain ⟨_, _, _, _, o, e, _⟩ := S; rw [hcL]; exact Nat.ne_of_gt (Heap.lt_size e)
  have D : Dw base lf 27 c m s1 ls := ⟨F, S.to fun o e => N1.heap _ o e, mS, nL, n0, nb, nf⟩
  have H := ev_ok CL 20
  have h1 := v_nums_ev
  have h2 := v_words_ev
  have s1w : ∀ t l env, swapsWith v_nums.emb t l env = pure false := fun _ _ _ => rfl
  have tl := fun {c : Cx} {E : Value → Shared → Prop} {m : Str → Option Value} {s : Shared} {ln : Addr} (hN : c.cs.names = nms701) (D : Dn base lf c m s ls ln) {d : PV} {v : Value} (hw : m (nmOf 8) = some v) (V : gV s.heap v d) (hd : d ∈ words) {Q : Flow → Shared → Prop}
    (hQ : ∀ v s' e, e ∈ es1 → Gn s s' → (∃ m', Dw base lf 27 c m' s' ls) → gV s'.heap v e → Q (.ret v) s') => value_tail (E := E) K CL hN D hw V hd hQ
  unfold body701
  generalize [s701_2, s701_3, s701_4, s701_5] = rs at tl ⊢
  unfold s701_0 s701_1
  generalize v_nums = i1 at h1 s1w
  generalize v_words = i2 at h2
  refine wpAny_execs_cons (wpAny_Assign_Name (H.ex h1 (x20 F.X hN lrel_nil) fun v1 s2 N2 V1 => store_at (F.X.next N2) hN (okN_lk o2) fun s3 N3 X3 => ?_) (s1w _ _ _))
  obtain ⟨ln, vn, rfl, hl, W, hz⟩ := lst_is V1
  have D2 := D.next N2
  have nl : ln ≠ ls := not_src hl D2.S (.inl (by rw [hz]; decide))
  have nlL : ln ≠ c.L := fun z => by
    obtain ⟨o, es, ep, e, hd, _⟩ := D2.F.X.F.ns
    obtain ⟨o', e', _, j, d'⟩ := hl
    rw [z, e] at e'; cases some_inj e'; rw [hd] at d'; cases d'
  have D3 : Dn base lf c _ s3 ls ln := ⟨D2.put N3 X3 ((if_neg e1).trans mS), if_pos rfl, nl, nlL, vn, hl.at fun o e => N3.heap _ o nlL e, hz, fun v hv => by
    obtain ⟨d, hd, Vd⟩ := W.mem v hv
    obtain ⟨i, hi, rfl⟩ := List.mem_map.mp hd
    obtain ⟨t, rfl⟩ := Vd
    exact ⟨i, t, rfl, hi⟩⟩
  refine wpAny_execs_cons (wpAny_Assign_Name (draw_eval (n := 21) K.O K.g1 D3.D hN o1 g1 star_one (H.ex h2 (x20 D3.D.F.X hN lrel_nil) fun v4 s4 N4 V4 => ?_)) rfl)
  obtain ⟨lw, vw, rfl, hw, Ww, hzw⟩ := lst_is V4
  have hzw : vw.size = 7 := hzw
  have D4 := D3.next N4
  refine ⟨N4, lw, vw, rfl, hw, not_src hw D4.D.S (.inl (by omega)), by omega, by omega, fun v s5 hv K5 D5 => store_at D5.F.X hN (okN_lk o3) fun s6 N6 X6 => ?_⟩
  obtain ⟨d, hd, Vd⟩ := Ww.mem v hv
  have hs : ∀ {h' : Heap}, gV h' v d := fun {h'} => by
    obtain ⟨l, rfl⟩ : ∃ l, d = .str l := by
      have : words.all (fun d => match d with | .str _ => true | _ => false) = true := by kernel_rfl
      have z := List.all_eq_true.mp this d hd
      cases d <;> first | exact ⟨_, rfl⟩ | cases z
    exact Vd
  have D6 := (D4.drawn K5 D5).put N6 X6 e2 e3
  refine tl hN D6 (if_pos rfl) hs hd fun v7 s7 e he g7 D7 V7 => ?_
  obtain ⟨m7, D7⟩ := D7
  have g := N1.gn.trans (N2.gn.trans (N3.gn.trans (N4.gn.trans (K5.gn.trans (N6.gn.trans g7)))))
  exact h v7 s7 e he ⟨fun b o nb q => D7.F.X.F.keep b o (by rw [hh]; exact (Heap.hide_ne _ nb).trans q), g.gens, g.drawn, g.os⟩ D7.S V7
end
end Mine
namespace Mine
open PySem PySem.W PyProof.Rows PySem.Calls PySem.Spec PySem.SeqAt
noncomputable def fiL : FI := ⟨[22, 73], [74]⟩
theorem l_one_ev (q1 q2 : Pos) (e : PV) : (ev GL 20).ex ⟨fiL, [(73, e)]⟩ (l_one q1 q2) = some (.lst [e]) := by kernel_rfl
theorem l_two_ev (e : PV) : (ev GL 20).ex ⟨fiL, [(73, e)]⟩ l_two = some (.lst [.lst [], .lst [e, e]]) := by kernel_rfl
theorem allP_mem {p : PV → Bool} {x : PV} : ∀ {l : List PV}, allP p l = true → x ∈ l → p x = true := fun {l} => by
  induction l with
  | nil => intro _ h; cases h
  | cons y r ih =>
    intro h hx
    have h3 : cond (p y) (allP p r) false = true := h
    cases q : p y with
    | false => rw [q] at h3; cases h3
    | true =>
      rw [q] at h3
      cases hx with
      | head => exact q
      | tail _ hx => exact ih h3 hx
theorem give_one {T e : PV} (hT : T ∈ okTypes) (he : e ∈ es1) (hk : skip T e = false) : ∃ d, dueL T e = some d ∧ eqf 8 d d = some true ∧ pureP d = true ∧ pureP T = true ∧ pureP e = true ∧ AskW T [e] false d := by
  have z := allP_mem (allP_mem all_good hT) he
  rw [hk, Bool.or_false] at z
  obtain ⟨d, h1, q⟩ := bind_some (isT_some z)
  obtain ⟨o, h2, q⟩ := bind_some q
  obtain ⟨g1, q⟩ := and_both (some_inj q)
  obtain ⟨g2, q⟩ := and_both q
  obtain ⟨g3, q⟩ := and_both q
  obtain ⟨g4, g5⟩ := and_both q
  exact ⟨d, h1, isT_some g2, g3, g4, g5, [toldP e], ⟨o, h2, g1⟩, .inl rfl⟩
theorem bad_ask {T : PV} {es : List PV} {b : Bool} (h : bad T es b = true) : Ask T es b tType := by
  obtain ⟨o, h2, q⟩ := bind_some (isT_some h)
  exact ⟨o, h2, (and_both (some_inj q)).1⟩
theorem give_bad {T : PV} (hT : T ∈ okTypes) : AskW T [] false tType ∧ (∀ x y, AskW T [x, y] false tType) ∧ ∀ x, AskW T [x] true tType := by
  obtain ⟨h1, z⟩ := and_both (allP_mem all_bad hT)
  obtain ⟨h2, h3⟩ := and_both z
  have any : ∀ {l : List PV} {x : PV}, x ∈ l → (∀ y ∈ l, y = PV.any) → x = PV.any := fun h a => a _ h
  exact ⟨⟨[], bad_ask h1, .inl rfl⟩, fun x y => ⟨[.any, .any], bad_ask h2, .inr ⟨rfl, fun z hz => by
    cases hz with
    | head => rfl
    | tail _ hz => cases hz with
      | head => rfl
      | tail _ hz => cases hz⟩⟩, fun x => ⟨[.any], bad_ask h3, .inr ⟨rfl, fun z hz => by
    cases hz with
    | head => rfl
    | tail _ hz => cases hz⟩⟩⟩
theorem okT_pure : allP pureP okTypes = true := by decide +kernel
theorem ne_same {d : PV} (h : eqf 8 d d = some true) : cmpC GL .NotEq d d = some false := by
  show cond (nul d && nul d) (some false) ((eqf 8 d d).bind fun x => some !x) = some false
  rw [h]
  cases nul d <;> rfl
noncomputable abbrev sTT : Str := Str.ofString "T"
noncomputable abbrev sEE : Str := Str.ofString "e"
/-- what is known for the law -/
structure KLaw : Prop where
  O : KO
  C : KC
  X : KX
  T : KTd
  V : KVl
  gTold : GNm (Str.ofString "_law_told") 659
  gDue : GNm (Str.ofString "_law_due") 694
  gVal : GNm (Str.ofString "_law_value") 701
  gPool : GNm (Str.ofString "_law_pool") 633
  CL : CfgOK GL
  SD : ∀ aDr, SConv aDr
theorem oL : okN nmsL sSrc = true ∧ okN nmsL sTT = true ∧ okN nmsL sEE = true ∧ okN nmsL sScript = true ∧ okN nmsL sK = true ∧ okN nmsL (Str.ofString "turn") = true := ⟨by kernel_rfl, by kernel_rfl, by kernel_rfl, by kernel_rfl, by kernel_rfl, by kernel_rfl⟩
theorem gL : nmsL.lookup (Str.ofString "_law_told") = some .globalImplicit ∧ nmsL.lookup (Str.ofString "_law_due") = some .globalImplicit ∧ nmsL.lookup (Str.ofString "_law_one") = some .globalImplicit ∧ nmsL.lookup (Str.ofString "_law_types") = some .globalImplicit ∧ nmsL.lookup (Str.ofString "_law_value") = some .globalImplicit ∧ nmsL.lookup (Str.ofString "_law_pool") = some .globalImplicit ∧ nmsL.lookup (Str.ofString "range") = some .globalImplicit ∧ nmsL.lookup (Str.ofString "max") = some .globalImplicit ∧ nmsL.lookup (Str.ofString "min") = some .globalImplicit ∧ nmsL.lookup (Str.ofString "len") = some .globalImplicit ∧ chkFn nmsL fiL [] [] = true :=
  ⟨by kernel_rfl, by kernel_rfl, by kernel_rfl, by kernel_rfl, by kernel_rfl, by kernel_rfl, by kernel_rfl, by kernel_rfl, by kernel_rfl, by kernel_rfl, by decide +kernel⟩
section
variable {base : Heap} {n : Nat} {c : Cx} {m : Str → Option Value} {s s' : Shared} {E Q : Value → Shared → Prop} {ls : Addr} {ρ : List (Nat × PV)}
/-- the law's frame -/
structure LZ (base : Heap) (c : Cx) (m : Str → Option Value) (s : Shared) : Prop where
  F : Fm base [] 64 c fe0 m s
  N : c.cs.names = nmsL
  T : TabSt s.heap
  L9 : c.L ≠ (649 : Nat)
  h9 : c.h₀.get? 649 = none
  b9 : base.get? 649 = none
  Cd : CodeHd base 653 649
/-- and the list that the draws are made from -/
structure Lw (base : Heap) (c : Cx) (m : Str → Option Value) (s : Shared) (ls : Addr) : Prop where
  K : LZ base c m s
  S : SrcAt s.heap ls
  hm : m sSrc = some (.ref ls)
  nL : c.L ≠ ls
  n0 : c.h₀.get? ls = none
  nb : base.get? ls = none
  n9 : ls ≠ (649 : Nat)
theorem Lw.dw (W : Lw base c m s ls) : Dw base [] 64 c m s ls := ⟨W.K.F, W.S, W.hm, W.nL, W.n0, W.nb, fun h => nomatch h⟩
theorem LZ.next (K : LZ base c m s) (N : Next s s') : LZ base c m s' := ⟨K.F.next N, K.N, K.T.keeps fun b o _ _ _ e => N.heap b o e, K.L9, K.h9, K.b9, K.Cd⟩
theorem Lw.next (W : Lw base c m s ls) (N : Next s s') : Lw base c m s' ls := ⟨W.K.next N, W.S.to fun o e => N.heap _ o e, W.hm, W.nL, W.n0, W.nb, W.n9⟩
theorem SrcAt.nf {h : Heap} (S : SrcAt h ls) {o : Obj} {vs : Array Value} (e : h.get? ls = some o) : o.data ≠ .fields vs := fun d => by
  obtain ⟨_, _, _, _, o', e', _, n, d'⟩ := S
  rw [e] at e'; cases some_inj e'; rw [d] at d'; cases d'
theorem Lw.drawn (W : Lw base c m s ls) (K : Kp (· ≠ ls) s s') (D : Dw base [] 64 c m s' ls) : Lw base c m s' ls :=
  ⟨⟨D.F, W.K.N, W.K.T.keeps fun b o vs d _ e => K.heap b o (fun z => W.S.nf (by rw [← z]; exact e) d) e, W.K.L9, W.K.h9, W.K.b9, W.K.Cd⟩, D.S, W.hm, W.nL, W.n0, W.nb, W.n9⟩
theorem LZ.put (K : LZ base c m s) {m' : Str → Option Value} (N : NextL c.L s s') (X : At 64 c fe0 m' s') : LZ base c m' s' := ⟨K.F.at X, K.N, K.T.step N (ns_di K.F.X.F.ns), K.L9, K.h9, K.b9, K.Cd⟩
theorem Lw.put (W : Lw base c m s ls) {y : Str} {v : Value} (N : NextL c.L s s') (X : At 64 c fe0 (fun z => if z = y then some v else m z) s') (h : sSrc ≠ y) : Lw base c (fun z => if z = y then some v else m z) s' ls :=
  ⟨W.K.put N X, W.S.to fun o e => N.heap _ o W.nL.symm e, (if_neg h).trans W.hm, W.nL, W.n0, W.nb, W.n9⟩
theorem LZ.told (K : LZ base c m s) (t : TdAt (c.env :: []) s s') : LZ base c m s' := by
  have X := K.F.X
  refine ⟨K.F.at ⟨X.S, ⟨?_, fun b o e => t.keep b o (fun z => by rw [z, K.h9] at e; cases e) (fun hm => ?_) (X.F.keep b o e), X.F.above⟩, lrel0⟩, K.N, t.tab, K.L9, K.h9, K.b9, K.Cd⟩
  · obtain ⟨o, es, ep, e, d, r⟩ := X.F.ns
    obtain ⟨sl, e'⟩ := t.up _ _ K.L9 e fun vs z => by rw [d] at z; cases z
    exact ⟨_, es, ep, e', d, r⟩
  · rcases in_frames (L := c.L) hm with z | z
    · exact absurd (Heap.lt_size e) (by rw [z]; exact Nat.not_lt.mpr X.F.above)
    · cases z
noncomputable abbrev qL (c : Cx) : Addr → Prop := fun b => b ≠ (649 : Nat) ∧ b ≠ c.L
noncomputable abbrev qW (c : Cx) (ls : Addr) : Addr → Prop := fun b => b ≠ (649 : Nat) ∧ b ≠ c.L ∧ b ≠ ls
theorem TdAt.kp (t : TdAt (c.env :: []) s s') : Kp (qL c) s s' := ⟨fun b o q e => t.keep b o q.1 (fun hm => (in_frames (L := c.L) hm).elim q.2 fun z => nomatch z) e, t.gens, t.drawn, t.os⟩
theorem Lw.told (W : Lw base c m s ls) (t : TdAt (c.env :: []) s s') : Lw base c m s' ls := ⟨W.K.told t, W.S.to fun o e => t.kp.heap _ o ⟨W.n9, W.nL.symm⟩ e, W.hm, W.nL, W.n0, W.nb, W.n9⟩
theorem LZ.tkt (K : LZ base c m s) (t : TdAt (c.env :: []) s s') : KT1 s.heap s'.heap := fun a o cl d e => by
  obtain ⟨xs, n, d⟩ := d
  refine t.kp.heap a o ⟨fun z => ?_, fun z => ?_⟩ e
  · obtain ⟨o', vs, e', d'⟩ := K.T.data
    rw [z, e'] at e; cases some_inj e; rw [d] at d'; cases d'
  · obtain ⟨o', es, ep, e', d', _⟩ := K.F.X.F.ns
    rw [z, e'] at e; cases some_inj e; rw [d] at d'; cases d'
theorem xL {k : Nat} (hk : k ≤ 64) (K : LZ base c m s) (R : LRel fiL s.heap m ρ) : At k c ⟨fiL, ρ⟩ m s := (K.F.X.fe (nms_of (ps := []) (ex := []) K.F.X.S.nms.kind (by rw [K.N]; exact gL.2.2.2.2.2.2.2.2.2.2)).1 R).less hk
/-- a call of _law_told -/
theorem told_eval (Y : KLaw) (K : LZ base c m s) {TE X : Expr} {sp : Bool} {p1 p2 p3 : Pos} (h1 : ∀ rest, starEach (TE :: rest) c.env = (false, eval TE c.env) :: starEach rest c.env) (h2 : ∀ rest, starEach (X :: rest) c.env = (false, eval X c.env) :: starEach rest c.env)
    (h : wpAny gM c.A (eval TE c.env) (fun vT s0 => wpAny gM c.A (eval X c.env) (fun v s1 => LZ base c m s1 ∧ ∃ T ds d, pureP T = true ∧ pureL ds = true ∧ ds.length ≤ 100 ∧ pureP d = true ∧ AskW T ds sp d ∧ gV s1.heap vT T ∧ gV s1.heap v (.lst ds) ∧
      ∀ v' s2, TdAt (c.env :: []) s1 s2 → gV s2.heap v' d → Q v' s2) E s0) E s) : wpAny gM c.A (eval (.Call (.Name (Str.ofString "_law_told") p1) [TE, X, .Constant (.bool sp) 0 p2] [] p3) c.env) Q E s := by
  refine glob_callK Y.gTold K.F.X (by rw [K.N]; exact gL.1) (spliced_more (wpAny_mono h (fun vT s0 h0 => ?_) fun _ _ z => z) (h1 _)) (h1 _) (by rw [h2]; rfl)
  refine spliced_more (wpAny_mono h0 (fun v s1 hh => ?_) fun _ _ z => z) (h2 _)
  obtain ⟨K1, T, ds, d, q1, q2, q3, q4, hc, VT, VX, hq⟩ := hh
  refine spliced_more (wpAny_pure (spliced_none ⟨K1.F.X.gd.kin, ?_⟩)) rfl
  exact told_walk Y.O Y.C Y.X Y.T Y.CL Y.SD q1 q2 q3 q4 hc K1.F.pl (K1.F.X.S.room.less (by decide)) K1.b9 (fun hm => (in_frames (L := c.L) hm).elim (fun z => K1.L9 z.symm) fun z => nomatch z) K1.T K1.Cd VT VX hq
/-- a call of _law_due -/
theorem due_eval (Y : KLaw) (K : LZ base c m s) {T e d : PV} {vT ve : Value} (hT : m sTT = some vT) (he : m sEE = some ve) (VT : gV s.heap vT T) (Ve : gV s.heap ve e) (hd : dueL T e = some d) {p1 p2 p3 p4 : Pos} (h : Po s d Q) :
    wpAny gM c.A (eval (.Call (.Name (Str.ofString "_law_due") p1) [.Name sTT p2, .Name sEE p3] [] p4) c.env) Q E s := by
  obtain ⟨o1, o2, o3, -⟩ := oL
  refine glob_call Y.gDue K.F.X (by rw [K.N]; exact gL.2.1) (spliced_more (ldn K.F.X K.N o2 hT (spliced_more (ldn K.F.X K.N o3 he (spliced_none ⟨fun _ _ e => e, ?_⟩)) rfl)) rfl) rfl rfl
  exact CaOK.at ((ev_ok Y.CL 60).ca hd) (K.F.X.less (by decide)) (vs := [vT, ve]) ⟨_, _, rfl, VT, _, _, rfl, Ve, rfl⟩ h
end
end Mine
namespace Mine
open PySem PySem.W PyProof.Rows PySem.Calls PySem.Spec PySem.SeqAt
section
variable {base : Heap} {n : Nat} {c : Cx} {m : Str → Option Value} {s s' : Shared} {E Q : Value → Shared → Prop} {ls : Addr} {ρ : List (Nat × PV)} {T e : PV}
theorem or_two {A : Around} {env : Env} {x y : Expr} {p : Pos} {Q : Bool → Shared → Prop} (h : wpAny gM A (isTrue x env (eval x env)) (fun b s1 => b = false ∧ wpAny gM A (isTrue y env (eval y env)) (fun b s2 => b = false ∧ Q false s2) E s1) E s) : wpAny gM A (isTrue (.BoolOp .Or [x, y] p) env (eval (.BoolOp .Or [x, y] p) env)) Q E s := by
  refine wpAny_isTrue_BoolOp ?_
  show wpAny gM A (do
    match BoolOp.Or, ← isTrue x env (eval x env) with
    | .And, false => pure false
    | .Or, true => pure true
    | _, _ => allTrue .Or [y] env) Q E s
  refine wpAny_bind (wpAny_mono h (fun b s1 h1 => ?_) fun _ _ z => z)
  obtain ⟨rfl, h1⟩ := h1
  show wpAny gM A (do
    match BoolOp.Or, ← isTrue y env (eval y env) with
    | .And, false => pure false
    | .Or, true => pure true
    | _, _ => allTrue .Or [] env) Q E s1
  refine wpAny_bind (wpAny_mono h1 (fun b s2 h2 => ?_) fun _ _ z => z)
  obtain ⟨rfl, h2⟩ := h2
  exact wpAny_pure h2
/-- the turn's type and value -/
structure TE (h : Heap) (m : Str → Option Value) (T e : PV) : Prop where
  go : ∃ vT ve, m sTT = some vT ∧ m sEE = some ve ∧ gV h vT T ∧ gV h ve e
theorem TE.kt {h h' : Heap} (H : TE h m T e) (pT : pureP T = true) (pe : pureP e = true) (k : KT1 h h') : TE h' m T e := by
  obtain ⟨vT, ve, a, b, c, d⟩ := H
  exact ⟨vT, ve, a, b, VR.re k pT c, VR.re k pe d⟩
theorem n73 : nmOf 73 = sEE ∧ nmOf 22 = sTT := ⟨by decide +kernel, by decide +kernel⟩
theorem cmp_ne (CL : CfgOK GL) (X : At n c fe0 m s) {o o' : Value} {d : PV} (va : gV s.heap o d) (vb : gV s.heap o' d) (h : eqf 8 d d = some true) {Q : Bool → Shared → Prop} (hq : ∀ s', Next s s' → Q false s') : wpAny gM c.A (compareOp .NotEq o o') (fun v s' => wpAny gM c.A (truthy v) Q E s') E s :=
  cmp_at CL X va vb (ne_same h) fun s' N => wpAny_truthy_bool (hq s' N)
theorem up {p : Addr → Prop} (K : Kp (qL c) s s') : Kp (qW c ls) s s' := K.more fun _ z => ⟨z.1, z.2.1⟩
theorem upS (K : Kp (· ≠ ls) s s') : Kp (qW c ls) s s' := K.more fun _ z => z.2.2
theorem upL (N : NextL c.L s s') : Kp (qW c ls) s s' := (Kp.ofL N).more fun _ z => z.2.1
/-- the values of a turn within the frame -/
theorem TE.one (H : TE s.heap m T e) (K : LZ base c m s) {k : Nat} (hk : k ≤ 64) : At k c ⟨fiL, [(73, e)]⟩ m s := by
  obtain ⟨vT, ve, a, b, _, d⟩ := H
  exact xL hk K (lrel_cons lrel_nil (by rw [n73.1]; exact b) d)
/-- a list of pure things, behind a draw -/
theorem list_after {v : Value} {ds : List PV} (V : gV s.heap v (.lst ds)) (hp : pureL ds = true) (S : SrcAt s.heap ls) (K : Kp (· ≠ ls) s s') (hne : ds = [] ∨ ∃ l r, ds = .tup l :: r) : gV s'.heap v (.lst ds) := by
  obtain ⟨b, vs, rfl, I, U⟩ := V
  have ne : b ≠ ls := by
    rcases hne with rfl | ⟨l, r, rfl⟩
    · have z : vs.size = 0 := U.size
      exact not_src I S (.inl (by omega))
    · obtain ⟨v0, ws, q, ⟨a, _, rfl, _⟩, _⟩ := U
      exact not_src I S (.inr ⟨a, by rw [← Array.getElem?_toList, q]; rfl⟩)
  exact ⟨b, vs, rfl, I.at fun o e => K.heap _ o ne e, VRs.re (K.kt S) hp U⟩
/-- told and due are one -/
theorem rest0 (Y : KLaw) (W : Lw base c m s ls) (H : TE s.heap m T e) (hT : T ∈ okTypes) (he : e ∈ es1) (hk : skip T e = false) {Q : Flow → Shared → Prop}
    (hQ : ∀ s', Kp (qW c ls) s s' → Lw base c m s' ls → TE s'.heap m T e → Q .next s') : wpAny gM c.A (exec r708_0 c.env) Q E s := by
  obtain ⟨d, hd, hdd, pd, pT, pe, G1⟩ := give_one hT he hk
  obtain ⟨vT, ve, mT, mE, VT, Ve⟩ := id H.go
  have pl : pureL [e] = true := Bool.and_eq_true_iff.mpr ⟨pe, rfl⟩
  unfold r708_0
  refine wpAny_If (wpAny_isTrue_Compare1 (told_eval Y W.K (fun _ => rfl) (fun _ => star_one) (ldn W.K.F.X W.K.N oL.2.1 mT ((ev_ok Y.CL 20).ex (l_one_ev _ _ e) (H.one W.K (by decide)) fun v s1 N1 V1 => ⟨(W.next N1).K, T, [e], d, pT, pl, Nat.le_of_ble_eq_true rfl, pd, G1, VT.mono N1.KS, V1, fun v' s2 t2 V2 => ?_⟩))) rfl)
  have W1 := W.next N1
  have W2 := W1.told t2
  have H2 := H.kt pT pe ((KT1.ofKS N1.KS).trans (W1.K.tkt t2))
  obtain ⟨vT', ve', mT', mE', VT', Ve'⟩ := id H2.go
  refine due_eval Y W2.K mT' mE' VT' Ve' hd fun v3 s3 N3 V3 => ?_
  refine cmp_ne Y.CL (W2.next N3).K.F.X (V2.mono N3.KS) V3 hdd fun s4 N4 => ?_
  show wpAny gM c.A (execs [] c.env) Q E s4
  have N34 := N3.trans N4
  exact wpAny_execs_nil (hQ s4 ((Kp.of N1).trans ((up (p := fun _ => True) t2.kp).trans (Kp.of N34))) (W2.next N34) (H2.kt pT pe (.ofKS N34.KS)))
/-- another number of values -/
theorem rest1 (Y : KLaw) (W : Lw base c m s ls) (H : TE s.heap m T e) (hT : T ∈ okTypes) (he : e ∈ es1) {Q : Bool → Shared → Prop}
    (hQ : ∀ s', Kp (qW c ls) s s' → Lw base c m s' ls → TE s'.heap m T e → Q false s') : wpAny gM c.A (isTrue k708_0 c.env (eval k708_0 c.env)) Q E s := by
  obtain ⟨B1, B2, -⟩ := give_bad hT
  obtain ⟨pe, le, hle⟩ := es1_is he
  have pT : pureP T = true := allP_mem okT_pure hT
  obtain ⟨vT, ve, mT, mE, VT, Ve⟩ := id H.go
  have pl : pureL [e, e] = true := Bool.and_eq_true_iff.mpr ⟨pe, Bool.and_eq_true_iff.mpr ⟨pe, rfl⟩⟩
  unfold k708_0
  refine wpAny_isTrue_Compare1 (told_eval Y W.K (fun _ => rfl) (fun _ => rfl) (ldn W.K.F.X W.K.N oL.2.1 mT (draw_eval (n := 58) Y.V.O Y.V.g1 W.dw W.K.N oL.1 gL.2.2.1 star_one ((ev_ok Y.CL 20).ex (l_two_ev e) (H.one W.K (by decide)) fun v1 s1 N1 V1 => ?_)))) rfl
  obtain ⟨l1, vs1, rfl, I1, U1, z1⟩ := lst_is V1
  have z1 : vs1.size = 2 := z1
  have W1 := W.next N1
  have ne1 : l1 ≠ ls := not_src I1 W1.S (.inr (by
    obtain ⟨v0, ws, q, ⟨a, _, rfl, _⟩, _⟩ := U1
    exact ⟨a, by rw [← Array.getElem?_toList, q]; rfl⟩))
  refine ⟨N1, l1, vs1, rfl, I1, ne1, by omega, by omega, fun v2 s2 hv K2 D2 => ?_⟩
  have W2 := W1.drawn K2 D2
  have kt2 := K2.kt W1.S
  have H2 := H.kt pT pe ((KT1.ofKS N1.KS).trans kt2)
  obtain ⟨x, hx, Vx⟩ := U1.mem v2 hv
  obtain ⟨ds, q1, q2, q3, q4⟩ : ∃ ds, pureL ds = true ∧ ds.length ≤ 100 ∧ AskW T ds false tType ∧ gV s2.heap v2 (.lst ds) := by
    cases hx with
    | head => exact ⟨[], rfl, Nat.zero_le _, B1, list_after Vx rfl W1.S K2 (.inl rfl)⟩
    | tail _ hx =>
      cases hx with
      | head => exact ⟨[e, e], pl, Nat.le_of_ble_eq_true rfl, B2 _ _, list_after Vx pl W1.S K2 (.inr ⟨le, [e], by rw [hle]⟩)⟩
      | tail _ hx => cases hx
  obtain ⟨vT', ve', mT', mE', VT', Ve'⟩ := id H2.go
  cases Option.some.inj (mT'.symm.trans mT)
  refine ⟨W2.K, T, ds, tType, pT, q1, q2, rfl, q3, VT', q4, fun v3 s3 t3 V3 => con_str fun t4 k4 => ?_⟩
  have W3 := W2.told t3
  have N4 : Next s3 { s3 with toks := k4 } := Next.toks _ _
  refine cmp_ne Y.CL (W3.next N4).K.F.X (d := tType) (V3.mono N4.KS) ⟨t4, by rw [word_t.1]⟩ (by kernel_rfl) fun s5 N5 => ?_
  have N35 := N4.trans N5
  exact hQ s5 ((Kp.of N1).trans ((upS K2).trans ((up (p := fun _ => True) t3.kp).trans (Kp.of N35)))) (W3.next N35) (H2.kt pT pe ((W2.K.tkt t3).trans (.ofKS N35.KS)))
/-- a spread value -/
theorem rest2 (Y : KLaw) (W : Lw base c m s ls) (H : TE s.heap m T e) (hT : T ∈ okTypes) (he : e ∈ es1) {Q : Bool → Shared → Prop}
    (hQ : ∀ s', Kp (qW c ls) s s' → Lw base c m s' ls → Q false s') : wpAny gM c.A (isTrue k708_1 c.env (eval k708_1 c.env)) Q E s := by
  obtain ⟨-, -, B3⟩ := give_bad hT
  have pe := (es1_is he).1
  have pT : pureP T = true := allP_mem okT_pure hT
  obtain ⟨vT, ve, mT, mE, VT, Ve⟩ := id H.go
  have pl : pureL [e] = true := Bool.and_eq_true_iff.mpr ⟨pe, rfl⟩
  unfold k708_1
  refine wpAny_isTrue_Compare1 (told_eval Y W.K (fun _ => rfl) (fun _ => star_one) (ldn W.K.F.X W.K.N oL.2.1 mT ((ev_ok Y.CL 20).ex (l_one_ev _ _ e) (H.one W.K (by decide)) fun v1 s1 N1 V1 => ⟨(W.next N1).K, T, [e], tType, pT, pl, Nat.le_of_ble_eq_true rfl, rfl, B3 _, VT.mono N1.KS, V1, fun v3 s3 t3 V3 => con_str fun t4 k4 => ?_⟩))) rfl
  have W3 := (W.next N1).told t3
  have N4 : Next s3 { s3 with toks := k4 } := Next.toks _ _
  refine cmp_ne Y.CL (W3.next N4).K.F.X (d := tType) (V3.mono N4.KS) ⟨t4, by rw [word_t.1]⟩ (by kernel_rfl) fun s5 N5 => ?_
  have N35 := N4.trans N5
  exact hQ s5 ((Kp.of N1).trans ((up (p := fun _ => True) t3.kp).trans (Kp.of N35))) (W3.next N35)
/-- a turn's two comparisons hold -/
theorem rest_ok (Y : KLaw) (W : Lw base c m s ls) (H : TE s.heap m T e) (hT : T ∈ okTypes) (he : e ∈ es1) (hk : skip T e = false) {Q : Flow → Shared → Prop}
    (hQ : ∀ s', Kp (qW c ls) s s' → Lw base c m s' ls → Q .next s') : wpAny gM c.A (execs rest708 c.env) Q E s := by
  unfold rest708
  refine wpAny_execs_cons (rest0 Y W H hT he hk fun s1 K1 W1 H1 => ?_)
  unfold r708_1
  refine wpAny_execs_cons (wpAny_If (or_two (rest1 Y W1 H1 hT he fun s2 K2 W2 H2 => ⟨rfl, rest2 Y W2 H2 hT he fun s3 K3 W3 => ⟨rfl, ?_⟩⟩)))
  show wpAny gM c.A (execs [] c.env) _ E s3
  exact wpAny_execs_nil (wpAny_execs_nil (hQ s3 (K1.trans (K2.trans K3)) W3))
end
end Mine
namespace Mine
open PySem PySem.W PyProof.Rows PySem.Calls PySem.Spec PySem.SeqAt
/-- the turn's test, and the value behind it -/
noncomputable def turnB (T e : PV) : Bool := isT (((ev GL 40).tr ⟨fiL, [(73, e), (22, T)]⟩ l_test).bind fun b => cond b (((ev GL 20).ex ⟨fiL, [(73, e)]⟩ l_new).bind fun e' => some (anyPV e' es1 && !skip T e')) (some (!skip T e)))
theorem all_turns : allP (fun T => allP (fun e => turnB T e) es1) okTypes = true := by decide +kernel
section
variable {base : Heap} {n : Nat} {c : Cx} {m : Str → Option Value} {s s' : Shared} {E Q : Value → Shared → Prop} {ls : Addr} {T e : PV}
theorem n708 : sSrc ≠ sTT ∧ sSrc ≠ sEE ∧ sTT ≠ sEE := ⟨by decide +kernel, by decide +kernel, by decide +kernel⟩
/-- T, e = _law_one(source, _law_types()), _law_value(source) -/
theorem draw_Te (Y : KLaw) (W : Lw base c m s ls) {Q : Flow → Shared → Prop}
    (hQ : ∀ m' s' T e, T ∈ okTypes → e ∈ es1 → Kp (qW c ls) s s' → Lw base c m' s' ls → TE s'.heap m' T e → (∀ x, x ≠ sTT → x ≠ sEE → m' x = m x) → Q .next s') : wpAny gM c.A (exec t708_0 c.env) Q E s := by
  obtain ⟨o1, o2, o3, -⟩ := oL
  obtain ⟨-, -, g3, g4, g5, -⟩ := gL
  obtain ⟨e1, e2, e3⟩ := n708
  refine asg_two W.K.F.X W.K.N (okN_lk o2) (okN_lk o3) (st := t708_0) rfl rfl (by decide +kernel) (by decide +kernel) rfl rfl ?_
  refine draw_eval (n := 58) Y.V.O Y.V.g1 W.dw W.K.N o1 g3 rfl (glob_call0 Y.V.gT W.K.F.X (by rw [W.K.N]; exact g4) (types_ok Y.V.O Y.CL W.K.F.place W.K.F.X.gd (W.K.F.X.S.room.less (by decide)) fun v1 s1 N1 V1 => ?_))
  obtain ⟨l1, vs1, rfl, I1, U1, z1⟩ := lst_is V1
  have z1 : vs1.size = 10 := z1
  have W1 := W.next N1
  refine ⟨N1, l1, vs1, rfl, I1, not_src I1 W1.S (.inl (by omega)), by omega, by omega, fun vT s2 hv K2 D2 => ?_⟩
  obtain ⟨T, hT, VT⟩ := U1.mem vT hv
  have pT : pureP T = true := allP_mem okT_pure hT
  have W2 := W1.drawn K2 D2
  have VT2 := VR.re (bDr := gD) (K2.kt W1.S) pT VT
  refine glob_call Y.gVal W2.K.F.X (by rw [W2.K.N]; exact g5) (spliced_more (ldn W2.K.F.X W2.K.N o1 W2.hm (spliced_none ⟨fun _ _ e => e, value_ok Y.V Y.CL W2.K.F.pl (W2.K.F.X.S.room.less (by decide)) W2.nb (fun hm => (in_frames (L := c.L) hm).elim (fun z => W2.nL z.symm) fun z => nomatch z) W2.S fun ve s3 e he K3 S3 Ve => ?_⟩)) rfl) rfl rfl
  have W3 := W2.drawn K3 (W2.dw.drawn K3 S3)
  have VT3 := VR.re (bDr := gD) (K3.kt W2.S) pT VT2
  refine ⟨T, e, W3.K.F.X, VT3, Ve, fun w1 w2 s4 N4 V1 V2 X4 => ?_⟩
  have W4 : Lw base c (fun z => if z = sTT then some w1 else if z = sEE then some w2 else m z) s4 ls := ⟨W3.K.put N4 X4, W3.S.to fun o e => N4.heap _ o W3.nL.symm e, (if_neg e1).trans ((if_neg e2).trans W3.hm), W3.nL, W3.n0, W3.nb, W3.n9⟩
  exact hQ _ s4 T e hT he ((Kp.of N1).trans ((upS K2).trans ((upS K3).trans (upL N4)))) W4 ⟨w1, w2, if_pos rfl, (if_neg e3.symm).trans (if_pos rfl), V1, V2⟩ fun x h1 h2 => (if_neg h1).trans (if_neg h2)
/-- one turn -/
theorem turn_ok (Y : KLaw) (W : Lw base c m s ls) {Q : Flow → Shared → Prop}
    (hQ : ∀ m' s', Kp (qW c ls) s s' → Lw base c m' s' ls → (∀ x, x ≠ sTT → x ≠ sEE → m' x = m x) → Q .next s') : wpAny gM c.A (execs turn708 c.env) Q E s := by
  unfold turn708
  refine wpAny_execs_cons (draw_Te Y W fun m1 s1 T e hT he K1 W1 H1 hot => ?_)
  have pT : pureP T = true := allP_mem okT_pure hT
  have pe := (es1_is he).1
  obtain ⟨b, t1, q⟩ := bind_some (isT_some (allP_mem (allP_mem all_turns hT) he))
  obtain ⟨vT, ve, mT, mE, VT, Ve⟩ := id H1.go
  have R1 : LRel fiL s1.heap m1 [(73, e), (22, T)] := lrel_cons (lrel_cons lrel_nil (by rw [n73.2]; exact mT) VT) (by rw [n73.1]; exact mE) Ve
  have rs := fun {E : Value → Shared → Prop} {m : Str → Option Value} {s : Shared} {e : PV} (W : Lw base c m s ls) (H : TE s.heap m T e) (he : e ∈ es1) (hk : skip T e = false) {Q : Flow → Shared → Prop} (hQ : ∀ s', Kp (qW c ls) s s' → Lw base c m s' ls → Q .next s') => rest_ok (E := E) Y W H hT he hk hQ
  have ln : ∀ e' : PV, (ev GL 20).ex ⟨fiL, [(73, e)]⟩ l_new = some e' → ∀ {Q : Value → Shared → Prop} {E : Value → Shared → Prop} {m : Str → Option Value} {s : Shared}, At 20 c ⟨fiL, [(73, e)]⟩ m s → Po s e' Q → wpAny gM c.A (eval l_new.emb c.env) Q E s := fun e' h {Q E m s} X hp => (ev_ok Y.CL 20).ex h X hp
  have sw : ∀ t l env, swapsWith l_new.emb t l env = pure false := fun _ _ _ => rfl
  have tt := fun {Q : Bool → Shared → Prop} {E : Value → Shared → Prop} (h : ∀ s', Next s1 s' → Q b s') => (ev_ok Y.CL 40).tr t1 (E := E) (xL (by decide) W1.K R1) h
  generalize rest708 = rst at rs
  unfold t708_1
  generalize l_test = lt at tt t1
  generalize l_new = lw at ln sw q
  refine wpAny_execs_cons (wpAny_If (tt fun s2 N2 => ?_))
  have W2 := W1.next N2
  have H2 := H1.kt pT pe (.ofKS N2.KS)
  cases b with
  | false =>
    have hk : skip T e = false := by have z := some_inj q; cases q' : skip T e with
      | false => rfl
      | true => rw [q'] at z; cases z
    exact wpAny_execs_nil (rs W2 H2 he hk fun s3 K3 W3 => hQ m1 s3 (K1.trans ((Kp.of N2).trans K3)) W3 hot)
  | true =>
    obtain ⟨e', h1, q⟩ := bind_some q
    obtain ⟨q1, q2⟩ := and_both (some_inj q)
    have he' := anyPV_mem q1
    have hk : skip T e' = false := by cases q' : skip T e' with
      | false => rfl
      | true => rw [q'] at q2; cases q2
    obtain ⟨vT2, ve2, mT2, mE2, VT2, Ve2⟩ := id H2.go
    refine wpAny_execs_cons (wpAny_Assign_Name (ln e' h1 (H2.one W2.K (by decide)) fun v3 s3 N3 V3 => ?_) (sw _ _ _))
    have W3 := W2.next N3
    rw [n73.1]
    refine store_at W3.K.F.X W3.K.N (okN_lk oL.2.2.1) fun s4 N4 X4 => ?_
    have W4 := W3.put N4 X4 n708.2.1
    refine wpAny_execs_nil (rs W4 ⟨vT2, v3, (if_neg n708.2.2).trans mT2, if_pos rfl, (VT2.mono N3.KS).mono N4.ks, V3.mono N4.ks⟩ he' hk fun s5 K5 W5 => ?_)
    exact hQ _ s5 (K1.trans ((Kp.of (N2.trans N3)).trans ((upL N4).trans K5))) W5 fun x h1 h2 => (if_neg h2).trans (hot x h1 h2)
end
end Mine
namespace Mine
open PySem PySem.W PyProof.Rows PySem.Calls PySem.Spec PySem.SeqAt
section
variable {base : Heap} {n : Nat} {c : Cx} {m : Str → Option Value} {s s' : Shared} {E Q : Value → Shared → Prop} {ls la : Addr}
theorem Kp.at {it : Addr} {h' : Heap} (sb : Heap.SameBut it s.heap h') {t : Nat} : Kp (· ≠ it) s { s with heap := h', toks := t } := ⟨fun b o n e => (sb.2 b n).trans e, rfl, rfl, rfl⟩
/-- a loop over a range -/
theorem loop_range {A : Around} (hh : A.handled = none) {env : Env} {x : Str} {px : Pos} {body : List Stmt} {it : Addr} {N : Nat} {R : Result → Shared → Prop} (J : Shared → Prop)
    (Jit : ∀ s s' y l, J s → IsRangeIter s.heap it y l 1 → Kp (· ≠ it) s s' → J s')
    (Jturn : ∀ i s t, i < N → J s → (∃ y l, IsRangeIter s.heap it y l 1) → wpAny gM A (storeName env x (.int (i : Int) t)) (fun _ s2 => wpAny gM A (execs body env) (fun f s3 => f = .next ∧ J s3 ∧ ∀ o, s.heap.get? it = some o → s3.heap.get? it = some o) noE s2) noE s)
    (Jdone : ∀ s, J s → R (.ok .next) s) {s : Shared} (h0 : J s) (hit : IsRangeIter s.heap it 0 N 1) : codeAny gM A (.forLoop (.Name x px) (.ref it) body [] env) R s := by
  refine codeAny_forLoop (fun k s' => ∃ i, i + k = N ∧ J s' ∧ IsRangeIter s'.heap it (i : Int) ((N : Int) - i) 1) (fun k s' hI => ?_) N ⟨0, by omega, h0, by simpa using hit⟩
  obtain ⟨i, hk, hJ, hit⟩ := hI
  by_cases hlt : i < N
  · refine wpAny_pyNext_range_item hit (by omega) fun h' hit' sb => ?_
    refine wpAny_assign_Name (wpAny_mono (Jturn i _ _ hlt (Jit _ _ _ _ hJ hit (Kp.at sb)) ⟨_, _, hit'⟩) (fun _ s2 h2 => wpAny_mono h2 (fun f s3 h3 => ?_) fun _ _ z => z.elim) fun _ _ z => z.elim)
    obtain ⟨rfl, hJ', ho⟩ := h3
    refine ⟨k - 1, by omega, i + 1, by omega, hJ', ?_⟩
    have e1 : ((i + 1 : Nat) : Int) = (i : Int) + 1 := by omega
    have e2 : (N : Int) - ((i + 1 : Nat) : Int) = (N : Int) - i - 1 := by omega
    rw [e2, e1]; exact ho _ hit'
  · refine wpAny_pyNext_range_end hh hit (by omega) fun h' he => wpAny_execs_nil (Jdone _ (Jit _ _ _ _ hJ hit ⟨fun b o nb e => he b o nb e, rfl, rfl, rfl⟩))
theorem small4 {N : Nat} (h : N ≤ 4) : Builtin.Range.small 0 (N : Int) 1 = true := by
  have : N = 0 ∨ N = 1 ∨ N = 2 ∨ N = 3 ∨ N = 4 := by omega
  rcases this with rfl | rfl | rfl | rfl | rfl <;> decide
/-- for x in range(X) -/
theorem for_range (B : KB) (K : LZ base c m s) {X : Expr} (hX : IntP c 64 m s.heap X (fun i => ∃ N : Nat, i = N ∧ N ≤ 4)) (he : starEach [X] c.env = [(false, eval X c.env)]) {x : Str} {px pos p1 p2 : Pos} {body : List Stmt} {Q : Flow → Shared → Prop} (J : Shared → Prop) (it0 : Addr → Prop)
    (J0 : ∀ s2, Next s s2 → J s2)
    (Jit : ∀ it s s' y l, it0 it → J s → IsRangeIter s.heap it y l 1 → Kp (· ≠ it) s s' → J s')
    (hi : ∀ it, s.heap.get? it = none → it0 it)
    (Jturn : ∀ it (i : Nat) s t, i < 4 → it0 it → J s → (∃ y l, IsRangeIter s.heap it y l 1) → wpAny gM c.A (storeName c.env x (.int (i : Int) t)) (fun _ s2 => wpAny gM c.A (execs body c.env) (fun f s3 => f = .next ∧ J s3 ∧ ∀ o, s.heap.get? it = some o → s3.heap.get? it = some o) noE s2) noE s)
    (Jdone : ∀ s, J s → Q .next s) : wpAny gM c.A (exec (.For (.Name x px) (.Call (.Name (Str.ofString "range") p1) [X] [] p2) body [] pos) c.env) Q E s := by
  have g := gL.2.2.2.2.2.2.1
  have FX := K.F.X
  refine wpAny_For (wpAny_Call_ofName (name_B FX.F FX.S.gd.kin (topRead_of FX.S.gd.top) B.rng boot_range (by decide) ?_ FX.S.nms.kind (by rw [← K.N] at g; exact g) (by decide))) (fun _ => rfl)
  refine callWith_excType (by rw [he]; rfl) (evalArgs_more (spliced_more (hX FX (fun _ _ e => e) fun i t s1 hi1 N1 => ?_) he) he)
  obtain ⟨N, rfl, hN⟩ := hi1
  refine spliced_none (call_range_1 ?_)
  have N2 : Next s1 { s1 with heap := s1.heap.push { cls := .type "range", data := .fields #[.int 0 s1.toks, .int (N : Int) t, .int 1 (s1.toks + 1)] }, toks := s1.toks + 1 + 1 } := ⟨fun b o e => Heap.get?_push_of_some _ e, rfl, rfl, rfl⟩
  have hr : IsRange ({ s1 with heap := s1.heap.push { cls := .type "range", data := .fields #[.int 0 s1.toks, .int (N : Int) t, .int 1 (s1.toks + 1)] }, toks := s1.toks + 1 + 1 } : Shared).heap s1.heap.objs.size 0 (N : Int) 1 s1.toks t (s1.toks + 1) := IsRange.new ..
  generalize ({ s1 with heap := s1.heap.push { cls := .type "range", data := .fields #[.int 0 s1.toks, .int (N : Int) t, .int 1 (s1.toks + 1)] }, toks := s1.toks + 1 + 1 } : Shared) = s2 at N2 hr ⊢
  refine wpAny_pyIter_range hr (small4 hN) ?_
  have e : Builtin.Range.rangeSize 0 (N : Int) 1 = (N : Int) := by rw [rangeSize_one]; split <;> omega
  rw [e]
  have N3 : Next s2 { s2 with heap := s2.heap.push { cls := .type "range_iterator", data := .fields #[rawInt 0, rawInt (N : Int), rawInt 1] } } := Next.push _ _
  have hn : s.heap.get? s2.heap.objs.size = none := none_back (N1.trans N2).heap (Heap.get?_none_of_le (Nat.le_refl _))
  exact loop_range FX.S.room.hand J (fun s s' y l => Jit _ s s' y l (hi _ hn)) (fun i s t hlt => Jturn _ i s t (Nat.lt_of_lt_of_le hlt hN) (hi _ hn)) (fun s h => Jdone s h) (J0 _ ((N1.trans N2).trans N3)) (Heap.get?_push_size _ rfl)
/-- an iterator is none of the law's own -/
theorem LZ.iter (K : LZ base c m s) {it : Addr} {y l : Int} (hi : IsRangeIter s.heap it y l 1) (n1 : it ≠ c.L) (n2 : it ≠ (649 : Nat)) (n3 : c.h₀.get? it = none) (k : Kp (· ≠ it) s s') : LZ base c m s' := by
  refine ⟨K.F.at ⟨K.F.X.S, fr_but K.F.X.F n3 n1.symm k.heap, lrel0⟩, K.N, K.T.keeps fun b o vs d hb e => k.heap b o (fun z => ?_) e, K.L9, K.h9, K.b9, K.Cd⟩
  have hi' : s.heap.get? it = some { cls := .type "range_iterator", data := .fields #[rawInt y, rawInt l, rawInt 1] } := hi
  rw [z, hi'] at e; cases some_inj e
  cases d
  rcases hb with hb | ⟨t, hb⟩
  · exact n2 (z.symm.trans hb)
  · cases hb
theorem SrcAt.it {h : Heap} (S : SrcAt h ls) {it : Addr} {y l : Int} (hi : IsRangeIter h it y l 1) : ls ≠ it := fun z => S.nf (o := _) (by rw [z]; exact hi) rfl
theorem dL : sSrc ≠ Str.ofString "turn" ∧ sScript ≠ sTT ∧ sScript ≠ sEE ∧ sScript ≠ Str.ofString "turn" ∧ sScript ≠ sSrc ∧ sScript ≠ sK := ⟨by decide +kernel, by decide +kernel, by decide +kernel, by decide +kernel, by decide +kernel, by decide +kernel⟩
theorem LZ.off (K : LZ base c m s) {it : Addr} (hn : s.heap.get? it = none) : it ≠ c.L ∧ it ≠ (649 : Nat) ∧ c.h₀.get? it = none := by
  obtain ⟨o1, es, ep, e1, _⟩ := K.F.X.F.ns
  obtain ⟨o2, e2⟩ := K.T.has
  exact ⟨ne_new hn e1, ne_new hn e2, none_back K.F.X.F.keep hn⟩
/-- the four turns -/
theorem inner_ok (Y : KLaw) (B : KB) (W : Lw base c m s ls) (hc : m sScript = some (.ref la)) {Q : Flow → Shared → Prop}
    (hQ : ∀ m' s', Kp (qW c ls) s s' → Lw base c m' s' ls → m' sScript = some (.ref la) → Q .next s') : wpAny gM c.A (exec inner708 c.env) Q E s := by
  obtain ⟨o1, o2, o3, o4, o5, o6⟩ := oL
  have tk := fun {E : Value → Shared → Prop} {m : Str → Option Value} {s : Shared} (W : Lw base c m s ls) {Q : Flow → Shared → Prop} (hQ : ∀ m' s', Kp (qW c ls) s s' → Lw base c m' s' ls → (∀ x, x ≠ sTT → x ≠ sEE → m' x = m x) → Q .next s') => turn_ok (E := E) Y W hQ
  unfold inner708
  generalize turn708 = tb at tk
  have hX : ∀ {p : Pos}, IntP c 64 m s.heap (.Constant (.int 4) 0 p) (fun i => ∃ N : Nat, i = N ∧ N ≤ 4) := fun {p s Q E} X k h => ip_con (c := c) X k fun i t s' e N => h i t s' ⟨4, e, Nat.le_refl 4⟩ N
  refine for_range B W.K hX rfl (fun s' => ∃ m', Lw base c m' s' ls ∧ m' sScript = some (.ref la) ∧ Kp (qW c ls) s s') (fun it => s.heap.get? it = none) (fun s2 N2 => ⟨m, W.next N2, hc, Kp.of N2⟩) (fun it s1 s2 y l hn hJ hi k => ?_) (fun it h => h) (fun it i s1 t _ hn hJ hi => ?_) fun s1 hJ => ?_
  · obtain ⟨m', W1, h1, K1⟩ := hJ
    obtain ⟨n1, n2, n3⟩ := W.K.off hn
    exact ⟨m', ⟨W1.K.iter hi n1 n2 n3 k, W1.S.to fun o e => k.heap _ o (W1.S.it hi) e, W1.hm, W1.nL, W1.n0, W1.nb, W1.n9⟩, h1, ⟨fun b o q e => k.heap b o (ne_new hn e).symm (K1.heap b o q e), k.gens.trans K1.gens, k.drawn.trans K1.drawn, k.os.trans K1.os⟩⟩
  · obtain ⟨m', W1, h1, K1⟩ := hJ
    obtain ⟨n1, n2, n3⟩ := W.K.off hn
    obtain ⟨y, l, hi⟩ := hi
    refine store_at W1.K.F.X W1.K.N (okN_lk o6) fun s2 N2 X2 => ?_
    refine tk (W1.put N2 X2 dL.1) fun m3 s3 K3 W3 hot => ⟨rfl, ⟨m3, W3, (hot _ dL.2.1 dL.2.2.1).trans ((if_neg dL.2.2.2.1).trans h1), K1.trans ((upL N2).trans K3)⟩, fun o e => K3.heap _ o ⟨n2, n1, (W1.S.it hi).symm⟩ (N2.heap _ o n1 e)⟩
  · obtain ⟨m', W1, h1, K1⟩ := hJ
    exact hQ m' s1 K1 W1 h1
/-- a turn of the outer loop -/
theorem outer_ok (Y : KLaw) (B : KB) (K : LZ base c m s) (hc : m sScript = some (.ref la)) {i : Int} {t : Tok} (hk : m sK = some (.int i t)) (i0 : 0 ≤ i) (i1 : i < 10) {items : List Value} (hl : c.h₀.IsList la items.toArray) (hI : ∀ v ∈ items, ∃ i t, v = .int i t) (hlen : items.length < 1000) {Q : Flow → Shared → Prop}
    (hQ : ∀ m' s', Kp (qL c) s s' → LZ base c m' s' → m' sScript = some (.ref la) → Q .next s') : wpAny gM c.A (execs body708 c.env) Q E s := by
  obtain ⟨o1, o2, o3, o4, o5, o6⟩ := oL
  have ik := fun {E : Value → Shared → Prop} {m : Str → Option Value} {s : Shared} {ls : Addr} (W : Lw base c m s ls) (hc : m sScript = some (.ref la)) {Q : Flow → Shared → Prop} (hQ : ∀ m' s', Kp (qW c ls) s s' → Lw base c m' s' ls → m' sScript = some (.ref la) → Q .next s') => inner_ok (E := E) Y B W hc hQ
  unfold body708
  generalize inner708 = ib at ik
  refine wpAny_execs_cons (wpAny_Assign_Name (glob_call Y.gPool K.F.X (by rw [K.N]; exact gL.2.2.2.2.2.1) (spliced_more (ldn K.F.X K.N o4 hc (spliced_more (ldn K.F.X K.N o5 hk (spliced_none ⟨fun _ _ e => e, pool_ok (n := 61) Y.V.O K.F.pl K.F.X.S.room (hl.at fun o e => K.F.X.F.keep _ _ e) hI hlen i0 i1 fun ls s1 N1 hn S1 => ?_⟩)) rfl)) rfl) rfl rfl) rfl)
  have K1 := K.next N1
  obtain ⟨n1, n2, n3⟩ := K.off hn
  refine store_at K1.F.X K.N (okN_lk o1) fun s2 N2 X2 => ?_
  have W2 : Lw base c _ s2 ls := ⟨K1.put N2 X2, S1.to fun o e => N2.heap _ o n1 e, if_pos rfl, n1.symm, n3, none_back (K.F.P.elim fun _ z => z.1.B.stays) n3, n2⟩
  refine wpAny_execs_cons (ik W2 ((if_neg dL.2.2.2.2.1).trans hc) fun m3 s3 K3 W3 h3 => wpAny_execs_nil ?_)
  exact hQ m3 s3 ⟨fun b o q e => K3.heap b o ⟨q.1, q.2, (ne_new hn e).symm⟩ (N2.heap b o q.2 (N1.heap b o e)), K3.gens.trans (N2.gens.trans N1.gens), K3.drawn.trans (N2.drawn.trans N1.drawn), K3.os.trans (N2.os.trans N1.os)⟩ W3.K h3
end
end Mine
namespace Mine
open PySem PySem.W PyProof.Rows PySem.Calls PySem.Spec PySem.SeqAt
noncomputable def e5 : PV := .tup [tConst, pUInt, .int 4, .int 5]
noncomputable def d5 : PV := .tup [tConst, pInt8, .int 7, .int 5]
theorem t8_ev : (ev GL 20).ex ⟨fiL, []⟩ t8 = some pInt8 := by kernel_rfl
theorem x5_ev : (ev GL 20).ex ⟨fiL, []⟩ x5 = some (.lst [e5]) := by kernel_rfl
theorem y5_ev : (ev GL 20).ex ⟨fiL, []⟩ y5 = some d5 := by kernel_rfl
theorem five_ok : isT (((ev G 60).st (fe448 pInt8 [toldP e5] false) ir448).bind fun o => some (goodO d5 o)) = true := by decide +kernel
theorem five_ask : AskW pInt8 [e5] false d5 := by
  obtain ⟨o, h1, h2⟩ := bind_some (isT_some five_ok)
  exact ⟨[toldP e5], ⟨o, h1, some_inj h2⟩, .inl rfl⟩
theorem d5_eq : cmpC GL .Eq d5 d5 = some true := by kernel_rfl
section
variable {base : Heap} {n : Nat} {c : Cx} {m : Str → Option Value} {s s' : Shared} {E Q : Value → Shared → Prop} {la : Addr}
/-- max(1, min(len(script), 2)) -/
theorem max_ip (B : KB) (hN : c.cs.names = nmsL) (hc : m sScript = some (.ref la)) {hs : Heap} {vs : Array Value} (hl : hs.IsList la vs) (hz : vs.size < 1000) : IntP c n m hs max708 (fun i => ∃ N : Nat, i = N ∧ N ≤ 4) := fun {s Q E} X k h => by
  obtain ⟨o1, o2, o3, o4, -⟩ := oL
  obtain ⟨-, -, -, -, -, -, -, g1, g2, g3, -⟩ := gL
  unfold max708
  refine ip_max (P1 := (· = 1)) B hN g1 ip_con (ip_min B hN g2 (ip_len (le := la) B hN g3 o4 hc hl hz) ip_con rfl rfl) rfl rfl X k fun i t s' hi N => h i t s' ?_ N
  obtain ⟨a, b, rfl, ⟨x, y, rfl, rfl, rfl⟩, rfl⟩ := hi
  refine ⟨(if (1 : Int) < (if (2 : Int) < (vs.size : Int) then 2 else (vs.size : Int)) then (if (2 : Int) < (vs.size : Int) then 2 else (vs.size : Int)) else 1).toNat, ?_, ?_⟩ <;> split <;> split <;> omega
/-- the law answers True -/
theorem law_ok (Y : KLaw) (B : KB) (K : LZ base c m s) (hc : m sScript = some (.ref la)) {items : List Value} (hl : c.h₀.IsList la items.toArray) (hI : ∀ v ∈ items, ∃ i t, v = .int i t) (hlen : items.length < 1000) {Q : Flow → Shared → Prop}
    (hQ : ∀ m' s', Gn s s' → LZ base c m' s' → Q (.ret (.bool true)) s') : wpAny gM c.A (execs law708 c.env) Q E s := by
  obtain ⟨o1, o2, o3, o4, o5, o6⟩ := oL
  have ok := fun {E : Value → Shared → Prop} {m : Str → Option Value} {s : Shared} (K : LZ base c m s) (hc : m sScript = some (.ref la)) {i : Int} {t : Tok} (hk : m sK = some (.int i t)) (i0 : 0 ≤ i) (i1 : i < 10) {Q : Flow → Shared → Prop} (hQ : ∀ m' s', Kp (qL c) s s' → LZ base c m' s' → m' sScript = some (.ref la) → Q .next s') => outer_ok (E := E) Y B K hc hk i0 i1 hl hI hlen hQ
  have mx : IntP c 64 m s.heap max708 (fun i => ∃ N : Nat, i = N ∧ N ≤ 4) := max_ip (n := 64) (m := m) (hs := s.heap) B K.N hc (hl.at fun o e => K.F.X.F.keep _ _ e) (by rw [List.size_toArray]; exact hlen)
  have hmx : starEach [max708] c.env = [(false, eval max708 c.env)] := rfl
  have h1 := t8_ev
  have h2 := x5_ev
  have h3 := y5_ev
  have hd := d5_eq
  have ha := five_ask
  have hp : pureP pInt8 = true ∧ pureL [e5] = true ∧ pureP d5 = true := ⟨by kernel_rfl, by kernel_rfl, by kernel_rfl⟩
  unfold law708
  generalize body708 = tb at ok
  generalize max708 = mx8 at mx hmx
  generalize t8 = i1 at h1
  generalize x5 = i2 at h2
  generalize y5 = i3 at h3
  generalize pInt8 = T at h1 ha hp
  generalize e5 = e at h2 ha hp
  generalize d5 = d at h3 ha hp hd
  obtain ⟨q1, q2, q3⟩ := hp
  refine wpAny_execs_cons (for_range B K mx hmx (fun s' => ∃ m', LZ base c m' s' ∧ m' sScript = some (.ref la) ∧ Gn s s') (fun it => s.heap.get? it = none) (fun s2 N2 => ⟨m, K.next N2, hc, N2.gn⟩) (fun it s1 s2 y l hn hJ hi k => ?_) (fun it h => h) (fun it i s1 t hi4 hn hJ hi => ?_) fun s1 hJ => ?_)
  · obtain ⟨m', K1, z1, g⟩ := hJ
    obtain ⟨n1, n2, n3⟩ := K.off hn
    exact ⟨m', K1.iter hi n1 n2 n3 k, z1, g.trans k.gn⟩
  · obtain ⟨m', K1, z1, g⟩ := hJ
    obtain ⟨n1, n2, n3⟩ := K.off hn
    refine store_at K1.F.X K1.N (okN_lk o5) fun s2 N2 X2 => ?_
    refine ok (K1.put N2 X2) ((if_neg dL.2.2.2.2.2).trans z1) (if_pos rfl) (Int.natCast_nonneg i) (Int.lt_trans (Int.ofNat_lt.mpr hi4) (by decide)) fun m3 s3 K3 L3 z3 => ⟨rfl, ⟨m3, L3, z3, g.trans (N2.gn.trans K3.gn)⟩, fun o e => K3.heap _ o ⟨n2, n1⟩ (N2.heap _ o n1 e)⟩
  · obtain ⟨m', K1, z1, g⟩ := hJ
    refine wpAny_execs_cons (wpAny_Return_some (wpAny_Compare1 (told_eval Y K1 (fun _ => star_one) (fun _ => star_one) ((ev_ok Y.CL 20).ex h1 (xL (by decide) K1 lrel_nil) fun v5 s5 N5 V5 => (ev_ok Y.CL 20).ex h2 (xL (by decide) (K1.next N5) lrel_nil) fun v6 s6 N6 V6 => ?_)) (marks_off _ _)))
    have K6 := (K1.next N5).next N6
    refine ⟨K6, T, [e], d, q1, q2, Nat.le_of_ble_eq_true rfl, q3, ha, V5.mono N6.KS, V6, fun v7 s7 t7 V7 => ?_⟩
    have K7 := K6.told t7
    refine (ev_ok Y.CL 20).ex h3 (xL (by decide) K7 lrel_nil) fun v8 s8 N8 V8 => ?_
    refine cmp_at Y.CL (K7.next N8).F.X (V7.mono N8.KS) V8 hd fun s9 N9 => ?_
    exact hQ m' s9 (g.trans ((N5.trans N6).gn.trans (t7.kp.gn.trans (N8.trans N9).gn))) ((K7.next N8).next N9)
end
end Mine
namespace Mine
open PySem PySem.W PyProof.Rows PySem.Calls PySem.Spec PySem.SeqAt
/-- every call of check_conversion gives what is asked -/
theorem sconv_all (H : KAll gu) : ∀ aDr, SConv aDr := by
  intro aDr
  apply Classical.byContradiction
  intro hn
  have hD : ¬ SConv gD := Classical.epsilon_spec (p := fun a => ¬ SConv a) ⟨aDr, hn⟩
  have hW : ∀ {h}, gWF h → AdAt h gD := fun w => w.2 hD
  have up : ∀ {h}, WA gD h → gWF h := fun w => ⟨w.1, fun _ => w.2⟩
  refine hD fun {T d es b} hk {A s vs Q E l} P W R hA V hQ hT hC => ?_
  obtain ⟨A₀, base, outer, m, c, p1, p2, p3, p4, p5, p6, p7, p8⟩ := P
  exact conv_ok H.kx H.kf (g_ok H.kf hW H.kq H.f6) hk ⟨A₀, base, outer, m, c, p1, p2, p3, p4, p5, p6, up p7, p8⟩ ⟨W.1.1, W.1.2, up W⟩ R hA V hQ hT hC
theorem room_law : Room 65 callerA := ⟨by decide +kernel, by decide +kernel, rfl⟩
theorem law_gu (H : KAll gu) : LawOK gu := by
  intro L fa la cd m s items Q E B X T Cd F N hc hl hI hlen hQ
  have SD := sconv_all H
  have W : gWF gu.base := ⟨⟨X, T⟩, fun z => (z (SD gD)).elim⟩
  have P : Pl callerA gu.base [] gu.base := ⟨B, W, fun x hx => nomatch hx⟩
  have CL := l_ok H.kf H.f6
  have Y : KLaw := ⟨H.ko, H.kc, H.kx, H.kt, H.kv, H.gTold, H.gDue, H.gVal, H.gPool, CL, SD⟩
  obtain ⟨z1, z2, z3⟩ := N _ (.head _)
  have K : LZ gu.base ⟨callerA.deeper (envOf (Str.ofString "law") sc708 L fa cd), Str.ofString "law", sc708, L, fa, cd, gu.base⟩ m s :=
    ⟨⟨⟨P.site (n := 64) (c := ⟨callerA.deeper (envOf (Str.ofString "law") sc708 L fa cd), Str.ofString "law", sc708, L, fa, cd, gu.base⟩) rfl (nms0 rfl) room_law, F, lrel0⟩, callerA, P, rfl⟩, rfl, .inl z1, fun z => z2 z.symm, z3, z3, Cd⟩
  refine law_ok Y H.kv.O.T.B K hc hl hI hlen fun m' s' g K' => hQ s' m' g.gens g.os K'.F.X.F ?_
  rcases K'.T with t | ⟨c, t, _⟩ <;> exact ⟨⟨_, t⟩, trivial⟩
theorem law_u (u : Un) (H : KAll u) : LawOK u := Classical.byContradiction fun h =>
  (Classical.epsilon_spec (p := fun u => ¬ (KAll u → LawOK u)) ⟨u, fun z => h (z H)⟩) law_gu
end Mine
namespace Mine
open PySem PySem.W PyProof.Rows PySem.Calls PySem.Spec PySem.SeqAt
-- how the facts on the written part are shown
noncomputable def obAt (K : Frag) (g : Addr) : Obj := Option.casesOn (motive := fun _ => Obj) (K.lookup g) default id
noncomputable def isFn : Data → Bool
  | .func _ => true
  | _ => false
noncomputable def fnChk (u : Un) (g : Addr) : Bool := (u.K.lookup g).isSome && (isFn (obAt u.K g).data && (codeIn u.K (fdAtU u g).code (fdAtU u g).qualname && (!(fdAtU u g).scope.isCoroutine && (!(fdAtU u g).scope.isGenerator && (decide ((fdAtU u g).scope.kind = .function) && (fdAtU u g).scope.names.all fun x => !(x.2 == .cell))))))
structure FnP (u : Un) (g : Addr) (body : List Stmt) : Prop where
  env : ∀ L a, callEnv (fdAtU u g) L a = envOf (fdAtU u g).qualname (fdAtU u g).scope L a (fdAtU u g).code
  body : (fdAtU u g).body = .stmts body
theorem not_t {b : Bool} (h : (!b) = true) : b = false := by cases b <;> first | rfl | cases h
theorem fnD_of {u : Un} {g : Addr} (h : fnChk u g = true) (he : ∀ L a, callEnv (fdAtU u g) L a = envOf (fdAtU u g).qualname (fdAtU u g).scope L a (fdAtU u g).code) : (∃ o, FnDU u g o (fdAtU u g)) ∧ (fdAtU u g).scope.kind = .function := by
  obtain ⟨h1, h⟩ := and_both h
  obtain ⟨h2, h⟩ := and_both h
  obtain ⟨h3, h⟩ := and_both h
  obtain ⟨h4, h⟩ := and_both h
  obtain ⟨h5, h⟩ := and_both h
  obtain ⟨h6, h7⟩ := and_both h
  have hk := of_decide_eq_true h6
  obtain ⟨o, ho⟩ := Option.isSome_iff_exists.mp h1
  have e1 : obAt u.K g = o := by unfold obAt; rw [ho]; rfl
  refine ⟨⟨o, ho, ?_, h3, he, not_t h4, not_t h5, hk, fun x hx z => ?_⟩, hk⟩
  · rw [e1] at h2
    unfold fdAtU; rw [ho]
    show o.data = .func (match o.data with | .func fd => fd | _ => default)
    cases q : o.data with
    | func fd => rfl
    | _ => rw [q] at h2; cases h2
  · have := not_t (List.all_eq_true.mp h7 x hx)
    rw [z] at this; cases this
theorem fnK_of {u : Un} {g : Addr} {fi : FI} {ps : List Nat} {ex : List (Nat × Bool)} {body : List Stmt} (h : (fnChk u g && chkFn (fdAtU u g).scope.names fi ps ex) = true) (F : FnP u g body)
    (hb : ∀ {s : Shared} {vs : List Value}, u.K.In s.heap → vs.length = ps.length → BindsTo s (fdAtU u g) ⟨vs, []⟩ ((ps.map nmOf).zip vs ++ ex.map fun x => (nmOf x.1, .bool x.2))) : FnKU u g fi ps ex body :=
  let ⟨h1, h2⟩ := and_both h
  let ⟨D, hk⟩ := fnD_of h1 F.env
  ⟨D, F.body, h2, hk, hb⟩
theorem inK_of {u : Un} {g : Addr} {nms : List (Str × NameKind)} {ps : List Str} {ex : List (Str × Value)} {body : List Stmt} (h : fnChk u g = true) (F : FnP u g body) (hn : (fdAtU u g).scope.names = nms) (hl : (ps ++ ex.map (·.1)).all (okN nms) = true)
    (hb : ∀ {s : Shared} {vs : List Value}, u.K.In s.heap → vs.length = ps.length → BindsTo s (fdAtU u g) ⟨vs, []⟩ (ps.zip vs ++ ex)) : InKU u g nms ps ex body :=
  let ⟨D, hk⟩ := fnD_of h F.env
  ⟨D, F.body, hn, hk, hb, hl⟩
theorem lenE0 {vs : List Value} (hv : vs.length = 0) : vs = [] := by
  exact List.eq_nil_of_length_eq_zero hv
theorem lenE1 {vs : List Value} (hv : vs.length = 1) : ∃ a, vs = [a] := by
  match vs, hv with
  | [a], _ => exact ⟨a, rfl⟩
theorem lenE2 {vs : List Value} (hv : vs.length = 2) : ∃ a b, vs = [a, b] := by
  match vs, hv with
  | [a, b], _ => exact ⟨a, b, rfl⟩
theorem lenE3 {vs : List Value} (hv : vs.length = 3) : ∃ a b c, vs = [a, b, c] := by
  match vs, hv with
  | [a, b, c], _ => exact ⟨a, b, c, rfl⟩
theorem lenE4 {vs : List Value} (hv : vs.length = 4) : ∃ a b c d, vs = [a, b, c, d] := by
  match vs, hv with
  | [a, b, c, d], _ => exact ⟨a, b, c, d, rfl⟩
theorem lenE5 {vs : List Value} (hv : vs.length = 5) : ∃ a b c d e, vs = [a, b, c, d, e] := by
  match vs, hv with
  | [a, b, c, d, e], _ => exact ⟨a, b, c, d, e, rfl⟩
theorem lenE7 {vs : List Value} (hv : vs.length = 7) : ∃ a b c d e f g, vs = [a, b, c, d, e, f, g] := by
  match vs, hv with
  | [a, b, c, d, e, f, g], _ => exact ⟨a, b, c, d, e, f, g, rfl⟩
/-- a value of the written part is a tree's -/
noncomputable def asSeq (K : Frag) (a : Addr) : Option (Array Value) := (K.lookup a).bind fun o => cond (o.cls == .type "tuple") (match o.data with | .seq vs _ => some vs | _ => none) none
noncomputable def asRef : Value → Option Addr
  | .ref a => some a
  | _ => none
noncomputable def chkV (K : Frag) (n : Nat) : Value → PV → Bool := Nat.rec (motive := fun _ => Value → PV → Bool) (fun _ _ => false) (fun _ r v d => match d with
  | .none => v == .none
  | .bool b => v == .bool b
  | .int i => match v with | .int j _ => decide (j = i) | _ => false
  | .str l => match v with | .str x _ => decide (x = mkStr l) | _ => false
  | .byt l => match v with | .bytes x _ => decide (x = mkByt l) | _ => false
  | .obj a => v == .ref a
  | .blt i => v == .builtin i
  | .typ t => v == .type t
  | .tup ds => isT ((asRef v).bind fun a => (asSeq K a).bind fun vs => some (decide (vs.toList.length = ds.length) && (vs.toList.zip ds).all fun q => r q.1 q.2))
  | _ => false) n
theorem chkL_ok {aDr : Nat → Addr} {h : Heap} {p : Value → PV → Bool} {ds : List PV} : ∀ {vs : List Value}, vs.length = ds.length → (∀ v d, p v d = true → VR aDr h v d) → (vs.zip ds).all (fun q => p q.1 q.2) = true → VRs aDr h vs ds := by
  induction ds with
  | nil => intro vs hl _ _; exact List.eq_nil_of_length_eq_zero hl
  | cons d ds ih =>
    intro vs hl hp ha
    cases vs with
    | nil => cases hl
    | cons v vs =>
      obtain ⟨h1, h2⟩ := and_both ha
      exact ⟨v, vs, rfl, hp _ _ h1, ih (Nat.succ.inj hl) hp h2⟩
theorem chkV_ok {K : Frag} {aDr : Nat → Addr} {h : Heap} (hK : K.In h) (n : Nat) : ∀ {v : Value} {d : PV}, chkV K n v d = true → VR aDr h v d := by
  induction n with
  | zero => intro v d e; cases e
  | succ n ih =>
    intro v d e
    cases d with
    | none => exact eq_of_beq e
    | bool b => exact eq_of_beq e
    | int i => cases v <;> first | (cases of_decide_eq_true e; exact ⟨_, rfl⟩) | cases e
    | str l => cases v <;> first | (cases of_decide_eq_true e; exact ⟨_, rfl⟩) | cases e
    | byt l => cases v <;> first | (cases of_decide_eq_true e; exact ⟨_, rfl⟩) | cases e
    | obj a => exact eq_of_beq e
    | blt i => exact eq_of_beq e
    | typ t => exact eq_of_beq e
    | tup ds =>
      obtain ⟨a, h1, q⟩ := bind_some (isT_some e)
      obtain ⟨vs, h2, q⟩ := bind_some q
      obtain ⟨h3, h4⟩ := and_both (some_inj q)
      cases v with
      | ref b =>
        cases some_inj h1
        revert h2 h3 h4
        intro h2 h3 h4
        obtain ⟨o, h5, h6⟩ := bind_some h2
        obtain ⟨h7, h8⟩ := cond_some h6
        refine ⟨a, vs, rfl, ⟨o, hK _ _ h5, eq_of_beq h7, ?_⟩, chkL_ok (of_decide_eq_true h3) (fun v d z => ih z) h4⟩
        cases q : o.data with
        | seq xs k => rw [q] at h8; cases some_inj h8; exact ⟨k, rfl⟩
        | _ => rw [q] at h8; cases h8
      | _ => cases h1
    | _ => cases e
/-- the builtins that the evaluator knows by name -/
noncomputable def bootT : List (Nat × Value) := [(11, .type "bool"), (12, .builtin "isinstance"), (13, .type "bytes"), (14, .type "int"), (17, .builtin "chr"), (59, .builtin "len")]
theorem b11 : bootBuiltins (Str.ofString "bool") = some (.type "bool") := by boot_by_name
theorem b12 : bootBuiltins (Str.ofString "isinstance") = some (.builtin "isinstance") := by boot_by_name
theorem b13 : bootBuiltins (Str.ofString "bytes") = some (.type "bytes") := by boot_by_name
theorem b14 : bootBuiltins (Str.ofString "int") = some (.type "int") := by boot_by_name
theorem b17 : bootBuiltins (Str.ofString "chr") = some (.builtin "chr") := by boot_by_name
theorem b59 : bootBuiltins (Str.ofString "len") = some (.builtin "len") := by boot_by_name
theorem bootT_ok : AllL (fun q => bootBuiltins (nmOf q.1) = some q.2 ∧ nmOf q.1 ≠ "__name__") bootT := ⟨⟨b11, by decide +kernel⟩, ⟨b12, by decide +kernel⟩, ⟨b13, by decide +kernel⟩, ⟨b14, by decide +kernel⟩, ⟨b17, by decide +kernel⟩, ⟨b59, by decide +kernel⟩, trivial⟩
noncomputable def lkB (x : Nat) : List (Nat × Value) → Option Value
  | [] => none
  | e :: r => cond (Nat.beq x e.1) (some e.2) (lkB x r)
theorem lkB_mem {x : Nat} {v : Value} : ∀ {l : List (Nat × Value)}, lkB x l = some v → (x, v) ∈ l := fun {l} => by
  induction l with
  | nil => exact fun h => nomatch h
  | cons e l ih =>
    intro h
    rcases cond_or h with ⟨q, h'⟩ | ⟨q, h'⟩
    · rw [Nat.eq_of_beq_eq_true q, ← some_inj h']; exact .head _
    · exact .tail _ (ih h')
theorem all_mem {α : Type} {P : α → Prop} {Q : α → Prop} {l : List α} (h : AllL P l) {x : α} (hx : x ∈ l) : P x := by
  induction hx with
  | head => exact h.1
  | tail _ _ ih => exact ih h.2
theorem allL_of {α : Type} {P : α → Prop} {p : α → Bool} (hp : ∀ x, p x = true → P x) : ∀ {l : List α}, l.all p = true → AllL P l := fun {l} => by
  induction l with
  | nil => exact fun _ => trivial
  | cons x l ih => exact fun h => let ⟨a, b⟩ := and_both h; ⟨hp x a, ih b⟩
noncomputable def globB (u : Un) (q : Nat × PV) : Bool := match nsIn u.K mainGlobals (nmOf q.1) with
  | some (some v) => chkV u.K 6 v q.2
  | some none => isT ((lkB q.1 bootT).bind fun v => some (chkV u.K 6 v q.2))
  | none => false
theorem glob_of {u : Un} (h : gGlobs.all (globB u) = true) : AllL (GlobKU u) gGlobs := by
  refine allL_of (fun q e => ?_) h
  unfold globB at e
  cases z : nsIn u.K mainGlobals (nmOf q.1) with
  | none => rw [z] at e; cases e
  | some o =>
    cases o with
    | some v => rw [z] at e; exact ⟨v, .inl z, fun hK => chkV_ok hK 6 e⟩
    | none =>
      rw [z] at e
      obtain ⟨v, h1, h2⟩ := bind_some (isT_some e)
      obtain ⟨h3, h4⟩ := all_mem (Q := fun _ => True) bootT_ok (lkB_mem h1)
      exact ⟨v, .inr ⟨z, h3, h4⟩, fun hK => chkV_ok hK 6 (some_inj h2)⟩
noncomputable def tabB (u : Un) (g : Addr) (q : List Nat × PV) : Bool := match nsIn u.K g (mkStr q.1) with
  | some (some v) => chkV u.K 6 v q.2
  | _ => false
theorem tab_of {u : Un} {g : Addr} {t : List (List Nat × PV)} (hd : ∃ es k, u.K.lookup g = some ⟨.type "dict", none, .dict es k, #[]⟩ ∧ KeysLit u.w.params es.toList) (h : t.all (tabB u g) = true) : TabKU u g t := by
  refine ⟨hd, allL_of (fun q e => ?_) h⟩
  unfold tabB at e
  cases z : nsIn u.K g (mkStr q.1) with
  | none => rw [z] at e; cases e
  | some o =>
    cases o with
    | some v => rw [z] at e; exact ⟨v, rfl, fun hK => chkV_ok hK 6 e⟩
    | none => rw [z] at e; cases e
theorem keys_cons {P : Params} {x : Str} {t : Tok} {v : Value} {r : List DictEntry} (h : KeysLit P r) : KeysLit P ({ hash := PyData.keyHash P x, key := .str x t, val := v } :: r) := ⟨⟨x, t, rfl, rfl⟩, h⟩
end Mine
namespace Mine
open PySem PySem.W PyProof.Rows PySem.Calls PySem.Spec PySem.SeqAt
noncomputable abbrev fd0 (q : Str) (P : Arguments) (D K : Value) : FuncData := { name := q, qualname := q, params := P, body := .stmts [], scope := default, globals := 0, closure := [], defaults := D, kwdefaults := K }
theorem bind_eq {fd : FuncData} {args : Args} {P : Arguments} {D K : Value} (hp : fd.params = P) (hd : fd.defaults = D) (hk : fd.kwdefaults = K) : bindArgs fd args = bindArgs (fd0 fd.qualname P D K) args := by
  subst hp; subst hd; subst hk; rfl
theorem bind_is {s : Shared} {fd : FuncData} {args : Args} {binds : List (Str × Value)} {P : Arguments} (hp : fd.params = P) (hd : fd.defaults = .none) (hk : fd.kwdefaults = .none) (h : ∀ q, bindArgs (fd0 q P .none .none) args = pure binds) : BindsTo s fd args binds :=
  BindsTo.of_eq ((bind_eq hp hd hk).trans (h _))
theorem bind_def {K : Frag} {s : Shared} {fd : FuncData} {args : Args} {binds : List (Str × Value)} {P : Arguments} {T : Addr} {o : Obj} {items : Array Value} {n : Nat} {k : Str → Option (Array Value) → Sem (List (Str × Value))} (X : K.In s.heap) (hp : fd.params = P) (hd : fd.defaults = .ref T) (hk : fd.kwdefaults = .none)
    (ho : K.lookup T = some o) (hs : o.data = .seq items n) (h1 : ∀ q, bindArgs (fd0 q P (.ref T) .none) args = seqItems? (.ref T) >>= k q) (h2 : ∀ q, k q (some items) = pure binds) : BindsTo s fd args binds :=
  BindsTo.of_defaults hd (X _ _ ho) hs (by rw [bind_eq hp hd hk, hd]; exact h1 _) (h2 _)
noncomputable abbrev exB (ex : List (Nat × Bool)) : List (Str × Value) := ex.map fun x => (nmOf x.1, .bool x.2)
theorem fnK_pl {u : Un} {g : Addr} {fi : FI} {ps : List Nat} {ex : List (Nat × Bool)} {body : List Stmt} {P : Arguments} (h : (fnChk u g && chkFn (fdAtU u g).scope.names fi ps ex) = true) (F : FnP u g body) (hp : (fdAtU u g).params = P) (hd : (fdAtU u g).defaults = .none) (hk : (fdAtU u g).kwdefaults = .none)
    (hb : ∀ q vs, vs.length = ps.length → bindArgs (fd0 q P .none .none) ⟨vs, []⟩ = pure ((ps.map nmOf).zip vs ++ ex.map fun x => (nmOf x.1, .bool x.2))) : FnKU u g fi ps ex body := fnK_of h F fun {s vs} _ hl => bind_is hp hd hk fun q => hb q vs hl
theorem fnK_df {u : Un} {g : Addr} {fi : FI} {ps : List Nat} {ex : List (Nat × Bool)} {body : List Stmt} {P : Arguments} {T : Addr} {items : Array Value} {n : Nat} {o : Obj} (h : (fnChk u g && chkFn (fdAtU u g).scope.names fi ps ex) = true) (F : FnP u g body) (hp : (fdAtU u g).params = P) (hd : (fdAtU u g).defaults = .ref T) (hk : (fdAtU u g).kwdefaults = .none) (ho : u.K.lookup T = some o) (hs : o.data = .seq items n)
    (hb : ∀ q vs, vs.length = ps.length → ∃ k, bindArgs (fd0 q P (.ref T) .none) ⟨vs, []⟩ = seqItems? (.ref T) >>= k ∧ k (some items) = pure ((ps.map nmOf).zip vs ++ ex.map fun x => (nmOf x.1, .bool x.2))) : FnKU u g fi ps ex body := fnK_of h F fun {s vs} X hl => by
  obtain ⟨k, h1, h2⟩ := hb (fdAtU u g).qualname vs hl
  exact BindsTo.of_defaults hd (X _ _ ho) hs (by rw [bind_eq hp hd hk, hd]; exact h1) h2
theorem inK_pl {u : Un} {g : Addr} {nms : List (Str × NameKind)} {ps : List Str} {ex : List (Str × Value)} {body : List Stmt} {P : Arguments} (h : fnChk u g = true) (F : FnP u g body) (hn : (fdAtU u g).scope.names = nms) (hl : (ps ++ ex.map (·.1)).all (okN nms) = true) (hp : (fdAtU u g).params = P) (hd : (fdAtU u g).defaults = .none) (hk : (fdAtU u g).kwdefaults = .none)
    (hb : ∀ q vs, vs.length = ps.length → bindArgs (fd0 q P .none .none) ⟨vs, []⟩ = pure (ps.zip vs ++ ex)) : InKU u g nms ps ex body := inK_of h F hn hl fun {s vs} _ hl => bind_is hp hd hk fun q => hb q vs hl
theorem inK_df {u : Un} {g : Addr} {nms : List (Str × NameKind)} {ps : List Str} {ex : List (Str × Value)} {body : List Stmt} {P : Arguments} {T : Addr} {items : Array Value} {n : Nat} {o : Obj} (h : fnChk u g = true) (F : FnP u g body) (hn : (fdAtU u g).scope.names = nms) (hl : (ps ++ ex.map (·.1)).all (okN nms) = true) (hp : (fdAtU u g).params = P) (hd : (fdAtU u g).defaults = .ref T) (hk : (fdAtU u g).kwdefaults = .none) (ho : u.K.lookup T = some o) (hs : o.data = .seq items n)
    (hb : ∀ q vs, vs.length = ps.length → ∃ k, bindArgs (fd0 q P (.ref T) .none) ⟨vs, []⟩ = seqItems? (.ref T) >>= k ∧ k (some items) = pure (ps.zip vs ++ ex)) : InKU u g nms ps ex body := inK_of h F hn hl fun {s vs} X hl => by
  obtain ⟨k, h1, h2⟩ := hb (fdAtU u g).qualname vs hl
  exact BindsTo.of_defaults hd (X _ _ ho) hs (by rw [bind_eq hp hd hk, hd]; exact h1) h2
/-- the __init__ of the exceptions -/
theorem bind36_of {u : Un} {P : Arguments} {T : Addr} {v : Value} {n : Nat} {o : Obj} (hp : (fdAtU u 36).params = P) (hd : (fdAtU u 36).defaults = .ref T) (hk : (fdAtU u 36).kwdefaults = .none) (ho : u.K.lookup T = some o) (hs : o.data = .seq #[v] n)
    (h3 : ∀ q a b c, ∃ k, bindArgs (fd0 q P (.ref T) .none) ⟨[a, b, c], []⟩ = seqItems? (.ref T) >>= k ∧ k (some #[v]) = pure (bind36 a b c)) (h2 : ∀ q a b, ∃ k, bindArgs (fd0 q P (.ref T) .none) ⟨[a, b], []⟩ = seqItems? (.ref T) >>= k ∧ k (some #[v]) = pure (bind36 a b v)) :
    (∀ {s : Shared} {a b c : Value}, u.K.In s.heap → BindsTo s (fdAtU u 36) ⟨[a, b, c], []⟩ (bind36 a b c)) ∧ ∃ sv : Value, ∀ {s : Shared} {a b : Value}, u.K.In s.heap → BindsTo s (fdAtU u 36) ⟨[a, b], []⟩ (bind36 a b sv) :=
  ⟨fun {s a b c} X => by
    obtain ⟨k, h1, h2⟩ := h3 (fdAtU u 36).qualname a b c
    exact BindsTo.of_defaults hd (X _ _ ho) hs (by rw [bind_eq hp hd hk, hd]; exact h1) h2, v, fun {s a b} X => by
    obtain ⟨k, h1, h2⟩ := h2 (fdAtU u 36).qualname a b
    exact BindsTo.of_defaults hd (X _ _ ho) hs (by rw [bind_eq hp hd hk, hd]; exact h1) h2⟩
end Mine
namespace Mine
open PySem PySem.W PyProof.Rows PySem.Calls PySem.Spec
theorem ints_mem {vs : List Value} {ns : List Int} (h : IntsAre vs ns) : ∀ v ∈ vs, ∃ i t, v = .int i t := by
  induction h with
  | nil => intro v hv; cases hv
  | cons a u r ih =>
    intro v hv
    cases hv with
    | head => exact ⟨a, u, rfl⟩
    | tail _ hv => exact ih v hv
theorem law_end {w : World} {p : Program} {loose : List Str} {mean : ExcName → Option Value} {mg mb : Str → Option Value} {K : Frag} {base : Heap} {L fa la : Addr} {cd : Value} {m : Str → Option Value} {s : Shared} {items : List Value} {ns : List Int} {Q : Flow → Shared → Prop} {E : Value → Shared → Prop}
    (H : KAll ⟨w, p, loose, mean, mg, mb, K, base⟩) (B : Below callerA base [] base) (X : K.In base) (T : Top p loose mean mg mb base) (Cd : CodeHd base 653 649) (F : Fr base L s.heap m) (N : News base L s.heap [(649, tabObj #[])]) (hc : m (Str.ofString "script") = some (.ref la)) (hl : base.IsList la items.toArray) (hI : IntsAre items ns) (hlen : ¬ ((63 : Nat) : Int) < (ns.length : Int))
    (hQ : ∀ s' m', s'.gens = s.gens → s'.os = s.os → Fr base L s'.heap m' → GrownAll [(653, 649)] s'.heap → Q (.ret (.bool true)) s') :
    wpAny (model PRG w) (callerA.deeper (envOf (Str.ofString "law") sc708 L fa cd)) (execs law708 (envOf (Str.ofString "law") sc708 L fa cd)) Q E s :=
  law_u ⟨w, p, loose, mean, mg, mb, K, base⟩ H B X T Cd F N hc hl (ints_mem hI) (by have := hI.length; omega) hQ
end Mine
open PySem PySem.W PyProof.Rows
set_option Elab.async true
set_option maxHeartbeats 0
theorem Mine.hd.tw10012880186880212623 : True := trivial
theorem Mine.hd.tw10024716035694756283 : True := trivial
theorem Mine.hd.tw100483095206116625 : True := trivial
theorem Mine.hd.tw1005483496087919985 : True := trivial
theorem Mine.hd.tw10098268173465320503 : True := trivial
theorem Mine.hd.tw10111801491309104144 : True := trivial
theorem Mine.hd.tw1013155817946168525 : True := trivial
theorem Mine.hd.tw10170382586518783626 : True := trivial
theorem Mine.hd.tw10203026625882799534 : True := trivial
theorem Mine.hd.tw10216474801634566288 : True := trivial
theorem Mine.hd.tw10246146449241189800 : True := trivial
theorem Mine.hd.tw10264135568141901301 : True := trivial
theorem Mine.hd.tw10292235466723388172 : True := trivial
theorem Mine.hd.tw1033889070964956483 : True := trivial
theorem Mine.hd.tw10357175440086982646 : True := trivial
theorem Mine.hd.tw10404513684093684653 : True := trivial
theorem Mine.hd.tw10424393626065333798 : True := trivial
theorem Mine.hd.tw1043307727769730188 : True := trivial
theorem Mine.hd.tw10458740792067480800 : True := trivial
theorem Mine.hd.tw10465514089279642386 : True := trivial
theorem Mine.hd.tw10491609206876299696 : True := trivial
theorem Mine.hd.tw10507497572311344420 : True := trivial
theorem Mine.hd.tw10543509907540572799 : True := trivial
theorem Mine.hd.tw10583446816852156582 : True := trivial
theorem Mine.hd.tw10603584201595350602 : True := trivial
theorem Mine.hd.tw10614716105012338702 : True := trivial
theorem Mine.hd.tw10678649693572172417 : True := trivial
theorem Mine.hd.tw10726733084530063505 : True := trivial
theorem Mine.hd.tw10727248033764811480 : True := trivial
theorem Mine.hd.tw10738003575532504788 : True := trivial
theorem Mine.hd.tw10752148897807903841 : True := trivial
theorem Mine.hd.tw10781468475247234061 : True := trivial
theorem Mine.hd.tw10784824025267889561 : True := trivial
theorem Mine.hd.tw10788059911547816233 : True := trivial
theorem Mine.hd.tw10806950440038215891 : True := trivial
theorem Mine.hd.tw10844753989422098599 : True := trivial
theorem Mine.hd.tw10847404155465417027 : True := trivial
theorem Mine.hd.tw10860895700388868024 : True := trivial
theorem Mine.hd.tw1088296927520436173 : True := trivial
theorem Mine.hd.tw10905682514733158466 : True := trivial
theorem Mine.hd.tw10919297434634762262 : True := trivial
theorem Mine.hd.tw10949625832625181284 : True := trivial
theorem Mine.hd.tw11011131195910976488 : True := trivial
theorem Mine.hd.tw11032806212648032379 : True := trivial
theorem Mine.hd.tw11034497122203965937 : True := trivial
theorem Mine.hd.tw11054480109507316185 : True := trivial
theorem Mine.hd.tw11064508245171106854 : True := trivial
theorem Mine.hd.tw11079593142295127227 : True := trivial
theorem Mine.hd.tw11117797201346649052 : True := trivial
theorem Mine.hd.tw11128854368766332075 : True := trivial
theorem Mine.hd.tw11136197038861592535 : True := trivial
theorem Mine.hd.tw11151547217846952531 : True := trivial
theorem Mine.hd.tw11162318198679636149 : True := trivial
theorem Mine.hd.tw11184233589655437745 : True := trivial
theorem Mine.hd.tw1118553966540926140 : True := trivial
theorem Mine.hd.tw11210553801493137410 : True := trivial
theorem Mine.hd.tw11213053971927718326 : True := trivial
theorem Mine.hd.tw11232374478483605306 : True := trivial
theorem Mine.hd.tw11251137523995926341 : True := trivial
theorem Mine.hd.tw11254508552101053245 : True := trivial
theorem Mine.hd.tw11256106856564762260 : True := trivial
theorem Mine.hd.tw1129884963351977449 : True := trivial
theorem Mine.hd.tw11319892378374348655 : True := trivial
theorem Mine.hd.tw11389486352061984695 : True := trivial
theorem Mine.hd.tw11399449904127653305 : True := trivial
theorem Mine.hd.tw11402939732021071671 : True := trivial
theorem Mine.hd.tw11465210709893060100 : True := trivial
theorem Mine.hd.tw11587034568685482758 : True := trivial
theorem Mine.hd.tw11631869004601391166 : True := trivial
theorem Mine.hd.tw11631947586910100387 : True := trivial
theorem Mine.hd.tw11660266114150955751 : True := trivial
theorem Mine.hd.tw11672842613191775419 : True := trivial
theorem Mine.hd.tw11709330566771433103 : True := trivial
theorem Mine.hd.tw11713075325732132258 : True := trivial
theorem Mine.hd.tw11754176132448286083 : True := trivial
theorem Mine.hd.tw11778180911958503814 : True := trivial
theorem Mine.hd.tw11801993109049149486 : True := trivial
theorem Mine.hd.tw11893437276241958245 : True := trivial
theorem Mine.hd.tw11905163887095721015 : True := trivial
theorem Mine.hd.tw11912922877643110818 : True := trivial
theorem Mine.hd.tw1194904439430580092 : True := trivial
theorem Mine.hd.tw11953376511379268794 : True := trivial
theorem Mine.hd.tw1197925565968671727 : True := trivial
theorem Mine.hd.tw12050417470231563642 : True := trivial
theorem Mine.hd.tw12058812876911547015 : True := trivial
theorem Mine.hd.tw12070051907170230399 : True := trivial
theorem Mine.hd.tw1208734638264122097 : True := trivial
theorem Mine.hd.tw12092154237167983948 : True := trivial
theorem Mine.hd.tw12112201142124510154 : True := trivial
theorem Mine.hd.tw12113243949977362033 : True := trivial
theorem Mine.hd.tw12127338746724423809 : True := trivial
theorem Mine.hd.tw12173100003817136821 : True := trivial
theorem Mine.hd.tw12239354291974867115 : True := trivial
theorem Mine.hd.tw12271959270614036898 : True := trivial
theorem Mine.hd.tw12335779499112914786 : True := trivial
theorem Mine.hd.tw12337632362937886050 : True := trivial
theorem Mine.hd.tw12350410155528471161 : True := trivial
theorem Mine.hd.tw12393119488966705847 : True := trivial
theorem Mine.hd.tw12394076208661396346 : True := trivial
theorem Mine.hd.tw12399718760709695909 : True := trivial
theorem Mine.hd.tw12414669353804360901 : True := trivial
theorem Mine.hd.tw12459740579856956213 : True := trivial
theorem Mine.hd.tw12487502673411948298 : True := trivial
theorem Mine.hd.tw12575139184659369484 : True := trivial
theorem Mine.hd.tw12590977762386282803 : True := trivial
theorem Mine.hd.tw12591134339009171964 : True := trivial
theorem Mine.hd.tw12611767792052310623 : True := trivial
theorem Mine.hd.tw12629568148972539762 : True := trivial
theorem Mine.hd.tw12631932088317031055 : True := trivial
theorem Mine.hd.tw12647368939536790636 : True := trivial
theorem Mine.hd.tw12659318050587179527 : True := trivial
theorem Mine.hd.tw12685813987229840507 : True := trivial
theorem Mine.hd.tw12744807935193187038 : True := trivial
theorem Mine.hd.tw12769127236821124696 : True := trivial
theorem Mine.hd.tw12832683148521936107 : True := trivial
theorem Mine.hd.tw12870888531099404533 : True := trivial
theorem Mine.hd.tw12901994302517312135 : True := trivial
theorem Mine.hd.tw12936449754285732098 : True := trivial
theorem Mine.hd.tw12940713784782232206 : True := trivial
theorem Mine.hd.tw12949589719889679912 : True := trivial
theorem Mine.hd.tw1299046323782801668 : True := trivial
theorem Mine.hd.tw12994019391074448376 : True := trivial
theorem Mine.hd.tw13038990169509382042 : True := trivial
theorem Mine.hd.tw13047593935725612058 : True := trivial
theorem Mine.hd.tw13066319289922817542 : True := trivial
theorem Mine.hd.tw13092906067662860646 : True := trivial
theorem Mine.hd.tw13122850982685727845 : True := trivial
theorem Mine.hd.tw13132618709999183898 : True := trivial
theorem Mine.hd.tw13160604113216922460 : True := trivial
theorem Mine.hd.tw13181700845877081190 : True := trivial
theorem Mine.hd.tw1321573849610398683 : True := trivial
theorem Mine.hd.tw13217225542625558698 : True := trivial
theorem Mine.hd.tw13217827037086042188 : True := trivial
theorem Mine.hd.tw13220430256171166289 : True := trivial
theorem Mine.hd.tw13225837485096350037 : True := trivial
theorem Mine.hd.tw13267510147771200024 : True := trivial
theorem Mine.hd.tw13277076834127875243 : True := trivial
theorem Mine.hd.tw13285133528070534704 : True := trivial
theorem Mine.hd.tw13293453174229064190 : True := trivial
theorem Mine.hd.tw13315533130655954831 : True := trivial
theorem Mine.hd.tw13321331477185743149 : True := trivial
theorem Mine.hd.tw13322179722446271537 : True := trivial
theorem Mine.hd.tw13330244855972007585 : True := trivial
theorem Mine.hd.tw13342606739435360313 : True := trivial
theorem Mine.hd.tw13363553139645760527 : True := trivial
theorem Mine.hd.tw13365295217650922812 : True := trivial
theorem Mine.hd.tw13368278939475635651 : True := trivial
theorem Mine.hd.tw13409441903868389331 : True := trivial
theorem Mine.hd.tw13431754692932380062 : True := trivial
theorem Mine.hd.tw13466754112058979494 : True := trivial
theorem Mine.hd.tw13483081372092288885 : True := trivial
theorem Mine.hd.tw13518370688599389936 : True := trivial
theorem Mine.hd.tw13531707123254989501 : True := trivial
theorem Mine.hd.tw13532847315355080253 : True := trivial
theorem Mine.hd.tw13566260322249332789 : True := trivial
theorem Mine.hd.tw1359830224848277088 : True := trivial
theorem Mine.hd.tw13629619172449357372 : True := trivial
theorem Mine.hd.tw13642289790063256904 : True := trivial
theorem Mine.hd.tw1365801648042143879 : True := trivial
theorem Mine.hd.tw13770079208771991547 : True := trivial
theorem Mine.hd.tw13783031573616600631 : True := trivial
theorem Mine.hd.tw13790719812936386609 : True := trivial
theorem Mine.hd.tw13828106393651249627 : True := trivial
theorem Mine.hd.tw1382963296337349011 : True := trivial
theorem Mine.hd.tw13854573162848686387 : True := trivial
theorem Mine.hd.tw13855946660403688772 : True := trivial
theorem Mine.hd.tw13866372431405929976 : True := trivial
theorem Mine.hd.tw13893168526513508166 : True := trivial
theorem Mine.hd.tw13919464512627920130 : True := trivial
theorem Mine.hd.tw13929354066492186541 : True := trivial
theorem Mine.hd.tw13994979335412520660 : True := trivial
theorem Mine.hd.tw14006173549557618073 : True := trivial
theorem Mine.hd.tw14029546391885035639 : True := trivial
theorem Mine.hd.tw1409312971732116557 : True := trivial
theorem Mine.hd.tw14103535550066685397 : True := trivial
theorem Mine.hd.tw1413172679324656950 : True := trivial
theorem Mine.hd.tw14137390275340422267 : True := trivial
theorem Mine.hd.tw14176624398918483544 : True := trivial
theorem Mine.hd.tw14294001040229213422 : True := trivial
theorem Mine.hd.tw14353793391729792155 : True := trivial
theorem Mine.hd.tw1439246655266547700 : True := trivial
theorem Mine.hd.tw14438451200097066615 : True := trivial
theorem Mine.hd.tw14457593812595234344 : True := trivial
theorem Mine.hd.tw14478148883734587675 : True := trivial
theorem Mine.hd.tw14492701947808656938 : True := trivial
theorem Mine.hd.tw14553816603554493358 : True := trivial
theorem Mine.hd.tw14560493823538711346 : True := trivial
theorem Mine.hd.tw14567429538950270057 : True := trivial
theorem Mine.hd.tw14598272352848978880 : True := trivial
theorem Mine.hd.tw14620637471214046174 : True := trivial
theorem Mine.hd.tw14667805832236412624 : True := trivial
theorem Mine.hd.tw14685462170515437407 : True := trivial
theorem Mine.hd.tw14705683404202351889 : True := trivial
theorem Mine.hd.tw14745743045033390146 : True := trivial
theorem Mine.hd.tw14852329139284432860 : True := trivial
theorem Mine.hd.tw14859038896228082724 : True := trivial
theorem Mine.hd.tw14892549342360969540 : True := trivial
theorem Mine.hd.tw14896477498954680388 : True := trivial
theorem Mine.hd.tw14955159897011116063 : True := trivial
theorem Mine.hd.tw14960593345356199642 : True := trivial
theorem Mine.hd.tw14980023328507725902 : True := trivial
theorem Mine.hd.tw14984183105004643987 : True := trivial
theorem Mine.hd.tw14991384322417631237 : True := trivial
theorem Mine.hd.tw15042006015671813226 : True := trivial
theorem Mine.hd.tw15048261121198461528 : True := trivial
theorem Mine.hd.tw15083628210047938546 : True := trivial
theorem Mine.hd.tw15089522573102190283 : True := trivial
theorem Mine.hd.tw15103106377680225435 : True := trivial
theorem Mine.hd.tw15152743547302097792 : True := trivial
theorem Mine.hd.tw15166520500009309586 : True := trivial
theorem Mine.hd.tw15179676742415161110 : True := trivial
theorem Mine.hd.tw15207398651663016943 : True := trivial
theorem Mine.hd.tw15213948185873263833 : True := trivial
theorem Mine.hd.tw15220180469806662145 : True := trivial
theorem Mine.hd.tw15279998641719260112 : True := trivial
theorem Mine.hd.tw15344866539931968096 : True := trivial
theorem Mine.hd.tw1535757262459896012 : True := trivial
theorem Mine.hd.tw15366321246850454743 : True := trivial
theorem Mine.hd.tw15367242080415987702 : True := trivial
theorem Mine.hd.tw15368132723985388332 : True := trivial
theorem Mine.hd.tw15411387601460861337 : True := trivial
theorem Mine.hd.tw15463257786427224491 : True := trivial
theorem Mine.hd.tw15508949281206285077 : True := trivial
theorem Mine.hd.tw15527848837575444561 : True := trivial
theorem Mine.hd.tw15578025631644234493 : True := trivial
theorem Mine.hd.tw15595854959937240912 : True := trivial
theorem Mine.hd.tw15610959940260225430 : True := trivial
theorem Mine.hd.tw15615420239508185596 : True := trivial
theorem Mine.hd.tw15615537253650120727 : True := trivial
theorem Mine.hd.tw1563692795949630186 : True := trivial
theorem Mine.hd.tw15643275761693703936 : True := trivial
theorem Mine.hd.tw15665482370847157851 : True := trivial
theorem Mine.hd.tw15673258824015622330 : True := trivial
theorem Mine.hd.tw15683763237869141255 : True := trivial
theorem Mine.hd.tw15687388767607454252 : True := trivial
theorem Mine.hd.tw15759970867653108152 : True := trivial
theorem Mine.hd.tw1580110805410547442 : True := trivial
theorem Mine.hd.tw15813434630575017362 : True := trivial
theorem Mine.hd.tw15833661619300960221 : True := trivial
theorem Mine.hd.tw15852365999677673905 : True := trivial
theorem Mine.hd.tw1588505670450824345 : True := trivial
theorem Mine.hd.tw1589133516308662214 : True := trivial
theorem Mine.hd.tw15910714762333108613 : True := trivial
theorem Mine.hd.tw15946388913382835224 : True := trivial
theorem Mine.hd.tw15948780112781908787 : True := trivial
theorem Mine.hd.tw15967140613478806237 : True := trivial
theorem Mine.hd.tw15987713032478767096 : True := trivial
theorem Mine.hd.tw15992342658441690333 : True := trivial
theorem Mine.hd.tw1600037746751723098 : True := trivial
theorem Mine.hd.tw16006246977917349235 : True := trivial
theorem Mine.hd.tw16009884308244765898 : True := trivial
theorem Mine.hd.tw16011055738799735888 : True := trivial
theorem Mine.hd.tw16029623286316568529 : True := trivial
theorem Mine.hd.tw16037735763661986305 : True := trivial
theorem Mine.hd.tw16053994301053490033 : True := trivial
theorem Mine.hd.tw16056359734778111409 : True := trivial
theorem Mine.hd.tw16064382804478563927 : True := trivial
theorem Mine.hd.tw16091413853298234908 : True := trivial
theorem Mine.hd.tw1610171440888473627 : True := trivial
theorem Mine.hd.tw16122263528239426037 : True := trivial
theorem Mine.hd.tw16136394107512358855 : True := trivial
theorem Mine.hd.tw16154546982801380032 : True := trivial
theorem Mine.hd.tw16157073509204512506 : True := trivial
theorem Mine.hd.tw16171809288044610508 : True := trivial
theorem Mine.hd.tw16178712458983371728 : True := trivial
theorem Mine.hd.tw16240987189780228909 : True := trivial
theorem Mine.hd.tw16257038226119295666 : True := trivial
theorem Mine.hd.tw162610821266807592 : True := trivial
theorem Mine.hd.tw16299908979028503884 : True := trivial
theorem Mine.hd.tw16302227732802510677 : True := trivial
theorem Mine.hd.tw16332348944364537037 : True := trivial
theorem Mine.hd.tw16345102440705955213 : True := trivial
theorem Mine.hd.tw16357263729072622229 : True := trivial
theorem Mine.hd.tw16376525773666504680 : True := trivial
theorem Mine.hd.tw16412773359747925120 : True := trivial
theorem Mine.hd.tw16456969618363192440 : True := trivial
theorem Mine.hd.tw16502264421070913907 : True := trivial
theorem Mine.hd.tw16634568088961857937 : True := trivial
theorem Mine.hd.tw16640546478005224243 : True := trivial
theorem Mine.hd.tw16649331688326792143 : True := trivial
theorem Mine.hd.tw1666387254794493845 : True := trivial
theorem Mine.hd.tw16684818696116721337 : True := trivial
theorem Mine.hd.tw16694946328126371552 : True := trivial
theorem Mine.hd.tw16713699803418581334 : True := trivial
theorem Mine.hd.tw16722109127936396110 : True := trivial
theorem Mine.hd.tw16772102934027710169 : True := trivial
theorem Mine.hd.tw16828841361933241965 : True := trivial
theorem Mine.hd.tw16853341256802265648 : True := trivial
theorem Mine.hd.tw16858285156579221889 : True := trivial
theorem Mine.hd.tw16868993833207775613 : True := trivial
theorem Mine.hd.tw16904818350239718627 : True := trivial
theorem Mine.hd.tw16919406825032445293 : True := trivial
theorem Mine.hd.tw16920754564084929960 : True := trivial
theorem Mine.hd.tw16945582573551092051 : True := trivial
theorem Mine.hd.tw16970440968685349367 : True := trivial
theorem Mine.hd.tw1699103778626983548 : True := trivial
theorem Mine.hd.tw17001982702790524580 : True := trivial
theorem Mine.hd.tw17047115858639842297 : True := trivial
theorem Mine.hd.tw17054507655720011243 : True := trivial
theorem Mine.hd.tw17062030032774818151 : True := trivial
theorem Mine.hd.tw17070941380808615275 : True := trivial
theorem Mine.hd.tw17076082267592564974 : True := trivial
theorem Mine.hd.tw1712922718373300912 : True := trivial
theorem Mine.hd.tw17177331786930743035 : True := trivial
theorem Mine.hd.tw17183224562656869120 : True := trivial
theorem Mine.hd.tw17213754286329925777 : True := trivial
theorem Mine.hd.tw17234923516513369237 : True := trivial
theorem Mine.hd.tw17262451260170068863 : True := trivial
theorem Mine.hd.tw17311223219408574766 : True := trivial
theorem Mine.hd.tw17312999752573914782 : True := trivial
theorem Mine.hd.tw17330945745186091897 : True := trivial
theorem Mine.hd.tw17336936450418997793 : True := trivial
theorem Mine.hd.tw17377529257436501650 : True := trivial
theorem Mine.hd.tw17387473266821786944 : True := trivial
theorem Mine.hd.tw17429513623812275283 : True := trivial
theorem Mine.hd.tw17430575921969211009 : True := trivial
theorem Mine.hd.tw17471934795394947791 : True := trivial
theorem Mine.hd.tw17491280204586788870 : True := trivial
theorem Mine.hd.tw17491317419825422843 : True := trivial
theorem Mine.hd.tw17542962492245011380 : True := trivial
theorem Mine.hd.tw17562767543260142214 : True := trivial
theorem Mine.hd.tw17574625026820762457 : True := trivial
theorem Mine.hd.tw17577478241444706838 : True := trivial
theorem Mine.hd.tw1760603350576429475 : True := trivial
theorem Mine.hd.tw17628472586750557451 : True := trivial
theorem Mine.hd.tw17650839729002327288 : True := trivial
theorem Mine.hd.tw17681399029576232318 : True := trivial
theorem Mine.hd.tw17696971302532935780 : True := trivial
theorem Mine.hd.tw17711083657039698284 : True := trivial
theorem Mine.hd.tw17714235663813219645 : True := trivial
theorem Mine.hd.tw17739348878880393726 : True := trivial
theorem Mine.hd.tw17772917993097084435 : True := trivial
theorem Mine.hd.tw1781861727890032366 : True := trivial
theorem Mine.hd.tw17843490464661113860 : True := trivial
theorem Mine.hd.tw17893044597097874663 : True := trivial
theorem Mine.hd.tw17895171251205151618 : True := trivial
theorem Mine.hd.tw17901334829092211166 : True := trivial
theorem Mine.hd.tw17902569758825723728 : True := trivial
theorem Mine.hd.tw17903497710992402801 : True := trivial
theorem Mine.hd.tw17919194246423945575 : True := trivial
theorem Mine.hd.tw17925215291927510665 : True := trivial
theorem Mine.hd.tw17948085552500728524 : True := trivial
theorem Mine.hd.tw17975533764899295144 : True := trivial
theorem Mine.hd.tw17986969038992634876 : True := trivial
theorem Mine.hd.tw17989097746536338734 : True := trivial
theorem Mine.hd.tw1800889605409440832 : True := trivial
theorem Mine.hd.tw18103342009636024947 : True := trivial
theorem Mine.hd.tw18103420901670897651 : True := trivial
theorem Mine.hd.tw18163647496604598072 : True := trivial
theorem Mine.hd.tw18166333605607142505 : True := trivial
theorem Mine.hd.tw18185175575083235020 : True := trivial
theorem Mine.hd.tw18219297243305740317 : True := trivial
theorem Mine.hd.tw18245042118932799458 : True := trivial
theorem Mine.hd.tw18264374347568628810 : True := trivial
theorem Mine.hd.tw18268791191939849864 : True := trivial
theorem Mine.hd.tw18291419657060728153 : True := trivial
theorem Mine.hd.tw18293732401869909652 : True := trivial
theorem Mine.hd.tw18293851220164018083 : True := trivial
theorem Mine.hd.tw18302498484699191785 : True := trivial
theorem Mine.hd.tw18322514126500204803 : True := trivial
theorem Mine.hd.tw18358800413957953924 : True := trivial
theorem Mine.hd.tw1836080755315867724 : True := trivial
theorem Mine.hd.tw1848646778235469078 : True := trivial
theorem Mine.hd.tw185848376630758926 : True := trivial
theorem Mine.hd.tw1865391376527767206 : True := trivial
theorem Mine.hd.tw1882180444382439491 : True := trivial
theorem Mine.hd.tw189712035060473897 : True := trivial
theorem Mine.hd.tw190519026028168232 : True := trivial
theorem Mine.hd.tw1954109241102656831 : True := trivial
theorem Mine.hd.tw1997569388931296116 : True := trivial
theorem Mine.hd.tw2000490053193787569 : True := trivial
theorem Mine.hd.tw2040990291671593033 : True := trivial
theorem Mine.hd.tw2051048951616859547 : True := trivial
theorem Mine.hd.tw2101469004524951375 : True := trivial
theorem Mine.hd.tw2114630138375439770 : True := trivial
theorem Mine.hd.tw212345690472687942 : True := trivial
theorem Mine.hd.tw2134215046882385847 : True := trivial
theorem Mine.hd.tw2167537188350426706 : True := trivial
theorem Mine.hd.tw2216850387143573719 : True := trivial
theorem Mine.hd.tw2252305205657439004 : True := trivial
theorem Mine.hd.tw22551697357593593 : True := trivial
theorem Mine.hd.tw2274498078352570744 : True := trivial
theorem Mine.hd.tw2284436838669742495 : True := trivial
theorem Mine.hd.tw2287590429203783052 : True := trivial
theorem Mine.hd.tw2304311442786299043 : True := trivial
theorem Mine.hd.tw2315301623876862497 : True := trivial
theorem Mine.hd.tw2323474266016966308 : True := trivial
theorem Mine.hd.tw2327210489368252092 : True := trivial
theorem Mine.hd.tw2386827423013361158 : True := trivial
theorem Mine.hd.tw2391449824757734642 : True := trivial
theorem Mine.hd.tw243823211424636713 : True := trivial
theorem Mine.hd.tw2442259710966052079 : True := trivial
theorem Mine.hd.tw2457190517430149469 : True := trivial
theorem Mine.hd.tw2480057099694739299 : True := trivial
theorem Mine.hd.tw2502866573005156581 : True := trivial
theorem Mine.hd.tw250903467453971090 : True := trivial
theorem Mine.hd.tw257007361410690125 : True := trivial
theorem Mine.hd.tw2603259988358896889 : True := trivial
theorem Mine.hd.tw2608437505485318709 : True := trivial
theorem Mine.hd.tw26425463804135960 : True := trivial
theorem Mine.hd.tw2658526732547218105 : True := trivial
theorem Mine.hd.tw2708950531961675432 : True := trivial
theorem Mine.hd.tw2739504486584576224 : True := trivial
theorem Mine.hd.tw2781682124601125471 : True := trivial
theorem Mine.hd.tw2783992281797965187 : True := trivial
theorem Mine.hd.tw2788664435532181463 : True := trivial
theorem Mine.hd.tw280609765759037681 : True := trivial
theorem Mine.hd.tw2808349399557158395 : True := trivial
theorem Mine.hd.tw2845679848157327705 : True := trivial
theorem Mine.hd.tw2855845756224970109 : True := trivial
theorem Mine.hd.tw2867327485932766208 : True := trivial
theorem Mine.hd.tw2887051446865420828 : True := trivial
theorem Mine.hd.tw2930668341846507884 : True := trivial
theorem Mine.hd.tw2951005344575393816 : True := trivial
theorem Mine.hd.tw2999033326186475339 : True := trivial
theorem Mine.hd.tw3008623586974134963 : True := trivial
theorem Mine.hd.tw307737655149646647 : True := trivial
theorem Mine.hd.tw3085183777334472315 : True := trivial
theorem Mine.hd.tw3109861748172591687 : True := trivial
theorem Mine.hd.tw3182187488490625086 : True := trivial
theorem Mine.hd.tw3196399650302076718 : True := trivial
theorem Mine.hd.tw3219085151875037572 : True := trivial
theorem Mine.hd.tw3229955645248102723 : True := trivial
theorem Mine.hd.tw3301654171414802437 : True := trivial
theorem Mine.hd.tw3309697970292668127 : True := trivial
theorem Mine.hd.tw3350844169311001129 : True := trivial
theorem Mine.hd.tw3350930974749635488 : True := trivial
theorem Mine.hd.tw3381375190539634487 : True := trivial
theorem Mine.hd.tw3404104791013757517 : True := trivial
theorem Mine.hd.tw3410444493855829464 : True := trivial
theorem Mine.hd.tw3419581819265744254 : True := trivial
theorem Mine.hd.tw3429492842335990350 : True := trivial
theorem Mine.hd.tw3442329435671937591 : True := trivial
theorem Mine.hd.tw3443669649825651883 : True := trivial
theorem Mine.hd.tw3451239065008710300 : True := trivial
theorem Mine.hd.tw3452082135128663414 : True := trivial
theorem Mine.hd.tw3480954088277226078 : True := trivial
theorem Mine.hd.tw3484992998616243462 : True := trivial
theorem Mine.hd.tw3493717111155160527 : True := trivial
theorem Mine.hd.tw3530705653197291679 : True := trivial
theorem Mine.hd.tw3571134770919094901 : True := trivial
theorem Mine.hd.tw3578793298874791812 : True := trivial
theorem Mine.hd.tw3646829019195819677 : True := trivial
theorem Mine.hd.tw368366308016060594 : True := trivial
theorem Mine.hd.tw3694398316872202419 : True := trivial
theorem Mine.hd.tw3759623122121258479 : True := trivial
theorem Mine.hd.tw3789350110615891812 : True := trivial
theorem Mine.hd.tw3795277891434052102 : True := trivial
theorem Mine.hd.tw3828038474966422129 : True := trivial
theorem Mine.hd.tw3915529967508079626 : True := trivial
theorem Mine.hd.tw3919010098100093602 : True := trivial
theorem Mine.hd.tw3922637787740509324 : True := trivial
theorem Mine.hd.tw3941438180925939637 : True := trivial
theorem Mine.hd.tw395138700845864316 : True := trivial
theorem Mine.hd.tw3953601041324332601 : True := trivial
theorem Mine.hd.tw4014540891139286612 : True := trivial
theorem Mine.hd.tw4015398097383911347 : True := trivial
theorem Mine.hd.tw4021928978595405253 : True := trivial
theorem Mine.hd.tw4065347644161347641 : True := trivial
theorem Mine.hd.tw4086058157674990017 : True := trivial
theorem Mine.hd.tw4091639524402994376 : True := trivial
theorem Mine.hd.tw4111692666942324129 : True := trivial
theorem Mine.hd.tw4115565904173853331 : True := trivial
theorem Mine.hd.tw4136554803537287180 : True := trivial
theorem Mine.hd.tw4138081844389336918 : True := trivial
theorem Mine.hd.tw4159134105002834734 : True := trivial
theorem Mine.hd.tw4172343393113369950 : True := trivial
theorem Mine.hd.tw4182648748547736412 : True := trivial
theorem Mine.hd.tw4225703048834024713 : True := trivial
theorem Mine.hd.tw4272726840584523970 : True := trivial
theorem Mine.hd.tw4282304852377368616 : True := trivial
theorem Mine.hd.tw4292457097857839397 : True := trivial
theorem Mine.hd.tw4297731678662094536 : True := trivial
theorem Mine.hd.tw4315991029959535628 : True := trivial
theorem Mine.hd.tw432457690288141553 : True := trivial
theorem Mine.hd.tw4377701919642642989 : True := trivial
theorem Mine.hd.tw4383666589626881386 : True := trivial
theorem Mine.hd.tw4402725079659364252 : True := trivial
theorem Mine.hd.tw442638132926106271 : True := trivial
theorem Mine.hd.tw4449123307109862055 : True := trivial
theorem Mine.hd.tw4478166936697009375 : True := trivial
theorem Mine.hd.tw4478177076189095293 : True := trivial
theorem Mine.hd.tw4478964076566166474 : True := trivial
theorem Mine.hd.tw4494801613693538912 : True := trivial
theorem Mine.hd.tw4511701632830243264 : True := trivial
theorem Mine.hd.tw4523669819894539328 : True := trivial
theorem Mine.hd.tw461538923250603899 : True := trivial
theorem Mine.hd.tw4626208715939980372 : True := trivial
theorem Mine.hd.tw4642405928176397000 : True := trivial
theorem Mine.hd.tw4643362625855044894 : True := trivial
theorem Mine.hd.tw464777395874653626 : True := trivial
theorem Mine.hd.tw4654797750381630734 : True := trivial
theorem Mine.hd.tw4702841417184801058 : True := trivial
theorem Mine.hd.tw4706079058837389440 : True := trivial
theorem Mine.hd.tw4788038989552484473 : True := trivial
theorem Mine.hd.tw4817003022231809500 : True := trivial
theorem Mine.hd.tw4819202231147424091 : True := trivial
theorem Mine.hd.tw4851647983119433812 : True := trivial
theorem Mine.hd.tw4856431653887292112 : True := trivial
theorem Mine.hd.tw4870687313549177768 : True := trivial
theorem Mine.hd.tw4968526502096005782 : True := trivial
theorem Mine.hd.tw4990156530697904881 : True := trivial
theorem Mine.hd.tw4993660671451451078 : True := trivial
theorem Mine.hd.tw5009564483982726761 : True := trivial
theorem Mine.hd.tw5036846961687405229 : True := trivial
theorem Mine.hd.tw5130813555471234732 : True := trivial
theorem Mine.hd.tw5138769234217329475 : True := trivial
theorem Mine.hd.tw5148922909946612681 : True := trivial
theorem Mine.hd.tw5167245352685981253 : True := trivial
theorem Mine.hd.tw5190246844813560578 : True := trivial
theorem Mine.hd.tw519851828213033955 : True := trivial
theorem Mine.hd.tw5238241317806426387 : True := trivial
theorem Mine.hd.tw5245234834050458271 : True := trivial
theorem Mine.hd.tw5247051413645994129 : True := trivial
theorem Mine.hd.tw526207354791536317 : True := trivial
theorem Mine.hd.tw5278057926702712004 : True := trivial
theorem Mine.hd.tw5282504435634884242 : True := trivial
theorem Mine.hd.tw5292301768408028288 : True := trivial
theorem Mine.hd.tw5318216170032084099 : True := trivial
theorem Mine.hd.tw5343241284826551009 : True := trivial
theorem Mine.hd.tw5363564295841288755 : True := trivial
theorem Mine.hd.tw5366084841770067474 : True := trivial
theorem Mine.hd.tw5373601922739893978 : True := trivial
theorem Mine.hd.tw5388632664720090651 : True := trivial
theorem Mine.hd.tw5404595577490088263 : True := trivial
theorem Mine.hd.tw541196102884509978 : True := trivial
theorem Mine.hd.tw5416991563250132298 : True := trivial
theorem Mine.hd.tw5433107678231618845 : True := trivial
theorem Mine.hd.tw5480042469492414594 : True := trivial
theorem Mine.hd.tw5486487638281291605 : True := trivial
theorem Mine.hd.tw5505005885091257285 : True := trivial
theorem Mine.hd.tw5505332120971382143 : True := trivial
theorem Mine.hd.tw5592360268479517082 : True := trivial
theorem Mine.hd.tw5608270528595127837 : True := trivial
theorem Mine.hd.tw5635641802508607975 : True := trivial
theorem Mine.hd.tw5657824000916062451 : True := trivial
theorem Mine.hd.tw5715356086224469760 : True := trivial
theorem Mine.hd.tw5716766192118558609 : True := trivial
theorem Mine.hd.tw5732804406350252772 : True := trivial
theorem Mine.hd.tw5781342201191254626 : True := trivial
theorem Mine.hd.tw5899666649113621702 : True := trivial
theorem Mine.hd.tw5902613922787404954 : True := trivial
theorem Mine.hd.tw5961118342813265553 : True := trivial
theorem Mine.hd.tw5976792059365374437 : True := trivial
theorem Mine.hd.tw5978321128707920903 : True := trivial
theorem Mine.hd.tw5987830557187376847 : True := trivial
theorem Mine.hd.tw6038821095411175016 : True := trivial
theorem Mine.hd.tw6082411064634330575 : True := trivial
theorem Mine.hd.tw6136932545381038964 : True := trivial
theorem Mine.hd.tw6140570298594658328 : True := trivial
theorem Mine.hd.tw6164396464334811476 : True := trivial
theorem Mine.hd.tw6184460063843016694 : True := trivial
theorem Mine.hd.tw6186238094035137676 : True := trivial
theorem Mine.hd.tw6196171512934965099 : True := trivial
theorem Mine.hd.tw6291416237084387574 : True := trivial
theorem Mine.hd.tw6293948785866598258 : True := trivial
theorem Mine.hd.tw6305734824756694309 : True := trivial
theorem Mine.hd.tw6308581086252854402 : True := trivial
theorem Mine.hd.tw6320253292602491972 : True := trivial
theorem Mine.hd.tw6407587892757256292 : True := trivial
theorem Mine.hd.tw6411954120941647267 : True := trivial
theorem Mine.hd.tw6425095136778912423 : True := trivial
theorem Mine.hd.tw6428201937239042016 : True := trivial
theorem Mine.hd.tw6438293893037913957 : True := trivial
theorem Mine.hd.tw6442067068224118133 : True := trivial
theorem Mine.hd.tw6482722132109649516 : True := trivial
theorem Mine.hd.tw6529707622633924500 : True := trivial
theorem Mine.hd.tw6545403380812914513 : True := trivial
theorem Mine.hd.tw6547078798241139092 : True := trivial
theorem Mine.hd.tw6555240042291301478 : True := trivial
theorem Mine.hd.tw6578402527460240241 : True := trivial
theorem Mine.hd.tw6598312636042714100 : True := trivial
theorem Mine.hd.tw6615107907471364465 : True := trivial
theorem Mine.hd.tw6627881031435992008 : True := trivial
theorem Mine.hd.tw663384727985864361 : True := trivial
theorem Mine.hd.tw6683769817339685419 : True := trivial
theorem Mine.hd.tw6755925336976613232 : True := trivial
theorem Mine.hd.tw6759412095888398321 : True := trivial
theorem Mine.hd.tw6761669909254768831 : True := trivial
theorem Mine.hd.tw6767318904944593275 : True := trivial
theorem Mine.hd.tw6785817131721698500 : True := trivial
theorem Mine.hd.tw6804821044290156842 : True := trivial
theorem Mine.hd.tw6819123309680001836 : True := trivial
theorem Mine.hd.tw6830512106363814048 : True := trivial
theorem Mine.hd.tw6838551448383532254 : True := trivial
theorem Mine.hd.tw6868836192036940282 : True := trivial
theorem Mine.hd.tw6882427118574961969 : True := trivial
theorem Mine.hd.tw6898005170327248138 : True := trivial
theorem Mine.hd.tw6906073325868019850 : True := trivial
theorem Mine.hd.tw6924109203229866365 : True := trivial
theorem Mine.hd.tw6931407450589930559 : True := trivial
theorem Mine.hd.tw6957150274394394060 : True := trivial
theorem Mine.hd.tw6965799899956892507 : True := trivial
theorem Mine.hd.tw697623264460660564 : True := trivial
theorem Mine.hd.tw6982297934935202809 : True := trivial
theorem Mine.hd.tw6990203504111849199 : True := trivial
theorem Mine.hd.tw701787995468756871 : True := trivial
theorem Mine.hd.tw7023726343779634624 : True := trivial
theorem Mine.hd.tw7028611270464810887 : True := trivial
theorem Mine.hd.tw7031273417212677730 : True := trivial
theorem Mine.hd.tw7068711184596962023 : True := trivial
theorem Mine.hd.tw7082855905992002993 : True := trivial
theorem Mine.hd.tw7085514621470718492 : True := trivial
theorem Mine.hd.tw7120233287515763914 : True := trivial
theorem Mine.hd.tw7152984921513172624 : True := trivial
theorem Mine.hd.tw7153062008950511462 : True := trivial
theorem Mine.hd.tw7191455744419660376 : True := trivial
theorem Mine.hd.tw7203090732872221147 : True := trivial
theorem Mine.hd.tw7270182246851987180 : True := trivial
theorem Mine.hd.tw7289634563603522867 : True := trivial
theorem Mine.hd.tw7292484366425897655 : True := trivial
theorem Mine.hd.tw7317836474542784337 : True := trivial
theorem Mine.hd.tw732345407407602841 : True := trivial
theorem Mine.hd.tw7354087734392854552 : True := trivial
theorem Mine.hd.tw7355570028127101125 : True := trivial
theorem Mine.hd.tw7366208706002141716 : True := trivial
theorem Mine.hd.tw7369741819223213686 : True := trivial
theorem Mine.hd.tw7372000682148998216 : True := trivial
theorem Mine.hd.tw7379015992945566340 : True := trivial
theorem Mine.hd.tw7382370116671421104 : True := trivial
theorem Mine.hd.tw7492773218913965947 : True := trivial
theorem Mine.hd.tw7494724483528729301 : True := trivial
theorem Mine.hd.tw7510230149288206974 : True := trivial
theorem Mine.hd.tw7512474625130614241 : True := trivial
theorem Mine.hd.tw7525542149764818722 : True := trivial
theorem Mine.hd.tw7534799579077118603 : True := trivial
theorem Mine.hd.tw7540655947842036084 : True := trivial
theorem Mine.hd.tw7540741092611519060 : True := trivial
theorem Mine.hd.tw7541792107247259296 : True := trivial
theorem Mine.hd.tw7578210074245671484 : True := trivial
theorem Mine.hd.tw7598622570094877466 : True := trivial
theorem Mine.hd.tw7610815399733428385 : True := trivial
theorem Mine.hd.tw7628703163842673926 : True := trivial
theorem Mine.hd.tw7654286748164834634 : True := trivial
theorem Mine.hd.tw7676003278276379012 : True := trivial
theorem Mine.hd.tw7698358502638924378 : True := trivial
theorem Mine.hd.tw7721951785955056133 : True := trivial
theorem Mine.hd.tw7746578258024575070 : True := trivial
theorem Mine.hd.tw7752569895197466512 : True := trivial
theorem Mine.hd.tw7752767780024739350 : True := trivial
theorem Mine.hd.tw7754304195085646258 : True := trivial
theorem Mine.hd.tw7763873220885509757 : True := trivial
theorem Mine.hd.tw7793673504863384051 : True := trivial
theorem Mine.hd.tw7854228177987924090 : True := trivial
theorem Mine.hd.tw7865762390884039853 : True := trivial
theorem Mine.hd.tw7880807054014371918 : True := trivial
theorem Mine.hd.tw7891253978561527248 : True := trivial
theorem Mine.hd.tw7914949630228597729 : True := trivial
theorem Mine.hd.tw7927469264209771579 : True := trivial
theorem Mine.hd.tw8015326511298524721 : True := trivial
theorem Mine.hd.tw8025032847418708242 : True := trivial
theorem Mine.hd.tw8047900516022102942 : True := trivial
theorem Mine.hd.tw8068729725432388964 : True := trivial
theorem Mine.hd.tw8081886968326746073 : True := trivial
theorem Mine.hd.tw8112040973832200146 : True := trivial
theorem Mine.hd.tw8134915037123179040 : True := trivial
theorem Mine.hd.tw8191903926673212241 : True := trivial
theorem Mine.hd.tw8226494294326810461 : True := trivial
theorem Mine.hd.tw8228950375871286339 : True := trivial
theorem Mine.hd.tw8242931771332617035 : True := trivial
theorem Mine.hd.tw825126770350376351 : True := trivial
theorem Mine.hd.tw8268277133935991078 : True := trivial
theorem Mine.hd.tw8269573656231971908 : True := trivial
theorem Mine.hd.tw8273930003744585626 : True := trivial
theorem Mine.hd.tw8317466277049474617 : True := trivial
theorem Mine.hd.tw8324504678176258764 : True := trivial
theorem Mine.hd.tw8343274005884668182 : True := trivial
theorem Mine.hd.tw8351282476255451920 : True := trivial
theorem Mine.hd.tw8428860471423672150 : True := trivial
theorem Mine.hd.tw845060206244984605 : True := trivial
theorem Mine.hd.tw8458067239894703972 : True := trivial
theorem Mine.hd.tw8479784124755550697 : True := trivial
theorem Mine.hd.tw8493152586797012548 : True := trivial
theorem Mine.hd.tw8516288146210602744 : True := trivial
theorem Mine.hd.tw8538877666451538035 : True := trivial
theorem Mine.hd.tw8587404781116728655 : True := trivial
theorem Mine.hd.tw8589211134812392127 : True := trivial
theorem Mine.hd.tw8609351116199087170 : True := trivial
theorem Mine.hd.tw8652628183442184457 : True := trivial
theorem Mine.hd.tw8664936974563722654 : True := trivial
theorem Mine.hd.tw8671608845466749128 : True := trivial
theorem Mine.hd.tw8684328023851190084 : True := trivial
theorem Mine.hd.tw8716120427605611371 : True := trivial
theorem Mine.hd.tw8727321023445011275 : True := trivial
theorem Mine.hd.tw8735263284916673568 : True := trivial
theorem Mine.hd.tw8745986378241412371 : True := trivial
theorem Mine.hd.tw876933089483189297 : True := trivial
theorem Mine.hd.tw8770205317985620760 : True := trivial
theorem Mine.hd.tw8789358453043137523 : True := trivial
theorem Mine.hd.tw8801323125487838256 : True := trivial
theorem Mine.hd.tw881544763273948857 : True := trivial
theorem Mine.hd.tw8879563391730754479 : True := trivial
theorem Mine.hd.tw8934143017859847078 : True := trivial
theorem Mine.hd.tw8960069828448710407 : True := trivial
theorem Mine.hd.tw8965841893048198262 : True := trivial
theorem Mine.hd.tw8990031805342692484 : True := trivial
theorem Mine.hd.tw9013056391748086436 : True := trivial
theorem Mine.hd.tw9073681462420916055 : True := trivial
theorem Mine.hd.tw9077708301081682751 : True := trivial
theorem Mine.hd.tw9131607905817354932 : True := trivial
theorem Mine.hd.tw9132557439983319658 : True := trivial
theorem Mine.hd.tw9155422001095189878 : True := trivial
theorem Mine.hd.tw9170477692918782315 : True := trivial
theorem Mine.hd.tw9184186324627900627 : True := trivial
theorem Mine.hd.tw9228397985900620932 : True := trivial
theorem Mine.hd.tw9244321171653502345 : True := trivial
theorem Mine.hd.tw9298403506768410418 : True := trivial
theorem Mine.hd.tw9325612240067072397 : True := trivial
theorem Mine.hd.tw9330943631129107780 : True := trivial
theorem Mine.hd.tw9345676750909349944 : True := trivial
theorem Mine.hd.tw9345929723534960622 : True := trivial
theorem Mine.hd.tw9386895884608548742 : True := trivial
theorem Mine.hd.tw9398405308114057262 : True := trivial
theorem Mine.hd.tw940617070666608080 : True := trivial
theorem Mine.hd.tw9421340871869096474 : True := trivial
theorem Mine.hd.tw9427301549700849589 : True := trivial
theorem Mine.hd.tw9430268157657104642 : True := trivial
theorem Mine.hd.tw9449672872311958731 : True := trivial
theorem Mine.hd.tw9459050058782445324 : True := trivial
theorem Mine.hd.tw9496365245306024149 : True := trivial
theorem Mine.hd.tw9555612238305686254 : True := trivial
theorem Mine.hd.tw9557236495431379559 : True := trivial
theorem Mine.hd.tw9566141503761928105 : True := trivial
theorem Mine.hd.tw9577689765879766989 : True := trivial
theorem Mine.hd.tw960944832710211464 : True := trivial
theorem Mine.hd.tw9617658007855726926 : True := trivial
theorem Mine.hd.tw9641152695372364146 : True := trivial
theorem Mine.hd.tw9657781627882305391 : True := trivial
theorem Mine.hd.tw9702936160620672325 : True := trivial
theorem Mine.hd.tw9719896912496429819 : True := trivial
theorem Mine.hd.tw9731375825926819010 : True := trivial
theorem Mine.hd.tw9741134391959003819 : True := trivial
theorem Mine.hd.tw9763420282994701918 : True := trivial
theorem Mine.hd.tw9783614193127449063 : True := trivial
theorem Mine.hd.tw978945382295711627 : True := trivial
theorem Mine.hd.tw991583007596301734 : True := trivial
theorem Mine.hd.tw9960721518486171458 : True := trivial
theorem Mine.hd.tw9983995961361265002 : True := trivial
theorem Mine.hd.tw9990345226319884068 : True := trivial
open Mine PySem PySem.W PyProof.Rows in
theorem Mine.hd : PySem.Challenge.rw_on0044_01.Holds := by
  w_on; o_law; k_head
  case hw => w_witness2
  k_go0
  refine' law_end ?gH ?gB ?gX ?gT ?gCd ?gF ?gN ?gc ?gl ?gI ?glen ?_
  case gB => assumption
  case gX => assumption
  case gT => assumption
  case gCd => assumption
  case gF => assumption
  case gN => assumption
  case gc => rfl
  case gl => assumption
  case gI => assumption
  case glen => assumption
  case gH => exact { kf := { fns := ⟨fnK_pl (by kernel_rfl) ⟨fun _ _ => by kernel_rfl, by kernel_rfl⟩ (P := .mk [] [.mk (Str.ofString "kind") none ⟨23, 16, 23, 20⟩] none [] [] none []) (by kernel_rfl) (by kernel_rfl) (by kernel_rfl) (fun q vs h => by obtain ⟨_, rfl⟩ := lenE1 h; kernel_rfl), fnK_pl (by kernel_rfl) ⟨fun _ _ => by kernel_rfl, by kernel_rfl⟩ (P := .mk [] [.mk (Str.ofString "kind") none ⟨25, 14, 25, 18⟩] none [] [] none []) (by kernel_rfl) (by kernel_rfl) (by kernel_rfl) (fun q vs h => by obtain ⟨_, rfl⟩ := lenE1 h; kernel_rfl), fnK_pl (by kernel_rfl) ⟨fun _ _ => by kernel_rfl, by kernel_rfl⟩ (P := .mk [] [.mk (Str.ofString "number") none ⟨29, 16, 29, 22⟩, .mk (Str.ofString "kind") none ⟨29, 24, 29, 28⟩] none [] [] none []) (by kernel_rfl) (by kernel_rfl) (by kernel_rfl) (fun q vs h => by obtain ⟨_, _, rfl⟩ := lenE2 h; kernel_rfl), fnK_pl (by kernel_rfl) ⟨fun _ _ => by kernel_rfl, by kernel_rfl⟩ (P := .mk [] [.mk (Str.ofString "value") none ⟨34, 18, 34, 23⟩, .mk (Str.ofString "told") none ⟨34, 25, 34, 29⟩] none [] [] none []) (by kernel_rfl) (by kernel_rfl) (by kernel_rfl) (fun q vs h => by obtain ⟨_, _, rfl⟩ := lenE2 h; kernel_rfl), fnK_pl (by kernel_rfl) ⟨fun _ _ => by kernel_rfl, by kernel_rfl⟩ (P := .mk [] [.mk (Str.ofString "value") none ⟨47, 18, 47, 23⟩] none [] [] none []) (by kernel_rfl) (by kernel_rfl) (by kernel_rfl) (fun q vs h => by obtain ⟨_, rfl⟩ := lenE1 h; kernel_rfl), fnK_pl (by kernel_rfl) ⟨fun _ _ => by kernel_rfl, by kernel_rfl⟩ (P := .mk [] [.mk (Str.ofString "number") none ⟨51, 16, 51, 22⟩] none [] [] none []) (by kernel_rfl) (by kernel_rfl) (by kernel_rfl) (fun q vs h => by obtain ⟨_, rfl⟩ := lenE1 h; kernel_rfl), fnK_pl (by kernel_rfl) ⟨fun _ _ => by kernel_rfl, by kernel_rfl⟩ (P := .mk [] [.mk (Str.ofString "value") none ⟨55, 18, 55, 23⟩, .mk (Str.ofString "told") none ⟨55, 25, 55, 29⟩] none [] [] none []) (by kernel_rfl) (by kernel_rfl) (by kernel_rfl) (fun q vs h => by obtain ⟨_, _, rfl⟩ := lenE2 h; kernel_rfl), fnK_pl (by kernel_rfl) ⟨fun _ _ => by kernel_rfl, by kernel_rfl⟩ (P := .mk [] [.mk (Str.ofString "T") none ⟨208, 14, 208, 15⟩] none [] [] none []) (by kernel_rfl) (by kernel_rfl) (by kernel_rfl) (fun q vs h => by obtain ⟨_, rfl⟩ := lenE1 h; kernel_rfl), fnK_pl (by kernel_rfl) ⟨fun _ _ => by kernel_rfl, by kernel_rfl⟩ (P := .mk [] [.mk (Str.ofString "world") none ⟨231, 18, 231, 23⟩, .mk (Str.ofString "T") none ⟨231, 25, 231, 26⟩] none [] [] none []) (by kernel_rfl) (by kernel_rfl) (by kernel_rfl) (fun q vs h => by obtain ⟨_, _, rfl⟩ := lenE2 h; kernel_rfl), fnK_pl (by kernel_rfl) ⟨fun _ _ => by kernel_rfl, by kernel_rfl⟩ (P := .mk [] [.mk (Str.ofString "T") none ⟨233, 13, 233, 14⟩] none [] [] none []) (by kernel_rfl) (by kernel_rfl) (by kernel_rfl) (fun q vs h => by obtain ⟨_, rfl⟩ := lenE1 h; kernel_rfl), fnK_pl (by kernel_rfl) ⟨fun _ _ => by kernel_rfl, by kernel_rfl⟩ (P := .mk [] [.mk (Str.ofString "T") none ⟨235, 15, 235, 16⟩] none [] [] none []) (by kernel_rfl) (by kernel_rfl) (by kernel_rfl) (fun q vs h => by obtain ⟨_, rfl⟩ := lenE1 h; kernel_rfl), fnK_pl (by kernel_rfl) ⟨fun _ _ => by kernel_rfl, by kernel_rfl⟩ (P := .mk [] [.mk (Str.ofString "T") none ⟨237, 17, 237, 18⟩] none [] [] none []) (by kernel_rfl) (by kernel_rfl) (by kernel_rfl) (fun q vs h => by obtain ⟨_, rfl⟩ := lenE1 h; kernel_rfl), fnK_pl (by kernel_rfl) ⟨fun _ _ => by kernel_rfl, by kernel_rfl⟩ (P := .mk [] [.mk (Str.ofString "world") none ⟨239, 17, 239, 22⟩, .mk (Str.ofString "T") none ⟨239, 24, 239, 25⟩] none [] [] none []) (by kernel_rfl) (by kernel_rfl) (by kernel_rfl) (fun q vs h => by obtain ⟨_, _, rfl⟩ := lenE2 h; kernel_rfl), fnK_pl (by kernel_rfl) ⟨fun _ _ => by kernel_rfl, by kernel_rfl⟩ (P := .mk [] [.mk (Str.ofString "world") none ⟨241, 15, 241, 20⟩, .mk (Str.ofString "T") none ⟨241, 22, 241, 23⟩] none [] [] none []) (by kernel_rfl) (by kernel_rfl) (by kernel_rfl) (fun q vs h => by obtain ⟨_, _, rfl⟩ := lenE2 h; kernel_rfl), fnK_pl (by kernel_rfl) ⟨fun _ _ => by kernel_rfl, by kernel_rfl⟩ (P := .mk [] [.mk (Str.ofString "world") none ⟨245, 12, 245, 17⟩, .mk (Str.ofString "T") none ⟨245, 19, 245, 20⟩] none [] [] none []) (by kernel_rfl) (by kernel_rfl) (by kernel_rfl) (fun q vs h => by obtain ⟨_, _, rfl⟩ := lenE2 h; kernel_rfl), fnK_pl (by kernel_rfl) ⟨fun _ _ => by kernel_rfl, by kernel_rfl⟩ (P := .mk [] [.mk (Str.ofString "world") none ⟨247, 13, 247, 18⟩, .mk (Str.ofString "T") none ⟨247, 20, 247, 21⟩] none [] [] none []) (by kernel_rfl) (by kernel_rfl) (by kernel_rfl) (fun q vs h => by obtain ⟨_, _, rfl⟩ := lenE2 h; kernel_rfl), fnK_pl (by kernel_rfl) ⟨fun _ _ => by kernel_rfl, by kernel_rfl⟩ (P := .mk [] [.mk (Str.ofString "world") none ⟨249, 12, 249, 17⟩, .mk (Str.ofString "T") none ⟨249, 19, 249, 20⟩] none [] [] none []) (by kernel_rfl) (by kernel_rfl) (by kernel_rfl) (fun q vs h => by obtain ⟨_, _, rfl⟩ := lenE2 h; kernel_rfl), fnK_pl (by kernel_rfl) ⟨fun _ _ => by kernel_rfl, by kernel_rfl⟩ (P := .mk [] [.mk (Str.ofString "world") none ⟨251, 18, 251, 23⟩, .mk (Str.ofString "T") none ⟨251, 25, 251, 26⟩] none [] [] none []) (by kernel_rfl) (by kernel_rfl) (by kernel_rfl) (fun q vs h => by obtain ⟨_, _, rfl⟩ := lenE2 h; kernel_rfl), fnK_pl (by kernel_rfl) ⟨fun _ _ => by kernel_rfl, by kernel_rfl⟩ (P := .mk [] [.mk (Str.ofString "world") none ⟨254, 18, 254, 23⟩, .mk (Str.ofString "T") none ⟨254, 25, 254, 26⟩] none [] [] none []) (by kernel_rfl) (by kernel_rfl) (by kernel_rfl) (fun q vs h => by obtain ⟨_, _, rfl⟩ := lenE2 h; kernel_rfl), fnK_pl (by kernel_rfl) ⟨fun _ _ => by kernel_rfl, by kernel_rfl⟩ (P := .mk [] [.mk (Str.ofString "world") none ⟨258, 17, 258, 22⟩, .mk (Str.ofString "one") none ⟨258, 24, 258, 27⟩, .mk (Str.ofString "other") none ⟨258, 29, 258, 34⟩] none [] [] none []) (by kernel_rfl) (by kernel_rfl) (by kernel_rfl) (fun q vs h => by obtain ⟨_, _, _, rfl⟩ := lenE3 h; kernel_rfl), fnK_pl (by kernel_rfl) ⟨fun _ _ => by kernel_rfl, by kernel_rfl⟩ (P := .mk [] [.mk (Str.ofString "world") none ⟨263, 15, 263, 20⟩, .mk (Str.ofString "one") none ⟨263, 22, 263, 25⟩, .mk (Str.ofString "other") none ⟨263, 27, 263, 32⟩] none [] [] none []) (by kernel_rfl) (by kernel_rfl) (by kernel_rfl) (fun q vs h => by obtain ⟨_, _, _, rfl⟩ := lenE3 h; kernel_rfl), fnK_df (by kernel_rfl) ⟨fun _ _ => by kernel_rfl, by kernel_rfl⟩ (P := .mk [] [.mk (Str.ofString "world") none ⟨265, 18, 265, 23⟩, .mk (Str.ofString "one") none ⟨265, 25, 265, 28⟩, .mk (Str.ofString "other") none ⟨265, 30, 265, 35⟩, .mk (Str.ofString "is_nil") none ⟨265, 37, 265, 43⟩] none [] [] none [(.Constant (.bool false) 0 ⟨265, 44, 265, 49⟩)]) (T := 405) (by kernel_rfl) (by kernel_rfl) (by kernel_rfl) rfl rfl (fun q vs h => by obtain ⟨_, _, _, rfl⟩ := lenE3 h; exact ⟨_, rfl, rfl⟩), fnK_pl (by kernel_rfl) ⟨fun _ _ => by kernel_rfl, by kernel_rfl⟩ (P := .mk [] [.mk (Str.ofString "world") none ⟨275, 24, 275, 29⟩, .mk (Str.ofString "value") none ⟨275, 31, 275, 36⟩, .mk (Str.ofString "one") none ⟨275, 38, 275, 41⟩, .mk (Str.ofString "other") none ⟨275, 43, 275, 48⟩] none [] [] none []) (by kernel_rfl) (by kernel_rfl) (by kernel_rfl) (fun q vs h => by obtain ⟨_, _, _, _, rfl⟩ := lenE4 h; kernel_rfl), fnK_pl (by kernel_rfl) ⟨fun _ _ => by kernel_rfl, by kernel_rfl⟩ (P := .mk [] [.mk (Str.ofString "world") none ⟨284, 21, 284, 26⟩, .mk (Str.ofString "one") none ⟨284, 28, 284, 31⟩, .mk (Str.ofString "other") none ⟨284, 33, 284, 38⟩] none [] [] none []) (by kernel_rfl) (by kernel_rfl) (by kernel_rfl) (fun q vs h => by obtain ⟨_, _, _, rfl⟩ := lenE3 h; kernel_rfl), fnK_pl (by kernel_rfl) ⟨fun _ _ => by kernel_rfl, by kernel_rfl⟩ (P := .mk [] [.mk (Str.ofString "world") none ⟨288, 19, 288, 24⟩, .mk (Str.ofString "one") none ⟨288, 26, 288, 29⟩, .mk (Str.ofString "other") none ⟨288, 31, 288, 36⟩] none [] [] none []) (by kernel_rfl) (by kernel_rfl) (by kernel_rfl) (fun q vs h => by obtain ⟨_, _, _, rfl⟩ := lenE3 h; kernel_rfl), fnK_pl (by kernel_rfl) ⟨fun _ _ => by kernel_rfl, by kernel_rfl⟩ (P := .mk [] [.mk (Str.ofString "world") none ⟨292, 19, 292, 24⟩, .mk (Str.ofString "one") none ⟨292, 26, 292, 29⟩, .mk (Str.ofString "other") none ⟨292, 31, 292, 36⟩] none [] [] none []) (by kernel_rfl) (by kernel_rfl) (by kernel_rfl) (fun q vs h => by obtain ⟨_, _, _, rfl⟩ := lenE3 h; kernel_rfl), fnK_pl (by kernel_rfl) ⟨fun _ _ => by kernel_rfl, by kernel_rfl⟩ (P := .mk [] [.mk (Str.ofString "self") none ⟨356, 15, 356, 19⟩, .mk (Str.ofString "made") none ⟨356, 21, 356, 25⟩, .mk (Str.ofString "T") none ⟨356, 27, 356, 28⟩, .mk (Str.ofString "spot") none ⟨356, 30, 356, 34⟩] none [] [] none []) (by kernel_rfl) (by kernel_rfl) (by kernel_rfl) (fun q vs h => by obtain ⟨_, _, _, _, rfl⟩ := lenE4 h; kernel_rfl), fnK_pl (by kernel_rfl) ⟨fun _ _ => by kernel_rfl, by kernel_rfl⟩ (P := .mk [] [.mk (Str.ofString "self") none ⟨371, 19, 371, 23⟩, .mk (Str.ofString "made") none ⟨371, 25, 371, 29⟩, .mk (Str.ofString "T") none ⟨371, 31, 371, 32⟩] none [] [] none []) (by kernel_rfl) (by kernel_rfl) (by kernel_rfl) (fun q vs h => by obtain ⟨_, _, _, rfl⟩ := lenE3 h; kernel_rfl), fnK_pl (by kernel_rfl) ⟨fun _ _ => by kernel_rfl, by kernel_rfl⟩ (P := .mk [] [.mk (Str.ofString "word") none ⟨200, 16, 200, 20⟩, .mk (Str.ofString "rows") none ⟨200, 22, 200, 26⟩] none [] [] none []) (by kernel_rfl) (by kernel_rfl) (by kernel_rfl) (fun q vs h => by obtain ⟨_, _, rfl⟩ := lenE2 h; kernel_rfl), fnK_pl (by kernel_rfl) ⟨fun _ _ => by kernel_rfl, by kernel_rfl⟩ (P := .mk [] [.mk (Str.ofString "e") none ⟨485, 17, 485, 18⟩] none [] [] none []) (by kernel_rfl) (by kernel_rfl) (by kernel_rfl) (fun q vs h => by obtain ⟨_, rfl⟩ := lenE1 h; kernel_rfl), fnK_pl (by kernel_rfl) ⟨fun _ _ => by kernel_rfl, by kernel_rfl⟩ (P := .mk [] [.mk (Str.ofString "self") none ⟨432, 16, 432, 20⟩, .mk (Str.ofString "told") none ⟨432, 22, 432, 26⟩] none [] [] none []) (by kernel_rfl) (by kernel_rfl) (by kernel_rfl) (fun q vs h => by obtain ⟨_, _, rfl⟩ := lenE2 h; kernel_rfl), fnK_df (by kernel_rfl) ⟨fun _ _ => by kernel_rfl, by kernel_rfl⟩ (P := .mk [] [.mk (Str.ofString "self") none ⟨342, 13, 342, 17⟩, .mk (Str.ofString "node") none ⟨342, 19, 342, 23⟩, .mk (Str.ofString "wanted") none ⟨342, 25, 342, 31⟩] none [] [] none [(.Constant .none 0 ⟨342, 32, 342, 36⟩)]) (T := 465) (by kernel_rfl) (by kernel_rfl) (by kernel_rfl) rfl rfl (fun q vs h => by obtain ⟨_, _, _, rfl⟩ := lenE3 h; exact ⟨_, rfl, rfl⟩), fnK_pl (by kernel_rfl) ⟨fun _ _ => by kernel_rfl, by kernel_rfl⟩ (P := .mk [] [.mk (Str.ofString "world") none ⟨154, 15, 154, 20⟩, .mk (Str.ofString "told") none ⟨154, 22, 154, 26⟩] none [] [] none []) (by kernel_rfl) (by kernel_rfl) (by kernel_rfl) (fun q vs h => by obtain ⟨_, _, rfl⟩ := lenE2 h; kernel_rfl), fnK_pl (by kernel_rfl) ⟨fun _ _ => by kernel_rfl, by kernel_rfl⟩ (P := .mk [] [.mk (Str.ofString "world") none ⟨110, 15, 110, 20⟩, .mk (Str.ofString "told") none ⟨110, 22, 110, 26⟩] none [] [] none []) (by kernel_rfl) (by kernel_rfl) (by kernel_rfl) (fun q vs h => by obtain ⟨_, _, rfl⟩ := lenE2 h; kernel_rfl), fnK_pl (by kernel_rfl) ⟨fun _ _ => by kernel_rfl, by kernel_rfl⟩ (P := .mk [] [.mk (Str.ofString "world") none ⟨170, 15, 170, 20⟩, .mk (Str.ofString "told") none ⟨170, 22, 170, 26⟩, .mk (Str.ofString "wanted") none ⟨170, 28, 170, 34⟩] none [] [] none []) (by kernel_rfl) (by kernel_rfl) (by kernel_rfl) (fun q vs h => by obtain ⟨_, _, _, rfl⟩ := lenE3 h; kernel_rfl), fnK_pl (by kernel_rfl) ⟨fun _ _ => by kernel_rfl, by kernel_rfl⟩ (P := .mk [] [.mk (Str.ofString "T") none ⟨480, 18, 480, 19⟩, .mk (Str.ofString "number") none ⟨480, 21, 480, 27⟩] none [] [] none []) (by kernel_rfl) (by kernel_rfl) (by kernel_rfl) (fun q vs h => by obtain ⟨_, _, rfl⟩ := lenE2 h; kernel_rfl), fnK_pl (by kernel_rfl) ⟨fun _ _ => by kernel_rfl, by kernel_rfl⟩ (P := .mk [] [.mk (Str.ofString "T") none ⟨489, 13, 489, 14⟩, .mk (Str.ofString "e") none ⟨489, 16, 489, 17⟩] none [] [] none []) (by kernel_rfl) (by kernel_rfl) (by kernel_rfl) (fun q vs h => by obtain ⟨_, _, rfl⟩ := lenE2 h; kernel_rfl), trivial⟩, glob := glob_of (by kernel_rfl), att := ⟨⟨by kernel_rfl, by kernel_rfl, none, by kernel_rfl, by kernel_rfl⟩, ⟨by kernel_rfl, by kernel_rfl, none, by kernel_rfl, by kernel_rfl⟩, ⟨by kernel_rfl, by kernel_rfl, none, by kernel_rfl, by kernel_rfl⟩, ⟨by kernel_rfl, by kernel_rfl, none, by kernel_rfl, by kernel_rfl⟩, ⟨by kernel_rfl, by kernel_rfl, none, by kernel_rfl, by kernel_rfl⟩, trivial⟩, met := ⟨⟨by kernel_rfl, by kernel_rfl, by kernel_rfl⟩, ⟨by kernel_rfl, by kernel_rfl, by kernel_rfl⟩, ⟨by kernel_rfl, by kernel_rfl, by kernel_rfl⟩, ⟨by kernel_rfl, by kernel_rfl, by kernel_rfl⟩, trivial⟩, bits := tab_of ⟨_, _, rfl, by repeat (first | exact True.intro | refine keys_cons ?_)⟩ (by kernel_rfl), defs := tab_of ⟨_, _, rfl, by repeat (first | exact True.intro | refine keys_cons ?_)⟩ (by kernel_rfl) }, kx := let B := bind36_of (P := .mk [] [.mk (Str.ofString "self") none ⟨7, 17, 7, 21⟩, .mk (Str.ofString "message") none ⟨7, 23, 7, 30⟩, .mk (Str.ofString "spot") none ⟨7, 32, 7, 36⟩] none [] [] none [(.Constant (.int 0) 0 ⟨7, 37, 7, 38⟩)]) (T := 29) (by kernel_rfl) (by kernel_rfl) (by kernel_rfl) rfl rfl (fun q a b c => ⟨_, rfl, rfl⟩) (fun q a b => ⟨_, rfl, rfl⟩)
  { D := (fnD_of (by kernel_rfl) (fun _ _ => by kernel_rfl)).1, fn := ⟨_, rfl, rfl⟩, body := by kernel_rfl, scope := by kernel_rfl, b3 := B.1, b2 := B.2, ex := by kernel_rfl, fc := by kernel_rfl, x64 := ⟨⟨⟨_, rfl, rfl, rfl⟩, fun name h => by rcases h with rfl | rfl <;> kernel_rfl, by kernel_rfl, ⟨_, rfl, ⟨⟨_, _, _, _, _, _, _, _, _, _, _, _, _, _⟩, rfl⟩⟩, by kernel_rfl⟩, by kernel_rfl, by decide +kernel⟩, x76 := ⟨⟨⟨_, rfl, rfl, rfl⟩, fun name h => by rcases h with rfl | rfl <;> kernel_rfl, by kernel_rfl, ⟨_, rfl, ⟨⟨_, _, _, _, _, _, _, _, _, _, _, _, _, _⟩, rfl⟩⟩, by kernel_rfl⟩, by kernel_rfl, by decide +kernel⟩, ga := by kernel_rfl, gt := by kernel_rfl, mro := by kernel_rfl, d76 := by kernel_rfl, m76 := by kernel_rfl, f448 := fnK_pl (by kernel_rfl) ⟨fun _ _ => by kernel_rfl, by kernel_rfl⟩ (P := .mk [] [.mk (Str.ofString "checker") none ⟨304, 21, 304, 28⟩, .mk (Str.ofString "T") none ⟨304, 30, 304, 31⟩, .mk (Str.ofString "es") none ⟨304, 33, 304, 35⟩, .mk (Str.ofString "is_spread") none ⟨304, 37, 304, 46⟩, .mk (Str.ofString "spot") none ⟨304, 48, 304, 52⟩] none [] [] none []) (by kernel_rfl) (by kernel_rfl) (by kernel_rfl) (fun q vs h => by obtain ⟨_, _, _, _, _, rfl⟩ := lenE5 h; kernel_rfl) }, ko := { c579 := ⟨by kernel_rfl, by kernel_rfl, by kernel_rfl, by kernel_rfl, by kernel_rfl, by kernel_rfl, ⟨by kernel_rfl, by kernel_rfl, by kernel_rfl, by kernel_rfl, trivial⟩⟩, i576 := inK_pl (by kernel_rfl) ⟨fun _ _ => by kernel_rfl, by kernel_rfl⟩ (by kernel_rfl) (by kernel_rfl) (P := .mk [] [.mk (Str.ofString "self") none ⟨402, 17, 402, 21⟩, .mk (Str.ofString "path") none ⟨402, 23, 402, 27⟩, .mk (Str.ofString "package") none ⟨402, 29, 402, 36⟩, .mk (Str.ofString "underlying") none ⟨402, 38, 402, 48⟩, .mk (Str.ofString "methods") none ⟨402, 50, 402, 57⟩] none [] [] none []) (by kernel_rfl) (by kernel_rfl) (by kernel_rfl) (fun q vs h => by obtain ⟨_, _, _, _, _, rfl⟩ := lenE5 h; kernel_rfl), gRow := ⟨by kernel_rfl, by kernel_rfl, by decide⟩, c622 := ⟨by kernel_rfl, by kernel_rfl, by kernel_rfl, by kernel_rfl, by kernel_rfl, by kernel_rfl, ⟨by kernel_rfl, by kernel_rfl, by kernel_rfl, by kernel_rfl, by kernel_rfl, by kernel_rfl, by kernel_rfl, by kernel_rfl, by kernel_rfl, by kernel_rfl, by kernel_rfl, by kernel_rfl, by kernel_rfl, trivial⟩⟩, i605s := inK_df (by kernel_rfl) ⟨fun _ _ => by kernel_rfl, by kernel_rfl⟩ (by kernel_rfl) (by kernel_rfl) (P := .mk [] [.mk (Str.ofString "self") none ⟨417, 17, 417, 21⟩, .mk (Str.ofString "packages") none ⟨417, 23, 417, 31⟩] none [] [] none [(.Constant .none 0 ⟨417, 32, 417, 36⟩)]) (T := 598) (by kernel_rfl) (by kernel_rfl) (by kernel_rfl) rfl rfl (fun q vs h => by obtain ⟨_, rfl⟩ := lenE1 h; exact ⟨_, rfl, rfl⟩), gWorld := ⟨by kernel_rfl, by kernel_rfl, by decide⟩, c555 := ⟨by kernel_rfl, by kernel_rfl, by kernel_rfl, by kernel_rfl, by kernel_rfl, by kernel_rfl, ⟨by kernel_rfl, by kernel_rfl, by kernel_rfl, by kernel_rfl, by kernel_rfl, by kernel_rfl, by kernel_rfl, by kernel_rfl, by kernel_rfl, by kernel_rfl, by kernel_rfl, by kernel_rfl, by kernel_rfl, by kernel_rfl, by kernel_rfl, trivial⟩⟩, i464 := inK_df (by kernel_rfl) ⟨fun _ _ => by kernel_rfl, by kernel_rfl⟩ (by kernel_rfl) (by kernel_rfl) (P := .mk [] [.mk (Str.ofString "self") none ⟨325, 17, 325, 21⟩, .mk (Str.ofString "world") none ⟨325, 23, 325, 28⟩, .mk (Str.ofString "package") none ⟨325, 30, 325, 37⟩, .mk (Str.ofString "scope") none ⟨325, 39, 325, 44⟩, .mk (Str.ofString "key") none ⟨325, 46, 325, 49⟩, .mk (Str.ofString "readers") none ⟨325, 51, 325, 58⟩, .mk (Str.ofString "run_body") none ⟨325, 60, 325, 68⟩, .mk (Str.ofString "outer") none ⟨325, 70, 325, 75⟩] none [] [] none [(.Constant .none 0 ⟨325, 76, 325, 80⟩)]) (T := 457) (by kernel_rfl) (by kernel_rfl) (by kernel_rfl) rfl rfl (fun q vs h => by obtain ⟨_, _, _, _, _, _, _, rfl⟩ := lenE7 h; exact ⟨_, rfl, rfl⟩), gChk := ⟨by kernel_rfl, by kernel_rfl, by decide⟩, f590 := fnK_pl (by kernel_rfl) ⟨fun _ _ => by kernel_rfl, by kernel_rfl⟩ (P := .mk [] [] none [] [] none []) (by kernel_rfl) (by kernel_rfl) (by kernel_rfl) (fun q vs h => by cases lenE0 h; kernel_rfl), gKr := ⟨by kernel_rfl, by kernel_rfl, by decide⟩, aNamed := ⟨by kernel_rfl, by kernel_rfl, none, by kernel_rfl, by kernel_rfl⟩ }, kc := { I := inK_pl (by kernel_rfl) ⟨fun _ _ => by kernel_rfl, by kernel_rfl⟩ (by kernel_rfl) (by kernel_rfl) (P := .mk [] [] none [] [] none []) (by kernel_rfl) (by kernel_rfl) (by kernel_rfl) (fun q vs h => by cases lenE0 h; kernel_rfl), cn := by kernel_rfl, cd := by kernel_rfl, g := ⟨by kernel_rfl, by kernel_rfl, by decide⟩ }, kt := { I := inK_pl (by kernel_rfl) ⟨fun _ _ => by kernel_rfl, by kernel_rfl⟩ (by kernel_rfl) (by kernel_rfl) (P := .mk [] [.mk (Str.ofString "T") none ⟨466, 14, 466, 15⟩, .mk (Str.ofString "es") none ⟨466, 17, 466, 19⟩, .mk (Str.ofString "is_spread") none ⟨466, 21, 466, 30⟩] none [] [] none []) (by kernel_rfl) (by kernel_rfl) (by kernel_rfl) (fun q vs h => by obtain ⟨_, _, _, rfl⟩ := lenE3 h; kernel_rfl), gConv := ⟨by kernel_rfl, by kernel_rfl, by decide⟩, gTold := ⟨by kernel_rfl, by kernel_rfl, by decide⟩, tup := by kernel_rfl }, kq := { L := { M := { K := { c157 := ⟨by kernel_rfl, by kernel_rfl, by kernel_rfl, by kernel_rfl, by kernel_rfl, by kernel_rfl, ⟨by kernel_rfl, by kernel_rfl, trivial⟩⟩, i154 := inK_pl (by kernel_rfl) ⟨fun _ _ => by kernel_rfl, by kernel_rfl⟩ (by kernel_rfl) (by kernel_rfl) (P := .mk [] [.mk (Str.ofString "self") none ⟨64, 17, 64, 21⟩, .mk (Str.ofString "told") none ⟨64, 23, 64, 27⟩, .mk (Str.ofString "steps") none ⟨64, 29, 64, 34⟩] none [] [] none []) (by kernel_rfl) (by kernel_rfl) (by kernel_rfl) (fun q vs h => by obtain ⟨_, _, _, rfl⟩ := lenE3 h; kernel_rfl), gReached := ⟨by kernel_rfl, by kernel_rfl, by decide⟩, aTold := ⟨by kernel_rfl, by kernel_rfl, none, by kernel_rfl, by kernel_rfl⟩, i175 := inK_pl (by kernel_rfl) ⟨fun _ _ => by kernel_rfl, by kernel_rfl⟩ (by kernel_rfl) (by kernel_rfl) (P := .mk [] [.mk (Str.ofString "world") none ⟨69, 16, 69, 21⟩, .mk (Str.ofString "told") none ⟨69, 23, 69, 27⟩] none [] [] none []) (by kernel_rfl) (by kernel_rfl) (by kernel_rfl) (fun q vs h => by obtain ⟨_, _, rfl⟩ := lenE2 h; kernel_rfl), gOwn := ⟨by kernel_rfl, by kernel_rfl, by decide⟩, aMet := ⟨by kernel_rfl, by kernel_rfl, none, by kernel_rfl, by kernel_rfl⟩ }, i187 := inK_pl (by kernel_rfl) ⟨fun _ _ => by kernel_rfl, by kernel_rfl⟩ (by kernel_rfl) (by kernel_rfl) (P := .mk [] [.mk (Str.ofString "world") none ⟨85, 16, 85, 21⟩, .mk (Str.ofString "reached") none ⟨85, 23, 85, 30⟩] none [] [] none []) (by kernel_rfl) (by kernel_rfl) (by kernel_rfl) (fun q vs h => by obtain ⟨_, _, rfl⟩ := lenE2 h; kernel_rfl), gEmb := ⟨by kernel_rfl, by kernel_rfl, by decide⟩ }, c211 := ⟨by kernel_rfl, by kernel_rfl, by kernel_rfl, by kernel_rfl, by kernel_rfl, by kernel_rfl, ⟨by kernel_rfl, by kernel_rfl, by kernel_rfl, trivial⟩⟩, i201 := inK_pl (by kernel_rfl) ⟨fun _ _ => by kernel_rfl, by kernel_rfl⟩ (by kernel_rfl) (by kernel_rfl) (P := .mk [] [.mk (Str.ofString "self") none ⟨95, 17, 95, 21⟩, .mk (Str.ofString "world") none ⟨95, 23, 95, 28⟩, .mk (Str.ofString "told") none ⟨95, 30, 95, 34⟩] none [] [] none []) (by kernel_rfl) (by kernel_rfl) (by kernel_rfl) (fun q vs h => by obtain ⟨_, _, _, rfl⟩ := lenE3 h; kernel_rfl), i208 := inK_pl (by kernel_rfl) ⟨fun _ _ => by kernel_rfl, by kernel_rfl⟩ (by kernel_rfl) (by kernel_rfl) (P := .mk [] [.mk (Str.ofString "self") none ⟨100, 14, 100, 18⟩] none [] [] none []) (by kernel_rfl) (by kernel_rfl) (by kernel_rfl) (fun q vs h => by obtain ⟨_, rfl⟩ := lenE1 h; kernel_rfl), gLevels := ⟨by kernel_rfl, by kernel_rfl, by decide⟩, aHere := ⟨by kernel_rfl, by kernel_rfl, none, by kernel_rfl, by kernel_rfl⟩, aSeen := ⟨by kernel_rfl, by kernel_rfl, none, by kernel_rfl, by kernel_rfl⟩, aWorld := ⟨by kernel_rfl, by kernel_rfl, none, by kernel_rfl, by kernel_rfl⟩ }, i236 := inK_pl (by kernel_rfl) ⟨fun _ _ => by kernel_rfl, by kernel_rfl⟩ (by kernel_rfl) (by kernel_rfl) (P := .mk [] [.mk (Str.ofString "world") none ⟨134, 21, 134, 26⟩, .mk (Str.ofString "told") none ⟨134, 28, 134, 32⟩] none [] [] none []) (by kernel_rfl) (by kernel_rfl) (by kernel_rfl) (fun q vs h => by obtain ⟨_, _, rfl⟩ := lenE2 h; kernel_rfl), go := ⟨by kernel_rfl, by kernel_rfl, by kernel_rfl⟩, srt := by kernel_rfl }, kv := { O := { T := { B := ⟨by kernel_rfl, by kernel_rfl, by kernel_rfl, by kernel_rfl, by kernel_rfl⟩, i640 := inK_pl (by kernel_rfl) ⟨fun _ _ => by kernel_rfl, by kernel_rfl⟩ (by kernel_rfl) (by kernel_rfl) (P := .mk [] [.mk (Str.ofString "source") none ⟨452, 14, 452, 20⟩, .mk (Str.ofString "top") none ⟨452, 22, 452, 25⟩] none [] [] none []) (by kernel_rfl) (by kernel_rfl) (by kernel_rfl) (fun q vs h => by obtain ⟨_, _, rfl⟩ := lenE2 h; kernel_rfl) }, i647 := inK_pl (by kernel_rfl) ⟨fun _ _ => by kernel_rfl, by kernel_rfl⟩ (by kernel_rfl) (by kernel_rfl) (P := .mk [] [.mk (Str.ofString "source") none ⟨459, 13, 459, 19⟩, .mk (Str.ofString "things") none ⟨459, 21, 459, 27⟩] none [] [] none []) (by kernel_rfl) (by kernel_rfl) (by kernel_rfl) (fun q vs h => by obtain ⟨_, _, rfl⟩ := lenE2 h; kernel_rfl), gTake := ⟨by kernel_rfl, by kernel_rfl, by decide⟩, f673 := fnK_pl (by kernel_rfl) ⟨fun _ _ => by kernel_rfl, by kernel_rfl⟩ (P := .mk [] [] none [] [] none []) (by kernel_rfl) (by kernel_rfl) (by kernel_rfl) (fun q vs h => by cases lenE0 h; kernel_rfl), i633 := inK_pl (by kernel_rfl) ⟨fun _ _ => by kernel_rfl, by kernel_rfl⟩ (by kernel_rfl) (by kernel_rfl) (P := .mk [] [.mk (Str.ofString "script") none ⟨447, 14, 447, 20⟩, .mk (Str.ofString "k") none ⟨447, 22, 447, 23⟩] none [] [] none []) (by kernel_rfl) (by kernel_rfl) (by kernel_rfl) (fun q vs h => by obtain ⟨_, _, rfl⟩ := lenE2 h; kernel_rfl) }, g1 := ⟨by kernel_rfl, by kernel_rfl, by decide⟩, gT := ⟨by kernel_rfl, by kernel_rfl, by decide⟩, i701 := inK_pl (by kernel_rfl) ⟨fun _ _ => by kernel_rfl, by kernel_rfl⟩ (by kernel_rfl) (by kernel_rfl) (P := .mk [] [.mk (Str.ofString "source") none ⟨504, 15, 504, 21⟩] none [] [] none []) (by kernel_rfl) (by kernel_rfl) (by kernel_rfl) (fun q vs h => by obtain ⟨_, rfl⟩ := lenE1 h; kernel_rfl) }, f6 := fnK_pl (by kernel_rfl) ⟨fun _ _ => by kernel_rfl, by kernel_rfl⟩ (P := .mk [] [.mk (Str.ofString "T") none ⟨473, 14, 473, 15⟩] none [] [] none []) (by kernel_rfl) (by kernel_rfl) (by kernel_rfl) (fun q vs h => by obtain ⟨_, rfl⟩ := lenE1 h; kernel_rfl), gTold := ⟨by kernel_rfl, by kernel_rfl, by decide⟩, gDue := ⟨by kernel_rfl, by kernel_rfl, by decide⟩, gVal := ⟨by kernel_rfl, by kernel_rfl, by decide⟩, gPool := ⟨by kernel_rfl, by kernel_rfl, by decide⟩ }
  intro s' m' g o F G
  refine ⟨?_, G⟩
  show GoodW _ _ _ _ _ (.ok (.ret (.bool true))) _
  refine goodW_bool (by assumption) (g.trans (by assumption)) (raisesW_false ?_) ?_ o
  · wrow_none_raised
  · kc_post
theorem PySem.Challenge.cw_on0044_01_holds : PySem.Challenge.rw_on0044_01.Holds := by
  exact Mine.hd
