import PyProof.Rows.All
import Wide.All
import OpenK.AllK
import Wide.FinOn
import PySem.Challenge.RW_sz0109_01
open PySem PySem.W PyProof.Rows
set_option Elab.async false

section -- Abs
set_option autoImplicit false
namespace Mine

/-! abstract values, abstract objects -/
inductive V where
  | none
  | bool (b : Bool)
  | int (i : Int)
  | str (s : String)
  | tup (vs : List V)
  | loc (n : Nat)
inductive O where
  | list (vs : List V)
  | dI (es : List (Int × V))
  | dS (es : List (String × V))
  | dT (lk : Option Nat) (es : List ((Int × Int) × V))
  | fro (ob : Obj) (vs : List V)
abbrev St := List O
abbrev AE := String → Option V
noncomputable def AE.set (x : String) (v : V) (η : AE) : AE := fun y => if y = x then some v else η y

theorem cons_of {α : Type} {l : List α} {n : Nat} (h : l.length = n + 1) : ∃ a r, l = a :: r ∧ r.length = n := by
  cases l with
  | nil => cases h
  | cons a r => exact ⟨a, r, rfl, Nat.succ.inj h⟩

theorem ofString_inj {a b : String} (h : Str.ofString a = Str.ofString b) : a = b := by
  rw [Str.ofString_eq_toList, Str.ofString_eq_toList] at h
  injection h with h
  have h2 : a.toList.map Char.toNat = b.toList.map Char.toNat := by simpa using h
  have h3 : a.toList = b.toList := by
    refine List.map_inj_right (f := Char.toNat) ?_ |>.mp h2
    intro x y hxy
    exact Char.ext (UInt32.toNat_inj.mp hxy)
  exact String.toList_inj.mp h3

mutual
inductive RV (σ : List Addr) (h : Heap) : Value → V → Prop
  | none : RV σ h .none .none
  | bool (b : Bool) : RV σ h (.bool b) (.bool b)
  | int (i : Int) (t : Tok) : RV σ h (.int i t) (.int i)
  | str (s : String) (t : Tok) : RV σ h (.str (Str.ofString s) t) (.str s)
  | loc {n : Nat} {a : Addr} : σ[n]? = some a → RV σ h (.ref a) (.loc n)
  | tup {a : Addr} {vals : List Value} {vs : List V} : h.IsTuple a vals.toArray → RVs σ h vals vs → RV σ h (.ref a) (.tup vs)
inductive RVs (σ : List Addr) (h : Heap) : List Value → List V → Prop
  | nil : RVs σ h [] []
  | cons {u : Value} {v : V} {us : List Value} {vs : List V} : RV σ h u v → RVs σ h us vs → RVs σ h (u :: us) (v :: vs)
end

/-- tuples are kept -/
noncomputable def TK (h h' : Heap) : Prop := ∀ a vals, h.IsTuple a vals → h'.IsTuple a vals
theorem TK.refl (h : Heap) : TK h h := fun _ _ x => x
theorem TK.trans {h h' h'' : Heap} (x : TK h h') (y : TK h' h'') : TK h h'' := fun a v z => y a v (x a v z)

theorem pre_get {α : Type} {l l' : List α} (hp : l <+: l') {n : Nat} {a : α} (h : l[n]? = some a) : l'[n]? = some a := by
  obtain ⟨t, rfl⟩ := hp
  rw [List.getElem?_append_left (List.getElem?_eq_some_iff.mp h).1]; exact h

theorem RV.mono {σ σ' : List Addr} {h h' : Heap} (hs : σ <+: σ') (ht : TK h h') {u : Value} {v : V} (r : RV σ h u v) : RV σ' h' u v :=
  RV.rec (motive_1 := fun u v _ => RV σ' h' u v) (motive_2 := fun us vs _ => RVs σ' h' us vs) .none .bool .int .str (fun e => .loc (pre_get hs e)) (fun e _ r => .tup (ht _ _ e) r) .nil (fun _ _ a r => .cons a r) r
theorem RVs.ind {σ : List Addr} {h : Heap} {P : List Value → List V → Prop} (nil : P [] []) (cons : ∀ {u : Value} {v : V} {us : List Value} {vs : List V}, RV σ h u v → RVs σ h us vs → P us vs → P (u :: us) (v :: vs)) {us : List Value} {vs : List V} (r : RVs σ h us vs) : P us vs :=
  RVs.rec (motive_1 := fun _ _ _ => True) (motive_2 := fun us vs _ => P us vs) trivial (fun _ => trivial) (fun _ _ => trivial) (fun _ _ => trivial) (fun _ => trivial) (fun _ _ _ => trivial) nil (fun a r _ ih => cons a r ih) r
theorem RVs.mono {σ σ' : List Addr} {h h' : Heap} (hs : σ <+: σ') (ht : TK h h') {us : List Value} {vs : List V} (r : RVs σ h us vs) : RVs σ' h' us vs :=
  r.ind (P := fun us vs => RVs σ' h' us vs) .nil fun a _ ih => .cons (a.mono hs ht) ih

theorem RVs.length {σ : List Addr} {h : Heap} {us : List Value} {vs : List V} (r : RVs σ h us vs) : us.length = vs.length :=
  r.ind (P := fun us vs => us.length = vs.length) rfl fun _ _ ih => congrArg Nat.succ ih
theorem RVs.append {σ : List Addr} {h : Heap} {us us' : List Value} {vs vs' : List V} (r : RVs σ h us vs) (r' : RVs σ h us' vs') : RVs σ h (us ++ us') (vs ++ vs') :=
  r.ind (P := fun us vs => RVs σ h (us ++ us') (vs ++ vs')) r' fun a _ ih => .cons a ih
theorem RVs.get {σ : List Addr} {h : Heap} {us : List Value} {vs : List V} (r : RVs σ h us vs) : ∀ {i : Nat} {v : V}, vs[i]? = some v → ∃ u, us[i]? = some u ∧ RV σ h u v :=
  r.ind (P := fun us vs => ∀ {i : Nat} {v : V}, vs[i]? = some v → ∃ u, us[i]? = some u ∧ RV σ h u v) (fun e => nomatch e) fun a _ ih i v e => by
    cases i with
    | zero => cases e; exact ⟨_, rfl, a⟩
    | succ i => exact ih (i := i) e
theorem RVs.get' {σ : List Addr} {h : Heap} {us : List Value} {vs : List V} (r : RVs σ h us vs) : ∀ {i : Nat} {u : Value}, us[i]? = some u → ∃ v, vs[i]? = some v ∧ RV σ h u v :=
  r.ind (P := fun us vs => ∀ {i : Nat} {u : Value}, us[i]? = some u → ∃ v, vs[i]? = some v ∧ RV σ h u v) (fun e => nomatch e) fun a _ ih i v e => by
    cases i with
    | zero => cases e; exact ⟨_, rfl, a⟩
    | succ i => exact ih (i := i) e
theorem RVs.take {σ : List Addr} {h : Heap} {us : List Value} {vs : List V} (r : RVs σ h us vs) (n : Nat) : RVs σ h (us.take n) (vs.take n) :=
  r.ind (P := fun us vs => ∀ n, RVs σ h (us.take n) (vs.take n)) (fun n => by cases n <;> exact .nil) (fun a _ ih n => by
    cases n with
    | zero => exact .nil
    | succ n => exact .cons a (ih n)) n
theorem RVs.drop {σ : List Addr} {h : Heap} {us : List Value} {vs : List V} (r : RVs σ h us vs) (n : Nat) : RVs σ h (us.drop n) (vs.drop n) :=
  r.ind (P := fun us vs => ∀ n, RVs σ h (us.drop n) (vs.drop n)) (fun n => by cases n <;> exact .nil) (fun a r ih n => by
    cases n with
    | zero => exact .cons a r
    | succ n => exact ih n) n
theorem RVs.reverse {σ : List Addr} {h : Heap} {us : List Value} {vs : List V} (r : RVs σ h us vs) : RVs σ h us.reverse vs.reverse :=
  r.ind (P := fun us vs => RVs σ h us.reverse vs.reverse) .nil fun a _ ih => by
    rw [List.reverse_cons, List.reverse_cons]; exact ih.append (.cons a .nil)

/-! dict keys -/
noncomputable def keyT (k : Int × Int) : V := .tup [.int k.1, .int k.2]
noncomputable def keyL (k : Int × Int) : List Int := [k.1, k.2]

variable (prog : Program) (w : World)

inductive EsI (σ : List Addr) (h : Heap) : List (Int × Value) → List (Int × V) → Prop
  | nil : EsI σ h [] []
  | cons {k : Int} {u : Value} {v : V} {r : List (Int × Value)} {es : List (Int × V)} : RV σ h u v → EsI σ h r es → EsI σ h ((k, u) :: r) ((k, v) :: es)
inductive EsS (σ : List Addr) (h : Heap) : List (Str × Value) → List (String × V) → Prop
  | nil : EsS σ h [] []
  | cons {k : String} {u : Value} {v : V} {r : List (Str × Value)} {es : List (String × V)} : RV σ h u v → EsS σ h r es → EsS σ h ((Str.ofString k, u) :: r) ((k, v) :: es)
inductive EsT (σ : List Addr) (h : Heap) : List (List Int × Addr × Value) → List ((Int × Int) × V) → Prop
  | nil : EsT σ h [] []
  | cons {k : Int × Int} {a : Addr} {u : Value} {v : V} {r : List (List Int × Addr × Value)} {es : List ((Int × Int) × V)} : RV σ h u v → EsT σ h r es → EsT σ h ((keyL k, a, u) :: r) ((k, v) :: es)

theorem EsI.mono {σ σ' : List Addr} {h h' : Heap} (hs : σ <+: σ') (ht : TK h h') {r : List (Int × Value)} {es : List (Int × V)} (q : EsI σ h r es) : EsI σ' h' r es := by
  induction q with
  | nil => exact .nil
  | cons a _ ih => exact .cons (a.mono hs ht) ih
theorem EsS.mono {σ σ' : List Addr} {h h' : Heap} (hs : σ <+: σ') (ht : TK h h') {r : List (Str × Value)} {es : List (String × V)} (q : EsS σ h r es) : EsS σ' h' r es := by
  induction q with
  | nil => exact .nil
  | cons a _ ih => exact .cons (a.mono hs ht) ih
theorem EsT.mono {σ σ' : List Addr} {h h' : Heap} (hs : σ <+: σ') (ht : TK h h') {r : List (List Int × Addr × Value)} {es : List ((Int × Int) × V)} (q : EsT σ h r es) : EsT σ' h' r es := by
  induction q with
  | nil => exact .nil
  | cons a _ ih => exact .cons (a.mono hs ht) ih

abbrev tk := tupleKind (intKind prog w)

/-- an abstract object is borne at an address -/
inductive RO (σ : List Addr) (h : Heap) (a : Addr) : O → Prop
  | list {vals : List Value} {vs : List V} : PlainL h a vals.toArray → RVs σ h vals vs → RO σ h a (.list vs)
  | dictI {kvs : List (Int × Value)} {es : List (Int × V)} : h.DictOf (intKind prog w) a kvs → EsI σ h kvs es → RO σ h a (.dI es)
  | dictS {kvs : List (Str × Value)} {es : List (String × V)} : h.DictOf (strKind prog w) a kvs → EsS σ h kvs es → RO σ h a (.dS es)
  | fro {ob : Obj} {vals : List Value} {vs : List V} {n : Nat} : h.get? a = some ob → ob.cls = .type "list" → ob.data = .seq vals.toArray n → RVs σ h vals vs → RO σ h a (.fro ob vs)
  | dictT {lk : Option Nat} {xs : List (List Int × Addr × Value)} {es : List ((Int × Int) × V)} : h.DictOfH (tk prog w) a xs → EsT σ h xs es → (∀ ep, lk = some ep → ∃ o es', h.get? a = some o ∧ o.data = .dict es' ep) → RO σ h a (.dT lk es)

structure Rep (σ : List Addr) (st : St) (h : Heap) : Prop where
  len : σ.length = st.length
  nodup : σ.Nodup
  obj : ∀ (i : Nat) (o : O) (a : Addr), st[i]? = some o → σ[i]? = some a → RO prog w σ h a o
  low : ∀ a, a ∈ σ → (a == sysModules) = false
  anchor : ∃ b o, sysModules ≤ b ∧ h.get? b = some o

/-- from (σ, h) to (σ', h'): what is not in σ stays; what is new in σ' was not there -/
structure Ext (σ : List Addr) (h : Heap) (σ' : List Addr) (h' : Heap) : Prop where
  pre : σ <+: σ'
  keep : ∀ a o, h.get? a = some o → a ∉ σ → h'.get? a = some o
  new : ∀ a, a ∈ σ' → a ∉ σ → h.get? a = none

theorem Ext.refl (σ : List Addr) (h : Heap) : Ext σ h σ h := ⟨List.prefix_refl _, fun _ _ e _ => e, fun _ m n => absurd m n⟩
theorem Ext.trans {σ σ' σ'' : List Addr} {h h' h'' : Heap} (x : Ext σ h σ' h') (y : Ext σ' h' σ'' h'') : Ext σ h σ'' h'' := by
  refine ⟨x.pre.trans y.pre, fun a o e n => ?_, fun a m n => ?_⟩
  · refine y.keep a o (x.keep a o e n) fun m => ?_
    rw [x.new a m n] at e; cases e
  · by_cases m' : a ∈ σ'
    · exact x.new a m' n
    · cases q : h.get? a with
      | none => rfl
      | some o => have := x.keep a o q n; rw [y.new a m m'] at this; cases this

variable {prog w}

theorem RO.notTuple {σ : List Addr} {h : Heap} {a : Addr} {o : O} (r : RO prog w σ h a o) {vals : Array Value} (t : h.IsTuple a vals) : False := by
  obtain ⟨ot, ht, hc, _⟩ := t
  cases r with
  | list l _ => obtain ⟨ol, _, hl, hlc, _⟩ := l; rw [ht] at hl; cases hl; rw [hc] at hlc; exact absurd hlc (by decide)
  | fro hl hlc _ _ => rw [ht] at hl; cases hl; rw [hc] at hlc; exact absurd hlc (by decide)
  | dictI d _ => obtain ⟨ol, hl, hlc⟩ := d.typeIs (s := { heap := h }); rw [show h.get? a = some ol from hl] at ht; cases ht; rw [hc] at hlc; exact absurd hlc (by decide)
  | dictS d _ => obtain ⟨ol, hl, hlc⟩ := d.typeIs (s := { heap := h }); rw [show h.get? a = some ol from hl] at ht; cases ht; rw [hc] at hlc; exact absurd hlc (by decide)
  | dictT d _ _ => obtain ⟨ol, hl, hlc⟩ := d.typeIs (s := { heap := h }); rw [show h.get? a = some ol from hl] at ht; cases ht; rw [hc] at hlc; exact absurd hlc (by decide)

theorem Rep.at {σ : List Addr} {st : St} {h : Heap} (R : Rep prog w σ st h) {a : Addr} (m : a ∈ σ) : ∃ o, RO prog w σ h a o := by
  obtain ⟨i, hi⟩ := List.mem_iff_getElem?.mp m
  have hl : i < st.length := R.len ▸ (List.getElem?_eq_some_iff.mp hi).1
  exact ⟨st[i], R.obj i st[i] a (by simp [hl]) hi⟩

theorem Rep.offTuple {σ : List Addr} {st : St} {h : Heap} (R : Rep prog w σ st h) {a : Addr} {vals : Array Value} (t : h.IsTuple a vals) : a ∉ σ := fun m => by
  obtain ⟨o, r⟩ := R.at m; exact r.notTuple t

theorem Ext.tk {σ σ' : List Addr} {st : St} {h h' : Heap} (X : Ext σ h σ' h') (R : Rep prog w σ st h) : TK h h' := fun a vals t => by
  have n := R.offTuple t
  obtain ⟨o, e, r⟩ := t
  exact ⟨o, X.keep a o e n, r⟩

theorem RV.ext {σ σ' : List Addr} {st : St} {h h' : Heap} (X : Ext σ h σ' h') (R : Rep prog w σ st h) {u : Value} {v : V} (r : RV σ h u v) : RV σ' h' u v := r.mono X.pre (X.tk R)
theorem RVs.ext {σ σ' : List Addr} {st : St} {h h' : Heap} (X : Ext σ h σ' h') (R : Rep prog w σ st h) {u : List Value} {v : List V} (r : RVs σ h u v) : RVs σ' h' u v := r.mono X.pre (X.tk R)

theorem ints_of {h : Heap} {σ : List Addr} {ks : List Int} : ∀ {vals : List Value}, RVs σ h vals (ks.map .int) → ItemsAre (intKind prog w) ks vals := by
  induction ks with
  | nil => intro vals r; cases r; exact .nil
  | cons k ks ih => intro vals r; cases r with
    | cons a r' => cases a; exact .cons (by simp [intKind, Value.isInt]) (ih r')
theorem isTupleKey_of {h : Heap} {a : Addr} {k : Int × Int} {σ : List Addr} (r : RV σ h (.ref a) (keyT k)) : IsTupleKey (intKind prog w) h (keyL k) a := by
  cases r with
  | tup t r =>
    obtain ⟨o, e, c, n, d⟩ := t
    exact ⟨o, _, n, e, c, d, ints_of (ks := [k.1, k.2]) r⟩
theorem tuple_of_key {h : Heap} {a : Addr} {k : Int × Int} (σ : List Addr) (t : IsTupleKey (intKind prog w) h (keyL k) a) : RV σ h (.ref a) (keyT k) := by
  obtain ⟨o, items, n, e, c, d, is⟩ := t
  refine .tup (vals := items.toList) ⟨o, e, c, n, by rw [d]⟩ ?_
  generalize items.toList = l at is
  clear d e c
  have : ∀ {ks : List Int} {l : List Value}, ItemsAre (intKind prog w) ks l → RVs σ h l (ks.map .int) := by
    intro ks l is
    induction is with
    | nil => exact .nil
    | cons hk _ ih =>
      obtain ⟨t, rfl⟩ := Value.isInt_shape hk
      exact .cons (.int _ _) ih
  exact this is

theorem IsTupleKey.tkeep {h h' : Heap} {a : Addr} {ks : List Int} (ht : TK h h') (t : IsTupleKey (intKind prog w) h ks a) : IsTupleKey (intKind prog w) h' ks a := by
  obtain ⟨o, items, n, e, c, d, is⟩ := t
  obtain ⟨o', e', c', n', d'⟩ := ht a items ⟨o, e, c, n, d⟩
  exact ⟨o', items, n', e', c', d', is⟩

/-- an object that stays, its contents' tuples kept -/
theorem RO.mono {σ σ' : List Addr} {h h' : Heap} {a : Addr} {o : O} (hs : σ <+: σ') (ht : TK h h') (ha : ∀ ob, h.get? a = some ob → h'.get? a = some ob) (r : RO prog w σ h a o) : RO prog w σ' h' a o := by
  cases r with
  | list l r => exact .list (let ⟨o, n, e, q⟩ := l; ⟨o, n, ha _ e, q⟩) (r.mono hs ht)
  | fro e c d r => exact .fro (ha _ e) c d (r.mono hs ht)
  | dictI d r =>
    obtain ⟨o, es, ep, e, q⟩ := d
    exact .dictI ⟨o, es, ep, ha _ e, q⟩ (r.mono hs ht)
  | dictS d r =>
    obtain ⟨o, es, ep, e, q⟩ := d
    exact .dictS ⟨o, es, ep, ha _ e, q⟩ (r.mono hs ht)
  | dictT d r l =>
    obtain ⟨o, es, ep, e, q1, q2, q3, q4, q5⟩ := d
    exact .dictT ⟨o, es, ep, ha _ e, q1, q2, q3, fun x hx => IsTupleKey.tkeep ht (q4 x hx), q5⟩ (r.mono hs ht) fun ep hep => let ⟨o, es', e1, e2⟩ := l ep hep; ⟨o, es', ha _ e1, e2⟩

end Mine
end

section -- Core
set_option autoImplicit false
namespace Mine

theorem conj3 {a b c z : Prop} (x : a ∧ b ∧ c) (k : a → b → c → z) : z := k x.1 x.2.1 x.2.2
theorem conj4 {a b c d z : Prop} (x : a ∧ b ∧ c ∧ d) (k : a → b → c → d → z) : z := k x.1 x.2.1 x.2.2.1 x.2.2.2
theorem conj5 {a b c d e z : Prop} (x : a ∧ b ∧ c ∧ d ∧ e) (k : a → b → c → d → e → z) : z := k x.1 x.2.1 x.2.2.1 x.2.2.2.1 x.2.2.2.2
theorem conj6 {a b c d e f z : Prop} (x : a ∧ b ∧ c ∧ d ∧ e ∧ f) (k : a → b → c → d → e → f → z) : z := k x.1 x.2.1 x.2.2.1 x.2.2.2.1 x.2.2.2.2.1 x.2.2.2.2.2
theorem conj7 {a b c d e f g z : Prop} (x : a ∧ b ∧ c ∧ d ∧ e ∧ f ∧ g) (k : a → b → c → d → e → f → g → z) : z := k x.1 x.2.1 x.2.2.1 x.2.2.2.1 x.2.2.2.2.1 x.2.2.2.2.2.1 x.2.2.2.2.2.2
theorem conj8 {a b c d e f g h z : Prop} (x : a ∧ b ∧ c ∧ d ∧ e ∧ f ∧ g ∧ h) (k : a → b → c → d → e → f → g → h → z) : z := k x.1 x.2.1 x.2.2.1 x.2.2.2.1 x.2.2.2.2.1 x.2.2.2.2.2.1 x.2.2.2.2.2.2.1 x.2.2.2.2.2.2.2
theorem conj9 {a b c d e f g h i z : Prop} (x : a ∧ b ∧ c ∧ d ∧ e ∧ f ∧ g ∧ h ∧ i) (k : a → b → c → d → e → f → g → h → i → z) : z := k x.1 x.2.1 x.2.2.1 x.2.2.2.1 x.2.2.2.2.1 x.2.2.2.2.2.1 x.2.2.2.2.2.2.1 x.2.2.2.2.2.2.2.1 x.2.2.2.2.2.2.2.2
theorem conj10 {a b c d e f g h i j z : Prop} (x : a ∧ b ∧ c ∧ d ∧ e ∧ f ∧ g ∧ h ∧ i ∧ j) (k : a → b → c → d → e → f → g → h → i → j → z) : z := k x.1 x.2.1 x.2.2.1 x.2.2.2.1 x.2.2.2.2.1 x.2.2.2.2.2.1 x.2.2.2.2.2.2.1 x.2.2.2.2.2.2.2.1 x.2.2.2.2.2.2.2.2.1 x.2.2.2.2.2.2.2.2.2
theorem conj11 {a b c d e f g h i j k z : Prop} (x : a ∧ b ∧ c ∧ d ∧ e ∧ f ∧ g ∧ h ∧ i ∧ j ∧ k) (k : a → b → c → d → e → f → g → h → i → j → k → z) : z := k x.1 x.2.1 x.2.2.1 x.2.2.2.1 x.2.2.2.2.1 x.2.2.2.2.2.1 x.2.2.2.2.2.2.1 x.2.2.2.2.2.2.2.1 x.2.2.2.2.2.2.2.2.1 x.2.2.2.2.2.2.2.2.2.1 x.2.2.2.2.2.2.2.2.2.2
theorem conj12 {a b c d e f g h i j k l z : Prop} (x : a ∧ b ∧ c ∧ d ∧ e ∧ f ∧ g ∧ h ∧ i ∧ j ∧ k ∧ l) (k : a → b → c → d → e → f → g → h → i → j → k → l → z) : z := k x.1 x.2.1 x.2.2.1 x.2.2.2.1 x.2.2.2.2.1 x.2.2.2.2.2.1 x.2.2.2.2.2.2.1 x.2.2.2.2.2.2.2.1 x.2.2.2.2.2.2.2.2.1 x.2.2.2.2.2.2.2.2.2.1 x.2.2.2.2.2.2.2.2.2.2.1 x.2.2.2.2.2.2.2.2.2.2.2
theorem ex5 {A B C D E : Type} {P : A → B → C → D → E → Prop} {z : Prop} (x : ∃ a b c d e, P a b c d e) (k : ∀ a b c d e, P a b c d e → z) : z := by
  obtain ⟨a, b, c, d, e, h⟩ := x; exact k _ _ _ _ _ h
theorem ex6 {A B C D E F : Type} {P : A → B → C → D → E → F → Prop} {z : Prop} (x : ∃ a b c d e f, P a b c d e f) (k : ∀ a b c d e f, P a b c d e f → z) : z := by
  obtain ⟨a, b, c, d, e, f, h⟩ := x; exact k _ _ _ _ _ _ h
theorem ex7 {A B C D E F G : Type} {P : A → B → C → D → E → F → G → Prop} {z : Prop} (x : ∃ a b c d e f g, P a b c d e f g) (k : ∀ a b c d e f g, P a b c d e f g → z) : z := by
  obtain ⟨a, b, c, d, e, f, g, h⟩ := x; exact k _ _ _ _ _ _ _ h

structure RootD where
  view : Program
  mg : Str → Option Value
  mb : Str → Option Value

/-- the static part of a frame -/
structure Cx where
  env : Env
  base : Heap

/-- what a frame needs of the program's top -/
structure Wd (prog : Program) (r : RootD) (h : Heap) : Prop where
  g : h.Ns mainGlobals r.mg
  b : h.Ns builtinsNs r.mb
  nolimit : h.NoLimit
  fn : ∀ d ∈ recsOf r.view, ∃ a o pm code doc, r.mg d.name = some (.ref a) ∧ h.get? a = some o ∧ o.data = .func (Calls.docDef d.name d.params d.body d.scope pm code doc) ∧ h.CodeRec code d.name
theorem Wd.keeps {prog : Program} {r : RootD} {h h' : Heap} (T : Wd prog r h) (hk : ∀ b o, h.get? b = some o → h'.get? b = some o) : Wd prog r h' :=
  ⟨T.g.keeps hk, T.b.keeps hk, T.nolimit.keeps hk, fun d hd => let ⟨a, o, pm, code, doc, h1, h2, h3, h4⟩ := T.fn d hd; ⟨a, o, pm, code, doc, h1, hk _ _ h2, h3, h4.keeps hk⟩⟩
/-- a list is no part of the top -/
theorem Wd.of_top {prog view : Program} {loose : List Str} {mean : ExcName → Option Value} {mg mb : Str → Option Value} {h h' : Heap} (T : Top view loose mean mg mb h) {σ : List Addr} (hk : ∀ b o, h.get? b = some o → b ∉ σ → h'.get? b = some o)
    (hl : ∀ a ∈ σ, ∃ o vs n, h.get? a = some o ∧ o.data = .seq vs n) : Wd prog ⟨view, mg, mb⟩ h' := by
  have off : ∀ {a o}, h.get? a = some o → (∀ vs n, o.data ≠ .seq vs n) → h'.get? a = some o := fun {a o} e hn => hk a o e fun m => by
    obtain ⟨o', vs, n, e', d⟩ := hl a m
    rw [e] at e'; cases e'; exact hn vs n d
  have ns : ∀ {a m}, h.Ns a m → h'.Ns a m := fun {a m} x => by
    obtain ⟨o, es, ep, e, d, q⟩ := x
    exact ⟨o, es, ep, off e (fun vs n d' => by rw [d] at d'; cases d'), d, q⟩
  refine ⟨ns T.g, ns T.b, ?_, fun d hd => ?_⟩
  · obtain ⟨mc, x, q⟩ := T.nolimit; exact ⟨mc, ns x, q⟩
  · obtain ⟨a, o, pm, code, doc, h1, h2, h3, h4⟩ := T.fn d hd
    refine ⟨a, o, pm, code, doc, h1, off h2 (fun vs n d' => by rw [h3] at d'; cases d'), h3, ?_⟩
    obtain ⟨c, o, vs, t, e, g, d, q⟩ := h4
    exact ⟨c, o, vs, t, e, off g (fun vs n d' => by rw [d] at d'; cases d'), d, q⟩

section
variable (prog : Program) (w : World) (r : RootD)


structure CxOk (cx : Cx) : Prop where
  kind : cx.env.scope.kind = .function
  glob : cx.env.globals = mainGlobals
  blt : cx.env.builtins = builtinsNs
  wd : Wd prog r cx.base
  lown : cx.base.get? cx.env.locals = none

structure Own (cx : Cx) : Prop where
  own : ∀ x c, cx.env.cells.lookup x = some c → cx.base.get? c = none
  apart : ∀ x y c, cx.env.cells.lookup x = some c → cx.env.cells.lookup y = some c → x = y

noncomputable def Room (lev : Nat) (A : Around) : Prop := A.handled = none ∧ A.depth + lev < 900 ∧ A.units + 10 * lev + 200 < cLine

structure Inv (cx : Cx) (σ : List Addr) (st : St) (η : AE) (h : Heap) : Prop where
  rep : Rep prog w σ st h
  keep : ∀ b o, cx.base.get? b = some o → h.get? b = some o
  off : ∀ a, a ∈ σ → cx.base.get? a = none
  loc : ∃ m, h.Ns cx.env.locals m ∧ ∀ (x : String) v, cx.env.kindOf (Str.ofString x) = some .local → η x = some v → ∃ u, m (Str.ofString x) = some u ∧ RV σ h u v
  cells : ∀ (x : String) v, (cx.env.kindOf (Str.ofString x) = some .cell ∨ cx.env.kindOf (Str.ofString x) = some .free) → η x = some v → ∃ c u, cx.env.cells.lookup (Str.ofString x) = some c ∧ h.IsCell c (some u) ∧ RV σ h u v
  cell : ∀ x c, cx.env.cells.lookup x = some c → ∃ v, h.IsCell c v
  Loff : cx.env.locals ∉ σ
  coff : ∀ x c, cx.env.cells.lookup x = some c → c ∉ σ

noncomputable def Post (σ : List Addr) (s : Shared) (Q : V → St → Prop) : Value → Shared → Prop := fun u s' =>
  ∃ v st' σ' h' tk, s' = { s with heap := h', toks := tk } ∧ Ext σ s.heap σ' h' ∧ Rep prog w σ' st' h' ∧ RV σ' h' u v ∧ Q v st'
noncomputable def PostB (σ : List Addr) (s : Shared) (Q : Bool → St → Prop) : Bool → Shared → Prop := fun b s' =>
  ∃ st' σ' h' tk, s' = { s with heap := h', toks := tk } ∧ Ext σ s.heap σ' h' ∧ Rep prog w σ' st' h' ∧ Q b st'
noncomputable def Posts (σ : List Addr) (s : Shared) (Q : List V → St → Prop) : List Value → Shared → Prop := fun us s' =>
  ∃ vs st' σ' h' tk, s' = { s with heap := h', toks := tk } ∧ Ext σ s.heap σ' h' ∧ Rep prog w σ' st' h' ∧ RVs σ' h' us vs ∧ Q vs st'

abbrev WE := AE → St → (V → St → Prop) → Prop
abbrev WB := AE → St → (Bool → St → Prop) → Prop
abbrev WL := AE → St → (List V → St → Prop) → Prop
abbrev W1 := V → St → (V → St → Prop) → Prop
abbrev W2 := V → V → St → (V → St → Prop) → Prop
abbrev WN := List V → St → (V → St → Prop) → Prop
abbrev WN1 := V → St → (Bool → St → Prop) → Prop

noncomputable def No : Value → Shared → Prop := fun _ _ => False

noncomputable def SE (lev : Nat) (cx : Cx) (t : Sem Value) (wt : WE) : Prop :=
  ∀ A, Room lev A → ∀ σ st η s Q, Inv prog w cx σ st η s.heap → wt η st Q → wpAny (model prog w) A t (Post prog w σ s Q) No s
noncomputable def SB (lev : Nat) (cx : Cx) (t : Sem Bool) (wt : WB) : Prop :=
  ∀ A, Room lev A → ∀ σ st η s Q, Inv prog w cx σ st η s.heap → wt η st Q → wpAny (model prog w) A t (PostB prog w σ s Q) No s
noncomputable def SL (lev : Nat) (cx : Cx) (t : Sem (List Value)) (wt : WL) : Prop :=
  ∀ A, Room lev A → ∀ σ st η s Q, Inv prog w cx σ st η s.heap → wt η st Q → wpAny (model prog w) A t (Posts prog w σ s Q) No s
/-- trees of values: no frame -/
noncomputable def S1 (lev : Nat) (t : Value → Sem Value) (wt : W1) : Prop :=
  ∀ A, Room lev A → ∀ σ st s Q u v, Rep prog w σ st s.heap → RV σ s.heap u v → wt v st Q → wpAny (model prog w) A (t u) (Post prog w σ s Q) No s
noncomputable def S1B (lev : Nat) (t : Value → Sem Bool) (wt : WN1) : Prop :=
  ∀ A, Room lev A → ∀ σ st s Q u v, Rep prog w σ st s.heap → RV σ s.heap u v → wt v st Q → wpAny (model prog w) A (t u) (PostB prog w σ s Q) No s
noncomputable def S2 (lev : Nat) (t : Value → Value → Sem Value) (wt : W2) : Prop :=
  ∀ A, Room lev A → ∀ σ st s Q u v u' v', Rep prog w σ st s.heap → RV σ s.heap u v → RV σ s.heap u' v' → wt v v' st Q → wpAny (model prog w) A (t u u') (Post prog w σ s Q) No s
noncomputable def SN (lev : Nat) (t : List Value → Sem Value) (wt : WN) : Prop :=
  ∀ A, Room lev A → ∀ σ st s Q us vs, Rep prog w σ st s.heap → RVs σ s.heap us vs → wt vs st Q → wpAny (model prog w) A (t us) (Post prog w σ s Q) No s
end

section
variable {prog : Program} {w : World} {r : RootD} {lev : Nat} {cx : Cx}

theorem Room.mono {n m : Nat} {A : Around} (h : Room n A) (l : m ≤ n) : Room m A := ⟨h.1, by have := h.2.1; omega, by have := h.2.2; omega⟩
theorem Room.in1 {A : Around} {n : Nat} (h : Room (n + 1) A) : Room n A.in1 := ⟨h.1, by show A.depth + n < 900; have := h.2.1; omega, by show A.units + 1 + 10 * n + 200 < cLine; have := h.2.2; omega⟩
theorem Room.deeper {A : Around} {n : Nat} {env : Env} (h : Room (n + 1) A) : Room n (A.deeper env) := ⟨h.1, by show A.depth + 1 + n < 900; have := h.2.1; omega, by show A.units + 3 + 10 * n + 200 < cLine; have := h.2.2; omega⟩
theorem Room.units {A : Around} {n : Nat} (h : Room n A) : A.units < cLine := by have := h.2.2; omega
theorem Room.units1 {A : Around} {n : Nat} (h : Room n A) : A.units + 100 < cLine := by have := h.2.2; omega
theorem Room.depth {A : Around} {n : Nat} (h : Room n A) : A.depth < recursionLimit := by have := h.2.1; show A.depth < 1000; omega
theorem Room.hand {A : Around} {n : Nat} (h : Room n A) : A.handled = none := h.1

theorem Rep.grow {σ : List Addr} {st : St} {h h' : Heap} (R : Rep prog w σ st h) (g : ∀ b o, h.get? b = some o → h'.get? b = some o) : Rep prog w σ st h' where
  len := R.len
  nodup := R.nodup
  obj := fun i o a e f => (R.obj i o a e f).mono (List.prefix_refl _) (fun a vals t => by obtain ⟨o, e, q⟩ := t; exact ⟨o, g _ _ e, q⟩) (fun ob => g a ob)
  low := R.low
  anchor := let ⟨b, o, l, e⟩ := R.anchor; ⟨b, o, l, g _ _ e⟩
theorem Ext.grow {σ : List Addr} {h h' : Heap} (g : ∀ b o, h.get? b = some o → h'.get? b = some o) : Ext σ h σ h' := ⟨List.prefix_refl _, fun a o e _ => g a o e, fun _ m n => absurd m n⟩
theorem tk_grow {h h' : Heap} (g : ∀ b o, h.get? b = some o → h'.get? b = some o) : TK h h' := fun a vals t => by obtain ⟨o, e, q⟩ := t; exact ⟨o, g _ _ e, q⟩

theorem RO.there {σ : List Addr} {h : Heap} {a : Addr} {o : O} (r : RO prog w σ h a o) : ∃ ob, h.get? a = some ob := by
  cases r with
  | list l _ => obtain ⟨ol, _, hl, _⟩ := l; exact ⟨ol, hl⟩
  | fro e _ _ _ => exact ⟨_, e⟩
  | dictI d _ => obtain ⟨ol, hl, _⟩ := d.typeIs (s := { heap := h }); exact ⟨ol, hl⟩
  | dictS d _ => obtain ⟨ol, hl, _⟩ := d.typeIs (s := { heap := h }); exact ⟨ol, hl⟩
  | dictT d _ _ => obtain ⟨ol, hl, _⟩ := d.typeIs (s := { heap := h }); exact ⟨ol, hl⟩
theorem Rep.there {σ : List Addr} {st : St} {h : Heap} (R : Rep prog w σ st h) {a : Addr} (m : a ∈ σ) : ∃ ob, h.get? a = some ob := let ⟨_, q⟩ := R.at m; q.there

/-- a new object -/
theorem Rep.alloc {σ : List Addr} {st : St} {h h' : Heap} {a : Addr} {o : O} (R : Rep prog w σ st h) (g : ∀ b o, h.get? b = some o → h'.get? b = some o) (hz : h.objs.size ≤ a)
    (ro : RO prog w (σ ++ [a]) h' a o) : Rep prog w (σ ++ [a]) (st ++ [o]) h' ∧ Ext σ h (σ ++ [a]) h' ∧ (σ ++ [a])[st.length]? = some a := by
  have ha : h.get? a = none := Heap.get?_none_of_le hz
  have hn : a ∉ σ := fun m => by obtain ⟨ob, e⟩ := R.there m; rw [ha] at e; cases e
  refine ⟨⟨by simp [R.len], ?_, fun i o' a' e f => ?_, fun b m => ?_, let ⟨b, o, l, e⟩ := R.anchor; ⟨b, o, l, g _ _ e⟩⟩, ⟨List.prefix_append _ _, fun b x e _ => g b x e, fun b m n => ?_⟩, by rw [← R.len]; simp⟩
  · rw [List.nodup_append]
    exact ⟨R.nodup, by simp, fun x hx y hy => by simp at hy; subst hy; exact fun e => hn (e ▸ hx)⟩
  · by_cases hi : i < st.length
    · rw [List.getElem?_append_left hi] at e
      rw [List.getElem?_append_left (by rw [R.len]; exact hi)] at f
      exact (R.obj i o' a' e f).mono (List.prefix_append _ _) (tk_grow g) (fun ob => g a' ob)
    · have hi' : i < (st ++ [o]).length := (List.getElem?_eq_some_iff.mp e).1
      have : i = st.length := by simp at hi'; omega
      subst this
      simp at e; rw [← R.len] at f; simp at f; subst e; subst f; exact ro
  · rcases List.mem_append.mp m with m | m
    · exact R.low b m
    · simp at m; subst m
      obtain ⟨c, o, l, e⟩ := R.anchor
      have := Heap.lt_size e
      exact beq_eq_false_iff_ne.mpr (fun q => absurd (Nat.lt_of_lt_of_le (Nat.lt_of_le_of_lt l this) hz) (by rw [q]; exact Nat.lt_irrefl _))
  · rcases List.mem_append.mp m with m | m
    · exact absurd m n
    · simp at m; subst m; exact ha

/-- an object changed in place -/
theorem Rep.upd {σ : List Addr} {st : St} {h h' : Heap} {a : Addr} {o : O} {i : Nat} (R : Rep prog w σ st h) (hi : σ[i]? = some a) (hs : ∀ b ob, b ≠ a → h.get? b = some ob → h'.get? b = some ob)
    (ro : TK h h' → RO prog w σ h' a o) : Rep prog w σ (st.set i o) h' ∧ Ext σ h σ h' := by
  have X : Ext σ h σ h' := ⟨List.prefix_refl _, fun b x e n => hs b x (fun q => n (q ▸ List.mem_of_getElem? hi)) e, fun _ m n => absurd m n⟩
  refine ⟨⟨by simp [R.len], R.nodup, fun j o' a' e f => ?_, R.low, ?_⟩, X⟩
  by_cases hj : j = i
  · subst hj
    rw [hi] at f; cases f
    have hl := (List.getElem?_eq_some_iff.mp e).1
    rw [List.getElem?_set_self (by simpa using hl)] at e
    cases e; exact ro (X.tk R)
  · rw [List.getElem?_set_ne (Ne.symm hj)] at e
    have hne : a' ≠ a := fun q => by
      subst q
      exact hj ((List.getElem?_inj (List.getElem?_eq_some_iff.mp f).1 R.nodup).mp (f.trans hi.symm))
    exact (R.obj j o' a' e f).mono (List.prefix_refl _) (X.tk R) (fun ob e' => hs a' ob hne e')
  · obtain ⟨b, ob, l, e⟩ := R.anchor
    by_cases q : b = a
    · subst q; obtain ⟨ob', e'⟩ := (ro (X.tk R)).there; exact ⟨b, ob', l, e'⟩
    · exact ⟨b, ob, l, hs b ob q e⟩

theorem Inv.ext {σ σ' : List Addr} {st st' : St} {η : AE} {h h' : Heap} (I : Inv prog w cx σ st η h) (X : Ext σ h σ' h') (R : Rep prog w σ' st' h') : Inv prog w cx σ' st' η h' := by
  have T := X.tk I.rep
  refine ⟨R, fun b o e => X.keep b o (I.keep b o e) fun m => ?_, fun a m => ?_, ?_, fun x v k e => ?_, fun x c e => ?_, fun m => ?_, fun x c e m => ?_⟩
  · rw [I.off b m] at e; cases e
  · by_cases m' : a ∈ σ
    · exact I.off a m'
    · cases q : cx.base.get? a with
      | none => rfl
      | some o => have := I.keep a o q; rw [X.new a m m'] at this; cases this
  · obtain ⟨m, hm, hv⟩ := I.loc
    refine ⟨m, hm.at' fun o e => X.keep _ o e I.Loff, fun x v k e => ?_⟩
    obtain ⟨u, e1, e2⟩ := hv x v k e
    exact ⟨u, e1, e2.mono X.pre T⟩
  · obtain ⟨c, u, e1, ⟨o, e2, e3⟩, e4⟩ := I.cells x v k e
    exact ⟨c, u, e1, ⟨o, X.keep _ _ e2 (I.coff _ _ e1), e3⟩, e4.mono X.pre T⟩
  · obtain ⟨v, o, e2, e3⟩ := I.cell x c e
    exact ⟨v, o, X.keep _ _ e2 (I.coff _ _ e), e3⟩
  · obtain ⟨m', ⟨o, _, _, e, _⟩, _⟩ := I.loc
    rw [X.new _ m I.Loff] at e; cases e
  · obtain ⟨v, o, e2, e3⟩ := I.cell x c e
    rw [X.new _ m (I.coff _ _ e)] at e2; cases e2

theorem Post.elim {σ : List Addr} {s : Shared} {Q : V → St → Prop} {u : Value} {motive : Shared → Prop} {s' : Shared} (p : Post prog w σ s Q u s')
    (k : ∀ v st' σ' h' tk, Ext σ s.heap σ' h' → Rep prog w σ' st' h' → RV σ' h' u v → Q v st' → motive { s with heap := h', toks := tk }) : motive s' := by
  obtain ⟨v, st', σ', h', tk, rfl, X, R, rv, q⟩ := p; exact k v st' σ' h' tk X R rv q
theorem PostB.elim {σ : List Addr} {s : Shared} {Q : Bool → St → Prop} {u : Bool} {motive : Shared → Prop} {s' : Shared} (p : PostB prog w σ s Q u s')
    (k : ∀ st' σ' h' tk, Ext σ s.heap σ' h' → Rep prog w σ' st' h' → Q u st' → motive { s with heap := h', toks := tk }) : motive s' := by
  obtain ⟨st', σ', h', tk, rfl, X, R, q⟩ := p; exact k st' σ' h' tk X R q
theorem Posts.elim {σ : List Addr} {s : Shared} {Q : List V → St → Prop} {us : List Value} {motive : Shared → Prop} {s' : Shared} (p : Posts prog w σ s Q us s')
    (k : ∀ vs st' σ' h' tk, Ext σ s.heap σ' h' → Rep prog w σ' st' h' → RVs σ' h' us vs → Q vs st' → motive { s with heap := h', toks := tk }) : motive s' := by
  obtain ⟨v, st', σ', h', tk, rfl, X, R, rv, q⟩ := p; exact k v st' σ' h' tk X R rv q

theorem Post.el {σ : List Addr} {s : Shared} {Q : V → St → Prop} {u : Value} {z : Prop} {s' : Shared} (p : Post prog w σ s Q u s')
    (k : ∀ v st' σ' h' tk, s' = { s with heap := h', toks := tk } → Ext σ s.heap σ' h' → Rep prog w σ' st' h' → RV σ' h' u v → Q v st' → z) : z := by
  obtain ⟨v, st', σ', h', tk, e, X, R, rv, q⟩ := p; exact k v st' σ' h' tk e X R rv q
theorem PostB.el {σ : List Addr} {s : Shared} {Q : Bool → St → Prop} {u : Bool} {z : Prop} {s' : Shared} (p : PostB prog w σ s Q u s')
    (k : ∀ st' σ' h' tk, s' = { s with heap := h', toks := tk } → Ext σ s.heap σ' h' → Rep prog w σ' st' h' → Q u st' → z) : z := by
  obtain ⟨st', σ', h', tk, e, X, R, q⟩ := p; exact k st' σ' h' tk e X R q
theorem Posts.el {σ : List Addr} {s : Shared} {Q : List V → St → Prop} {us : List Value} {z : Prop} {s' : Shared} (p : Posts prog w σ s Q us s')
    (k : ∀ vs st' σ' h' tk, s' = { s with heap := h', toks := tk } → Ext σ s.heap σ' h' → Rep prog w σ' st' h' → RVs σ' h' us vs → Q vs st' → z) : z := by
  obtain ⟨v, st', σ', h', tk, e, X, R, rv, q⟩ := p; exact k v st' σ' h' tk e X R rv q
theorem Post.trans {σ σ' : List Addr} {s : Shared} {h' : Heap} {tk : Nat} {Q : V → St → Prop} {u : Value} {s' : Shared} (X : Ext σ s.heap σ' h')
    (p : Post prog w σ' { s with heap := h', toks := tk } Q u s') : Post prog w σ s Q u s' := by
  obtain ⟨v, st', σ'', h'', tk', e, X', R', q⟩ := p
  exact ⟨v, st', σ'', h'', tk', e, X.trans X', R', q⟩
theorem PostB.trans {σ σ' : List Addr} {s : Shared} {h' : Heap} {tk : Nat} {Q : Bool → St → Prop} {u : Bool} {s' : Shared} (X : Ext σ s.heap σ' h')
    (p : PostB prog w σ' { s with heap := h', toks := tk } Q u s') : PostB prog w σ s Q u s' := by
  obtain ⟨st', σ'', h'', tk', e, X', R', q⟩ := p
  exact ⟨st', σ'', h'', tk', e, X.trans X', R', q⟩
theorem Posts.trans {σ σ' : List Addr} {s : Shared} {h' : Heap} {tk : Nat} {Q : List V → St → Prop} {u : List Value} {s' : Shared} (X : Ext σ s.heap σ' h')
    (p : Posts prog w σ' { s with heap := h', toks := tk } Q u s') : Posts prog w σ s Q u s' := by
  obtain ⟨v, st', σ'', h'', tk', e, X', R', q⟩ := p
  exact ⟨v, st', σ'', h'', tk', e, X.trans X', R', q⟩

/-- an end where the abstract store stays -/
theorem Post.here {σ : List Addr} {st : St} {s : Shared} {Q : V → St → Prop} {u : Value} {v : V} {h' : Heap} {tk : Nat} (R : Rep prog w σ st s.heap) (g : ∀ b o, s.heap.get? b = some o → h'.get? b = some o) (rv : RV σ h' u v) (q : Q v st) :
    Post prog w σ s Q u { s with heap := h', toks := tk } := ⟨v, st, σ, h', tk, rfl, .grow g, R.grow g, rv, q⟩
theorem Post.same {σ : List Addr} {st : St} {s : Shared} {Q : V → St → Prop} {u : Value} {v : V} {tk : Nat} (R : Rep prog w σ st s.heap) (rv : RV σ s.heap u v) (q : Q v st) :
    Post prog w σ s Q u { s with toks := tk } := ⟨v, st, σ, s.heap, tk, rfl, .refl _ _, R, rv, q⟩
theorem Post.stay {σ : List Addr} {st : St} {s : Shared} {Q : V → St → Prop} {u : Value} {v : V} (R : Rep prog w σ st s.heap) (rv : RV σ s.heap u v) (q : Q v st) :
    Post prog w σ s Q u s := ⟨v, st, σ, s.heap, s.toks, rfl, .refl _ _, R, rv, q⟩
theorem PostB.stay {σ : List Addr} {st : St} {s : Shared} {Q : Bool → St → Prop} {b : Bool} (R : Rep prog w σ st s.heap) (q : Q b st) :
    PostB prog w σ s Q b s := ⟨st, σ, s.heap, s.toks, rfl, .refl _ _, R, q⟩

/-! composition -/
theorem SE.bind2 {a b : Sem Value} {t : Sem Value} {f : Value → Value → Sem Value} {wa wb : WE} {w2 : W2} (ha : SE prog w lev cx a wa) (hb : SE prog w lev cx b wb) (h2 : S2 prog w lev f w2)
    (ht : ∀ (A : Around) (E : Value → Shared → Prop) (s : Shared) (Q : Value → Shared → Prop), wpAny (model prog w) A a (fun u s₁ => wpAny (model prog w) A b (fun u' s₂ => wpAny (model prog w) A (f u u') Q E s₂) E s₁) E s → wpAny (model prog w) A t Q E s) :
    SE prog w lev cx t (fun η st Q => wa η st fun v st₁ => wb η st₁ fun v' st₂ => w2 v v' st₂ Q) := by
  intro A rm σ st η s Q I h
  refine ht A No s _ (wpAny_mono (ha A rm σ st η s _ I h) ?_ fun _ _ x => x)
  refine fun u s₁ pz => pz.elim fun v st₁ σ₁ h₁ tk₁ X₁ R₁ rv h => ?_
  refine wpAny_mono (hb A rm σ₁ st₁ η _ _ (I.ext X₁ R₁) h) ?_ fun _ _ x => x
  refine fun u' s₂ pz => pz.elim fun v' st₂ σ₂ h₂ tk₂ X₂ R₂ rv' h => ?_
  refine wpAny_mono (h2 A rm σ₂ st₂ _ _ u v u' v' R₂ (rv.ext X₂ R₁) rv' h) (fun u s' p => ?_) fun _ _ x => x
  exact Post.trans X₁ (Post.trans X₂ p)

theorem SE.bind1 {a : Sem Value} {t : Sem Value} {f : Value → Sem Value} {wa : WE} {w1 : W1} (ha : SE prog w lev cx a wa) (h1 : S1 prog w lev f w1)
    (ht : ∀ (A : Around) (E : Value → Shared → Prop) (s : Shared) (Q : Value → Shared → Prop), wpAny (model prog w) A a (fun u s₁ => wpAny (model prog w) A (f u) Q E s₁) E s → wpAny (model prog w) A t Q E s) :
    SE prog w lev cx t (fun η st Q => wa η st fun v st₁ => w1 v st₁ Q) := by
  intro A rm σ st η s Q I h
  refine ht A No s _ (wpAny_mono (ha A rm σ st η s _ I h) ?_ fun _ _ x => x)
  refine fun u s₁ pz => pz.elim fun v st₁ σ₁ h₁ tk₁ X₁ R₁ rv h => ?_
  refine wpAny_mono (h1 A rm σ₁ st₁ _ _ u v R₁ rv h) (fun u s' p => ?_) fun _ _ x => x
  exact Post.trans X₁ p

theorem SE.toB {a : Sem Value} {t : Sem Bool} {f : Value → Sem Bool} {wa : WE} {w1 : WN1} (ha : SE prog w lev cx a wa) (h1 : S1B prog w lev f w1)
    (ht : ∀ (A : Around) (E : Value → Shared → Prop) (s : Shared) (Q : Bool → Shared → Prop), wpAny (model prog w) A a (fun u s₁ => wpAny (model prog w) A (f u) Q E s₁) E s → wpAny (model prog w) A t Q E s) :
    SB prog w lev cx t (fun η st Q => wa η st fun v st₁ => w1 v st₁ Q) := by
  intro A rm σ st η s Q I h
  refine ht A No s _ (wpAny_mono (ha A rm σ st η s _ I h) ?_ fun _ _ x => x)
  refine fun u s₁ pz => pz.elim fun v st₁ σ₁ h₁ tk₁ X₁ R₁ rv h => ?_
  refine wpAny_mono (h1 A rm σ₁ st₁ _ _ u v R₁ rv h) (fun u s' p => ?_) fun _ _ x => x
  exact PostB.trans X₁ p
end
end Mine
end

section -- Ex1
set_option autoImplicit false
set_option linter.unusedVariables false
namespace Mine

/-! transformers -/
noncomputable def wConst (v : V) : WE := fun _ st Q => Q v st
noncomputable def wVar (x : String) : WE := fun η st Q => ∃ v, η x = some v ∧ Q v st
noncomputable def intOp : Operator → Int → Int → Option Int
  | .Add, a, b => some (a + b)
  | .Sub, a, b => some (a - b)
  | .Mult, a, b => if b.natAbs < 1000000 then some (a * b) else none
  | .FloorDiv, a, b => if b ≠ 0 ∧ b.natAbs < 1000000 then some (a.fdiv b) else none
  | .Mod, a, b => if b ≠ 0 then some (a.fmod b) else none
  | .Pow, a, b => if 0 ≤ b ∧ b ≤ 1000 ∧ a.natAbs < 1000000 then some (a ^ b.toNat) else none
  | .LShift, a, b => if 0 ≤ b ∧ b ≤ 1000 ∧ a.natAbs < 1000000 then some (a * 2 ^ b.toNat) else none
  | .BitAnd, a, b => some (Builtin.bitAnd a b)
  | .BitOr, a, b => some (Builtin.bitOr a b)
  | _, _, _ => none
noncomputable def wBinV (op : Operator) : W2
  | .int a, .int b, st, Q => ∃ c, intOp op a b = some c ∧ Q (.int c) st
  | .loc n, .loc m, st, Q => op = .Add ∧ ∃ xs ys, st[n]? = some (.list xs) ∧ st[m]? = some (.list ys) ∧ xs.length + ys.length ≤ 1000 ∧ Q (.loc st.length) (st ++ [.list (xs ++ ys)])
  | _, _, _, _ => False
noncomputable def wBin (op : Operator) (a b : WE) : WE := fun η st Q => a η st fun v st₁ => b η st₁ fun v' st₂ => wBinV op v v' st₂ Q
noncomputable def wNegV : W1
  | .int a, st, Q => Q (.int (-a)) st
  | _, _, _ => False
noncomputable def wNeg (a : WE) : WE := fun η st Q => a η st fun v st₁ => wNegV v st₁ Q

noncomputable def truthV : WN1
  | .bool b, st, Q => Q b st
  | _, _, _ => False
noncomputable def wTest (a : WE) : WB := fun η st Q => a η st fun v st₁ => truthV v st₁ Q
noncomputable def wNot (a : WB) : WB := fun η st Q => a η st fun b st₁ => Q (!b) st₁
noncomputable def wAndB (a b : WB) : WB := fun η st Q => a η st fun x st₁ => if x = true then b η st₁ Q else Q false st₁
noncomputable def wOrB (a b : WB) : WB := fun η st Q => a η st fun x st₁ => if x = true then Q true st₁ else b η st₁ Q
noncomputable def wConstB (b : Bool) : WB := fun _ st Q => Q b st
noncomputable def wAndE (a b : WE) : WE := fun η st Q => a η st fun v st₁ => truthV v st₁ fun x st₂ => if x = true then b η st₂ Q else Q (.bool false) st₂
noncomputable def wOrE (a b : WE) : WE := fun η st Q => a η st fun v st₁ => truthV v st₁ fun x st₂ => if x = true then Q (.bool true) st₂ else b η st₂ Q
noncomputable def wIf (c : WB) (a b : WE) : WE := fun η st Q => c η st fun x st₁ => if x = true then a η st₁ Q else b η st₁ Q
noncomputable def wNil : WL := fun _ st Q => Q [] st
noncomputable def wCons (a : WE) (l : WL) : WL := fun η st Q => a η st fun v st₁ => l η st₁ fun vs st₂ => Q (v :: vs) st₂
noncomputable def wTup (l : WL) : WE := fun η st Q => l η st fun vs st₁ => vs.length ≤ 1000 ∧ Q (.tup vs) st₁
noncomputable def wList (l : WL) : WE := fun η st Q => l η st fun vs st₁ => vs.length ≤ 1000 ∧ Q (.loc st₁.length) (st₁ ++ [.list vs])
noncomputable def wEmptyDict (o : O) : WE := fun _ st Q => Q (.loc st.length) (st ++ [o])

section
variable {prog : Program} {w : World} {r : RootD} {lev : Nat} {cx : Cx}

theorem se_int (i : Int) (k pos) : SE prog w lev cx (eval (.Constant (.int i) k pos) cx.env) (wConst (.int i)) := fun A _ σ st η s Q I h =>
  wpAny_Constant_int (Post.same I.rep (.int _ _) h)
theorem se_str (x : String) (k pos) : SE prog w lev cx (eval (.Constant (.str (Str.ofString x)) k pos) cx.env) (wConst (.str x)) := fun A _ σ st η s Q I h =>
  wpAny_Constant_str (Post.same I.rep (.str _ _) h)
theorem se_bool (b : Bool) (k pos) : SE prog w lev cx (eval (.Constant (.bool b) k pos) cx.env) (wConst (.bool b)) := fun A _ σ st η s Q I h =>
  wpAny_Constant_bool (Post.stay I.rep (.bool _) h)
theorem se_none (k pos) : SE prog w lev cx (eval (.Constant .none k pos) cx.env) (wConst .none) := fun A _ σ st η s Q I h =>
  wpAny_Constant_none (Post.stay I.rep .none h)

theorem se_local (C : CxOk prog r cx) (x : String) (pos : Pos) (hk : cx.env.kindOf (Str.ofString x) = some .local) (hd : (Str.ofString x == ("__debug__" : Str)) = false) :
    SE prog w lev cx (eval (.Name (Str.ofString x) pos) cx.env) (wVar x) := fun A _ σ st η s Q I h => by
  obtain ⟨v, hv, h⟩ := h
  obtain ⟨m, hn, hm⟩ := I.loc
  obtain ⟨u, e1, e2⟩ := hm x v hk hv
  exact wpAny_Name (wpAny_loadName_local C.kind hk hn e1 (Post.stay I.rep e2 h)) hd
theorem se_cell (C : CxOk prog r cx) (x : String) (pos : Pos) (hk : cx.env.kindOf (Str.ofString x) = some .cell) (hd : (Str.ofString x == ("__debug__" : Str)) = false) :
    SE prog w lev cx (eval (.Name (Str.ofString x) pos) cx.env) (wVar x) := fun A _ σ st η s Q I h => by
  obtain ⟨v, hv, h⟩ := h
  obtain ⟨c, u, e1, e2, e3⟩ := I.cells x v (.inl hk) hv
  exact wpAny_Name (wpAny_loadName_cell C.kind hk e1 e2 (Post.stay I.rep e3 h)) hd
theorem se_free (C : CxOk prog r cx) (x : String) (pos : Pos) (hk : cx.env.kindOf (Str.ofString x) = some .free) (hd : (Str.ofString x == ("__debug__" : Str)) = false) (hn : (Str.ofString x == ("__classdict__" : Str)) = false) :
    SE prog w lev cx (eval (.Name (Str.ofString x) pos) cx.env) (wVar x) := fun A _ σ st η s Q I h => by
  obtain ⟨v, hv, h⟩ := h
  obtain ⟨c, u, e1, e2, e3⟩ := I.cells x v (.inr hk) hv
  exact wpAny_Name (wpAny_loadName_free C.kind hk e1 e2 (Post.stay I.rep e3 h) hn) hd
theorem se_glob (C : CxOk prog r cx) (x : String) (pos : Pos) (i : Int) (hk : cx.env.kindOf (Str.ofString x) = some .globalImplicit) (hd : (Str.ofString x == ("__debug__" : Str)) = false) (hv : ∃ t, r.mg (Str.ofString x) = some (.int i t)) :
    SE prog w lev cx (eval (.Name (Str.ofString x) pos) cx.env) (wConst (.int i)) := fun A _ σ st η s Q I h => by
  obtain ⟨t, hv⟩ := hv
  refine Calls.Name_function_global C.kind hk (Calls.loadGlobal_global ?_ hv (Post.stay I.rep (.int _ _) h)) hd
  rw [C.glob]; exact C.wd.g.keeps I.keep

theorem s2_bin (op : Operator) : S2 prog w lev (binaryOp op) (wBinV op) := fun A rm σ st s Q u v u' v' R ru rv h => by
  cases ru <;> cases rv <;> try (exact h.elim)
  case int.int a t b t' =>
    obtain ⟨c, e, h⟩ := h
    have fin : ∀ {c : Int}, Q (.int c) st → Post prog w σ s Q (.int c s.toks) { s with toks := s.toks + 1 } := fun q => Post.same R (.int _ _) q
    have bits : ∀ {x : Int}, x.natAbs < 1000000 → x.natAbs < 2 ^ 64 := fun h => Nat.lt_trans h (by decide)
    unfold intOp at e
    cases op <;> simp only at e <;> try (cases e; done)
    case Add => cases e; exact wpAny_add_int (fin h)
    case Sub => cases e; exact sub_int' (fin h)
    case Mult =>
      split at e
      · rename_i hb; cases e
        exact PyProof.Rows.mul_int (fin h) (IntMulOk.of_right (PySem.intBits_le_64 (by omega) (by omega)))
      · cases e
    case Mod =>
      split at e
      · rename_i hb; cases e; exact mod_int hb (fin h)
      · cases e
    case Pow =>
      split at e
      · rename_i hb; cases e; exact PyProof.Rows.pow_int hb.1 (bits_mul_le (bits hb.2.2) hb.1 (by omega)) (fin h)
      · cases e
    case LShift =>
      split at e
      · rename_i hb; cases e; exact PyProof.Rows.lshift_int hb.1 (bits_add_le (bits hb.2.2) (by omega)) (fin h)
      · cases e
    case BitOr => cases e; exact PyProof.Rows.or_int (fin h)
    case BitAnd => cases e; exact PyProof.Rows.and_int (fin h)
    case FloorDiv =>
      split at e
      · rename_i hb; cases e; exact PyProof.Rows.floordiv_int hb.1 (fin h) (.inl (PyProof.noPylong_small (by omega)))
      · cases e
  case loc.loc n a e1 m b e2 =>
    obtain ⟨rfl, xs, ys, f1, f2, hl, h⟩ := h
    have r1 := R.obj _ _ _ f1 e1
    have r2 := R.obj _ _ _ f2 e2
    cases r1 with
    | list l1 q1 =>
      rename_i us
      cases r2 with
      | list l2 q2 =>
        rename_i us'
        obtain ⟨⟨cls, dd, data, sl⟩, k, ho, hc, _, hd⟩ := id l1
        obtain ⟨⟨cls2, dd2, data2, sl2⟩, k2, ho2, hc2, _, hd2⟩ := id l2
        simp only at hc hd hc2 hd2
        subst hc hd hc2 hd2
        have n1 := q1.length
        have n2 := q2.length
        refine PySem.concat_meets ⟨_, ho, rfl⟩ ⟨_, ho2, rfl⟩ PySem.noFill_list_add PySem.seq_list_add PySem.F.slot_list_add PySem.F.entry_list_add (PySem.F.args_list_add_2 _ _)
          (PyProof.Rows.list_addW a b us.toArray us'.toArray k k2 dd dd2 sl sl2 (by rw [List.size_toArray, List.size_toArray, sizeLine_eq]; omega)) ⟨ho, ho2, ?_⟩
        have g : ∀ b o, s.heap.get? b = some o → (s.heap.push { cls := .type "list", data := .seq (us.toArray ++ us'.toArray) }).get? b = some o := fun b o e => Heap.get?_push_of_some _ e
        have ro : RO prog w (σ ++ [s.heap.objs.size]) (s.heap.push { cls := .type "list", data := .seq (us.toArray ++ us'.toArray) }) s.heap.objs.size (.list (xs ++ ys)) :=
          .list (vals := us ++ us') ⟨_, 0, Heap.get?_push_size _ rfl, rfl, rfl, by simp⟩ ((q1.append q2).mono (List.prefix_append _ _) (tk_grow g))
        obtain ⟨R', X', e'⟩ := R.alloc g (Nat.le_refl _) ro
        exact ⟨.loc st.length, _, _, _, s.toks, rfl, X', R', .loc e', h⟩
end
end Mine
end

section -- Dic
set_option autoImplicit false
set_option linter.unusedVariables false
namespace Mine

noncomputable def dget {K : Type} [DecidableEq K] : List (K × V) → K → Option V
  | [], _ => none
  | (k', v) :: r, k => if k' = k then some v else dget r k
noncomputable def dput {K : Type} [DecidableEq K] : List (K × V) → K → V → List (K × V)
  | [], k, v => [(k, v)]
  | (k', v') :: r, k, v => if k' = k then (k', v) :: r else (k', v') :: dput r k v
noncomputable def ddel {K : Type} [DecidableEq K] (es : List (K × V)) (k : K) : List (K × V) := es.filter fun e => decide (e.1 ≠ k)

section
variable {K : Type} [DecidableEq K]
theorem dget_put (es : List (K × V)) (k k' : K) (v : V) : dget (dput es k v) k' = if k = k' then some v else dget es k' := by
  induction es with
  | nil => simp [dput, dget]
  | cons e r ih =>
    obtain ⟨a, b⟩ := e
    by_cases h : a = k
    · subst h; simp only [dput, if_true, dget]; split <;> simp_all
    · simp only [dput, if_neg h, dget, ih]
      by_cases h2 : a = k'
      · subst h2; simp [Ne.symm h]
      · simp [h2]
theorem dget_none {es : List (K × V)} {k : K} : dget es k = none ↔ k ∉ es.map (·.1) := by
  induction es with
  | nil => simp [dget]
  | cons e r ih =>
    obtain ⟨a, b⟩ := e
    simp only [dget, List.map_cons, List.mem_cons, not_or]
    by_cases h : a = k
    · simp [h]
    · simp [h, ih, Ne.symm h]
theorem dput_keys_new {es : List (K × V)} {k : K} (v : V) (h : k ∉ es.map (·.1)) : dput es k v = es ++ [(k, v)] := by
  induction es with
  | nil => rfl
  | cons e r ih =>
    obtain ⟨a, b⟩ := e
    simp only [List.map_cons, List.mem_cons, not_or] at h
    simp [dput, Ne.symm h.1, ih h.2]
theorem dput_keys_old {es : List (K × V)} {k : K} (v : V) (h : k ∈ es.map (·.1)) : (dput es k v).map (·.1) = es.map (·.1) := by
  induction es with
  | nil => simp at h
  | cons e r ih =>
    obtain ⟨a, b⟩ := e
    by_cases hk : a = k
    · simp [dput, hk]
    · simp only [List.map_cons, List.mem_cons] at h
      simp [dput, hk, ih (h.resolve_left (Ne.symm hk))]
theorem dget_mem {es : List (K × V)} {k : K} {v : V} (h : dget es k = some v) : (k, v) ∈ es := by
  induction es with
  | nil => simp [dget] at h
  | cons e r ih =>
    obtain ⟨a, b⟩ := e
    simp only [dget] at h
    by_cases hk : a = k
    · simp only [hk, if_true, Option.some.injEq] at h; subst h; subst hk; exact .head _
    · simp only [hk, if_false] at h; exact .tail _ (ih h)
theorem dget_of_mem {es : List (K × V)} (hn : (es.map (·.1)).Nodup) {k : K} {v : V} (h : (k, v) ∈ es) : dget es k = some v := by
  induction es with
  | nil => simp at h
  | cons e r ih =>
    obtain ⟨a, b⟩ := e
    simp only [List.map_cons, List.nodup_cons] at hn
    rcases List.mem_cons.mp h with h | h
    · cases h; simp [dget]
    · have : a ≠ k := fun q => hn.1 (q ▸ List.mem_map.mpr ⟨_, h, rfl⟩)
      simp [dget, this, ih hn.2 h]

/-- a keyed list of values beside a keyed list of abstract values -/
inductive Es (σ : List Addr) (h : Heap) : List (K × Value) → List (K × V) → Prop
  | nil : Es σ h [] []
  | cons {k : K} {u : Value} {v : V} {r : List (K × Value)} {es : List (K × V)} : RV σ h u v → Es σ h r es → Es σ h ((k, u) :: r) ((k, v) :: es)

theorem Es.keys {σ : List Addr} {h : Heap} {kvs : List (K × Value)} {es : List (K × V)} (e : Es σ h kvs es) : kvs.map (·.1) = es.map (·.1) := by
  induction e with
  | nil => rfl
  | cons _ _ ih => simp [ih]
theorem Es.length {σ : List Addr} {h : Heap} {kvs : List (K × Value)} {es : List (K × V)} (e : Es σ h kvs es) : kvs.length = es.length := by
  induction e with
  | nil => rfl
  | cons _ _ ih => simp [ih]
theorem Es.get {σ : List Addr} {h : Heap} {kvs : List (K × Value)} {es : List (K × V)} (e : Es σ h kvs es) (k : K) :
    (dget es k = none ∧ valueAt kvs k = none) ∨ ∃ u v, dget es k = some v ∧ valueAt kvs k = some u ∧ RV σ h u v := by
  induction e with
  | nil => exact .inl ⟨rfl, rfl⟩
  | @cons k' u v r es a _ ih =>
    by_cases hk : k' = k
    · exact .inr ⟨u, v, by simp [dget, hk], by simp [valueAt, hk], a⟩
    · have e1 : dget ((k', v) :: es) k = dget es k := by simp [dget, hk]
      have e2 : valueAt ((k', u) :: r) k = valueAt r k := by simp [valueAt, List.find?_cons, hk]
      rw [e1, e2]; exact ih
theorem Es.map_put {σ : List Addr} {h : Heap} {kvs : List (K × Value)} {es : List (K × V)} (e : Es σ h kvs es) (k : K) {u : Value} {v : V} (rv : RV σ h u v) (hn : (es.map (·.1)).Nodup)
    (hm : k ∈ es.map (·.1)) : Es σ h (kvs.map fun kv => if kv.1 = k then (kv.1, u) else kv) (dput es k v) := by
  induction e with
  | nil => simp at hm
  | @cons k' u' v' r es a e ih =>
    simp only [List.map_cons, List.nodup_cons, List.mem_cons] at hn hm
    by_cases hk : k' = k
    · subst hk
      simp only [List.map_cons, if_true, dput]
      refine .cons rv ?_
      have : r.map (fun kv => if kv.1 = k' then (kv.1, u) else kv) = r := by
        apply map_store_of_not_mem
        rw [e.keys]; exact hn.1
      rw [this]; exact e
    · simp only [List.map_cons, if_neg hk, dput]
      exact .cons a (ih hn.2 (hm.resolve_left (Ne.symm hk)))
theorem Es.append {σ : List Addr} {h : Heap} {kvs : List (K × Value)} {es : List (K × V)} (e : Es σ h kvs es) (k : K) {u : Value} {v : V} (rv : RV σ h u v) : Es σ h (kvs ++ [(k, u)]) (es ++ [(k, v)]) := by
  induction e with
  | nil => exact .cons rv .nil
  | cons a _ ih => exact .cons a ih
theorem Es.stored {σ : List Addr} {h : Heap} {kvs : List (K × Value)} {es : List (K × V)} (e : Es σ h kvs es) (k : K) {u : Value} {v : V} (rv : RV σ h u v) (hn : (kvs.map (·.1)).Nodup) :
    Es σ h (stored kvs k u) (dput es k v) := by
  unfold PySem.stored
  by_cases hm : k ∈ es.map (·.1)
  · have : (kvs.any fun kv => decide (kv.1 = k)) = true := by
      rw [← e.keys] at hm
      obtain ⟨x, hx, rfl⟩ := List.mem_map.mp hm
      exact List.any_eq_true.mpr ⟨x, hx, by simp⟩
    rw [if_pos this]
    exact e.map_put k rv (e.keys ▸ hn) hm
  · have : ¬ (kvs.any fun kv => decide (kv.1 = k)) = true := fun q => by
      obtain ⟨x, hx, hk⟩ := List.any_eq_true.mp q
      exact hm (e.keys ▸ List.mem_map.mpr ⟨x, hx, of_decide_eq_true hk⟩)
    rw [if_neg this, dput_keys_new v hm]
    exact e.append k rv
end

theorem EsI.es {σ : List Addr} {h : Heap} {kvs : List (Int × Value)} {es : List (Int × V)} (e : EsI σ h kvs es) : Es σ h kvs es := by
  induction e with
  | nil => exact .nil
  | cons a _ ih => exact .cons a ih
theorem Es.esI {σ : List Addr} {h : Heap} {kvs : List (Int × Value)} {es : List (Int × V)} (e : Es σ h kvs es) : EsI σ h kvs es := by
  induction e with
  | nil => exact .nil
  | cons a _ ih => exact .cons a ih
end Mine
end

section -- Dic2
set_option autoImplicit false
set_option linter.unusedVariables false
namespace Mine

theorem keyL_inj {a b : Int × Int} : keyL a = keyL b ↔ a = b := by
  obtain ⟨a1, a2⟩ := a; obtain ⟨b1, b2⟩ := b
  simp [keyL]

theorem EsT.keys {σ : List Addr} {h : Heap} {xs : List (List Int × Addr × Value)} {es : List ((Int × Int) × V)} (e : EsT σ h xs es) : xs.map (·.1) = es.map fun e => keyL e.1 := by
  induction e with
  | nil => rfl
  | cons _ _ ih => simp [ih]
theorem EsT.length {σ : List Addr} {h : Heap} {xs : List (List Int × Addr × Value)} {es : List ((Int × Int) × V)} (e : EsT σ h xs es) : xs.length = es.length := by
  induction e with
  | nil => rfl
  | cons _ _ ih => simp [ih]
theorem EsT.nodup {σ : List Addr} {h : Heap} {xs : List (List Int × Addr × Value)} {es : List ((Int × Int) × V)} (e : EsT σ h xs es) (hn : (xs.map (·.1)).Nodup) : (es.map (·.1)).Nodup := by
  rw [e.keys] at hn
  have : (es.map fun e => keyL e.1) = (es.map (·.1)).map keyL := by simp
  rw [this] at hn
  exact List.Pairwise.of_map _ (fun a b h q => h (q ▸ rfl)) hn
theorem EsT.get {σ : List Addr} {h : Heap} {xs : List (List Int × Addr × Value)} {es : List ((Int × Int) × V)} (e : EsT σ h xs es) (k : Int × Int) :
    (dget es k = none ∧ atKey xs (keyL k) = none) ∨ ∃ a u v, dget es k = some v ∧ atKey xs (keyL k) = some (a, u) ∧ RV σ h u v := by
  induction e with
  | nil => exact .inl ⟨rfl, rfl⟩
  | @cons k' a' u v r es a _ ih =>
    by_cases hk : k' = k
    · exact .inr ⟨a', u, v, by simp [dget, hk], by simp [atKey, hk], a⟩
    · have e1 : dget ((k', v) :: es) k = dget es k := by simp [dget, hk]
      have e2 : atKey ((keyL k', a', u) :: r) (keyL k) = atKey r (keyL k) := by simp [atKey, List.find?_cons, keyL_inj, hk]
      rw [e1, e2]; exact ih
theorem EsT.map_put {σ : List Addr} {h : Heap} {xs : List (List Int × Addr × Value)} {es : List ((Int × Int) × V)} (e : EsT σ h xs es) (k : Int × Int) {u : Value} {v : V} (rv : RV σ h u v) (hn : (es.map (·.1)).Nodup)
    (hm : k ∈ es.map (·.1)) : EsT σ h (xs.map (putAt (keyL k) u)) (dput es k v) := by
  induction e with
  | nil => simp at hm
  | @cons k' a' u' v' r es a e ih =>
    simp only [List.map_cons, List.nodup_cons, List.mem_cons] at hn hm
    by_cases hk : k' = k
    · subst hk
      have : r.map (putAt (keyL k') u) = r := by
        apply map_putAt_of_not_mem
        rw [e.keys]
        intro q
        obtain ⟨x, hx, hq⟩ := List.mem_map.mp q
        exact hn.1 (List.mem_map.mpr ⟨x, hx, keyL_inj.mp hq⟩)
      simp only [List.map_cons, putAt, if_true, dput]
      rw [this]
      exact .cons rv e
    · have hk' : ¬ keyL k' = keyL k := fun q => hk (keyL_inj.mp q)
      simp only [List.map_cons, putAt, if_neg hk', dput, if_neg hk]
      exact .cons a (ih hn.2 (hm.resolve_left (Ne.symm hk)))
theorem EsT.append {σ : List Addr} {h : Heap} {xs : List (List Int × Addr × Value)} {es : List ((Int × Int) × V)} (e : EsT σ h xs es) (k : Int × Int) (a : Addr) {u : Value} {v : V} (rv : RV σ h u v) :
    EsT σ h (xs ++ [(keyL k, a, u)]) (es ++ [(k, v)]) := by
  induction e with
  | nil => exact .cons rv .nil
  | cons a' _ ih => exact .cons a' ih
theorem EsT.stored {σ : List Addr} {h : Heap} {xs : List (List Int × Addr × Value)} {es : List ((Int × Int) × V)} (e : EsT σ h xs es) (k : Int × Int) (a : Addr) {u : Value} {v : V} (rv : RV σ h u v) (hn : (xs.map (·.1)).Nodup) :
    EsT σ h (storedH xs (keyL k) a u) (dput es k v) := by
  unfold storedH
  rcases e.get k with ⟨h1, h2⟩ | ⟨a', u', v', h1, h2, _⟩
  · rw [h2, if_neg (by simp), dput_keys_new v (dget_none.mp h1)]
    exact e.append k a rv
  · rw [h2, if_pos (by simp)]
    refine e.map_put k rv (e.nodup hn) ?_
    exact List.mem_map.mpr ⟨_, dget_mem h1, rfl⟩

theorem EsS.keys {σ : List Addr} {h : Heap} {xs : List (Str × Value)} {es : List (String × V)} (e : EsS σ h xs es) : xs.map (·.1) = es.map fun e => Str.ofString e.1 := by
  induction e with
  | nil => rfl
  | cons _ _ ih => simp [ih]
theorem EsS.get {σ : List Addr} {h : Heap} {xs : List (Str × Value)} {es : List (String × V)} (e : EsS σ h xs es) (k : String) :
    (dget es k = none ∧ valueAt xs (Str.ofString k) = none) ∨ ∃ u v, dget es k = some v ∧ valueAt xs (Str.ofString k) = some u ∧ RV σ h u v := by
  induction e with
  | nil => exact .inl ⟨rfl, rfl⟩
  | @cons k' u v r es a _ ih =>
    by_cases hk : k' = k
    · exact .inr ⟨u, v, by simp [dget, hk], by simp [valueAt, hk], a⟩
    · have hk' : ¬ Str.ofString k' = Str.ofString k := fun q => hk (ofString_inj q)
      have e1 : dget ((k', v) :: es) k = dget es k := by simp [dget, hk]
      have e2 : valueAt ((Str.ofString k', u) :: r) (Str.ofString k) = valueAt r (Str.ofString k) := by simp [valueAt, List.find?_cons, hk']
      rw [e1, e2]; exact ih
end Mine
end

section -- Ex2
set_option autoImplicit false
set_option linter.unusedVariables false
namespace Mine

section
variable {prog : Program} {w : World} {r : RootD} {lev : Nat} {cx : Cx}

theorem se_bin {a b : Expr} {wa wb : WE} (op : Operator) (pos : Pos) (ha : SE prog w lev cx (eval a cx.env) wa) (hb : SE prog w lev cx (eval b cx.env) wb) :
    SE prog w lev cx (eval (.BinOp a op b pos) cx.env) (wBin op wa wb) := SE.bind2 (w2 := wBinV op) ha hb (s2_bin op) fun A E s Q h => wpAny_BinOp h

theorem s1_neg : S1 prog w lev (unaryOp .USub) wNegV := fun A rm σ st s Q u v R ru h => by
  cases ru <;> try (exact h.elim)
  exact PyProof.Rows.neg_int (Post.same R (.int _ _) h)
theorem se_neg {a : Expr} {wa : WE} (pos : Pos) (ha : SE prog w lev cx (eval a cx.env) wa) : SE prog w lev cx (eval (.UnaryOp .USub a pos) cx.env) (wNeg wa) :=
  SE.bind1 (w1 := wNegV) ha s1_neg fun A E s Q h => wpAny_UnaryOp h

theorem s1_truth : S1B prog w lev truthy truthV := fun A rm σ st s Q u v R ru h => by
  cases ru <;> try (exact h.elim)
  exact wpAny_truthy_bool (PostB.stay R h)

/-- a test that is no Not, BoolOp, IfExp, Compare -/
theorem sb_val {a : Expr} {wa : WE} (ha : SE prog w lev cx (eval a cx.env) wa) (he : ∀ whole, isTrue a cx.env whole = (do let v ← whole; standAt a.pos; holding [v] (truthy v))) :
    SB prog w lev cx (isTrue a cx.env (eval a cx.env)) (wTest wa) := SE.toB (w1 := truthV) ha s1_truth fun A E s Q h => wpAny_isTrue_value h (he _)
theorem sb_not {a : Expr} {wa : WB} (pos : Pos) (whole : Sem Value) (ha : SB prog w lev cx (isTrue a cx.env (eval a cx.env)) wa) : SB prog w lev cx (isTrue (.UnaryOp .Not a pos) cx.env whole) (wNot wa) :=
  fun A rm σ st η s Q I h => wpAny_isTrue_Not (wpAny_mono (ha A rm σ st η s _ I h) (fun b s' ⟨st', σ', h', tk, e, X, R, q⟩ => ⟨st', σ', h', tk, e, X, R, q⟩) fun _ _ x => x)
theorem sb_and_nil : SB prog w lev cx (allTrue .And [] cx.env) (wConstB true) := fun A rm σ st η s Q I h => wpAny_allTrue_And_nil (PostB.stay I.rep h)
theorem sb_or_nil : SB prog w lev cx (allTrue .Or [] cx.env) (wConstB false) := fun A rm σ st η s Q I h => wpAny_allTrue_Or_nil (PostB.stay I.rep h)
theorem sb_and_cons {a : Expr} {rest : List Expr} {wa wr : WB} (ha : SB prog w lev cx (isTrue a cx.env (eval a cx.env)) wa) (hr : SB prog w lev cx (allTrue .And rest cx.env) wr) :
    SB prog w lev cx (allTrue .And (a :: rest) cx.env) (wAndB wa wr) := fun A rm σ st η s Q I h => by
  refine wpAny_allTrue_And_cons (wpAny_mono (ha A rm σ st η s _ I h) ?_ fun _ _ x => x)
  refine fun b s' pz => pz.el ?_
  clear pz; rintro st' σ' h' tk rfl X R q
  cases b with
  | true => exact wpAny_mono (hr A rm σ' st' η _ _ (I.ext X R) q) (fun _ _ p => PostB.trans X p) fun _ _ x => x
  | false => exact ⟨st', σ', h', tk, rfl, X, R, q⟩
theorem sb_or_cons {a : Expr} {rest : List Expr} {wa wr : WB} (ha : SB prog w lev cx (isTrue a cx.env (eval a cx.env)) wa) (hr : SB prog w lev cx (allTrue .Or rest cx.env) wr) :
    SB prog w lev cx (allTrue .Or (a :: rest) cx.env) (wOrB wa wr) := fun A rm σ st η s Q I h => by
  refine wpAny_allTrue_Or_cons (wpAny_mono (ha A rm σ st η s _ I h) ?_ fun _ _ x => x)
  refine fun b s' pz => pz.el ?_
  clear pz; rintro st' σ' h' tk rfl X R q
  cases b with
  | false => exact wpAny_mono (hr A rm σ' st' η _ _ (I.ext X R) q) (fun _ _ p => PostB.trans X p) fun _ _ x => x
  | true => exact ⟨st', σ', h', tk, rfl, X, R, q⟩
theorem sb_bool {op : BoolOp} {vals : List Expr} {wa : WB} (pos : Pos) (whole : Sem Value) (ha : SB prog w lev cx (allTrue op vals cx.env) wa) : SB prog w lev cx (isTrue (.BoolOp op vals pos) cx.env whole) wa :=
  fun A rm σ st η s Q I h => wpAny_isTrue_BoolOp (ha A rm σ st η s Q I h)

theorem se_bool1 {op : BoolOp} {a : Expr} {wa : WE} (pos : Pos) (ha : SE prog w lev cx (eval a cx.env) wa) : SE prog w lev cx (eval (.BoolOp op [a] pos) cx.env) wa :=
  fun A rm σ st η s Q I h => BoolOp_one (ha A rm σ st η s Q I h)
theorem se_and {a b : Expr} {rest : List Expr} {wa wr : WE} (pos : Pos) (ha : SE prog w lev cx (eval a cx.env) wa) (hr : SE prog w lev cx (eval (.BoolOp .And (b :: rest) pos) cx.env) wr) :
    SE prog w lev cx (eval (.BoolOp .And (a :: b :: rest) pos) cx.env) (wAndE wa wr) := fun A rm σ st η s Q I h => by
  refine BoolOp_and (wpAny_mono (ha A rm σ st η s _ I h) ?_ fun _ _ x => x)
  refine fun u s₁ pz => pz.elim fun v st₁ σ₁ h₁ tk₁ X₁ R₁ rv q => ?_
  cases rv <;> try (exact q.elim)
  rename_i b
  refine wpAny_truthy_bool ?_
  cases b with
  | true => exact wpAny_mono (hr A rm σ₁ st₁ η _ _ (I.ext X₁ R₁) q) (fun _ _ p => Post.trans X₁ p) fun _ _ x => x
  | false => exact ⟨.bool false, st₁, σ₁, h₁, tk₁, rfl, X₁, R₁, .bool _, q⟩
theorem se_or {a b : Expr} {rest : List Expr} {wa wr : WE} (pos : Pos) (ha : SE prog w lev cx (eval a cx.env) wa) (hr : SE prog w lev cx (eval (.BoolOp .Or (b :: rest) pos) cx.env) wr) :
    SE prog w lev cx (eval (.BoolOp .Or (a :: b :: rest) pos) cx.env) (wOrE wa wr) := fun A rm σ st η s Q I h => by
  refine BoolOp_or (wpAny_mono (ha A rm σ st η s _ I h) ?_ fun _ _ x => x)
  refine fun u s₁ pz => pz.elim fun v st₁ σ₁ h₁ tk₁ X₁ R₁ rv q => ?_
  cases rv <;> try (exact q.elim)
  rename_i b
  refine wpAny_truthy_bool ?_
  cases b with
  | false => exact wpAny_mono (hr A rm σ₁ st₁ η _ _ (I.ext X₁ R₁) q) (fun _ _ p => Post.trans X₁ p) fun _ _ x => x
  | true => exact ⟨.bool true, st₁, σ₁, h₁, tk₁, rfl, X₁, R₁, .bool _, q⟩

theorem se_if {c a b : Expr} {wc : WB} {wa wb : WE} (pos : Pos) (hc : SB prog w lev cx (isTrue c cx.env (eval c cx.env)) wc) (ha : SE prog w lev cx (eval a cx.env) wa) (hb : SE prog w lev cx (eval b cx.env) wb) :
    SE prog w lev cx (eval (.IfExp c a b pos) cx.env) (wIf wc wa wb) := fun A rm σ st η s Q I h => by
  refine wpAny_IfExp (wpAny_mono (hc A rm σ st η s _ I h) ?_ fun _ _ x => x)
  refine fun b s' pz => pz.el ?_
  clear pz; rintro st' σ' h' tk rfl X R q
  cases b with
  | true => exact wpAny_mono (ha A rm σ' st' η _ _ (I.ext X R) q) (fun _ _ p => Post.trans X p) fun _ _ x => x
  | false => exact wpAny_mono (hb A rm σ' st' η _ _ (I.ext X R) q) (fun _ _ p => Post.trans X p) fun _ _ x => x

theorem sl_nil (pos : Pos) : SL prog w lev cx (spliced (backTo pos (starEach [] cx.env))) wNil := fun A rm σ st η s Q I h =>
  wpAny_items_nil ⟨[], st, σ, s.heap, s.toks, rfl, .refl _ _, I.rep, .nil, h⟩
theorem sl_cons {a : Expr} {rest : List Expr} {wa : WE} {wl : WL} (pos : Pos) (ha : SE prog w lev cx (eval a cx.env) wa) (hl : SL prog w lev cx (spliced (backTo pos (starEach rest cx.env))) wl)
    (he : starEach (a :: rest) cx.env = (false, eval a cx.env) :: starEach rest cx.env) : SL prog w lev cx (spliced (backTo pos (starEach (a :: rest) cx.env))) (wCons wa wl) := fun A rm σ st η s Q I h => by
  refine wpAny_items_cons (wpAny_mono (ha A rm σ st η s _ I h) ?_ fun _ _ x => x) he
  refine fun u s₁ pz => pz.elim fun v st₁ σ₁ h₁ tk₁ X₁ R₁ rv q => ?_
  refine wpAny_mono (hl A rm σ₁ st₁ η _ _ (I.ext X₁ R₁) q) ?_ fun _ _ x => x
  refine fun us s₂ pz => pz.elim fun vs st₂ σ₂ h₂ tk₂ X₂ R₂ rvs q => ?_
  exact ⟨v :: vs, st₂, σ₂, h₂, tk₂, rfl, X₁.trans X₂, R₂, .cons (rv.ext X₂ R₁) rvs, q⟩

theorem grow_push (h : Heap) (o : Obj) : ∀ b x, h.get? b = some x → (h.push o).get? b = some x := fun _ _ e => Heap.get?_push_of_some _ e

theorem se_tup {elts : List Expr} {wl : WL} (k : Nat) (pos : Pos) (hl : SL prog w lev cx (spliced (backTo pos (starEach elts cx.env))) wl) : SE prog w lev cx (eval (.Tuple elts k pos) cx.env) (wTup wl) := fun A rm σ st η s Q I h => by
  refine wpAny_Tuple (wpAny_mono (hl A rm σ st η s _ I h) ?_ fun _ _ x => x)
  refine fun us s₁ pz => pz.el ?_
  clear pz; rintro vs st₁ σ₁ h₁ tk₁ rfl X₁ R₁ rvs hh
  obtain ⟨hz, q⟩ := hh
  have hn := rvs.length
  refine ⟨by rw [sizeLine_eq]; omega, .tup vs, st₁, σ₁, _, tk₁, rfl, X₁.trans (.grow (grow_push _ _)), R₁.grow (grow_push _ _), ?_, q⟩
  exact .tup ⟨_, Heap.get?_push_size _ rfl, rfl, 0, rfl⟩ (rvs.mono (List.prefix_refl _) (tk_grow (grow_push _ _)))
theorem newList_post {σ : List Addr} {st : St} {s : Shared} {us : List Value} {vs : List V} {Q : V → St → Prop} (R : Rep prog w σ st s.heap) (rvs : RVs σ s.heap us vs) (q : Q (.loc st.length) (st ++ [.list vs])) :
    Post prog w σ s Q (.ref s.heap.objs.size) { s with heap := s.heap.push { cls := .type "list", data := .seq us.toArray } } := by
  obtain ⟨R', X', e'⟩ := R.alloc (grow_push s.heap { cls := .type "list", data := .seq us.toArray }) (Nat.le_refl _)
    (.list (vals := us) ⟨_, 0, Heap.get?_push_size _ rfl, rfl, rfl, rfl⟩ (rvs.mono (List.prefix_append _ _) (tk_grow (grow_push _ _))))
  exact ⟨.loc st.length, _, _, _, s.toks, rfl, X', R', .loc e', q⟩
theorem se_list {elts : List Expr} {wl : WL} (pos : Pos) (hl : SL prog w lev cx (spliced (backTo pos (starEach elts cx.env))) wl) : SE prog w lev cx (eval (.List elts pos) cx.env) (wList wl) := fun A rm σ st η s Q I h => by
  refine PySem.wpAny_List (wpAny_mono (hl A rm σ st η s _ I h) ?_ fun _ _ x => x)
  refine fun us s₁ pz => pz.el ?_
  clear pz; rintro vs st₁ σ₁ h₁ tk₁ rfl X₁ R₁ rvs hh
  obtain ⟨hz, q⟩ := hh
  have hn := rvs.length
  exact ⟨by rw [sizeLine_eq]; omega, Post.trans X₁ (newList_post (s := { s with heap := h₁, toks := tk₁ }) R₁ rvs q)⟩

theorem se_dict0 (o : O) (ho : o = .dI [] ∨ o = .dS [] ∨ o = .dT none []) (pos : Pos) : SE prog w lev cx (eval (.Dict [] [] pos) cx.env) (wEmptyDict o) := fun A rm σ st η s Q I h => by
  refine wpAny_Dict_empty ?_
  have ro : ∀ σ', RO prog w σ' (s.heap.push { cls := .type "dict", data := .dict #[] }) s.heap.objs.size o := fun σ' => by
    rcases ho with rfl | rfl | rfl
    · exact .dictI (Heap.DictOf.new _) .nil
    · exact .dictS (Heap.DictOf.new _) .nil
    · exact .dictT (Heap.DictOfH.new _) .nil (fun _ e => nomatch e)
  obtain ⟨R', X', e'⟩ := I.rep.alloc (grow_push s.heap { cls := .type "dict", data := .dict #[] }) (Nat.le_refl _) (ro _)
  exact ⟨.loc st.length, _, _, _, s.toks, rfl, X', R', .loc e', h⟩
end
end Mine
end

section -- Ex3
set_option autoImplicit false
set_option linter.unusedVariables false
namespace Mine

/-! comparisons -/
noncomputable def dEq (ks ls : List ((Int × Int) × Int)) : Bool := ks.length == ls.length && ks.all fun e => decide (e ∈ ls)
noncomputable def wEqLoc (neg : Bool) (n m : Nat) (st : St) (Q : V → St → Prop) : Prop :=
  (∃ xs, st[n]? = some (.list xs) ∧ st[m]? = some (.list []) ∧ Q (.bool (neg ^^ xs.isEmpty)) st) ∨
  (∃ ks ls : List (Int × Int), st[n]? = some (.list (ks.map keyT)) ∧ st[m]? = some (.list (ls.map keyT)) ∧ ks.length ≤ 1000 ∧ Q (.bool (neg ^^ decide (ks = ls))) st) ∨
  (∃ (k k' : Option Nat) (ks ls : List ((Int × Int) × Int)), st[n]? = some (.dT k (ks.map fun e => (e.1, .int e.2))) ∧ st[m]? = some (.dT k' (ls.map fun e => (e.1, .int e.2))) ∧ Q (.bool (neg ^^ dEq ks ls)) st)
noncomputable def wEqV (neg : Bool) : W2
  | .int a, .int b, st, Q => Q (.bool (neg ^^ decide (a = b))) st
  | .none, .none, st, Q => Q (.bool (neg ^^ true)) st
  | .int _, .none, st, Q => Q (.bool (neg ^^ false)) st
  | .none, .int _, st, Q => Q (.bool (neg ^^ false)) st
  | .str a, .str b, st, Q => neg = false ∧ Q (.bool (decide (a = b))) st
  | .tup xs, .tup ys, st, Q => ∃ ks ls : List Int, xs = ks.map .int ∧ ys = ls.map .int ∧ Q (.bool (neg ^^ decide (ks = ls))) st
  | .loc n, .loc m, st, Q => wEqLoc neg n m st Q
  | _, _, _, _ => False
noncomputable def wOrdV (f : Int → Int → Bool) : W2
  | .int a, .int b, st, Q => Q (.bool (f a b)) st
  | _, _, _, _ => False
noncomputable def V.isNone : V → Bool
  | .none => true
  | _ => false
noncomputable def wIsV (neg : Bool) : W2
  | v, .none, st, Q => Q (.bool (neg ^^ v.isNone)) st
  | _, _, _, _ => False
noncomputable def wInV (neg : Bool) : W2
  | v, .loc m, st, Q => (∃ k es, v = .int k ∧ st[m]? = some (.dI es) ∧ Q (.bool (neg ^^ (dget es k).isSome)) st) ∨ (∃ l k es, v = keyT k ∧ st[m]? = some (.dT l es) ∧ Q (.bool (neg ^^ (dget es k).isSome)) st) ∨ (∃ (k : Int × Int) (ks : List (Int × Int)), v = keyT k ∧ st[m]? = some (.list (ks.map keyT)) ∧ Q (.bool (neg ^^ decide (k ∈ ks))) st)
  | _, .tup [], st, Q => Q (.bool (neg ^^ false)) st
  | _, _, _, _ => False
noncomputable def wCmpV : CmpOp → W2
  | .Eq => wEqV false
  | .NotEq => wEqV true
  | .Lt => wOrdV fun a b => decide (a < b)
  | .LtE => wOrdV fun a b => decide (a ≤ b)
  | .Gt => wOrdV fun a b => decide (b < a)
  | .GtE => wOrdV fun a b => decide (b ≤ a)
  | .Is => wIsV false
  | .IsNot => wIsV true
  | .In => wInV false
  | .NotIn => wInV true
noncomputable def wCmp (op : CmpOp) (a b : WE) : WE := fun η st Q => a η st fun v st₁ => b η st₁ fun v' st₂ => wCmpV op v v' st₂ Q

section
variable {prog : Program} {w : World} {r : RootD} {lev : Nat} {cx : Cx}

noncomputable def pdI (ks : List Int) : List PyData := ks.map .int
theorem readsAll_ints {h : Heap} {σ : List Addr} {ks : List Int} : ∀ {us : List Value}, RVs σ h us (ks.map .int) → ReadsAll h us (pdI ks) [] := by
  induction ks with
  | nil => intro us r; cases r; exact .nil
  | cons k ks ih => intro us r; cases r with | cons a r => cases a with | int _ t => exact ReadsAll.cons (Reads.int (h := h) k t) (ih r)
theorem reads_tup {h : Heap} {σ : List Addr} {ks : List Int} {u : Value} (rv : RV σ h u (.tup (ks.map .int))) : Reads h u (.tuple (pdI ks)) [] := by
  cases rv with
  | tup t rs =>
    obtain ⟨o, e, c, n, d⟩ := t
    exact .tuple e c d (readsAll_ints rs)
theorem canLayAll_ints : ∀ ks : List Int, PyData.canLayAll0 (pdI ks) = true
  | [] => by simp [pdI, PyData.canLayAll0]
  | k :: ks => by
    have := canLayAll_ints ks
    simp only [pdI, List.map_cons] at this ⊢
    simp [PyData.canLayAll0, PyData.canLay0, this]
theorem depthAll_ints : ∀ ks : List Int, PyData.depthAll (pdI ks) = 0
  | [] => by simp [pdI, PyData.depthAll]
  | k :: ks => by
    have := depthAll_ints ks
    simp only [pdI, List.map_cons] at this ⊢
    simp [PyData.depthAll, PyData.depth, this]
theorem eqvAll_ints : ∀ ks ls : List Int, PyData.eqvAll (pdI ks) (pdI ls) = decide (ks = ls)
  | [], [] => by simp [pdI, PyData.eqvAll]
  | [], _ :: _ => by simp [pdI, PyData.eqvAll]
  | _ :: _, [] => by simp [pdI, PyData.eqvAll]
  | k :: ks, l :: ls => by
    have := eqvAll_ints ks ls
    simp only [pdI, List.map_cons] at this ⊢
    simp [PyData.eqvAll, PyData.eqv, this]
    by_cases h : k = l <;> by_cases h2 : ks = ls <;> simp [h, h2]

noncomputable def pdT (ks : List (Int × Int)) : List PyData := ks.map fun k => .tuple (pdI (keyL k))
theorem readsAll_keys {h : Heap} {σ : List Addr} : ∀ {ks : List (Int × Int)} {us : List Value}, RVs σ h us (ks.map keyT) → ReadsAll h us (pdT ks) []
  | [], _, .nil => .nil
  | k :: ks, _, .cons a r => by
    have e : keyT k = .tup ((keyL k).map .int) := rfl
    rw [e] at a
    have := ReadsAll.cons (reads_tup a) (readsAll_keys r)
    exact this
theorem canLayAll_keys : ∀ ks : List (Int × Int), PyData.canLayAll0 (pdT ks) = true
  | [] => by simp [pdT, PyData.canLayAll0]
  | k :: ks => by
    have := canLayAll_keys ks
    simp only [pdT, List.map_cons] at this ⊢
    simp [PyData.canLayAll0, PyData.canLay0, this, canLayAll_ints]
theorem depthAll_keys : ∀ ks : List (Int × Int), PyData.depthAll (pdT ks) ≤ 1
  | [] => by simp [pdT, PyData.depthAll]
  | k :: ks => by
    have := depthAll_keys ks
    simp only [pdT, List.map_cons] at this ⊢
    simp only [PyData.depthAll, PyData.depth, depthAll_ints]
    omega
theorem eqvAll_keys : ∀ ks ls : List (Int × Int), PyData.eqvAll (pdT ks) (pdT ls) = decide (ks = ls)
  | [], [] => by simp [pdT, PyData.eqvAll]
  | [], _ :: _ => by simp [pdT, PyData.eqvAll]
  | _ :: _, [] => by simp [pdT, PyData.eqvAll]
  | k :: ks, l :: ls => by
    have := eqvAll_keys ks ls
    simp only [pdT, List.map_cons] at this ⊢
    simp only [PyData.eqvAll, PyData.eqv, eqvAll_ints, this, keyL_inj]
    by_cases h : k = l <;> by_cases h2 : ks = ls <;> simp [h, h2]

theorem cmp_reads {A : Around} {E : Value → Shared → Prop} {s : Shared} {u u' : Value} {da db : PyData} {as bs : List Addr} {Q : Value → Shared → Prop} {neg : Bool} (rm : Room lev A)
    (ra : Reads s.heap u da as) (rb : Reads s.heap u' db bs) (ha : da.canLay0 = true) (hb : db.canLay0 = true) (hd : da.depth ≤ 64) (h : Q (.bool (neg ^^ PyData.eqv da db)) s) :
    wpAny (model prog w) A (compareOp (if neg then .NotEq else .Eq) u u') Q E s := by
  have hu : A.units + min da.depth db.depth < cLine := by have := rm.units1; have : min da.depth db.depth ≤ da.depth := Nat.min_le_left _ _; omega
  cases neg with
  | true => exact SeqAt.compareNe_reads ra rb ha hb hu (by simpa using h)
  | false => exact SeqAt.compareEq_reads ra rb ha hb hu (by simpa using h)
end
end Mine
end

section -- Ex4
set_option autoImplicit false
set_option linter.unusedVariables false
namespace Mine

noncomputable def toTi (e : (Int × Int) × Int) : (Int × Int) × V := (e.1, .int e.2)
theorem EsT.at {σ : List Addr} {h : Heap} : ∀ {xs : List (List Int × Addr × Value)} {ks : List ((Int × Int) × Int)}, EsT σ h xs (ks.map toTi) → ∀ {i : Nat} {x : List Int × Addr × Value}, xs[i]? = some x →
    ∃ e t, ks[i]? = some e ∧ x.1 = keyL e.1 ∧ x.2.2 = .int e.2 t
  | _, [], .nil, i, x, hx => by simp at hx
  | _, e :: ks, .cons a r, 0, x, hx => by
    simp only [List.getElem?_cons_zero, Option.some.injEq] at hx; subst hx
    cases a with
    | int _ t => exact ⟨e, t, rfl, rfl, rfl⟩
  | _, e :: ks, .cons a r, i + 1, x, hx => by
    simp only [List.getElem?_cons_succ] at hx ⊢
    exact EsT.at r hx

section
variable {prog : Program} {w : World} {A : Around} {E : Value → Shared → Prop} {s : Shared} {σ : List Addr}

theorem deq_pairs {nm : String} {a b : Addr} {xs ys : List (List Int × Addr × Value)} {ks ls : List ((Int × Int) × Int)} {Q : Bool → Shared → Prop} (ha : (a == sysModules) = false) (hb : (b == sysModules) = false)
    (hu : A.units < cLine) (da : s.heap.DictOfH (tk prog w) a xs) (db : s.heap.DictOfH (tk prog w) b ys) (ea : EsT σ s.heap xs (ks.map toTi)) (eb : EsT σ s.heap ys (ls.map toTi)) (h : Q (dEq ks ls) s) :
    wpAny (model prog w) A (Builtin.Dict.samePairs nm a b) Q E s := by
  obtain ⟨oa, es, ep, hoa, _, hda, hea, hia, hna⟩ := da
  obtain ⟨ob, es', ep', hob, _, hdb, heb, hib, hnb⟩ := db
  have la : es.size = ks.length := by rw [size_of_entries hea, ea.length, List.length_map]
  have lb : es'.size = ls.length := by rw [size_of_entries heb, eb.length, List.length_map]
  have hls : (ls.map (·.1)).Nodup := by
    have := eb.nodup hnb
    simpa [toTi, Function.comp_def] using this
  unfold Builtin.Dict.samePairs Builtin.Dict.showsAll
  rw [if_neg (show ¬ (a == sysModules) = true by rw [ha]; exact Bool.false_ne_true), if_neg (show ¬ (b == sysModules) = true by rw [hb]; exact Bool.false_ne_true)]
  refine wpAny_bind (wpAny_pure (wpAny_bind (wpAny_pure (wpAny_bind (wpAny_dictEntries hoa hda ?_)))))
  dsimp only
  refine wpAny_bind (wpAny_dictEntries hob hdb ?_)
  by_cases hz : ks.length = ls.length
  case neg =>
    rw [if_pos (by rw [la, lb]; simpa using hz)]
    have : dEq ks ls = false := by simp [dEq, hz]
    rw [this] at h
    exact wpAny_bind (wpAny_rule (wpAny_pure h))
  case pos =>
    rw [if_neg (by rw [la, lb, hz]; simp)]
    refine wpAny_bind (wpAny_dictEpoch hoa hda ?_)
    refine wpAny_bind ?_
    rw [Std.Legacy.Range.forIn_eq_forIn_range']
    simp only [Std.Legacy.Range.size, Nat.sub_zero, Nat.add_sub_cancel, Nat.div_one]
    refine wpAny_forIn_list _
      (fun rest q s' => s' = s ∧ q = (none, ()) ∧ ∃ i, rest = List.range' i (es.size - i) ∧ i ≤ es.size ∧ ∀ j e, j < i → ks[j]? = some e → e ∈ ls)
      _ ?_ ?_ _ _ ⟨rfl, rfl, 0, by simp, Nat.zero_le _, fun j e hj => absurd hj (Nat.not_lt_zero _)⟩
    · rintro x rest q s' ⟨rfl, rfl, i, hr, hi, hpre⟩
      have hlt : i < es.size := by
        rcases Nat.lt_or_ge i es.size with q | q
        · exact q
        · rw [Nat.sub_eq_zero_of_le q] at hr; simp at hr
      obtain ⟨rfl, hrest⟩ : x = i ∧ rest = List.range' (i + 1) (es.size - (i + 1)) := by
        have e : es.size - i = (es.size - (i + 1)) + 1 := by omega
        rw [e, List.range'_succ] at hr
        injection hr with h1 h2
        exact ⟨h1, h2⟩
      refine wpAny_bind (wpAny_dictEntries hoa hda ?_)
      have hxl : x < xs.length := by rw [← size_of_entries hea]; exact hlt
      obtain ⟨y, hy⟩ : ∃ y, xs[x]? = some y := ⟨_, List.getElem?_eq_getElem hxl⟩
      have hex : es[x]? = some (entryOfKey (tk prog w) y) := by rw [entry_at hea, hy]; rfl
      obtain ⟨e, t, he, hk, hv⟩ := ea.at hy
      obtain ⟨yk, ya, yv⟩ := y
      simp only at hk hv
      subst hk hv
      rw [hex]
      show wpAny _ _ (holding [.ref ya, .int e.2 t] _ >>= _) _ _ _
      have fails : e ∉ ls → dEq ks ls = false := fun q => by
        have : (ks.all fun e => decide (e ∈ ls)) = false := List.all_eq_false.mpr ⟨e, List.mem_of_getElem? he, by simpa using q⟩
        simp [dEq, this]
      refine wpAny_bind (wpAny_holding (wpAny_bind (wpAny_dictFind_heap (knd := tk prog w) (k := keyL e.1) hu (hia _ (List.mem_of_getElem? hy)) hob hdb heb hib hnb ?_ ?_)))
      · intro hno
        have nin : e ∉ ls := fun q => by
          obtain ⟨j, hj⟩ := List.mem_iff_getElem?.mp q
          have hjl : j < ys.length := by rw [← size_of_entries heb, lb]; exact (List.getElem?_eq_some_iff.mp hj).1
          obtain ⟨e', t', he', hk', _⟩ := eb.at (List.getElem?_eq_getElem hjl)
          rw [hj] at he'; cases he'
          exact hno j ys[j].2 (by rw [List.getElem?_eq_getElem hjl]; exact congrArg some (Prod.ext hk' rfl))
        rw [fails nin] at h
        refine wpAny_pure ?_
        show wpAny _ _ (if (!false) = true then _ else _) _ _ _
        rw [if_pos (by decide)]
        exact wpAny_pure (wpAny_pure h)
      · intro j p hj
        refine wpAny_bind (wpAny_dictEntries hob hdb ?_)
        have hej : es'[j]? = some (entryOfKey (tk prog w) (keyL e.1, p)) := by rw [entry_at heb, hj]; rfl
        rw [hej]
        obtain ⟨e', t', he', hk', hv'⟩ := eb.at hj
        obtain ⟨pa, pv⟩ := p
        simp only at hk' hv'
        have ek : e.1 = e'.1 := keyL_inj.mp hk'
        subst hv'
        refine wpAny_holding (wpAny_eqBool_int ?_)
        by_cases hvv : e.2 = e'.2
        · have hb' : (e.2 == e'.2) = true := by simp [hvv]
          rw [hb']
          show wpAny _ _ (if (!true) = true then _ else _) _ _ _
          rw [if_neg (by decide)]
          refine wpAny_bind (wpAny_dictEpoch hoa hda ?_)
          rw [if_neg (by simp)]
          refine wpAny_pure ⟨rfl, rfl, x + 1, hrest, hlt, fun j' f hj' hf => ?_⟩
          by_cases hjx : j' = x
          · subst hjx; rw [he] at hf; cases hf
            rw [show e = e' from Prod.ext ek hvv]; exact List.mem_of_getElem? he'
          · exact hpre j' f (by omega) hf
        · have hb' : (e.2 == e'.2) = false := by simp [hvv]
          rw [hb']
          have nin : e ∉ ls := fun q => by
            have h1 : e' ∈ ls := List.mem_of_getElem? he'
            have : e = e' := by
              have g1 := List.mem_iff_getElem?.mp q
              obtain ⟨j1, hj1⟩ := g1
              have a1 : (ls.map (·.1))[j1]? = some e.1 := by rw [List.getElem?_map, hj1]; rfl
              have a2 : (ls.map (·.1))[j]? = some e.1 := by rw [List.getElem?_map, he', ek]; rfl
              have := (List.getElem?_inj (List.getElem?_eq_some_iff.mp a1).1 hls).mp (a1.trans a2.symm)
              subst this; rw [hj1] at he'; exact Option.some.inj he'
            exact hvv (by rw [this])
          rw [fails nin] at h
          show wpAny _ _ (if (!false) = true then _ else _) _ _ _
          rw [if_pos (by decide)]
          exact wpAny_pure (wpAny_pure h)
    · rintro q s' ⟨rfl, rfl, i, hr, hi, hpre⟩
      have hin : i = es.size := by
        rcases Nat.lt_or_ge i es.size with q | q
        · have e : es.size - i = (es.size - (i + 1)) + 1 := by omega
          rw [e, List.range'_succ] at hr; exact nomatch hr
        · exact Nat.le_antisymm hi q
      have : dEq ks ls = true := by
        simp only [dEq, hz, beq_self_eq_true, Bool.true_and, List.all_eq_true, decide_eq_true_eq]
        intro e he
        obtain ⟨j, hj⟩ := List.mem_iff_getElem?.mp he
        exact hpre j e (by rw [hin, la]; exact (List.getElem?_eq_some_iff.mp hj).1) hj
      rw [this] at h
      exact wpAny_pure h

theorem deq_cmp {neg : Bool} {a b : Addr} {xs ys : List (List Int × Addr × Value)} {ks ls : List ((Int × Int) × Int)} {Q : Value → Shared → Prop} (ha : (a == sysModules) = false) (hb : (b == sysModules) = false)
    (hu : A.units + 1 < cLine) (da : s.heap.DictOfH (tk prog w) a xs) (db : s.heap.DictOfH (tk prog w) b ys) (ea : EsT σ s.heap xs (ks.map toTi)) (eb : EsT σ s.heap ys (ls.map toTi)) (h : Q (.bool (neg ^^ dEq ks ls)) s) :
    wpAny (model prog w) A (compareOp (if neg then .NotEq else .Eq) (.ref a) (.ref b)) Q E s := by
  cases neg with
  | false =>
    refine wpAny_richCompare_same_room (op := .Eq) da.typeIs db.typeIs PySem.F.slot_dict_eq (wpAny_call_entry PySem.F.slot_dict_eq da.typeIs PySem.F.entry_dict_eq ?_ (PySem.F.args_dict_eq_2 _ _)) (by omega)
    show wpAny _ _ (Builtin.Dict.dictSlotArgs "__eq__" ⟨[.ref a, .ref b], []⟩ >>= _) _ _ s
    refine wpAny_bind ?_
    unfold Builtin.Dict.dictSlotArgs
    refine wpAny_bind (wpAny_notOrdered_dict da.typeIs ?_)
    show wpAny _ _ (pure (Value.ref a, Value.ref b)) _ _ s
    refine wpAny_pure (wpAny_bind (wpAny_isInstance (T := "dict") db.typeIs PySem.F.sub_dict_dict ?_))
    simp only [Bool.not_true, Bool.false_eq_true, if_false]
    refine wpAny_bind (wpAny_pure (wpAny_bind (wpAny_pure (wpAny_bind (deq_pairs ha hb hu da db ea eb (wpAny_pure ⟨_, rfl, (fun x => nomatch x), by simpa using h⟩))))))
  | true =>
    refine wpAny_richCompare_same_room (op := .NotEq) da.typeIs db.typeIs PySem.F.slot_dict_ne (wpAny_call_entry PySem.F.slot_dict_ne da.typeIs PySem.F.entry_dict_ne ?_ (PySem.F.args_dict_ne_2 _ _)) (by omega)
    show wpAny _ _ (Builtin.Dict.dictSlotArgs "__ne__" ⟨[.ref a, .ref b], []⟩ >>= _) _ _ s
    refine wpAny_bind ?_
    unfold Builtin.Dict.dictSlotArgs
    refine wpAny_bind (wpAny_notOrdered_dict da.typeIs ?_)
    show wpAny _ _ (pure (Value.ref a, Value.ref b)) _ _ s
    refine wpAny_pure (wpAny_bind (wpAny_isInstance (T := "dict") db.typeIs PySem.F.sub_dict_dict ?_))
    simp only [Bool.not_true, Bool.false_eq_true, if_false]
    refine wpAny_bind (wpAny_pure (wpAny_bind (wpAny_pure (wpAny_bind (deq_pairs ha hb hu da db ea eb (wpAny_pure ⟨_, rfl, (fun x => nomatch x), by simpa using h⟩))))))
end
end Mine
end

section -- Ex5
set_option autoImplicit false
set_option linter.unusedVariables false
namespace Mine

section
variable {prog : Program} {w : World} {r : RootD} {lev : Nat} {cx : Cx}

theorem key_of {σ : List Addr} {h : Heap} {u : Value} {k : Int × Int} (rv : RV σ h u (keyT k)) : ∃ b, u = .ref b ∧ IsTupleKey (intKind prog w) h (keyL k) b := by
  have rv' := rv
  unfold keyT at rv
  cases rv with
  | tup t rs => exact ⟨_, rfl, isTupleKey_of rv'⟩
theorem xor_true (b : Bool) : (true ^^ b) = !b := by cases b <;> rfl
theorem xor_false (b : Bool) : (false ^^ b) = b := by cases b <;> rfl

theorem s2_eq (neg : Bool) : S2 prog w lev (compareOp (if neg then .NotEq else .Eq)) (wEqV neg) := fun A rm σ st s Q u v u' v' R ru rv h => by
  cases ru <;> cases rv <;> try (exact h.elim)
  case int.int a t b t' =>
    refine cmp_reads rm (.int _ _) (.int _ _) rfl rfl (by simp [PyData.depth]) (Post.stay R (.bool _) ?_)
    have e : (a == b) = decide (a = b) := by by_cases q : a = b <;> simp [q]
    rw [PyData.eqv, e]; exact h
  case none.none => exact cmp_reads rm .none .none rfl rfl (by simp [PyData.depth]) (Post.stay R (.bool _) (by rw [PyData.eqv]; exact h))
  case int.none => exact cmp_reads rm (.int _ _) .none rfl rfl (by simp [PyData.depth]) (Post.stay R (.bool _) (by rw [PyData.eqv]; exact h))
  case none.int => exact cmp_reads rm .none (.int _ _) rfl rfl (by simp [PyData.depth]) (Post.stay R (.bool _) (by rw [PyData.eqv]; exact h))
  case str.str a t b t' =>
    obtain ⟨rfl, h⟩ := h
    refine PyProof.Rows.eq_str (Post.stay R (.bool _) ?_)
    have : (Str.ofString a == Str.ofString b) = decide (a = b) := by
      by_cases e : a = b
      · subst e; simp
      · rw [decide_eq_false e]; exact beq_eq_false_iff_ne.mpr fun q => e (ofString_inj q)
    rw [this]; exact h
  case tup.tup a vals vs t rs b vals' vs' t' rs' =>
    obtain ⟨ks, ls, rfl, rfl, h⟩ := h
    refine cmp_reads rm (reads_tup (.tup t rs)) (reads_tup (.tup t' rs')) ?_ ?_ ?_ (Post.stay R (.bool _) ?_)
    · simp [PyData.canLay0, canLayAll_ints]
    · simp [PyData.canLay0, canLayAll_ints]
    · simp [PyData.depth, depthAll_ints]
    · rw [PyData.eqv, eqvAll_ints]; exact h
  case loc.loc n a ea m b eb =>
    rcases h with ⟨xs, f1, f2, h⟩ | ⟨ks, ls, f1, f2, hz, h⟩ | ⟨lk1, lk2, ks, ls, f1, f2, h⟩
    · have r1 := R.obj _ _ _ f1 ea
      have r2 := R.obj _ _ _ f2 eb
      cases r1 with
      | list l1 q1 =>
        cases r2 with
        | list l2 q2 =>
          rename_i us us'
          have n1 := q1.length
          have n2 : us' = [] := by have := q2.length; simpa using this
          subst n2
          by_cases hx : xs = []
          · subst hx
            have n1' : us = [] := by simpa using n1
            subst n1'
            have hh : Q (.bool (neg ^^ true)) st := h
            cases neg with
            | false => exact SeqAt.RcAt.lists (e := fun _ => true) l1.isList l2.isList rfl rm.units (fun j h1 _ => absurd h1 (by simp)) prog w No _ (Post.stay R (.bool _) hh)
            | true => exact SeqAt.RcNeAt.lists (e := fun _ => true) l1.isList l2.isList rfl rm.units (fun j h1 _ => absurd h1 (by simp)) prog w No _ (Post.stay R (.bool _) hh)
          · have hsz : (us.toArray.size != ([] : List Value).toArray.size) = true := by
              have : us.length ≠ 0 := by rw [n1]; simpa using hx
              simpa using this
            have hh : Q (.bool (neg ^^ false)) st := by
              have : xs.isEmpty = false := by simpa using hx
              rw [this] at h; exact h
            cases neg with
            | false => exact SeqAt.RcAt.lists_lengths l1.isList l2.isList hsz rm.units prog w No _ (Post.stay R (.bool _) hh)
            | true => exact SeqAt.RcNeAt.lists_lengths l1.isList l2.isList hsz rm.units prog w No _ (Post.stay R (.bool _) hh)
    · have r1 := R.obj _ _ _ f1 ea
      have r2 := R.obj _ _ _ f2 eb
      cases r1 with
      | list l1 q1 =>
        cases r2 with
        | list l2 q2 =>
          obtain ⟨o1, k1, e1, c1, _, d1⟩ := l1
          obtain ⟨o2, k2, e2, c2, _, d2⟩ := l2
          refine cmp_reads rm (.list e1 c1 d1 (readsAll_keys q1)) (.list e2 c2 d2 (readsAll_keys q2)) ?_ ?_ ?_ (Post.stay R (.bool _) ?_)
          · simp [PyData.canLay0, canLayAll_keys]
          · simp [PyData.canLay0, canLayAll_keys]
          · have := depthAll_keys ks
            simp only [PyData.depth]; omega
          · rw [PyData.eqv, eqvAll_keys]; exact h
    · have r1 := R.obj _ _ _ f1 ea
      have r2 := R.obj _ _ _ f2 eb
      have m1 := R.low _ (List.mem_of_getElem? ea)
      have m2 := R.low _ (List.mem_of_getElem? eb)
      cases r1 with
      | dictT d1 q1 _ =>
        cases r2 with
        | dictT d2 q2 _ => exact deq_cmp m1 m2 (by have := rm.units1; omega) d1 d2 q1 q2 (Post.stay R (.bool _) h)

theorem s2_ord (op : CmpOp) (f : Int → Int → Bool) (hf : ∀ (A : Around) (s : Shared) (a b : Int) (t u : Tok) (Q : Value → Shared → Prop), Q (.bool (f a b)) s → wpAny (model prog w) A (compareOp op (.int a t) (.int b u)) Q No s) :
    S2 prog w lev (compareOp op) (wOrdV f) := fun A rm σ st s Q u v u' v' R ru rv h => by
  cases ru <;> cases rv <;> try (exact h.elim)
  exact hf _ _ _ _ _ _ _ (Post.stay R (.bool _) h)

theorem isNone_of {σ : List Addr} {h : Heap} {u : Value} {v : V} (rv : RV σ h u v) : (u == Value.none) = v.isNone := by
  cases rv <;> first | rfl | (exact beq_eq_false_iff_ne.mpr (fun q => by cases q))
theorem s2_is (neg : Bool) : S2 prog w lev (compareOp (if neg then .IsNot else .Is)) (wIsV neg) := fun A rm σ st s Q u v u' v' R ru rv h => by
  cases rv with
  | none =>
    have hh : Q (.bool (neg ^^ v.isNone)) st := by cases v <;> exact h
    cases neg with
    | false =>
      refine PySem.is_none (Post.stay R (.bool _) ?_)
      rw [isNone_of ru]; simpa using hh
    | true =>
      refine PySem.isNot_none (Post.stay R (.bool _) ?_)
      rw [isNone_of ru]; simpa using hh
  | _ => cases v <;> exact h.elim

theorem keyT_rv_inj {σ : List Addr} {h : Heap} {u : Value} {k k' : Int × Int} (r : RV σ h u (keyT k)) (r' : RV σ h u (keyT k')) : k = k' := by
  obtain ⟨k1, k2⟩ := k; obtain ⟨l1, l2⟩ := k'
  have z : ∀ {v v' : V} {x : Value}, RV σ h x v → RV σ h x v' → ∀ i j, v = .int i → v' = .int j → i = j := fun {v v' x} a b i j e e' => by
    subst e; subst e'; cases a; cases b; rfl
  unfold keyT at r r'
  cases r with
  | tup t q =>
    cases r' with
    | tup t' q' =>
      obtain ⟨o, e, _, n, d⟩ := t
      obtain ⟨o', e', _, n', d'⟩ := t'
      rw [e] at e'; cases e'
      rw [d] at d'
      injection d' with d1 d2
      have := congrArg Array.toList d1
      simp only at this; subst this
      cases q with
      | cons a q => cases q with
        | cons b q => cases q' with
          | cons a' q' => cases q' with
            | cons b' q' => exact Prod.ext (z a a' _ _ rfl rfl) (z b b' _ _ rfl rfl)

theorem eqAt_keys {A : Around} {s : Shared} {σ : List Addr} {y x : Value} {k' k : Int × Int} (hu : A.units < cLine) (ry : RV σ s.heap y (keyT k')) (rx : RV σ s.heap x (keyT k)) : SeqAt.EqAt A s y x (decide (k' = k)) := by
  by_cases hxy : y = x
  · subst hxy
    rw [keyT_rv_inj ry rx]; simpa using SeqAt.EqAt.same y
  · unfold keyT at ry rx
    cases ry with
    | tup t q =>
      cases rx with
      | tup t' q' =>
        cases q with
        | cons a q => cases q with
          | cons b q => cases a; cases b; cases q; cases q' with
            | cons a' q' => cases q' with
              | cons b' q' =>
                cases a'; cases b'; cases q'
                have H := SeqAt.RcAt.tuples (A := A) (s := s) (e := fun j => if j = 0 then k'.1 == k.1 else k'.2 == k.2) t t' hu (fun j h1 h2 => by
                  match j, h1 with
                  | 0, _ => exact SeqAt.EqAt.int_int _ _ _ _
                  | 1, _ => exact SeqAt.EqAt.int_int _ _ _ _
                  | n + 2, h1 => simp at h1; omega)
                have e : ∀ n m : Nat, n = 2 → m = 2 → ((List.range (min n m)).all (fun j => if j = 0 then k'.1 == k.1 else k'.2 == k.2) && n == m) = decide (k' = k) := by
                  rintro n m rfl rfl
                  show ((List.range 2).all _ && true) = _
                  obtain ⟨a, b⟩ := k; obtain ⟨a', b'⟩ := k'
                  by_cases h1 : a' = a <;> by_cases h2 : b' = b <;> simp [List.range_succ, h1, h2]
                have H := (show SeqAt.RcAt A s _ _ (((List.range (min 2 2)).all (fun j => if j = 0 then k'.1 == k.1 else k'.2 == k.2) && 2 == 2)) from H)
                rw [e 2 2 rfl rfl] at H
                exact .of_refs (fun q => hxy (congrArg Value.ref q)) H

open Classical in
theorem any_keys {σ : List Addr} {h : Heap} (k : Int × Int) : ∀ {vals : List Value} {ks : List (Int × Int)}, RVs σ h vals (ks.map keyT) → (vals.any fun y => decide (RV σ h y (keyT k))) = decide (k ∈ ks) ∧ ∀ y, y ∈ vals → ∃ k', RV σ h y (keyT k') ∧ decide (RV σ h y (keyT k)) = decide (k' = k)
  | [], [], _ => ⟨by simp, fun y hy => absurd hy (by simp)⟩
  | v :: vals, k' :: ks, .cons a r => by
    obtain ⟨i1, i2⟩ := any_keys k r
    have e : decide (RV σ h v (keyT k)) = decide (k' = k) := by
      refine decide_eq_decide.mpr ⟨fun q => keyT_rv_inj a q, fun q => q ▸ a⟩
    refine ⟨?_, fun y hy => ?_⟩
    · rw [List.any_cons, i1, e]
      by_cases q : k' = k <;> simp [q, eq_comm]
      intro h'; exact absurd h'.symm q
    · rcases List.mem_cons.mp hy with rfl | hy
      · exact ⟨k', a, e⟩
      · exact i2 y hy

theorem s2_in (neg : Bool) : S2 prog w lev (compareOp (if neg then .NotIn else .In)) (wInV neg) := fun A rm σ st s Q u v u' v' R ru rv h => by
  cases rv with
  | @loc n a em =>
    have m1 := R.low _ (List.mem_of_getElem? em)
    have hh : (∃ k es, v = .int k ∧ st[n]? = some (O.dI es) ∧ Q (.bool (neg ^^ (dget es k).isSome)) st) ∨ (∃ l k es, v = keyT k ∧ st[n]? = some (O.dT l es) ∧ Q (.bool (neg ^^ (dget es k).isSome)) st) ∨ (∃ (k : Int × Int) (ks : List (Int × Int)), v = keyT k ∧ st[n]? = some (O.list (ks.map keyT)) ∧ Q (.bool (neg ^^ decide (k ∈ ks))) st) := by cases v <;> exact h
    clear h
    rcases hh with ⟨k, es, rfl, f, h⟩ | ⟨lk, k, es, rfl, f, h⟩ | ⟨k, ks, rfl, f, h⟩
    · cases ru with
      | int _ t =>
        have ro := R.obj _ _ _ f em
        cases ro with
        | @dictI kvs _ d q =>
          have key : (valueAt kvs k).isSome = (dget es k).isSome := by
            rcases q.es.get k with ⟨e1, e2⟩ | ⟨u, v, e1, e2, _⟩ <;> rw [e1, e2] <;> rfl
          cases neg with
          | false =>
            refine wpAny_in_of (knd := intKind prog w) (k := k) (by simp [intKind, Value.isInt]) m1 d.mapOf (Post.same R (.bool _) ?_)
            rw [key]; simpa using h
          | true =>
            refine wpAny_notIn_of (knd := intKind prog w) (k := k) (by simp [intKind, Value.isInt]) m1 d.mapOf (Post.same R (.bool _) ?_)
            rw [key]; simpa using h
    · obtain ⟨b, rfl, tk1⟩ := key_of ru (prog := prog) (w := w)
      · have ro := R.obj _ _ _ f em
        cases ro with
        | @dictT _ kvs _ d q _ =>
          have key : (atKey kvs (keyL k)).isSome = (dget es k).isSome := by
            rcases q.get k with ⟨e1, e2⟩ | ⟨a, u, v, e1, e2, _⟩ <;> rw [e1, e2] <;> rfl
          have hu : A.units + 1 < cLine := by have := rm.units1; omega
          cases neg with
          | false =>
            refine wpAny_in_heap (knd := tk prog w) hu tk1 m1 d (Post.same R (.bool _) ?_)
            rw [key]; simpa using h
          | true =>
            refine wpAny_notIn_heap (knd := tk prog w) hu tk1 m1 d (Post.same R (.bool _) ?_)
            rw [key]; simpa using h
    · have ro := R.obj _ _ _ f em
      cases ro with
      | list l q =>
        obtain ⟨i1, i2⟩ := any_keys (h := s.heap) k q
        have hu : A.in1.units < cLine := by show A.units + 1 < cLine; have := rm.units1; omega
        have he : ∀ y, y ∈ (List.toArray _) → SeqAt.EqAt A.in1 s y u (Classical.propDecidable (RV σ s.heap y (keyT k)) |>.decide) := fun y hy => by
          obtain ⟨k', r1, r2⟩ := i2 y (by simpa using hy)
          have := eqAt_keys (A := A.in1) (s := s) hu r1 ru
          rw [← r2] at this; exact this
        cases neg with
        | false =>
          refine SeqAt.in_listAt _ l.isList he (Post.stay R (.bool _) ?_)
          rw [List.any_toArray]
          rw [i1]; simpa using h
        | true =>
          refine SeqAt.notIn_listAt _ l.isList he (Post.stay R (.bool _) ?_)
          rw [List.any_toArray]
          rw [i1]; simpa using h
  | tup t rs =>
    rename_i a vals vs
    cases vs with
    | nil =>
      have hh : Q (.bool (neg ^^ false)) st := by cases v <;> exact h
      cases rs
      cases neg with
      | false => exact SeqAt.in_tupleAt (fun _ => false) t (fun y hy => absurd hy (by simp)) (Post.stay R (.bool _) (by simpa using hh))
      | true => exact SeqAt.notIn_tupleAt (fun _ => false) t (fun y hy => absurd hy (by simp)) (Post.stay R (.bool _) (by simpa using hh))
    | cons _ _ => cases v <;> exact h.elim
  | _ => cases v <;> exact h.elim

theorem s2_cmp (op : CmpOp) : S2 prog w lev (compareOp op) (wCmpV op) := by
  cases op with
  | Eq => exact s2_eq false
  | NotEq => exact s2_eq true
  | Lt => exact s2_ord _ _ fun A s a b t u Q h => PyProof.Rows.lt_int h
  | LtE => exact s2_ord _ _ fun A s a b t u Q h => PyProof.Rows.le_int h
  | Gt => exact s2_ord _ _ fun A s a b t u Q h => PyProof.Rows.gt_int h
  | GtE => exact s2_ord _ _ fun A s a b t u Q h => PyProof.Rows.ge_int h
  | Is => exact s2_is false
  | IsNot => exact s2_is true
  | In => exact s2_in false
  | NotIn => exact s2_in true

theorem se_cmp {a b : Expr} {wa wb : WE} (op : CmpOp) (pos : Pos) (ha : SE prog w lev cx (eval a cx.env) wa) (hb : SE prog w lev cx (eval b cx.env) wb) (hm : behindInMarks op b = false) :
    SE prog w lev cx (eval (.Compare a [op] [b] pos) cx.env) (wCmp op wa wb) := SE.bind2 (w2 := wCmpV op) ha hb (s2_cmp op) fun A E s Q h => wpAny_Compare1 h hm

theorem sb_cmp {a b : Expr} {wa wb : WE} (op : CmpOp) (pos : Pos) (whole : Sem Value) (ha : SE prog w lev cx (eval a cx.env) wa) (hb : SE prog w lev cx (eval b cx.env) wb) (hm : behindInMarks op b = false) :
    SB prog w lev cx (isTrue (.Compare a [op] [b] pos) cx.env whole) (wTest (wCmp op wa wb)) := by
  intro A rm σ st η s Q I h
  refine wpAny_isTrue_Compare1 (wpAny_mono (ha A rm σ st η s _ I h) ?_ fun _ _ x => x) hm
  refine fun u s₁ pz => pz.elim fun v st₁ σ₁ h₁ tk₁ X₁ R₁ rv h => ?_
  refine wpAny_mono (hb A rm σ₁ st₁ η _ _ (I.ext X₁ R₁) h) ?_ fun _ _ x => x
  refine fun u' s₂ pz => pz.elim fun v' st₂ σ₂ h₂ tk₂ X₂ R₂ rv' h => ?_
  refine wpAny_mono (s2_cmp op A rm σ₂ st₂ _ _ u v u' v' R₂ (rv.ext X₂ R₁) rv' h) ?_ fun _ _ x => x
  refine fun u₃ s₃ pz => pz.elim fun v₃ st₃ σ₃ h₃ tk₃ X₃ R₃ rv₃ h => ?_
  refine wpAny_mono (s1_truth A rm σ₃ st₃ _ _ u₃ v₃ R₃ rv₃ h) (fun b s' p => ?_) fun _ _ x => x
  exact PostB.trans X₁ (PostB.trans X₂ (PostB.trans X₃ p))
end
end Mine
end

section -- Ex6
set_option autoImplicit false
set_option linter.unusedVariables false
namespace Mine

noncomputable def wItemV : W2
  | .tup vs, .int i, st, Q => 0 ≤ i ∧ i < 1000 ∧ ∃ v, vs[i.toNat]? = some v ∧ Q v st
  | .loc n, k, st, Q => (∃ i vs v, k = .int i ∧ 0 ≤ i ∧ i < 1000 ∧ st[n]? = some (.list vs) ∧ vs[i.toNat]? = some v ∧ Q v st) ∨
      (∃ i es v, k = .int i ∧ st[n]? = some (.dI es) ∧ dget es i = some v ∧ Q v st) ∨
      (∃ l i es v, k = keyT i ∧ st[n]? = some (.dT l es) ∧ dget es i = some v ∧ Q v st) ∨
      (∃ i es v, k = .str i ∧ st[n]? = some (.dS es) ∧ dget es i = some v ∧ Q v st)
  | _, _, _, _ => False
noncomputable def wItem (a b : WE) : WE := fun η st Q => a η st fun v st₁ => b η st₁ fun v' st₂ => wItemV v v' st₂ Q
/-- [:k], [k:] of a list -/
noncomputable def wTakeV : W2
  | .loc n, .int k, st, Q => 0 ≤ k ∧ ∃ vs, (st[n]? = some (.list vs) ∨ ∃ ob, st[n]? = some (.fro ob vs)) ∧ vs.length ≤ 1000 ∧ Q (.loc st.length) (st ++ [.list (vs.take k.toNat)])
  | .tup vs, .int k, st, Q => k = 5 ∧ vs.length = 7 ∧ Q (.tup (vs.take 5)) st
  | _, _, _, _ => False
noncomputable def wDropV : W2
  | .loc n, .int k, st, Q => 0 ≤ k ∧ ∃ vs, st[n]? = some (.list vs) ∧ vs.length ≤ 1000 ∧ Q (.loc st.length) (st ++ [.list (vs.drop k.toNat)])
  | _, _, _, _ => False
noncomputable def wRevV : W1
  | .loc n, st, Q => ∃ vs, st[n]? = some (.list vs) ∧ vs.length ≤ 1000 ∧ Q (.loc st.length) (st ++ [.list vs.reverse])
  | _, _, _ => False
noncomputable def wTake (a b : WE) : WE := fun η st Q => a η st fun v st₁ => b η st₁ fun v' st₂ => wTakeV v v' st₂ Q
noncomputable def wDrop (a b : WE) : WE := fun η st Q => a η st fun v st₁ => b η st₁ fun v' st₂ => wDropV v v' st₂ Q
noncomputable def wRev (a : WE) : WE := fun η st Q => a η st fun v st₁ => wRevV v st₁ Q

section
variable {prog : Program} {w : World} {r : RootD} {lev : Nat} {cx : Cx}

theorem s2_item (value slice : Expr) (hs : ∀ o i, subscripted slice false o i = operate [o, i] (getItem o i)) : S2 prog w lev (subscriptTail value slice) wItemV := fun A rm σ st s Q u v u' v' R ru rv h => by
  cases ru with
  | @tup a vals vs t rs =>
    cases rv with
    | int i tk =>
      obtain ⟨h0, h1, x, hx, h⟩ := h
      obtain ⟨y, hy, ry⟩ := rs.get hx
      refine tail_any (T := "tuple") (by obtain ⟨o, e, c, _⟩ := t; exact ⟨o, e, c⟩) PyProof.Rows.slot_tuple_getitem.lookup ?_ (hs _ _)
      refine PyProof.Rows.getItem_tuple t (by omega) (by omega) (j := i.toNat) ?_ (by simpa using hy) (Post.stay R ry h)
      unfold seqIndex?
      have hl := (List.getElem?_eq_some_iff.mp hy).1
      have c1 : ¬ i < 0 := by omega
      simp only [c1, if_false]
      rw [if_pos]
      simp only [Bool.and_eq_true, decide_eq_true_eq, List.size_toArray]
      omega
    | _ => exact h.elim
  | @loc n a ea =>
    rcases h with ⟨i, vs, x, rfl, h0, h1, f, hx, h⟩ | ⟨i, es, x, rfl, f, hx, h⟩ | ⟨lk, i, es, x, rfl, f, hx, h⟩ | ⟨i, es, x, rfl, f, hx, h⟩
    · cases rv with
      | int _ tk =>
        have ro := R.obj _ _ _ f ea
        cases ro with
        | list l rs =>
          obtain ⟨y, hy, ry⟩ := rs.get hx
          refine tail_any (T := "list") (by obtain ⟨o, e, c, _⟩ := l.isList; exact ⟨o, e, c⟩) PySem.slot_list_getitem.lookup ?_ (hs _ _)
          exact wpAny_getItem_list l.isList h0 (by omega) (by simpa using hy) (Post.stay R ry h)
    · cases rv with
      | int _ tk =>
        have ro := R.obj _ _ _ f ea
        cases ro with
        | @dictI kvs _ d q =>
          rcases q.es.get i with ⟨e1, e2⟩ | ⟨u, v, e1, e2, ru⟩
          · rw [hx] at e1; cases e1
          · rw [hx] at e1; cases e1
            refine tail_any (T := "dict") d.typeIs PySem.slot_dict_getitem.lookup ?_ (hs _ _)
            exact wpAny_getItem_of (knd := intKind prog w) (k := i) (by simp [intKind, Value.isInt]) d.mapOf e2 (Post.same R ru h)
    · obtain ⟨b, rfl, tk1⟩ := key_of rv (prog := prog) (w := w)
      have ro := R.obj _ _ _ f ea
      cases ro with
      | @dictT _ kvs _ d q _ =>
        rcases q.get i with ⟨e1, e2⟩ | ⟨c, u, v, e1, e2, ru⟩
        · rw [hx] at e1; cases e1
        · rw [hx] at e1; cases e1
          refine tail_any (T := "dict") d.typeIs PySem.slot_dict_getitem.lookup ?_ (hs _ _)
          exact wpAny_getItem_heap (knd := tk prog w) (by show A.units + 1 < cLine; have := rm.units1; omega) tk1 d e2 (Post.same R ru h)
    · cases rv with
      | str _ tk =>
        have ro := R.obj _ _ _ f ea
        cases ro with
        | @dictS kvs _ d q =>
          rcases q.get i with ⟨e1, e2⟩ | ⟨u, v, e1, e2, ru⟩
          · rw [hx] at e1; cases e1
          · rw [hx] at e1; cases e1
            refine tail_any (T := "dict") d.typeIs PySem.slot_dict_getitem.lookup ?_ (hs _ _)
            exact wpAny_getItem_of (knd := strKind prog w) (k := Str.ofString i) (strKind_is _ _ _ _) d.mapOf e2 (Post.same R ru h)
  | _ => exact h.elim

theorem se_item {a b : Expr} {wa wb : WE} (pos : Pos) (ha : SE prog w lev cx (eval a cx.env) wa) (hb : SE prog w lev cx (eval b cx.env) wb)
    (hs : ∀ o i, subscripted b false o i = operate [o, i] (getItem o i)) : SE prog w lev cx (eval (.Subscript a b pos) cx.env) (wItem wa wb) :=
  SE.bind2 (w2 := wItemV) ha hb (s2_item a b hs) fun A E s Q h => Subscript_ h

/-! slices -/
theorem seven {l : List Value} (h : l.length = 7) : ∃ a b c d e f g, l = [a, b, c, d, e, f, g] := by
  obtain ⟨a, l0, e0, h0⟩ := cons_of h
  obtain ⟨b, l1, e1, h1⟩ := cons_of h0
  obtain ⟨c, l2, e2, h2⟩ := cons_of h1
  obtain ⟨d, l3, e3, h3⟩ := cons_of h2
  obtain ⟨e, l4, e4, h4⟩ := cons_of h3
  obtain ⟨f, l5, e5, h5⟩ := cons_of h4
  obtain ⟨g, l6, e6, h6⟩ := cons_of h5
  exact ⟨a, b, c, d, e, f, g, by rw [e0, e1, e2, e3, e4, e5, e6, List.eq_nil_of_length_eq_zero h6]⟩
theorem slice5 {t sl : Addr} {items : Array Value} {u : Tok} {A : Around} {E : Value → Shared → Prop} {s : Shared} {Q : Value → Shared → Prop} (ht : IsTup s.heap t items) (hs : s.heap.IsSliceOf sl .none (.int 5 u) .none) (hz : items.size = 7)
    (h : Q (.ref s.heap.objs.size) { s with heap := s.heap.push { cls := .type "tuple", data := .seq (items.toList.take 5).toArray } }) : wpAny (model prog w) A (getItem (.ref t) (.ref sl)) Q E s := by
  obtain ⟨os, hos, hcs, hds⟩ := id hs
  have hTs : s.TypeIs (.ref sl) "slice" := ⟨os, hos, hcs⟩
  unfold getItem
  try with_reducible refine wpAny_holding ?_
  first | refine wpAny_bind (wpAny_pure ?_) | skip
  refine wpAny_bind (wpAny_sequenceKey ht.typeIs (by decide) ?_)
  refine wpAny_bind (wpAny_callSpecial?_slot (name := Str.ofString "__getitem__") ht.typeIs PyProof.Rows.slot_tuple_getitem
    (wpAny_call_entry PyProof.Rows.slot_tuple_getitem ht.typeIs PyProof.Rows.entry_tuple_getitem ?_ (PyProof.Rows.args_tuple_getitem _ _)))
  show wpAny _ _ (Builtin.Tuple.tupleItemsOf (.ref t) >>= _) _ _ s
  refine wpAny_bind (tupleItemsOf_ ht ?_)
  refine wpAny_bind (wpAny_typeOf hTs ?_)
  rw [if_pos (by decide)]
  refine wpAny_bind ?_
  unfold Builtin.Slice.sliceApplied Builtin.Slice.sliceFields
  refine wpAny_bind (wpAny_bind (wpAny_field hos hds (x := .none) rfl (wpAny_bind (wpAny_field hos hds (x := .int 5 u) rfl (wpAny_bind (wpAny_field hos hds (x := .none) rfl (wpAny_pure ?_)))))))
  refine wpAny_bind (slicePart_none ?_)
  show wpAny _ _ (if ((1 : Int) == 0) = true then _ else _) _ _ s
  rw [if_neg (by decide)]
  refine wpAny_bind (slicePart_none (wpAny_bind (slicePart_int (wpAny_bind (wpAny_pure ?_)))))
  show wpAny _ _ (match Builtin.Slice.sliceAdjust none (some (5 : Int)) 1 (items.size : Int) with | (lo, hi) => pure (lo, (1 : Int), Builtin.Slice.slicePlaces lo hi 1)) _ _ s
  rw [hz]
  have e : (match Builtin.Slice.sliceAdjust none (some (5 : Int)) 1 ((7 : Nat) : Int) with | (lo, hi) => (pure (lo, (1 : Int), Builtin.Slice.slicePlaces lo hi 1) : Sem (Int × Int × Nat))) = pure (0, 1, 5) := by
    have e1 : Builtin.Slice.sliceAdjust none (some (5 : Int)) 1 ((7 : Nat) : Int) = (0, 5) := by decide
    have e2 : Builtin.Slice.slicePlaces 0 5 1 = 5 := by decide
    rw [e1]; simp only [e2]
  rw [e]
  refine wpAny_pure ?_
  show wpAny _ _ (if ((0 : Int) == 0 && (1 : Int) == 1 && (5 : Nat) == 7) = true then _ else _) _ _ s
  rw [if_neg (by decide)]
  obtain ⟨l⟩ := items
  have hl : l.length = 7 := by simpa using hz
  clear hos hcs hds hTs hs ht
  obtain ⟨x0, x1, x2, x3, x4, x5, x6, rfl⟩ := seven hl
  · have e3 : ((List.range 5).filterMap fun (k : Nat) => (#[x0, x1, x2, x3, x4, x5, x6] : Array Value)[((0 : Int) + (k : Int) * 1).toNat]?).toArray = #[x0, x1, x2, x3, x4] := by rfl
    have hdrop : sizeOk (.seq #[x0, x1, x2, x3, x4]) := by
      show (#[x0, x1, x2, x3, x4] : Array Value).size ≤ sizeLine
      rw [sizeLine_eq]; show (5 : Nat) ≤ 16777216; decide
    have h' : Q (.ref s.heap.objs.size) { s with heap := s.heap.push { cls := .type "tuple", data := .seq #[x0, x1, x2, x3, x4] } } := h
    rw [e3]
    exact wpAny_bind (m := Builtin.Tuple.tupleExact _) (wpAny_newObj_type (wpAny_pure ⟨_, rfl, wpAny_pure h'⟩) hdrop)

theorem post_slice {σ : List Addr} {st : St} {s : Shared} {us : List Value} {vs : List V} {Q : V → St → Prop} {o : Obj} (R : Rep prog w σ st s.heap) (rvs : RVs σ s.heap us vs) (q : Q (.loc st.length) (st ++ [.list vs])) :
    Post prog w σ s Q (.ref (s.heap.push o).objs.size) { s with heap := (s.heap.push o).push { cls := .type "list", data := .seq us.toArray } } :=
  Post.trans (tk := s.toks) (.grow (grow_push s.heap o)) (newList_post (s := { s with heap := s.heap.push o }) (R.grow (grow_push s.heap o)) (rvs.mono (List.prefix_refl _) (tk_grow (grow_push _ _))) q)

theorem se_take {a b : Expr} {wa wb : WE} (p pos : Pos) (ha : SE prog w lev cx (eval a cx.env) wa) (hb : SE prog w lev cx (eval b cx.env) wb) :
    SE prog w lev cx (eval (.Subscript a (.Slice none (some b) none p) pos) cx.env) (wTake wa wb) := by
  intro A rm σ st η s Q I h
  refine Subscript_ (wpAny_mono (ha A rm σ st η s _ I h) ?_ fun _ _ x => x)
  refine fun u s₁ pz => pz.elim fun v st₁ σ₁ h₁ tk₁ X₁ R₁ rv h => ?_
  refine wpAny_Slice (wpAny_evalPart_none (wpAny_evalPart_some (wpAny_mono (hb A rm σ₁ st₁ η _ _ (I.ext X₁ R₁) h) ?_ fun _ _ x => x)))
  refine fun u' s₂ pz => pz.elim fun v' st₂ σ₂ h₂ tk₂ X₂ R₂ rv' h => ?_
  refine wpAny_evalPart_none ?_
  have rv2 := rv.ext X₂ R₁
  refine wpAny_mono (Q := Post prog w σ₂ { s with heap := h₂, toks := tk₂ } Q) (E := No) ?_ (fun u s' p => Post.trans X₁ (Post.trans X₂ p)) fun _ _ x => x
  cases rv2 with
  | @tup a vals vs t rs =>
    cases rv' with
    | int i tk =>
      obtain ⟨rfl, hz, h⟩ := h
      have n1 := rs.length
      have g := grow_push h₂ { cls := .type "slice", data := .fields #[Value.none, .int 5 tk, .none] }
      have t' := tk_grow g _ _ t
      refine tail_any (T := "tuple") (by obtain ⟨o, e, c, _⟩ := t'; exact ⟨o, e, c⟩) PyProof.Rows.slot_tuple_getitem.lookup ?_ (ops := [_, _]) rfl
      refine slice5 t' (Heap.IsSliceOf.new ..) (by simp [n1, hz]) ?_
      refine ⟨.tup (vs.take 5), st₂, σ₂, _, tk₂, rfl, .grow (fun b o e => grow_push _ _ b o (g b o e)), R₂.grow (fun b o e => grow_push _ _ b o (g b o e)), ?_, h⟩
      exact .tup (vals := vals.take 5) ⟨_, Heap.get?_push_size _ rfl, rfl, 0, by simp⟩ ((rs.take 5).mono (List.prefix_refl _) (tk_grow (fun b o e => grow_push _ _ b o (g b o e))))
    | _ => exact h.elim
  | @loc n a ea =>
    cases rv' with
    | int k tk =>
      obtain ⟨h0, vs, f, hz, h⟩ := h
      have hu : ∃ us, h₂.IsList a (List.toArray us) ∧ RVs σ₂ h₂ us vs := by
        rcases f with f | ⟨ob, f⟩
        · have ro := R₂.obj _ _ _ f ea
          cases ro with
          | list l rs => exact ⟨_, l.isList, rs⟩
        · have ro := R₂.obj _ _ _ f ea
          cases ro with
          | fro e c d rs => exact ⟨_, ⟨_, e, c, _, d⟩, rs⟩
      obtain ⟨us, l, rs⟩ := hu
      have n1 := rs.length
      have g := grow_push h₂ { cls := .type "slice", data := .fields #[Value.none, .int k tk, .none] }
      have l' : (h₂.push { cls := .type "slice", data := .fields #[Value.none, .int k tk, .none] }).IsList a us.toArray := l.at fun o e => g _ _ e
      refine tail_any (T := "list") (by obtain ⟨o, e, c, _⟩ := l'; exact ⟨o, e, c⟩) PySem.slot_list_getitem.lookup ?_ (ops := [_, _]) rfl
      refine wpAny_getItem_list_slice (hsz := by rw [List.size_toArray, sizeLine_eq]; omega) l' (Heap.IsSliceOf.new ..) .none (.int k tk) .none (by simp) ?_
      have ek : some k = some (((k.toNat : Nat) : Int)) := by congr 1; omega
      rw [ek, slicePick_upto']
      exact post_slice (s := { s with heap := h₂, toks := tk₂ }) (us := us.take k.toNat) R₂ (rs.take _) h
    | _ => exact h.elim
  | _ => exact h.elim
theorem se_drop {a b : Expr} {wa wb : WE} (p pos : Pos) (ha : SE prog w lev cx (eval a cx.env) wa) (hb : SE prog w lev cx (eval b cx.env) wb) :
    SE prog w lev cx (eval (.Subscript a (.Slice (some b) none none p) pos) cx.env) (wDrop wa wb) := by
  intro A rm σ st η s Q I h
  refine Subscript_ (wpAny_mono (ha A rm σ st η s _ I h) ?_ fun _ _ x => x)
  refine fun u s₁ pz => pz.elim fun v st₁ σ₁ h₁ tk₁ X₁ R₁ rv h => ?_
  refine wpAny_Slice (wpAny_evalPart_some (wpAny_mono (hb A rm σ₁ st₁ η _ _ (I.ext X₁ R₁) h) ?_ fun _ _ x => x))
  refine fun u' s₂ pz => pz.elim fun v' st₂ σ₂ h₂ tk₂ X₂ R₂ rv' h => ?_
  refine wpAny_evalPart_none (wpAny_evalPart_none ?_)
  have rv2 := rv.ext X₂ R₁
  refine wpAny_mono (Q := Post prog w σ₂ { s with heap := h₂, toks := tk₂ } Q) (E := No) ?_ (fun u s' p => Post.trans X₁ (Post.trans X₂ p)) fun _ _ x => x
  cases rv2 with
  | @loc n a ea =>
    cases rv' with
    | int k tk =>
      obtain ⟨h0, vs, f, hz, h⟩ := h
      have ro := R₂.obj _ _ _ f ea
      cases ro with
      | @list us _ l rs =>
        have n1 := rs.length
        have g := grow_push h₂ { cls := .type "slice", data := .fields #[.int k tk, .none, .none] }
        have l' : (h₂.push { cls := .type "slice", data := .fields #[.int k tk, .none, .none] }).IsList a us.toArray := l.isList.at fun o e => g _ _ e
        refine tail_any (T := "list") (by obtain ⟨o, e, c, _⟩ := l'; exact ⟨o, e, c⟩) PySem.slot_list_getitem.lookup ?_ (ops := [_, _]) rfl
        refine wpAny_getItem_list_slice (hsz := by rw [List.size_toArray, sizeLine_eq]; omega) l' (Heap.IsSliceOf.new ..) (.int k tk) .none .none (by simp) ?_
        have ek : some k = some (((k.toNat : Nat) : Int)) := by congr 1; omega
        rw [ek, slicePick_from']
        exact post_slice (s := { s with heap := h₂, toks := tk₂ }) (us := us.drop k.toNat) R₂ (rs.drop _) h
    | _ => exact h.elim
  | _ => exact h.elim
/-- [::-1] -/
theorem se_rev {a : Expr} {wa : WE} (k : Nat) (p1 p2 p pos : Pos) (ha : SE prog w lev cx (eval a cx.env) wa) :
    SE prog w lev cx (eval (.Subscript a (.Slice none none (some (.UnaryOp .USub (.Constant (.int 1) k p1) p2)) p) pos) cx.env) (wRev wa) := by
  intro A rm σ st η s Q I h
  refine Subscript_ (wpAny_mono (ha A rm σ st η s _ I h) ?_ fun _ _ x => x)
  refine fun u s₁ pz => pz.elim fun v st₁ σ₁ h₁ tk₁ X₁ R₁ rv h => ?_
  refine wpAny_Slice (wpAny_evalPart_none (wpAny_evalPart_none (wpAny_evalPart_some (wpAny_UnaryOp (wpAny_Constant_int (PyProof.Rows.neg_int ?_))))))
  refine wpAny_mono (Q := Post prog w σ₁ { s with heap := h₁, toks := tk₁ } Q) (E := No) ?_ (fun u s' p => Post.trans X₁ p) fun _ _ x => x
  cases rv with
  | @loc n a ea =>
    obtain ⟨vs, f, hz, h⟩ := h
    have ro := R₁.obj _ _ _ f ea
    cases ro with
    | @list us _ l rs =>
      have n1 := rs.length
      have g := grow_push h₁ { cls := .type "slice", data := .fields #[Value.none, .none, .int (-1) (tk₁ + 1)] }
      have l' : (h₁.push { cls := .type "slice", data := .fields #[Value.none, .none, .int (-1) (tk₁ + 1)] }).IsList a us.toArray := l.isList.at fun o e => g _ _ e
      refine tail_any (T := "list") (by obtain ⟨o, e, c, _⟩ := l'; exact ⟨o, e, c⟩) PySem.slot_list_getitem.lookup ?_ (ops := [_, _]) rfl
      refine wpAny_getItem_list_slice (hsz := by rw [List.size_toArray, sizeLine_eq]; omega) l' (Heap.IsSliceOf.new ..) .none .none (.int (-1) _) (by simp) ?_
      rw [krv_pick]
      have := post_slice (o := { cls := .type "slice", data := .fields #[Value.none, .none, .int (-1) (tk₁ + 1)] }) (s := { s with heap := h₁, toks := tk₁ }) (us := us.reverse) R₁ rs.reverse h
      obtain ⟨v, st', σ', h', tk', e, X', R', rv', q⟩ := this
      exact ⟨v, st', σ', h', tk₁ + 1 + 1, by injection e with e1 _ _ _ _; rw [← e1], X', R', rv', q⟩
  | _ => exact h.elim
end
end Mine
end

section -- St1
set_option autoImplicit false
set_option linter.unusedVariables false
namespace Mine

inductive Fl where
  | next
  | cont
  | ret (v : V)
abbrev WS := AE → St → (Fl → AE → St → Prop) → Prop
inductive RFl (σ : List Addr) (h : Heap) : Flow → Fl → Prop
  | next : RFl σ h .next .next
  | cont : RFl σ h .cont .cont
  | ret {u : Value} {v : V} : RV σ h u v → RFl σ h (.ret u) (.ret v)

/-- as Ext, for a statement: the frame's own places may change as well -/
structure ExtS (cx : Cx) (σ : List Addr) (h : Heap) (σ' : List Addr) (h' : Heap) : Prop where
  pre : σ <+: σ'
  keep : ∀ a o, h.get? a = some o → a ∉ σ → a ≠ cx.env.locals → (∀ x, cx.env.cells.lookup x ≠ some a) → h'.get? a = some o
  new : ∀ a, a ∈ σ' → a ∉ σ → h.get? a = none
  frame : ∀ a, a = cx.env.locals ∨ (∃ x, cx.env.cells.lookup x = some a) → ∀ vals, ¬ h.IsTuple a vals

section
variable (prog : Program) (w : World) (r : RootD)
noncomputable def PostS (cx : Cx) (σ : List Addr) (s : Shared) (Q : Fl → AE → St → Prop) : Flow → Shared → Prop := fun fl s' =>
  ∃ f η' st' σ' h' tk, s' = { s with heap := h', toks := tk } ∧ Inv prog w cx σ' st' η' h' ∧ ExtS cx σ s.heap σ' h' ∧ RFl σ' h' fl f ∧ Q f η' st'
noncomputable def SS1 (lev : Nat) (cx : Cx) (b : Stmt) (wt : WS) : Prop :=
  ∀ A, Room lev A → ∀ σ st η s Q, Inv prog w cx σ st η s.heap → wt η st Q → wpAny (model prog w) A (exec b cx.env) (PostS prog w cx σ s Q) No s
noncomputable def SS (lev : Nat) (cx : Cx) (b : List Stmt) (wt : WS) : Prop :=
  ∀ A, Room lev A → ∀ σ st η s Q, Inv prog w cx σ st η s.heap → wt η st Q → wpAny (model prog w) A (execs b cx.env) (PostS prog w cx σ s Q) No s
end

noncomputable def wSkip : WS := fun η st Q => Q .next η st
noncomputable def wSeq (a b : WS) : WS := fun η st Q => a η st fun f η₁ st₁ => match f with
  | .next => b η₁ st₁ Q
  | f => Q f η₁ st₁
noncomputable def wRet (a : WE) : WS := fun η st Q => a η st fun v st₁ => Q (.ret v) η st₁
noncomputable def wCont : WS := fun η st Q => Q .cont η st
noncomputable def wIfS (c : WB) (a b : WS) : WS := fun η st Q => c η st fun x st₁ => if x = true then a η st₁ Q else b η st₁ Q
noncomputable def V.plain : V → Bool
  | .none | .int _ | .bool _ => true
  | _ => false
noncomputable def wExprS (a : WE) : WS := fun η st Q => a η st fun v st₁ => v.plain = true ∧ Q .next η st₁
noncomputable def wAssign (x : String) (a : WE) : WS := fun η st Q => a η st fun v st₁ => Q .next (AE.set x v η) st₁
noncomputable def wFalse : WS := fun _ _ _ => False
/-- what comes later: unfolded when it is reached -/
noncomputable def wLater (b : WS) : WS := b
theorem later {b : WS} {η : AE} {st : St} {Q : Fl → AE → St → Prop} (h : b η st Q) : wLater b η st Q := h

section
variable {prog : Program} {w : World} {r : RootD} {lev : Nat} {cx : Cx}

theorem ns_notTuple {h : Heap} {L : Addr} {m : Str → Option Value} (n : h.Ns L m) (vals : Array Value) : ¬ h.IsTuple L vals := fun t => by
  obtain ⟨o, es, ep, e, d, _⟩ := n
  obtain ⟨o', e', _, k, d'⟩ := t
  rw [e] at e'; cases e'; rw [d] at d'; cases d'
theorem cell_notTuple {h : Heap} {c : Addr} {v : Option Value} (n : h.IsCell c v) (vals : Array Value) : ¬ h.IsTuple c vals := fun t => by
  obtain ⟨o, e, d⟩ := n
  obtain ⟨o', e', _, k, d'⟩ := t
  rw [e] at e'; cases e'; rw [d] at d'; cases d'
theorem ns_notCell {h : Heap} {L : Addr} {m : Str → Option Value} (n : h.Ns L m) {v : Option Value} (c : h.IsCell L v) : False := by
  obtain ⟨o, es, ep, e, d, _⟩ := n
  obtain ⟨o', e', d'⟩ := c
  rw [e] at e'; cases e'; rw [d] at d'; cases d'
theorem Inv.frame {σ : List Addr} {st : St} {η : AE} {h : Heap} (I : Inv prog w cx σ st η h) (a : Addr) (f : a = cx.env.locals ∨ (∃ x, cx.env.cells.lookup x = some a)) (vals : Array Value) : ¬ h.IsTuple a vals := by
  rcases f with rfl | ⟨x, e⟩
  · obtain ⟨m, n, _⟩ := I.loc; exact ns_notTuple n vals
  · obtain ⟨v, c⟩ := I.cell x a e; exact cell_notTuple c vals
theorem Inv.refl {σ : List Addr} {st : St} {η : AE} {h : Heap} (I : Inv prog w cx σ st η h) : ExtS cx σ h σ h := ⟨List.prefix_refl _, fun _ _ e _ _ _ => e, fun _ m n => absurd m n, I.frame⟩
theorem Inv.extS {σ : List Addr} {st : St} {η : AE} {h : Heap} {σ' : List Addr} {h' : Heap} (I : Inv prog w cx σ st η h) (X : Ext σ h σ' h') : ExtS cx σ h σ' h' := ⟨X.pre, fun a o e n _ _ => X.keep a o e n, X.new, I.frame⟩
theorem ExtS.trans {σ σ' σ'' : List Addr} {h h' h'' : Heap} (x : ExtS cx σ h σ' h') (y : ExtS cx σ' h' σ'' h'') (hf : cx.env.locals ∉ σ') (hc : ∀ x c, cx.env.cells.lookup x = some c → c ∉ σ') (hl : ∀ a, a = cx.env.locals ∨ (∃ x, cx.env.cells.lookup x = some a) → ∃ o, h'.get? a = some o) : ExtS cx σ h σ'' h'' := by
  refine ⟨x.pre.trans y.pre, fun a o e n n1 n2 => ?_, fun a m n => ?_, x.frame⟩
  · refine y.keep a o (x.keep a o e n n1 n2) (fun m => ?_) n1 n2
    rw [x.new a m n] at e; cases e
  · by_cases m' : a ∈ σ'
    · exact x.new a m' n
    · cases q : h.get? a with
      | none => rfl
      | some o =>
        by_cases n1 : a = cx.env.locals
        · obtain ⟨o', e'⟩ := hl a (.inl n1); rw [y.new a m m'] at e'; cases e'
        · by_cases n2 : ∃ x, cx.env.cells.lookup x = some a
          · obtain ⟨o', e'⟩ := hl a (.inr n2); rw [y.new a m m'] at e'; cases e'
          · have := x.keep a o q n n1 (fun z hz => n2 ⟨z, hz⟩); rw [y.new a m m'] at this; cases this
theorem ExtS.thenI {σ σ' σ'' : List Addr} {st' : St} {η' : AE} {h h' h'' : Heap} (x : ExtS cx σ h σ' h') (I' : Inv prog w cx σ' st' η' h') (y : ExtS cx σ' h' σ'' h'') : ExtS cx σ h σ'' h'' :=
  x.trans y I'.Loff I'.coff fun a f => by
    rcases f with rfl | ⟨z, e⟩
    · obtain ⟨m, ⟨o, _, _, e, _⟩, _⟩ := I'.loc; exact ⟨o, e⟩
    · obtain ⟨v, o, e, _⟩ := I'.cell z a e; exact ⟨o, e⟩
theorem ExtS.tk {σ σ' : List Addr} {st : St} {h h' : Heap} (X : ExtS cx σ h σ' h') (R : Rep prog w σ st h) : TK h h' := fun a vals t => by
  have n := R.offTuple t
  have n1 : a ≠ cx.env.locals := fun z => X.frame a (.inl z) vals t
  have n2 : ∀ x, cx.env.cells.lookup x ≠ some a := fun x z => X.frame a (.inr ⟨x, z⟩) vals t
  obtain ⟨o, e, r⟩ := t
  exact ⟨o, X.keep a o e n n1 n2, r⟩

theorem PostS.elim {σ : List Addr} {s : Shared} {Q : Fl → AE → St → Prop} {fl : Flow} {motive : Shared → Prop} {s' : Shared} (p : PostS prog w cx σ s Q fl s')
    (k : ∀ f η' st' σ' h' tk, Inv prog w cx σ' st' η' h' → ExtS cx σ s.heap σ' h' → RFl σ' h' fl f → Q f η' st' → motive { s with heap := h', toks := tk }) : motive s' := by
  obtain ⟨f, η', st', σ', h', tk, rfl, I, X, rf, q⟩ := p; exact k f η' st' σ' h' tk I X rf q

theorem PostS.el {σ : List Addr} {s : Shared} {Q : Fl → AE → St → Prop} {fl : Flow} {z : Prop} {s' : Shared} (p : PostS prog w cx σ s Q fl s')
    (k : ∀ f η' st' σ' h' tk, s' = { s with heap := h', toks := tk } → Inv prog w cx σ' st' η' h' → ExtS cx σ s.heap σ' h' → RFl σ' h' fl f → Q f η' st' → z) : z := by
  obtain ⟨f, η', st', σ', h', tk, e, I, X, rf, q⟩ := p; exact k f η' st' σ' h' tk e I X rf q
theorem PostS.trans {σ σ' : List Addr} {s : Shared} {st' : St} {η' : AE} {h' : Heap} {tk : Nat} {Q : Fl → AE → St → Prop} {u : Flow} {s' : Shared} (I : Inv prog w cx σ' st' η' h') (ht : ExtS cx σ s.heap σ' h')
    (p : PostS prog w cx σ' { s with heap := h', toks := tk } Q u s') : PostS prog w cx σ s Q u s' := by
  obtain ⟨f, η', st', σ'', h'', tk', e, I', t, rf, q⟩ := p
  exact ⟨f, η', st', σ'', h'', tk', e, I', ht.thenI I t, rf, q⟩

theorem ss_nil : SS prog w lev cx [] wSkip := fun A rm σ st η s Q I h =>
  wpAny_execs_nil ⟨.next, η, st, σ, s.heap, s.toks, rfl, I, I.refl, .next, h⟩
theorem ss_cons {a : Stmt} {rest : List Stmt} {wa wr : WS} (ha : SS1 prog w lev cx a wa) (hr : SS prog w lev cx rest wr) : SS prog w lev cx (a :: rest) (wSeq wa wr) := fun A rm σ st η s Q I h => by
  refine wpAny_execs_cons (wpAny_mono (ha A rm σ st η s _ I h) ?_ fun _ _ x => x)
  refine fun fl s' pz => pz.el ?_
  clear pz; rintro f η' st' σ' h' tk rfl I' t rf q
  cases rf with
  | next => exact wpAny_mono (hr A rm σ' st' η' _ _ I' q) (fun _ _ x => PostS.trans I' t x) fun _ _ x => x
  | cont => exact ⟨.cont, η', st', σ', h', tk, rfl, I', t, .cont, q⟩
  | ret rv => exact ⟨.ret _, η', st', σ', h', tk, rfl, I', t, .ret rv, q⟩
theorem ss_one {a : Stmt} {wa : WS} (ha : SS1 prog w lev cx a wa) : SS prog w lev cx [a] wa := fun A rm σ st η s Q I h => by
  refine wpAny_execs_cons (wpAny_mono (ha A rm σ st η s _ I h) ?_ fun _ _ x => x)
  refine fun fl s' pz => pz.el ?_
  clear pz; rintro f η' st' σ' h' tk rfl I' t rf q
  cases rf with
  | next => exact wpAny_execs_nil ⟨.next, η', st', σ', h', tk, rfl, I', t, .next, q⟩
  | cont => exact ⟨.cont, η', st', σ', h', tk, rfl, I', t, .cont, q⟩
  | ret rv => exact ⟨.ret _, η', st', σ', h', tk, rfl, I', t, .ret rv, q⟩
theorem ss_false (b : List Stmt) : SS prog w lev cx b wFalse := fun A rm σ st η s Q I h => h.elim
theorem ss1_false (b : Stmt) : SS1 prog w lev cx b wFalse := fun A rm σ st η s Q I h => h.elim

/-- from an expression's end to a statement's -/
theorem inv_of_post {σ : List Addr} {st st' : St} {η : AE} {s : Shared} {σ' : List Addr} {h' : Heap} (I : Inv prog w cx σ st η s.heap) (X : Ext σ s.heap σ' h') (R : Rep prog w σ' st' h') : Inv prog w cx σ' st' η h' ∧ ExtS cx σ s.heap σ' h' := ⟨I.ext X R, I.extS X⟩

theorem ss1_ret {a : Expr} {wa : WE} (pos : Pos) (ha : SE prog w lev cx (eval a cx.env) wa) : SS1 prog w lev cx (.Return (some a) pos) (wRet wa) := fun A rm σ st η s Q I h => by
  refine wpAny_Return_some (wpAny_mono (ha A rm σ st η s _ I h) ?_ fun _ _ x => x)
  refine fun u s' pz => pz.elim fun v st' σ' h' tk X R rv q => ?_
  obtain ⟨I', T⟩ := inv_of_post I X R
  exact ⟨.ret v, η, st', σ', h', tk, rfl, I', T, .ret rv, q⟩
theorem ss1_cont (pos : Pos) : SS1 prog w lev cx (.Continue pos) wCont := fun A rm σ st η s Q I h =>
  wpAny_Continue ⟨.cont, η, st, σ, s.heap, s.toks, rfl, I, I.refl, .cont, h⟩
theorem ss1_if {c : Expr} {a b : List Stmt} {wc : WB} {wa wb : WS} (pos : Pos) (hc : SB prog w lev cx (isTrue c cx.env (eval c cx.env)) wc) (ha : SS prog w lev cx a wa) (hb : SS prog w lev cx b wb) :
    SS1 prog w lev cx (.If c a b pos) (wIfS wc wa wb) := fun A rm σ st η s Q I h => by
  refine wpAny_If (wpAny_mono (hc A rm σ st η s _ I h) ?_ fun _ _ x => x)
  refine fun b s' pz => pz.el ?_
  clear pz; rintro st' σ' h' tk rfl X R q
  obtain ⟨I', T⟩ := inv_of_post I X R
  cases b with
  | true => exact wpAny_mono (ha A rm σ' st' η _ _ I' q) (fun _ _ p => PostS.trans I' T p) fun _ _ x => x
  | false => exact wpAny_mono (hb A rm σ' st' η _ _ I' q) (fun _ _ p => PostS.trans I' T p) fun _ _ x => x
theorem ss1_expr {a : Expr} {wa : WE} (pos : Pos) (ha : SE prog w lev cx (eval a cx.env) wa) (hi : interactive cx.env = false) (hs : swapsWith a none pos.line cx.env = pure false) :
    SS1 prog w lev cx (.Expr a pos) (wExprS wa) := fun A rm σ st η s Q I h => by
  refine PySem.wpAny_Expr (wpAny_mono (ha A rm σ st η s _ I h) ?_ fun _ _ x => x) hi hs
  refine fun u s' pz => pz.el ?_
  clear pz; rintro v st' σ' h' tk rfl X R rv hh
  obtain ⟨hp, q⟩ := hh
  obtain ⟨I', T⟩ := inv_of_post I X R
  have fin : PostS prog w cx σ s Q .next { s with heap := h', toks := tk } := ⟨.next, η, st', σ', h', tk, rfl, I', T, .next, q⟩
  cases rv <;> first | exact fin | (exact absurd hp (by simp [V.plain]))

/-- one place of the frame's own is written -/
theorem Inv.touch {σ : List Addr} {st : St} {η : AE} {h h' : Heap} {p : Addr} (I : Inv prog w cx σ st η h) (hs : ∀ b, b ≠ p → h'.get? b = h.get? b) (hp : p ∉ σ) (hb : cx.base.get? p = none)
    (ht : ∀ vals, ¬ h.IsTuple p vals) (he : ∃ o, h'.get? p = some o) : Rep prog w σ st h' ∧ TK h h' ∧ ∀ b o, cx.base.get? b = some o → h'.get? b = some o := by
  have T : TK h h' := fun a vals t => by
    have ne : a ≠ p := fun q => ht vals (q ▸ t)
    obtain ⟨o, e, q⟩ := t
    exact ⟨o, (hs a ne).trans e, q⟩
  refine ⟨⟨I.rep.len, I.rep.nodup, fun i o a e f => (I.rep.obj i o a e f).mono (List.prefix_refl _) T (fun ob e' => (hs a fun q => hp (q ▸ List.mem_of_getElem? f)).trans e'), I.rep.low, ?_⟩, T, fun b o e => ?_⟩
  · obtain ⟨b, o, l, e⟩ := I.rep.anchor
    by_cases q : b = p
    · subst q; obtain ⟨o', e'⟩ := he; exact ⟨b, o', l, e'⟩
    · exact ⟨b, o, l, (hs b q).trans e⟩
  · have ne : b ≠ p := fun q => by subst q; rw [hb] at e; cases e
    exact (hs b ne).trans (I.keep b o e)

/-- a name of the frame is bound (local) -/
theorem store_local (C : CxOk prog r cx) {x : String} (hk : cx.env.kindOf (Str.ofString x) = some .local) {σ : List Addr} {st : St} {η : AE} {s : Shared} {u : Value} {v : V} {A : Around} (I : Inv prog w cx σ st η s.heap) (rv : RV σ s.heap u v) {Q : Unit → Shared → Prop}
    (h : ∀ h', Inv prog w cx σ st (AE.set x v η) h' → ExtS cx σ s.heap σ h' → Q () { s with heap := h', toks := s.toks + 1 }) : wpAny (model prog w) A (storeName cx.env (Str.ofString x) u) Q No s := by
  obtain ⟨m, hn, hm⟩ := I.loc
  refine wpAny_storeName_local hk hn (fun h' hn' hs => ?_) (by rw [C.kind]; rfl)
  obtain ⟨R, T, K⟩ := I.touch hs.2 I.Loff C.lown (ns_notTuple hn) (let ⟨o, _, _, e, _⟩ := hn'; ⟨o, e⟩)
  refine h h' ⟨R, K, I.off, ⟨_, hn', fun y v' k e => ?_⟩, fun y v' k e => ?_, fun y c e => ?_, I.Loff, I.coff⟩ ⟨List.prefix_refl _, fun a o e _ n1 _ => (hs.2 a n1).trans e, fun _ m n => absurd m n, I.frame⟩
  · by_cases q : y = x
    · subst q
      simp only [AE.set, if_true, Option.some.injEq] at e; subst e
      exact ⟨u, by simp, rv.mono (List.prefix_refl _) T⟩
    · simp only [AE.set, if_neg q] at e
      obtain ⟨u', e1, e2⟩ := hm y v' k e
      exact ⟨u', by rw [if_neg (fun z => q (ofString_inj z))]; exact e1, e2.mono (List.prefix_refl _) T⟩
  · have q : y ≠ x := fun z => by subst z; rw [hk] at k; rcases k with k | k <;> cases k
    simp only [AE.set, if_neg q] at e
    obtain ⟨c, u', e1, e2, e3⟩ := I.cells y v' k e
    exact ⟨c, u', e1, e2.sameBut hs (fun z => ns_notCell hn (z ▸ e2)), e3.mono (List.prefix_refl _) T⟩
  · obtain ⟨v', e2⟩ := I.cell y c e
    exact ⟨v', e2.sameBut hs (fun z => ns_notCell hn (z ▸ e2))⟩
/-- a name of the frame is bound (a cell) -/
theorem store_cell (C : CxOk prog r cx) (O : Own cx) {x : String} (hk : cx.env.kindOf (Str.ofString x) = some .cell) (hc : (cx.env.cells.lookup (Str.ofString x)).isSome = true) {σ : List Addr} {st : St} {η : AE} {s : Shared} {u : Value} {v : V} {A : Around} (I : Inv prog w cx σ st η s.heap) (rv : RV σ s.heap u v) {Q : Unit → Shared → Prop}
    (h : ∀ h', Inv prog w cx σ st (AE.set x v η) h' → ExtS cx σ s.heap σ h' → Q () { s with heap := h' }) : wpAny (model prog w) A (storeName cx.env (Str.ofString x) u) Q No s := by
  obtain ⟨c, hc⟩ := Option.isSome_iff_exists.mp hc
  obtain ⟨v₀, hv₀⟩ := I.cell _ c hc
  obtain ⟨m, hn, hm⟩ := I.loc
  refine wpAny_storeName_cell C.kind hk hc hv₀ (fun h' hc' hs => ?_)
  obtain ⟨R, T, K⟩ := I.touch hs.2 (I.coff _ _ hc) (O.own _ _ hc) (cell_notTuple hv₀) (let ⟨o, e, _⟩ := hc'; ⟨o, e⟩)
  have nL : cx.env.locals ≠ c := fun z => ns_notCell hn (z ▸ hv₀)
  refine h h' ⟨R, K, I.off, ⟨_, hn.sameBut hs nL, fun y v' k e => ?_⟩, fun y v' k e => ?_, fun y c' e => ?_, I.Loff, I.coff⟩ ⟨List.prefix_refl _, fun a o e _ _ n2 => (hs.2 a fun z => n2 _ (z ▸ hc)).trans e, fun _ m n => absurd m n, I.frame⟩
  · have q : y ≠ x := fun z => by subst z; rw [hk] at k; cases k
    simp only [AE.set, if_neg q] at e
    obtain ⟨u', e1, e2⟩ := hm y v' k e
    exact ⟨u', e1, e2.mono (List.prefix_refl _) T⟩
  · by_cases q : y = x
    · subst q
      simp only [AE.set, if_true, Option.some.injEq] at e; subst e
      exact ⟨c, u, hc, hc', rv.mono (List.prefix_refl _) T⟩
    · simp only [AE.set, if_neg q] at e
      obtain ⟨c', u', e1, e2, e3⟩ := I.cells y v' k e
      exact ⟨c', u', e1, e2.sameBut hs (fun z => q (ofString_inj (O.apart _ _ c (z ▸ e1) hc))), e3.mono (List.prefix_refl _) T⟩
  · by_cases q : c' = c
    · subst q; exact ⟨_, hc'⟩
    · obtain ⟨v', e2⟩ := I.cell y c' e
      exact ⟨v', e2.sameBut hs q⟩

/-- how a name is bound, in one word -/
noncomputable def Bind (prog : Program) (w : World) (cx : Cx) (x : String) : Prop := ∀ {σ : List Addr} {st : St} {η : AE} {s : Shared} {u : Value} {v : V} {A : Around}, Inv prog w cx σ st η s.heap → RV σ s.heap u v → ∀ {Q : Unit → Shared → Prop},
  (∀ h' tk, Inv prog w cx σ st (AE.set x v η) h' → ExtS cx σ s.heap σ h' → Q () { s with heap := h', toks := tk }) → wpAny (model prog w) A (storeName cx.env (Str.ofString x) u) Q No s
theorem bind_local (C : CxOk prog r cx) {x : String} (hk : cx.env.kindOf (Str.ofString x) = some .local) : Bind prog w cx x := fun I rv _ h => store_local C hk I rv fun h' I' T => h h' _ I' T
theorem bind_cell (C : CxOk prog r cx) (O : Own cx) {x : String} (hk : cx.env.kindOf (Str.ofString x) = some .cell) (hc : (cx.env.cells.lookup (Str.ofString x)).isSome = true) : Bind prog w cx x :=
  fun {σ st η s u v A} I rv Q h => store_cell C O hk hc I rv fun h' I' T => h h' s.toks I' T

theorem ss1_assign {x : String} {a : Expr} {wa : WE} (p pos : Pos) (hb : Bind prog w cx x) (ha : SE prog w lev cx (eval a cx.env) wa) (hs : swapsWith a (some (.Name (Str.ofString x) p)) pos.line cx.env = pure false) :
    SS1 prog w lev cx (.Assign [.Name (Str.ofString x) p] a pos) (wAssign x wa) := fun A rm σ st η s Q I h => by
  refine PySem.wpAny_Assign_Name (wpAny_mono (ha A rm σ st η s _ I h) ?_ fun _ _ x => x) hs
  refine fun u s' pz => pz.elim fun v st' σ' h' tk X R rv q => ?_
  obtain ⟨I', T⟩ := inv_of_post I X R
  refine hb (s := { s with heap := h', toks := tk }) I' rv fun h'' tk' I'' T' => ?_
  exact ⟨.next, _, st', σ', h'', tk', rfl, I'', T.thenI I' T', .next, q⟩
end
end Mine
end

section -- St2
set_option autoImplicit false
set_option linter.unusedVariables false
namespace Mine

noncomputable def setAll : List String → List V → AE → AE
  | n :: ns, v :: vs, η => setAll ns vs (AE.set n v η)
  | _, _, η => η
noncomputable def wAssignT (ns : List String) (a : WE) : WS := fun η st Q => a η st fun v st₁ => ∃ vs, v = .tup vs ∧ vs.length = ns.length ∧ Q .next (setAll ns vs η) st₁
noncomputable def wSetV (o k v : V) (st : St) (Q : St → Prop) : Prop := match o with
  | .loc n => (∃ i xs, k = .int i ∧ 0 ≤ i ∧ i.toNat < xs.length ∧ xs.length ≤ 1000 ∧ st[n]? = some (.list xs) ∧ Q (st.set n (.list (xs.set i.toNat v)))) ∨
      (∃ i es, k = .int i ∧ es.length ≤ 1000 ∧ st[n]? = some (.dI es) ∧ Q (st.set n (.dI (dput es i v)))) ∨
      (∃ i es, k = keyT i ∧ es.length ≤ 1000 ∧ st[n]? = some (.dT none es) ∧ Q (st.set n (.dT none (dput es i v))))
  | _ => False
noncomputable def wSetItem (a o k : WE) : WS := fun η st Q => a η st fun v st₁ => o η st₁ fun ov st₂ => k η st₂ fun kv st₃ => wSetV ov kv v st₃ fun st₄ => Q .next η st₄

section
variable {prog : Program} {w : World} {r : RootD} {lev : Nat} {cx : Cx}

inductive Tg (prog : Program) (w : World) (cx : Cx) : List Expr → List String → Prop
  | nil : Tg prog w cx [] []
  | cons {x : String} {p : Pos} {es : List Expr} {ns : List String} : Bind prog w cx x → Tg prog w cx es ns → Tg prog w cx (.Name (Str.ofString x) p :: es) (x :: ns)
theorem Tg.length {es : List Expr} {ns : List String} (t : Tg prog w cx es ns) : es.length = ns.length := by
  induction t with
  | nil => rfl
  | cons _ _ ih => simp [ih]
theorem Tg.each {es : List Expr} {ns : List String} (t : Tg prog w cx es ns) : (assignEach es cx.env).length = ns.length ∧ (assignEach es cx.env).findIdx? (·.1) = none := by
  induction t with
  | nil => exact ⟨rfl, rfl⟩
  | @cons x p es ns _ _ ih =>
    have e : assignEach (.Name (Str.ofString x) p :: es) cx.env = (false, assign (.Name (Str.ofString x) p) cx.env) :: assignEach es cx.env := rfl
    rw [e]
    refine ⟨by simp [ih.1], ?_⟩
    rw [List.findIdx?_cons, ih.2]; rfl

theorem Tg.assign {es : List Expr} {ns : List String} (t : Tg prog w cx es ns) : ∀ {σ : List Addr} {st : St} {η : AE} {s : Shared} {us : List Value} {vs : List V} {A : Around} {Q : Unit → Shared → Prop}, Inv prog w cx σ st η s.heap → RVs σ s.heap us vs → us.length = ns.length →
    (∀ h' tk, Inv prog w cx σ st (setAll ns vs η) h' → ExtS cx σ s.heap σ h' → Q () { s with heap := h', toks := tk }) → wpAny (model prog w) A (assignInOrder ((assignEach es cx.env).map (·.2)) us) Q No s := by
  induction t with
  | nil =>
    intro σ st η s us vs A Q I r hl h
    cases r with
    | nil => exact wpAny_pure (h s.heap s.toks I I.refl)
    | cons _ _ => simp at hl
  | @cons x p es ns b _ ih =>
    intro σ st η s us vs A Q I r hl h
    cases r with
    | nil => simp at hl
    | @cons u v us vs ru rus =>
      have e : (assignEach (.Name (Str.ofString x) p :: es) cx.env).map (·.2) = PySem.assign (.Name (Str.ofString x) p) cx.env :: (assignEach es cx.env).map (·.2) := rfl
      rw [e]
      show wpAny _ _ (holding us (PySem.assign (.Name (Str.ofString x) p) cx.env u) >>= fun _ => assignInOrder ((assignEach es cx.env).map (·.2)) us) _ _ _
      refine wpAny_bind (wpAny_holding (wpAny_assign_Name (b I ru fun h' tk I' T => ?_)))
      refine ih (s := { s with heap := h', toks := tk }) I' (rus.mono (List.prefix_refl _) (T.tk I.rep)) (by simpa using hl) fun h'' tk' I'' T' => ?_
      exact h h'' tk' I'' (T.thenI I' T')

theorem ss1_assignT {es : List Expr} {ns : List String} {a : Expr} {wa : WE} (k : Nat) (p pos : Pos) (t : Tg prog w cx es ns) (ha : SE prog w lev cx (eval a cx.env) wa)
    (hs : swapsWithSole [.Tuple es k p] a pos.line cx.env = pure false) (hw : swappedStores [.Tuple es k p] a cx.env = pure none) :
    SS1 prog w lev cx (.Assign [.Tuple es k p] a pos) (wAssignT ns wa) := fun A rm σ st η s Q I h => by
  refine Assign_Tuple (wpAny_mono (ha A rm σ st η s _ I h) ?_ fun _ _ x => x) hs hw
  refine fun u s' pz => pz.elim fun v st' σ' h' tk X R rv hh => ?_
  obtain ⟨vs, rfl, hl, q⟩ := hh
  obtain ⟨I', T⟩ := inv_of_post I X R
  cases rv with
  | @tup a vals _ tt rs =>
    have hlen := rs.length
    show wpAny _ _ (do standAt p; unpack (.ref a) (assignEach es cx.env)) _ _ _
    refine wpAny_bind (wpAny_standAt (wpAny_unpack_tuple rm.hand tt (by rw [t.each.1]; simp [hlen, hl]) t.each.2 fun h'' he => ?_))
    have g : ∀ b o, h'.get? b = some o → h''.get? b = some o := fun b o e => he b o (Nat.ne_of_lt (Heap.lt_size e)) e
    have I2 := I'.ext (.grow g) (R.grow g)
    refine t.assign (s := { s with heap := h'', toks := tk }) I2 (rs.mono (List.prefix_refl _) (tk_grow g)) (by simp [hlen, hl]) fun h3 tk3 I3 T3 => ?_
    exact ⟨.next, _, st', σ', h3, tk3, rfl, I3, T.thenI I' ((I'.extS (.grow g)).thenI I2 T3), .next, q⟩

theorem setAll2 {a b : String} (h : a ≠ b) (x y : V) (η : AE) : setAll [b, a] [y, x] η = setAll [a, b] [x, y] η := by
  funext z
  simp only [setAll, AE.set]
  by_cases h1 : z = a
  · subst h1; simp [h]
  · by_cases h2 : z = b
    · subst h2; simp [Ne.symm h]
    · simp [h1, h2]
theorem setAll3 {a b c : String} (h1 : a ≠ b) (h2 : a ≠ c) (h3 : b ≠ c) (x y z : V) (η : AE) : setAll [c, b, a] [z, y, x] η = setAll [a, b, c] [x, y, z] η := by
  funext u
  simp only [setAll, AE.set]
  by_cases k1 : u = a
  · subst k1; simp [h1, h2]
  · by_cases k2 : u = b
    · subst k2; simp [k1, h3]
    · by_cases k3 : u = c
      · subst k3; simp [Ne.symm h2, Ne.symm h3]
      · simp [k1, k2, k3]

/-- binds in order, by names -/
theorem bindsInOrder : ∀ {ns : List String} (hb : ∀ x, x ∈ ns → Bind prog w cx x) {σ : List Addr} {st : St} {η : AE} {s : Shared} {us : List Value} {vs : List V} {A : Around} {Q : Unit → Shared → Prop}, Inv prog w cx σ st η s.heap → RVs σ s.heap us vs → us.length = ns.length →
    (∀ h' tk, Inv prog w cx σ st (setAll ns vs η) h' → ExtS cx σ s.heap σ h' → Q () { s with heap := h', toks := tk }) → wpAny (model prog w) A (assignInOrder (ns.map fun n => bindName cx.env (Str.ofString n)) us) Q No s
  | [], hb, σ, st, η, s, us, vs, A, Q, I, r, hl, h => by
    cases r with
    | nil => exact wpAny_pure (h s.heap s.toks I I.refl)
    | cons _ _ => simp at hl
  | x :: ns, hb, σ, st, η, s, us, vs, A, Q, I, r, hl, h => by
    cases r with
    | nil => simp at hl
    | @cons u v us vs ru rus =>
      show wpAny _ _ (holding us (bindName cx.env (Str.ofString x) u) >>= fun _ => assignInOrder (ns.map fun n => bindName cx.env (Str.ofString n)) us) _ _ _
      refine wpAny_bind (wpAny_holding (wpAny_bindName (hb x List.mem_cons_self I ru fun h' tk I' T => ?_)))
      refine bindsInOrder (fun y hy => hb y (List.mem_cons_of_mem _ hy)) (s := { s with heap := h', toks := tk }) I' (rus.mono (List.prefix_refl _) (T.tk I.rep)) (by simpa using hl) fun h'' tk' I'' T' => ?_
      exact h h'' tk' I'' (T.thenI I' T')

/-- two or three names at once -/
theorem ss1_assignW {es : List Expr} {ns : List String} {a : Expr} {wa : WE} (k : Nat) (p pos : Pos) (hb : ∀ x, x ∈ ns → Bind prog w cx x) (ha : SE prog w lev cx (eval a cx.env) wa)
    (hs : swapsWithSole [.Tuple es k p] a pos.line cx.env = pure false) (hw : swappedStores [.Tuple es k p] a cx.env = pure (some (ns.map Str.ofString)))
    (hn : ∀ vs η, vs.length = ns.length → setAll ns.reverse (List.reverse vs) η = setAll ns vs η) :
    SS1 prog w lev cx (.Assign [.Tuple es k p] a pos) (wAssignT ns wa) := fun A rm σ st η s Q I h => by
  refine Assign_Tuple_swapped (wpAny_mono (ha A rm σ st η s _ I h) ?_ fun _ _ x => x) hs hw
  refine fun u s' pz => pz.elim fun v st' σ' h' tk X R rv hh => ?_
  obtain ⟨vs, rfl, hl, q⟩ := hh
  obtain ⟨I', T⟩ := inv_of_post I X R
  cases rv with
  | @tup a vals _ tt rs =>
    have hlen := rs.length
    have hz : (ns.map Str.ofString).length = vals.toArray.size := by simp [hlen, hl]
    rw [hz]
    refine unpackItems_tuple rm.hand tt fun h'' he => ?_
    have g : ∀ b o, h'.get? b = some o → h''.get? b = some o := fun b o e => he b o (Nat.ne_of_lt (Heap.lt_size e)) e
    have I2 := I'.ext (.grow g) (R.grow g)
    have e1 : ((ns.map Str.ofString).reverse.map fun n => bindName cx.env n) = ns.reverse.map fun n => bindName cx.env (Str.ofString n) := by simp [List.map_reverse]
    rw [e1]
    refine bindsInOrder (fun x hx => hb x (List.mem_reverse.mp hx)) (s := { s with heap := h'', toks := tk }) I2 ((rs.mono (List.prefix_refl _) (tk_grow g)).reverse) (by simp [hlen, hl]) fun h3 tk3 I3 T3 => ?_
    rw [hn _ _ hl] at I3
    exact ⟨.next, _, st', σ', h3, tk3, rfl, I3, T.thenI I' ((I'.extS (.grow g)).thenI I2 T3), .next, q⟩
theorem ss1_assignW2 {es : List Expr} {x y : String} {a : Expr} {wa : WE} (k : Nat) (p pos : Pos) (hx : Bind prog w cx x) (hy : Bind prog w cx y) (hne : x ≠ y) (ha : SE prog w lev cx (eval a cx.env) wa)
    (hs : swapsWithSole [.Tuple es k p] a pos.line cx.env = pure false) (hw : swappedStores [.Tuple es k p] a cx.env = pure (some [Str.ofString x, Str.ofString y])) :
    SS1 prog w lev cx (.Assign [.Tuple es k p] a pos) (wAssignT [x, y] wa) :=
  ss1_assignW k p pos (fun z hz => by simp at hz; rcases hz with rfl | rfl; exact hx; exact hy) ha hs hw fun vs η hl => by
    match vs, hl with
    | [u, v], _ => exact setAll2 hne u v η
theorem ss1_assignW3 {es : List Expr} {x y z : String} {a : Expr} {wa : WE} (k : Nat) (p pos : Pos) (hx : Bind prog w cx x) (hy : Bind prog w cx y) (hz : Bind prog w cx z) (h1 : x ≠ y) (h2 : x ≠ z) (h3 : y ≠ z) (ha : SE prog w lev cx (eval a cx.env) wa)
    (hs : swapsWithSole [.Tuple es k p] a pos.line cx.env = pure false) (hw : swappedStores [.Tuple es k p] a cx.env = pure (some [Str.ofString x, Str.ofString y, Str.ofString z])) :
    SS1 prog w lev cx (.Assign [.Tuple es k p] a pos) (wAssignT [x, y, z] wa) :=
  ss1_assignW k p pos (fun c hc => by simp at hc; rcases hc with rfl | rfl | rfl; exact hx; exact hy; exact hz) ha hs hw fun vs η hl => by
    match vs, hl with
    | [u, v, t], _ => exact setAll3 h1 h2 h3 u v t η

theorem nodup_int {h : Heap} {a : Addr} {kvs : List (Int × Value)} (d : h.DictOf (intKind prog w) a kvs) : (kvs.map (·.1)).Nodup := let ⟨_, _, _, _, _, _, _, _, n⟩ := d; n
theorem nodup_tup {h : Heap} {a : Addr} {xs : List (List Int × Addr × Value)} (d : h.DictOfH (tk prog w) a xs) : (xs.map (·.1)).Nodup := let ⟨_, _, _, _, _, _, _, _, n⟩ := d; n

theorem setItem_plainL {A : Around} {E : Value → Shared → Prop} {s : Shared} {l : Addr} {items : Array Value} {k : Int} {t : Tok} {v : Value} {Q : Unit → Shared → Prop} (hl : PlainL s.heap l items) (h0 : 0 ≤ k) (hfit : k < 2 ^ 63) (hn : k < items.size)
    (hQ : ∀ h', PlainL h' l (items.setIfInBounds k.toNat v) → Heap.SameBut l s.heap h' → Q () { s with heap := h' }) : wpAny (model prog w) A (setItem (.ref l) (.int k t) v) Q E s := by
  obtain ⟨⟨c, dd, dt, sl⟩, ne, ho, hc, hdn, hd⟩ := id hl
  have hL := hl.isList
  simp only at hd hdn hc
  subst hd; subst hdn; subst hc
  unfold setItem
  try with_reducible refine wpAny_holding ?_
  first | refine wpAny_bind (wpAny_pure ?_) | skip
  refine wpAny_bind (wpAny_sequenceKey hL.typeIs (by decide) ?_)
  refine wpAny_bind (wpAny_callSpecial?_slot (name := Str.ofString "__setitem__") hL.typeIs slot_list_setitem (wpAny_call_entry slot_list_setitem hL.typeIs entry_list_setitem ?_ (args_list_setitem _ _ _)))
  show wpAny _ _ (Builtin.List.listSubscript? (.int k t) >>= _) _ _ s
  refine wpAny_bind (wpAny_listSubscript_int (fitsIndex_of h0 hfit) ?_)
  clear hfit
  obtain ⟨j, rfl⟩ := Int.eq_ofNat_of_zero_le h0
  have hj : j < items.size := by omega
  show wpAny _ _ ((seqItemAt l j >>= fun r => pure (r.map (j, ·))) >>= _) _ _ s
  refine wpAny_bind (wpAny_bind (wpAny_seqItemAt ho rfl (wpAny_pure ?_)))
  rw [show items[j]? = some items[j] from Array.getElem?_eq_getElem hj]
  show wpAny _ _ (setSeqItemAt l j v >>= _) _ _ s
  obtain ⟨n', hd'⟩ := Obj.data_mapSeq (o := ⟨.type "list", none, .seq items ne, sl⟩) rfl (·.setIfInBounds j v)
  have hfin : PlainL (s.heap.update l (Obj.mapSeq (·.setIfInBounds j v))) l (items.setIfInBounds j v) := ⟨_, n', Heap.get?_update_self _ ho (Obj.isFreed_of_seq hd'), (Obj.cls_mapSeq ..), rfl, hd'⟩
  refine wpAny_bind (wpAny_setSeqItemAt ho rfl ?_)
  first
    | exact wpAny_bind (wpAny_pure (wpAny_pure ⟨.none, rfl, wpAny_pure (hQ _ hfin (Heap.SameBut.update ..))⟩))
    | exact wpAny_pure ⟨.none, rfl, wpAny_pure (hQ _ hfin (Heap.SameBut.update ..))⟩

theorem s3_set {A : Around} (rm : Room lev A) {σ : List Addr} {st : St} {s : Shared} {uo uk uv : Value} {o k v : V} {Q : St → Prop} (R : Rep prog w σ st s.heap) (ro : RV σ s.heap uo o) (rk : RV σ s.heap uk k) (rv : RV σ s.heap uv v) (h : wSetV o k v st Q)
    {P : Unit → Shared → Prop} (hp : ∀ h' tk st', Rep prog w σ st' h' → Ext σ s.heap σ h' → Q st' → P () { s with heap := h', toks := tk }) : wpAny (model prog w) A (setItem uo uk uv) P No s := by
  cases ro with
  | @loc n a ea =>
    rcases h with ⟨i, xs, rfl, h0, h1, hz, f, h⟩ | ⟨i, es, rfl, hz, f, h⟩ | ⟨i, es, rfl, hz, f, h⟩
    · cases rk with
      | int _ t =>
        have ro := R.obj _ _ _ f ea
        cases ro with
        | @list us _ l rs =>
          have n1 := rs.length
          refine setItem_plainL l h0 (by omega) (by simp; omega) fun h' l' hs => ?_
          obtain ⟨R', X'⟩ := R.upd (o := .list (xs.set i.toNat v)) ea hs.extBut fun T => by
            refine .list (vals := us.set i.toNat uv) (by simpa using l') ?_
            have rs' := rs.mono (List.prefix_refl σ) T
            have rv' := rv.mono (List.prefix_refl σ) T
            clear rs f h hz h1 n1 l l' R hp ea
            generalize i.toNat = j
            revert xs j
            induction us with
            | nil => intro xs rs' j; cases rs'; simp; exact .nil
            | cons u us ih => intro xs rs' j; cases rs' with
              | cons a r => cases j with
                | zero => exact .cons rv' r
                | succ j => exact .cons a (ih _ r j)
          exact hp h' s.toks _ R' X' h
    · cases rk with
      | int _ t =>
        have ro := R.obj _ _ _ f ea
        cases ro with
        | @dictI kvs _ d q =>
          have n1 := q.es.length
          refine wpAny_setItem_pairs (knd := intKind prog w) (k := i) (hsz := by rw [sizeLine_eq]; omega) (by simp [intKind, Value.isInt]) d fun h' d' hs => ?_
          obtain ⟨R', X'⟩ := R.upd (o := .dI (dput es i v)) ea hs.extBut fun T =>
            .dictI d' ((q.mono (List.prefix_refl _) T).es.stored i (rv.mono (List.prefix_refl _) T) (nodup_int d)).esI
          exact hp h' _ _ R' X' h
    · obtain ⟨b, rfl, tk1⟩ := key_of rk (prog := prog) (w := w)
      have ro := R.obj _ _ _ f ea
      cases ro with
      | @dictT _ kvs _ d q _ =>
        have n1 := q.length
        refine wpAny_setItem_heap (knd := tk prog w) (hsz := by rw [sizeLine_eq]; omega) (by show A.units + 1 < cLine; have := rm.units1; omega) tk1 d fun h' d' hs => ?_
        obtain ⟨R', X'⟩ := R.upd (o := .dT none (dput es i v)) ea hs.extBut fun T =>
          .dictT d' ((q.mono (List.prefix_refl _) T).stored i b (rv.mono (List.prefix_refl _) T) (nodup_tup d)) (fun _ e => nomatch e)
        exact hp h' _ _ R' X' h
  | _ => exact h.elim

theorem ss1_set {a o k : Expr} {wa wo wk : WE} (p pos : Pos) (ha : SE prog w lev cx (eval a cx.env) wa) (ho : SE prog w lev cx (eval o cx.env) wo) (hk : SE prog w lev cx (eval k cx.env) wk)
    (hs : swapsWith a (some (.Subscript o k p)) pos.line cx.env = pure false) : SS1 prog w lev cx (.Assign [.Subscript o k p] a pos) (wSetItem wa wo wk) := fun A rm σ st η s Q I h => by
  refine PySem.wpAny_Assign_Subscript (wpAny_mono (ha A rm σ st η s _ I h) ?_ fun _ _ x => x) hs
  refine fun u₁ s₁ pz => pz.elim fun v₁ st₁ σ₁ h₁ tk₁ X₁ R₁ rv₁ h => ?_
  have I₁ := I.ext X₁ R₁
  refine wpAny_mono (ho A rm σ₁ st₁ η _ _ I₁ h) ?_ fun _ _ x => x
  refine fun u₂ s₂ pz => pz.elim fun v₂ st₂ σ₂ h₂ tk₂ X₂ R₂ rv₂ h => ?_
  have I₂ := I₁.ext X₂ R₂
  refine wpAny_mono (hk A rm σ₂ st₂ η _ _ I₂ h) ?_ fun _ _ x => x
  refine fun u₃ s₃ pz => pz.elim fun v₃ st₃ σ₃ h₃ tk₃ X₃ R₃ rv₃ h => ?_
  have I₃ := I₂.ext X₃ R₃
  refine s3_set (s := { s with heap := h₃, toks := tk₃ }) rm R₃ (rv₂.ext X₃ R₂) rv₃ ((rv₁.ext X₂ R₁).ext X₃ R₂) h fun h₄ tk₄ st₄ R₄ X₄ q => ?_
  have X := X₁.trans (X₂.trans (X₃.trans X₄))
  obtain ⟨I₄, T₄⟩ := inv_of_post I X R₄
  exact ⟨.next, η, st₄, σ₃, h₄, tk₄, rfl, I₄, T₄, .next, q⟩
end
end Mine
end

section -- It1
set_option autoImplicit false
set_option linter.unusedVariables false
namespace Mine

/-- a dict at an epoch, its rows as they lie -/
noncomputable def DRaw (h : Heap) (d : Addr) (es : Array DictEntry) (ep : Nat) : Prop := ∃ o, h.get? d = some o ∧ o.ExactDict ∧ o.data = .dict es ep

section
variable {prog : Program} {w : World} {A : Around} {E : Value → Shared → Prop} {s : Shared}
theorem DRaw.typeIs {d : Addr} {es : Array DictEntry} {ep : Nat} (x : DRaw s.heap d es ep) : s.TypeIs (.ref d) "dict" := let ⟨o, ho, hc, _⟩ := x; ⟨o, ho, hc.1⟩

theorem iter_draw {d : Addr} {es : Array DictEntry} {ep : Nat} {Q : Value → Shared → Prop} (hd : (d == sysModules) = false) (x : DRaw s.heap d es ep)
    (hQ : Q (.ref s.heap.objs.size) { s with heap := s.heap.push { cls := .type "dict_keyiterator", data := .fields #[.ref d, .int 0 0, .int es.size 0, .int ep 0] } }) :
    wpAny (model prog w) A (pyIter (.ref d)) Q E s := by
  have hT := x.typeIs
  obtain ⟨o, ho, hc, hdat⟩ := x
  refine wpAny_pyIter_slot hT PySem.F.slot_dict_iter (wpAny_call_entry PySem.F.slot_dict_iter hT PySem.F.entry_dict_iter ?_ (PySem.F.args_dict_iter_1 _))
  unfold Builtin.«dict.__iter__»
  refine wpAny_bind ?_
  unfold Builtin.Dict.dictSlotNone
  refine wpAny_bind (wpAny_notOrdered_dict hT ?_)
  show wpAny _ _ (pure (Value.ref d)) _ _ s
  refine wpAny_pure ?_
  show wpAny _ _ (Builtin.Dict.showsAll d >>= _) _ _ s
  unfold Builtin.Dict.showsAll
  rw [if_neg (by rw [hd]; exact Bool.false_ne_true)]
  refine wpAny_bind (wpAny_pure (wpAny_bind (wpAny_dictEntries ho hdat (wpAny_bind (wpAny_dictEpoch ho hdat ?_)))))
  refine wpAny_bind (wpAny_newObj_type (wpAny_pure ⟨_, rfl, "dict_keyiterator", _, ⟨_, Heap.get?_push_size _ rfl, rfl⟩, PySem.F.slot_dict_keyiterator_next.lookup, ?_⟩))
  simpa [rawInt] using hQ

theorem next_draw_item {it d : Addr} {i ep : Nat} {es : Array DictEntry} {e : DictEntry} {Q : Option Value → Shared → Prop} (hit : s.heap.IsKeyIter it d i es.size ep) (x : DRaw s.heap d es ep) (hx : es[i]? = some e)
    (hQ : ∀ h', h'.IsKeyIter it d (i + 1) es.size ep → Heap.SameBut it s.heap h' → Q (some e.key) { s with heap := h' }) : wpAny (model prog w) A (pyNext (.ref it)) Q E s := by
  obtain ⟨o, ho, hc, hd⟩ := id hit
  obtain ⟨od, hod, hcd, hdd⟩ := x
  unfold pyNext
  refine wpAny_bind (wpAny_attempt (wpAny_callSpecial?_slot (name := Str.ofString "__next__") hit.typeIs PySem.F.slot_dict_keyiterator_next
    (wpAny_call_entry PySem.F.slot_dict_keyiterator_next hit.typeIs PySem.F.entry_dict_keyiterator_next ?_ (PySem.F.args_dict_keyiterator_next_1 _))))
  refine wpAny_bind (wpAny_pure (wpAny_bind (wpAny_bind ?_)))
  refine wpAny_bind (wpAny_typeNameOfWhole_keyiter hit.typeIs (wpAny_pure (wpAny_bind (wpAny_fieldsOf ho hd ?_))))
  have hown : Builtin.Dict_items.ownsTuple "dict_keyiterator" = false := by decide
  simp only [hown, Bool.false_eq_true, if_false]
  show wpAny _ _ (if (Value.ref d == Value.none) = true then _ else _) _ _ s
  rw [if_neg (show ¬ ((Value.ref d == Value.none) = true) from Bool.false_ne_true)]
  refine wpAny_bind (wpAny_pure (wpAny_bind (wpAny_dictEntries hod hdd ?_)))
  rw [if_neg (by simp)]
  refine wpAny_bind (wpAny_pure (wpAny_bind (wpAny_dictEpoch hod hdd ?_)))
  rw [if_neg (by simp)]
  refine wpAny_pure ?_
  simp only [show ¬ ((i : Int) < 0) from by omega, if_false, Int.toNat_natCast, hx]
  refine wpAny_bind (wpAny_bind (wpAny_typeNameOfWhole_keyiter hit.typeIs (wpAny_pure ?_)))
  refine wpAny_bind (wpAny_isOneOf_keyiter hit.typeIs ?_)
  show wpAny _ _ (setField (.ref it) 1 (rawInt ((i : Int) + 1)) >>= _) _ _ s
  refine wpAny_bind (wpAny_setField ho hd (by simp) ?_)
  have hit' : (s.heap.update it (Obj.mapFields (·.setIfInBounds 1 (rawInt ((i : Int) + 1))))).IsKeyIter it d (i + 1) es.size ep :=
    ⟨_, Heap.get?_update_self _ ho (Obj.isFreed_of_fields (Obj.data_mapFields hd _)), (Obj.cls_mapFields ..).trans hc, by rw [Obj.data_mapFields hd]; simp [rawInt]⟩
  refine wpAny_bind (wpAny_holding (wpAny_bind (wpAny_isOneOf_keyiter (s := { s with heap := s.heap.update it (Obj.mapFields (·.setIfInBounds 1 (rawInt ((i : Int) + 1)))) }) hit'.typeIs ?_)))
  exact wpAny_pure (wpAny_pure ⟨_, rfl, wpAny_pure (hQ _ hit' (Heap.SameBut.update ..))⟩)

theorem next_draw_end {it d : Addr} {i ep : Nat} {es : Array DictEntry} {Q : Option Value → Shared → Prop} (hh : A.handled = none) (hit : s.heap.IsKeyIter it d i es.size ep) (x : DRaw s.heap d es ep) (hx : es[i]? = none)
    (hQ : ∀ h', Heap.ExtBut it s.heap h' → Q none { s with heap := h' }) : wpAny (model prog w) A (pyNext (.ref it)) Q E s := by
  obtain ⟨o, ho, hc, hd⟩ := id hit
  obtain ⟨od, hod, hcd, hdd⟩ := x
  unfold pyNext
  refine wpAny_bind (wpAny_attempt (wpAny_callSpecial?_slot (name := Str.ofString "__next__") hit.typeIs PySem.F.slot_dict_keyiterator_next
    (wpAny_call_entry PySem.F.slot_dict_keyiterator_next hit.typeIs PySem.F.entry_dict_keyiterator_next ?_ (PySem.F.args_dict_keyiterator_next_1 _))))
  refine wpAny_bind (wpAny_pure (wpAny_bind (wpAny_bind ?_)))
  refine wpAny_bind (wpAny_typeNameOfWhole_keyiter hit.typeIs (wpAny_pure (wpAny_bind (wpAny_fieldsOf ho hd ?_))))
  have hown : Builtin.Dict_items.ownsTuple "dict_keyiterator" = false := by decide
  simp only [hown, Bool.false_eq_true, if_false]
  show wpAny _ _ (if (Value.ref d == Value.none) = true then _ else _) _ _ s
  rw [if_neg (show ¬ ((Value.ref d == Value.none) = true) from Bool.false_ne_true)]
  refine wpAny_bind (wpAny_pure (wpAny_bind (wpAny_dictEntries hod hdd ?_)))
  rw [if_neg (by simp)]
  refine wpAny_bind (wpAny_pure (wpAny_bind (wpAny_dictEpoch hod hdd ?_)))
  rw [if_neg (by simp)]
  refine wpAny_pure ?_
  simp only [show ¬ ((i : Int) < 0) from by omega, if_false, Int.toNat_natCast, hx]
  refine wpAny_bind (wpAny_bind (wpAny_typeNameOfWhole_keyiter hit.typeIs (wpAny_pure ?_)))
  show wpAny _ _ (setField (.ref it) 0 .none >>= _) _ _ s
  refine wpAny_bind (wpAny_setField ho hd (by simp) ?_)
  show wpAny _ _ (newExc (.type "StopIteration") [] >>= _) _ _ _
  refine wpAny_bind ?_
  simp only [newExc, newTuple]
  refine wpAny_bind (wpAny_newObj_type ?_ (by size_fits))
  refine wpAny_bind (m := firstArgMember _ _) (wpAny_of_eq (a := Value.none) (by first | rfl | (simp only [firstArgMember]; rfl)) ?_)
  refine wpAny_newObj_type ?_ (by size_fits)
  simp only [raiseNew]
  refine wpAny_bind (wpAny_handled ?_)
  rw [show A.in1.handled = none from hh]
  refine wpAny_bind (wpAny_pure (wpAny_throw ?_))
  refine wpAny_bind (wpAny_isInstance (T := "StopIteration") (b := true) ⟨_, Heap.get?_push_size _ rfl, rfl⟩ isSubtype_stop ?_)
  exact wpAny_pure (hQ _ (((Heap.SameBut.update ..).extBut.push _).push _))

theorem letGo_rangeiter {target : Expr} {I : Addr} {x left step : Int} {v : Value} {Q' : Unit → Shared → Prop} {s' : Shared} (hit : IsRangeIter s'.heap I x left step) (h : Q' () s') :
    wpAny (model prog w) A (letOwnedTupleGo target (.ref I) v) Q' E s' := by
  unfold letOwnedTupleGo
  cases target <;> first
    | exact wpAny_pure h
    | (cases v <;> first
        | exact wpAny_pure h
        | (refine wpAny_bind (wpAny_load hit ?_)
           exact wpAny_pure h))
end

/-- an iterator at a place in what it walks over; the source that must stay -/
inductive It (σ : List Addr) (h : Heap) (I : Addr) : Option (Nat × O) → List V → Nat → Prop
  | list {n : Nat} {a : Addr} {vs : List V} {i : Nat} : σ[n]? = some a → h.IsListIter I a i → It σ h I (some (n, .list vs)) vs i
  | tup {a : Addr} {vals : List Value} {vs : List V} {i : Nat} : h.IsTuple a vals.toArray → RVs σ h vals vs → h.IsTupleIter I a i → It σ h I none vs i
  | range {x : Int} {n : Nat} {i : Nat} : IsRangeIter h I (x + i) ((n : Int) - (i : Nat)) 1 → It σ h I none ((List.range n).map fun (j : Nat) => V.int (x + j)) i
  | dict {n : Nat} {a : Addr} {ep : Nat} {es : List ((Int × Int) × V)} {i : Nat} : σ[n]? = some a → h.IsKeyIter I a i es.length ep → It σ h I (some (n, .dT (some ep) es)) (es.map fun p => keyT p.1) i
noncomputable def SrcOk (src : Option (Nat × O)) (st : St) : Prop := match src with
  | none => True
  | some (n, o) => st[n]? = some o

section
variable {prog : Program} {w : World} {A : Around} {E : Value → Shared → Prop} {s : Shared}
theorem It.there {σ : List Addr} {h : Heap} {I : Addr} {src : Option (Nat × O)} {vs : List V} {i : Nat} (t : It σ h I src vs i) : ∃ o, h.get? I = some o := by
  cases t with
  | list _ x => obtain ⟨o, e, _⟩ := x; exact ⟨o, e⟩
  | tup _ _ x => obtain ⟨o, e, _⟩ := x; exact ⟨o, e⟩
  | range x => exact ⟨_, x⟩
  | dict _ x => obtain ⟨o, e, _⟩ := x; exact ⟨o, e⟩
theorem It.notTuple {σ : List Addr} {h : Heap} {I : Addr} {src : Option (Nat × O)} {vs : List V} {i : Nat} (t : It σ h I src vs i) (vals : Array Value) : ¬ h.IsTuple I vals := by
  rintro ⟨ot, ht, hc, _⟩
  cases t with
  | list _ x => obtain ⟨o, e, c, _⟩ := x; rw [ht] at e; cases e; rw [hc] at c; exact absurd c (by decide)
  | tup _ _ x => obtain ⟨o, e, c, _⟩ := x; rw [ht] at e; cases e; rw [hc] at c; exact absurd c (by decide)
  | range x => have x : h.get? I = some _ := x; rw [ht] at x; cases x; exact absurd (show Value.type "range_iterator" = Value.type "tuple" from hc) (by decide)
  | dict _ x => obtain ⟨o, e, c, _⟩ := x; rw [ht] at e; cases e; rw [hc] at c; exact absurd c (by decide)
theorem It.keep {σ σ' : List Addr} {h h' : Heap} {I : Addr} {src : Option (Nat × O)} {vs : List V} {i : Nat} (t : It σ h I src vs i) (hs : σ <+: σ') (ht : TK h h') (hI : ∀ o, h.get? I = some o → h'.get? I = some o) : It σ' h' I src vs i := by
  cases t with
  | list e x => obtain ⟨o, e', q⟩ := x; exact .list (pre_get hs e) ⟨o, hI _ e', q⟩
  | tup e r x => obtain ⟨o, e', q⟩ := x; exact .tup (ht _ _ e) (r.mono hs ht) ⟨o, hI _ e', q⟩
  | range x => exact .range (hI _ x)
  | dict e x => obtain ⟨o, e', q⟩ := x; exact .dict (pre_get hs e) ⟨o, hI _ e', q⟩
theorem It.go {σ : List Addr} {I : Addr} {src : Option (Nat × O)} {vs : List V} {i : Nat} (t : It σ s.heap I src vs i) {target : Expr} {v : Value} {Q : Unit → Shared → Prop} (h : Q () s) : wpAny (model prog w) A (letOwnedTupleGo target (.ref I) v) Q E s := by
  cases t with
  | list _ x => exact letGo_listiter x h
  | tup _ _ x => exact letGo_tupleiter x h
  | range x => exact letGo_rangeiter x h
  | dict _ x => exact letGo_keyiter x h

theorem ROT_raw {σ : List Addr} {h : Heap} {a : Addr} {ep : Nat} {es : List ((Int × Int) × V)} (r : RO prog w σ h a (.dT (some ep) es)) : ∃ (d : Array DictEntry) (xs : List (List Int × Addr × Value)), DRaw h a d ep ∧ d.size = es.length ∧ d.toList = xs.map (entryOfKey (tk prog w)) ∧
    (∀ x, x ∈ xs → IsTupleKey (intKind prog w) h x.1 x.2.1) ∧ EsT σ h xs es := by
  cases r with
  | dictT d q l =>
    obtain ⟨o, ds, ep', g, x, dd, hl, hk, hn⟩ := d
    obtain ⟨o', es'', g', dd'⟩ := l ep rfl
    rw [g] at g'; cases g'
    rw [dd] at dd'; cases dd'
    refine ⟨ds, _, ⟨o, g, x, dd⟩, ?_, hl, hk, q⟩
    have := size_of_entries hl
    rw [this, q.length]
end
end Mine
end

section -- It2
set_option autoImplicit false
set_option linter.unusedVariables false
namespace Mine

abbrev WT := V → AE → (AE → Prop) → Prop
noncomputable def wLoop (wt : WT) (wb : WS) (src : Option (Nat × O)) : List V → WS
  | [], η, st, Q => Q .next η st
  | v :: vs, η, st, Q => wt v η fun η₁ => wb η₁ st fun f η₂ st₂ => SrcOk src st₂ ∧ match f with
    | .ret u => Q (.ret u) η₂ st₂
    | _ => wLoop wt wb src vs η₂ st₂ Q
/-- what is walked over: the source, its items, the store under the lock, how the lock is let go -/
noncomputable def wIter (v : V) (st : St) (k : Option (Nat × O) → List V → St → (St → St) → Prop) : Prop := match v with
  | .tup vs => k none vs st id
  | .loc n => (∃ xs, st[n]? = some (.list xs) ∧ k (some (n, .list xs)) xs st id) ∨
      (∃ es, st[n]? = some (.dT none es) ∧ ∀ ep, k (some (n, .dT (some ep) es)) (es.map fun p => keyT p.1) (st.set n (.dT (some ep) es)) fun st' => st'.set n (.dT none es))
  | _ => False
noncomputable def wFor (wa : WE) (wt : WT) (wb : WS) : WS := fun η st Q => wa η st fun v st₁ => wIter v st₁ fun src vs st₂ un => wLoop wt wb src vs η st₂ fun f η' st' => Q f η' (un st')
noncomputable def wForR (wa : WE) (wt : WT) (wb : WS) : WS := fun η st Q => wa η st fun v st₁ => ∃ k : Nat, v = .int k ∧ k ≤ 1000 ∧ wLoop wt wb none ((List.range k).map fun (j : Nat) => V.int j) η st₁ Q
noncomputable def tName (x : String) : WT := fun v η K => K (AE.set x v η)
noncomputable def tTuple (ns : List String) : WT := fun v η K => ∃ vs, v = .tup vs ∧ vs.length = ns.length ∧ K (setAll ns vs η)

section
variable {prog : Program} {w : World} {r : RootD} {lev : Nat} {cx : Cx}

theorem It.next {A : Around} (rm : A.handled = none) {σ : List Addr} {st : St} {s : Shared} {I : Addr} {src : Option (Nat × O)} {vs : List V} {i : Nat} {Q : Option Value → Shared → Prop} {E : Value → Shared → Prop} (R : Rep prog w σ st s.heap) (so : SrcOk src st) (t : It σ s.heap I src vs i) (hI : I ∉ σ)
    (h1 : ∀ v u h' tk, vs[i]? = some v → RV σ h' u v → It σ h' I src vs (i + 1) → Heap.SameBut I s.heap h' → Q (some u) { s with heap := h', toks := tk })
    (h2 : vs[i]? = none → ∀ h', Heap.ExtBut I s.heap h' → Q none { s with heap := h' }) : wpAny (model prog w) A (pyNext (.ref I)) Q E s := by
  have nt := t.notTuple
  have tkk : ∀ h', Heap.SameBut I s.heap h' → TK s.heap h' := fun h' hs a vals t => by
    have ne : a ≠ I := fun q => nt vals (q ▸ t)
    obtain ⟨o, e, q⟩ := t
    exact ⟨o, (hs.2 a ne).trans e, q⟩
  cases t with
  | @list n a vs i e x =>
    have ro := R.obj n _ a so e
    cases ro with
    | @list us _ l rs =>
      cases hv : us[i]? with
      | some u =>
        obtain ⟨v, e1, e2⟩ := rs.get' hv
        refine wpAny_pyNext_list_item x l.isList (x := u) (by simpa using hv) fun h' x' hs => ?_
        exact h1 v u h' s.toks e1 (e2.mono (List.prefix_refl _) (tkk h' hs)) (.list e x') hs
      | none =>
        have hn : vs[i]? = none := by simp at hv ⊢; rw [← rs.length]; exact hv
        exact wpAny_pyNext_list_end rm x l.isList (by simpa using hv) fun h' hs => h2 hn h' hs
  | @tup a us vs i e rs x =>
    cases hv : us[i]? with
    | some u =>
      obtain ⟨v, e1, e2⟩ := rs.get' hv
      refine wpAny_pyNext_tuple_item x e (x := u) (by simpa using hv) fun h' x' hs => ?_
      exact h1 v u h' s.toks e1 (e2.mono (List.prefix_refl _) (tkk h' hs)) (.tup (tkk h' hs _ _ e) (rs.mono (List.prefix_refl _) (tkk h' hs)) x') hs
    | none =>
      have hn : vs[i]? = none := by simp at hv ⊢; rw [← rs.length]; exact hv
      exact wpAny_pyNext_tuple_end rm x e (by simpa using hv) fun h' hs => h2 hn h' hs
  | @range x n i hx =>
    by_cases hi : i < n
    · refine wpAny_pyNext_range_item hx (by omega) fun h' x' hs => ?_
      refine h1 (.int (x + i)) _ h' _ (by simp [hi]) (.int _ _) (.range (x := x) ?_) hs
      have e1 : x + ((i + 1 : Nat) : Int) = x + (i : Int) + 1 := by push_cast; omega
      have e2 : (n : Int) - ((i + 1 : Nat) : Int) = (n : Int) - (i : Int) - 1 := by push_cast; omega
      rw [e1, e2]; exact x'
    · exact wpAny_pyNext_range_end rm hx (by omega) fun h' hs => h2 (by simp; omega) h' hs
  | @dict n a ep es i e x =>
    have ro := R.obj n _ a so e
    obtain ⟨d, xs, dr, sz, hl, hk, q⟩ := ROT_raw ro
    rw [← sz] at x
    cases hv : d[i]? with
    | some en =>
      refine next_draw_item x dr hv fun h' x' hs => ?_
      have hi : i < es.length := by rw [← sz]; exact (Array.getElem?_eq_some_iff.mp hv).1
      have hxs : (xs.map (entryOfKey (tk prog w)))[i]? = some en := by rw [← hl]; simpa using hv
      rw [List.getElem?_map] at hxs
      obtain ⟨y, hy, rfl⟩ := Option.map_eq_some_iff.mp hxs
      have key : ∀ {xs : List (List Int × Addr × Value)} {es : List ((Int × Int) × V)} {i : Nat}, EsT σ s.heap xs es → xs[i]? = some y → ∃ p, es[i]? = some p ∧ y.1 = keyL p.1 := by
        intro xs es i q
        induction q generalizing i with
        | nil => intro h; simp at h
        | cons a r ih => intro h; cases i with
          | zero => simp at h; subst h; exact ⟨_, rfl, rfl⟩
          | succ i => simp only [List.getElem?_cons_succ] at h ⊢; exact ih h
      obtain ⟨p, hp, ek⟩ := key q hy
      have tkey := hk y (List.mem_of_getElem? hy)
      rw [ek] at tkey
      refine h1 (keyT p.1) _ h' s.toks (by simp [hp]) ((tuple_of_key σ tkey).mono (List.prefix_refl _) (tkk h' hs)) (.dict e ?_) hs
      rw [← sz]; exact x'
    | none =>
      have hn : (es.map fun p => keyT p.1)[i]? = none := by simp at hv ⊢; rw [← sz]; exact hv
      exact next_draw_end rm x dr hv fun h' hs => h2 hn h' hs

/-- something aside is changed -/
theorem Inv.aside {σ : List Addr} {st : St} {η : AE} {h h' : Heap} {p : Addr} (I : Inv prog w cx σ st η h) (hs : Heap.ExtBut p h h') (hp : p ∉ σ) (hb : cx.base.get? p = none) (hL : p ≠ cx.env.locals)
    (hC : ∀ x, cx.env.cells.lookup x ≠ some p) (ht : ∀ vals, ¬ h.IsTuple p vals) (ha : ∃ b o, b ≠ p ∧ sysModules ≤ b ∧ h.get? b = some o) : Inv prog w cx σ st η h' := by
  have T : TK h h' := fun a vals t => by
    have ne : a ≠ p := fun q => ht vals (q ▸ t)
    obtain ⟨o, e, q⟩ := t
    exact ⟨o, hs a o ne e, q⟩
  refine ⟨⟨I.rep.len, I.rep.nodup, fun i o a e f => (I.rep.obj i o a e f).mono (List.prefix_refl _) T (fun ob e' => hs a ob (fun q => hp (q ▸ List.mem_of_getElem? f)) e'), I.rep.low, ?_⟩, fun b o e => ?_, I.off, ?_, fun x v k e => ?_, fun x c e => ?_, I.Loff, I.coff⟩
  · obtain ⟨b, o, n, l, e⟩ := ha; exact ⟨b, o, l, hs b o n e⟩
  · exact hs b o (fun q => by subst q; rw [hb] at e; cases e) (I.keep b o e)
  · obtain ⟨m, hm, hv⟩ := I.loc
    refine ⟨m, hm.at' fun o e => hs _ o (Ne.symm hL) e, fun x v k e => ?_⟩
    obtain ⟨u, e1, e2⟩ := hv x v k e
    exact ⟨u, e1, e2.mono (List.prefix_refl _) T⟩
  · obtain ⟨c, u, e1, ⟨o, e2, e3⟩, e4⟩ := I.cells x v k e
    exact ⟨c, u, e1, ⟨o, hs _ _ (fun q => hC _ (q ▸ e1)) e2, e3⟩, e4.mono (List.prefix_refl _) T⟩
  · obtain ⟨v, o, e2, e3⟩ := I.cell x c e
    exact ⟨v, o, hs _ _ (fun q => hC _ (q ▸ e)) e2, e3⟩

/-- what was there lives on -/
theorem ExtS.live {σ σ' : List Addr} {st' : St} {η' : AE} {h h' : Heap} (X : ExtS cx σ h σ' h') (I : Inv prog w cx σ' st' η' h') {b : Addr} {o : Obj} (e : h.get? b = some o) : ∃ o', h'.get? b = some o' := by
  by_cases m : b ∈ σ
  · obtain ⟨t, ht⟩ := X.pre
    exact I.rep.there (ht ▸ List.mem_append_left _ m)
  · by_cases n1 : b = cx.env.locals
    · subst n1; obtain ⟨m, ⟨o, _, _, e, _⟩, _⟩ := I.loc; exact ⟨o, e⟩
    · by_cases n2 : ∃ x, cx.env.cells.lookup x = some b
      · obtain ⟨z, hz⟩ := n2; obtain ⟨v, o, e, _⟩ := I.cell z b hz; exact ⟨o, e⟩
      · exact ⟨o, X.keep b o e m n1 fun x hx => n2 ⟨x, hx⟩⟩

noncomputable def Target (prog : Program) (w : World) (lev : Nat) (cx : Cx) (e : Expr) (wt : WT) : Prop := ∀ {A : Around}, Room lev A → ∀ {σ : List Addr} {st : St} {η : AE} {s : Shared} {u : Value} {v : V}, Inv prog w cx σ st η s.heap → RV σ s.heap u v → ∀ {K : AE → Prop} {Q : Unit → Shared → Prop}, wt v η K →
  (∀ h' tk η', K η' → Inv prog w cx σ st η' h' → ExtS cx σ s.heap σ h' → Q () { s with heap := h', toks := tk }) → wpAny (model prog w) A (PySem.assign e cx.env u) Q No s
theorem target_name {x : String} (p : Pos) (hb : Bind prog w cx x) : Target prog w lev cx (.Name (Str.ofString x) p) (tName x) := fun {A} rm {σ st η s u v} I rv K Q hk h => by
  refine wpAny_assign_Name (hb I rv fun h' tk I' X => ?_)
  exact h h' tk _ hk I' X
theorem target_tuple {es : List Expr} {ns : List String} (k : Nat) (p : Pos) (t : Tg prog w cx es ns) : Target prog w lev cx (.Tuple es k p) (tTuple ns) := fun {A} rm {σ st η s u v} I rv K Q hk h => by
  obtain ⟨vs, rfl, hl, hk⟩ := hk
  cases rv with
  | @tup a vals _ tt rs =>
    have hlen := rs.length
    show wpAny _ _ (do standAt p; unpack (.ref a) (assignEach es cx.env)) _ _ _
    refine wpAny_bind (wpAny_standAt (wpAny_unpack_tuple rm.hand tt (by rw [t.each.1]; simp [hlen, hl]) t.each.2 fun h'' he => ?_))
    have g : ∀ b o, s.heap.get? b = some o → h''.get? b = some o := fun b o e => he b o (Nat.ne_of_lt (Heap.lt_size e)) e
    have I2 := I.ext (.grow g) (I.rep.grow g)
    refine t.assign (s := { s with heap := h'' }) I2 (rs.mono (List.prefix_refl _) (tk_grow g)) (by simp [hlen, hl]) fun h3 tk3 I3 T3 => ?_
    exact h h3 tk3 _ hk I3 ((I.extS (.grow g)).thenI I2 T3)

theorem pre_notin {σ σ' : List Addr} {h h' : Heap} {I : Addr} (X : ExtS cx σ h σ' h') (hI : I ∉ σ) {o : Obj} (e : h.get? I = some o) : I ∉ σ' := fun m => by rw [X.new I m hI] at e; cases e

theorem loop_code {tg : Expr} {body : List Stmt} {wt : WT} {wb : WS} (ht : Target prog w lev cx tg wt) (hb : SS prog w lev cx body wb) {A : Around} (rm : Room lev A) {I : Addr} {src : Option (Nat × O)} {vs : List V} {σ₀ σ : List Addr} {st₀ st : St} {η₀ η : AE} {s₀ s : Shared} {h₁ : Heap} {tk₁ : Nat}
    (es : s = { s₀ with heap := h₁, toks := tk₁ }) (I0 : Inv prog w cx σ₀ st₀ η₀ s₀.heap) (hn : s₀.heap.get? I = none) (Iv : Inv prog w cx σ st η s.heap) (X : ExtS cx σ₀ s₀.heap σ s.heap) (it : It σ s.heap I src vs 0) (so : SrcOk src st) (hI : I ∉ σ)
    {Q : Fl → AE → St → Prop} (h : wLoop wt wb src vs η st Q) {R : Result → Shared → Prop} (hR : ∀ f s', PostS prog w cx σ₀ s₀ (fun f η st => SrcOk src st ∧ Q f η st) f s' → R (.ok f) s') :
    codeAny (model prog w) A (.forLoop tg (.ref I) body [] cx.env) R s := by
  subst es
  have nE : ∀ {α : Type} {m : Sem α} {P : α → Shared → Prop} {E : Value → Shared → Prop} {s : Shared}, wpAny (model prog w) A m P No s → wpAny (model prog w) A m P E s := fun h => wpAny_mono h (fun _ _ x => x) fun _ _ x => x.elim
  have hbase : cx.base.get? I = none := by
    cases q : cx.base.get? I with
    | none => rfl
    | some o => have := I0.keep I o q; rw [hn] at this; cases this
  have hL : I ≠ cx.env.locals := fun q => by obtain ⟨m, ⟨o, _, _, e, _⟩, _⟩ := I0.loc; rw [← q, hn] at e; cases e
  have hC : ∀ x, cx.env.cells.lookup x ≠ some I := fun x q => by obtain ⟨v, o, e, _⟩ := I0.cell x I q; rw [hn] at e; cases e
  obtain ⟨ab, ao, al, ae⟩ := I0.rep.anchor
  have abI : ab ≠ I := fun q => by subst q; rw [hn] at ae; cases ae
  refine codeAny_forLoop_any (fun n s' => ∃ σ st η h tk i, s' = { s₀ with heap := h, toks := tk } ∧ Inv prog w cx σ st η h ∧ ExtS cx σ₀ s₀.heap σ h ∧ It σ h I src vs i ∧ SrcOk src st ∧ I ∉ σ ∧ n = vs.length - i ∧ wLoop wt wb src (vs.drop i) η st Q) ?_ vs.length
    ⟨σ, st, η, _, _, 0, rfl, Iv, X, it, so, hI, by simp, h⟩
  intro n s' hz
  refine ex6 hz ?_
  clear hz; intro σ st η h₂ tk₂ i hz
  refine conj8 hz ?_
  clear hz; rintro rfl Iv X it so hI rfl h
  obtain ⟨ao', ae'⟩ := X.live Iv ae
  refine nE (it.next (s := { s₀ with heap := h₂, toks := tk₂ }) rm.hand Iv.rep so hI (fun v u h₃ tk₃ ev rv it₃ hs => ?_) fun ev h₃ hs => ?_)
  · have I₃ := Iv.aside hs.extBut hI hbase hL hC it.notTuple ⟨ab, ao', abI, al, ae'⟩
    have X₃ : ExtS cx σ₀ s₀.heap σ h₃ := ⟨X.pre, fun a o e n n1 n2 => hs.extBut a o (fun q => by subst q; rw [hn] at e; cases e) (X.keep a o e n n1 n2), X.new, X.frame⟩
    have hi := (List.getElem?_eq_some_iff.mp ev).1
    have hd : vs.drop i = v :: vs.drop (i + 1) := by rw [List.drop_eq_getElem_cons hi]; congr 1; exact (List.getElem?_eq_some_iff.mp ev).2
    rw [hd] at h
    refine nE (it₃.go (s := { s₀ with heap := h₃, toks := tk₃ }) (nE (ht rm (s := { s₀ with heap := h₃, toks := tk₃ }) I₃ rv h fun h₄ tk₄ η₄ hk I₄ X₄ => ?_)))
    obtain ⟨oI, eI⟩ := it₃.there
    have it₄ := it₃.keep X₄.pre (X₄.tk I₃.rep) (fun o e => X₄.keep _ o e hI hL hC)
    refine nE (wpAny_mono (hb A rm σ st η₄ { s₀ with heap := h₄, toks := tk₄ } _ I₄ hk) ?_ fun _ _ x => x)
    refine fun fl s' pz => pz.el ?_
    clear pz; rintro f η₅ st₅ σ₅ h₅ tk₅ rfl I₅ X₅ rf hh
    obtain ⟨so₅, q⟩ := hh
    have XX := (X₃.thenI I₃ X₄).thenI I₄ X₅
    obtain ⟨oI', eI'⟩ := it₄.there
    have it₅ := it₄.keep X₅.pre (X₅.tk I₄.rep) (fun o e => X₅.keep _ o e hI hL hC)
    have hI₅ := pre_notin X₅ hI eI'
    cases rf with
    | next => exact ⟨vs.length - (i + 1), by omega, σ₅, st₅, η₅, h₅, tk₅, i + 1, rfl, I₅, XX, it₅, so₅, hI₅, rfl, q⟩
    | cont => exact ⟨vs.length - (i + 1), by omega, σ₅, st₅, η₅, h₅, tk₅, i + 1, rfl, I₅, XX, it₅, so₅, hI₅, rfl, q⟩
    | ret rv => exact hR _ _ ⟨.ret _, η₅, st₅, σ₅, h₅, tk₅, rfl, I₅, XX, .ret rv, so₅, q⟩
  · have I₃ := Iv.aside hs hI hbase hL hC it.notTuple ⟨ab, ao', abI, al, ae'⟩
    have X₃ : ExtS cx σ₀ s₀.heap σ h₃ := ⟨X.pre, fun a o e n n1 n2 => hs a o (fun q => by subst q; rw [hn] at e; cases e) (X.keep a o e n n1 n2), X.new, X.frame⟩
    have hi : vs.length ≤ i := by simpa using ev
    rw [List.drop_eq_nil_of_le hi] at h
    exact nE (wpAny_execs_nil (hR _ _ ⟨.next, η, st, σ, h₃, tk₂, rfl, I₃, X₃, .next, so, h⟩))
end
end Mine
end

section -- It3
set_option autoImplicit false
set_option linter.unusedVariables false
namespace Mine
section
variable {prog : Program} {w : World} {r : RootD} {lev : Nat} {cx : Cx}

theorem Rep.swap {σ : List Addr} {st : St} {h : Heap} {n : Nat} {o o' : O} (R : Rep prog w σ st h) (e : st[n]? = some o) (ro : ∀ a, σ[n]? = some a → RO prog w σ h a o → RO prog w σ h a o') : Rep prog w σ (st.set n o') h := by
  refine ⟨by simp [R.len], R.nodup, fun i x a ei ea => ?_, R.low, R.anchor⟩
  have hl := (List.getElem?_eq_some_iff.mp e).1
  by_cases q : i = n
  · subst q
    rw [List.getElem?_set_self hl] at ei; cases ei
    exact ro a ea (R.obj i o a e ea)
  · rw [List.getElem?_set_ne (Ne.symm q)] at ei
    exact R.obj i x a ei ea
theorem Inv.reSt {σ : List Addr} {st st' : St} {η : AE} {h : Heap} (I : Inv prog w cx σ st η h) (R : Rep prog w σ st' h) : Inv prog w cx σ st' η h := { I with rep := R }

theorem iter_new {A : Around} {σ : List Addr} {st : St} {s : Shared} {u : Value} {v : V} {K : Option (Nat × O) → List V → St → (St → St) → Prop} {Q : Value → Shared → Prop} {E : Value → Shared → Prop} (R : Rep prog w σ st s.heap) (rv : RV σ s.heap u v) (h : wIter v st K)
    (hQ : ∀ src vs st' un o, K src vs st' un → Rep prog w σ st' (s.heap.push o) → It σ (s.heap.push o) s.heap.objs.size src vs 0 → SrcOk src st' → (∀ σ' st'' h'', Rep prog w σ' st'' h'' → SrcOk src st'' → Rep prog w σ' (un st'') h'') →
      Q (.ref s.heap.objs.size) { s with heap := s.heap.push o }) : wpAny (model prog w) A (pyIter u) Q E s := by
  have G : ∀ o, ∀ b x, s.heap.get? b = some x → (s.heap.push o).get? b = some x := fun o b x e => Heap.get?_push_of_some _ e
  cases rv with
  | none => exact h.elim
  | bool => exact h.elim
  | int => exact h.elim
  | str => exact h.elim
  | @tup a vals vs t rs =>
    refine wpAny_pyIter_tuple t ?_
    exact hQ none vs st id _ h (R.grow (G _)) (.tup (tk_grow (G _) _ _ t) (rs.mono (List.prefix_refl _) (tk_grow (G _))) ⟨_, Heap.get?_push_size _ rfl, rfl, rfl⟩) trivial fun _ _ _ R _ => R
  | @loc n a ea =>
    rcases h with ⟨xs, f, h⟩ | ⟨es, f, h⟩
    · cases R.obj _ _ _ f ea with
      | @list us _ l rs =>
        refine wpAny_pyIter_list l.isList ?_
        exact hQ _ xs st id _ h (R.grow (G _)) (.list ea ⟨_, Heap.get?_push_size _ rfl, rfl, rfl⟩) f fun _ _ _ R _ => R
    · have ro := R.obj _ _ _ f ea
      obtain ⟨ep, ro'⟩ : ∃ ep, RO prog w σ s.heap a (.dT (some ep) es) := by
        cases ro with
        | dictT d q l =>
          obtain ⟨o, es', ep, g, x⟩ := d
          exact ⟨ep, .dictT ⟨o, es', ep, g, x⟩ q fun ep' e => ⟨o, es', g, by cases e; exact x.2.1⟩⟩
      have R' := R.swap f (o' := .dT (some ep) es) fun a' ea' r' => by
        rw [ea] at ea'; cases ea'; exact ro'
      obtain ⟨d, xs, dr, sz, _⟩ := ROT_raw ro'
      have lo := R.low a (List.mem_of_getElem? ea)
      refine iter_draw lo dr ?_
      refine hQ _ _ _ _ _ (h ep) (R'.grow (G _)) (.dict ea ⟨_, Heap.get?_push_size _ rfl, rfl, by rw [sz]; rfl⟩) ?_ fun σ' st'' h'' R'' so => ?_
      · show (st.set n _)[n]? = _
        rw [List.getElem?_set_self (List.getElem?_eq_some_iff.mp f).1]
      · exact R''.swap so fun a' _ r' => by
          cases r' with
          | dictT d q l => exact .dictT d q fun _ e => nomatch e

theorem ss1_for {tg it : Expr} {body : List Stmt} {wa : WE} {wt : WT} {wb : WS} (pos : Pos) (ha : SE prog w lev cx (eval it cx.env) wa) (ht : Target prog w lev cx tg wt) (hb : SS prog w lev cx body wb) (hs : ∀ x, foldedSetIterable it cx.env x = pure x) :
    SS1 prog w lev cx (.For tg it body [] pos) (wFor wa wt wb) := fun A rm σ st η s Q I h => by
  refine wpAny_For (wpAny_mono (ha A rm σ st η s _ I h) ?_ fun _ _ x => x) hs
  refine fun u s₁ pz => pz.elim fun v st₁ σ₁ h₁ tk₁ X R rv h => ?_
  have I₁ := I.ext X R
  refine iter_new (s := { s with heap := h₁, toks := tk₁ }) R rv h fun src vs st' un o hk R' it so un_ok => ?_
  have G : ∀ b x, h₁.get? b = some x → (h₁.push o).get? b = some x := fun b x e => Heap.get?_push_of_some _ e
  have I₂ := I₁.ext (.grow G) R'
  have hn : h₁.get? h₁.objs.size = none := Heap.get?_none_of_le (Nat.le_refl _)
  have hI : h₁.objs.size ∉ σ₁ := fun m => by obtain ⟨ob, e⟩ := R.there m; rw [hn] at e; cases e
  refine loop_code (st₀ := st₁) ht hb rm (s₀ := { s with heap := h₁, toks := tk₁ }) rfl I₁ hn I₂ (I₁.extS (.grow G)) it so hI hk ?_
  refine fun f s' pz => pz.el ?_
  clear pz; rintro f' η' st'' σ' h' tk' rfl I' X' rf hh
  obtain ⟨so', q⟩ := hh
  exact ⟨f', η', un st'', σ', h', tk', rfl, I'.reSt (un_ok _ _ _ I'.rep so'), (I.extS X).thenI I₁ X', rf, q⟩

/-- over a range: what makes the range, and the count -/
theorem ss1_forR {tg it : Expr} {body : List Stmt} {wa : WE} {wt : WT} {wb : WS} (pos : Pos) (ha : SE prog w lev cx (eval it cx.env) wa) (ht : Target prog w lev cx tg wt) (hb : SS prog w lev cx body wb) {whole : Expr}
    (hs : ∀ x, foldedSetIterable whole cx.env x = pure x)
    (hw : ∀ (A : Around) (E : Value → Shared → Prop) (s : Shared) (Q : Value → Shared → Prop), (∀ b o, cx.base.get? b = some o → s.heap.get? b = some o) → wpAny (model prog w) A (eval it cx.env) (fun u s₁ => wpAny (model prog w) A (call (.type "range") [u]) Q E s₁) E s → wpAny (model prog w) A (eval whole cx.env) Q E s) :
    SS1 prog w lev cx (.For tg whole body [] pos) (wForR wa wt wb) := fun A rm σ st η s Q I h => by
  refine wpAny_For (hw A _ _ _ I.keep (wpAny_mono (ha A rm σ st η s _ I h) ?_ fun _ _ x => x)) hs
  refine fun u s₁ pz => pz.elim fun v st₁ σ₁ h₁ tk₁ X R rv hh => ?_
  obtain ⟨k, rfl, hk, h⟩ := hh
  have I₁ := I.ext X R
  cases rv with
  | int _ t =>
    refine call_range_1 ?_
    refine wpAny_pyIter_range (Heap.get?_push_size _ rfl) (small_one (by omega) (by omega) (by omega) (by omega)) ?_
    generalize hg : h₁.push { cls := .type "range", data := .fields #[.int 0 tk₁, .int (k : Int) t, .int 1 (tk₁ + 1)] } = g
    have g1 : ∀ b x, h₁.get? b = some x → g.get? b = some x := fun b x e => by rw [← hg]; exact Heap.get?_push_of_some _ e
    have I₂ := I₁.ext (.grow g1) (R.grow g1)
    have hn : g.get? g.objs.size = none := Heap.get?_none_of_le (Nat.le_refl _)
    have hI : g.objs.size ∉ σ₁ := fun m => by obtain ⟨ob, e⟩ := I₂.rep.there m; rw [hn] at e; cases e
    have G : ∀ o b x, g.get? b = some x → (g.push o).get? b = some x := fun o b x e => Heap.get?_push_of_some _ e
    have I₃ := I₂.ext (.grow (G { cls := .type "range_iterator", data := .fields #[rawInt 0, rawInt (Builtin.Range.rangeSize 0 k 1), rawInt 1] })) (I₂.rep.grow (G _))
    have it : It σ₁ (g.push { cls := .type "range_iterator", data := .fields #[rawInt 0, rawInt (Builtin.Range.rangeSize 0 k 1), rawInt 1] }) g.objs.size none ((List.range k).map fun (j : Nat) => V.int (0 + j)) 0 := by
      refine .range ?_
      have e1 : Builtin.Range.rangeSize 0 (k : Int) 1 = (k : Int) := by rw [rangeSize_one]; split <;> omega
      rw [e1]
      exact Heap.get?_push_size _ rfl
    simp only [Int.zero_add] at it
    refine loop_code (st₀ := st₁) ht hb rm (s₀ := { s with heap := g, toks := tk₁ }) (h₁ := g.push { cls := .type "range_iterator", data := .fields #[rawInt 0, rawInt (Builtin.Range.rangeSize 0 k 1), rawInt 1] }) rfl I₂ hn I₃ (I₂.extS (.grow (G _))) it trivial hI h ?_
    refine fun f s' pz => pz.el ?_
    clear pz; rintro f' η' st'' σ' h' tk' rfl I' X' rf hh
    obtain ⟨so', q⟩ := hh
    exact ⟨f', η', st'', σ', h', tk', rfl, I', ((I.extS X).thenI I₁ (I₁.extS (.grow g1))).thenI I₂ X', rf, q⟩
  | _ => cases ‹_ = _›
end
end Mine
end

section -- Call1
set_option autoImplicit false
set_option linter.unusedVariables false
namespace Mine

/-- a function of the program, by what it does to abstract values -/
noncomputable def FS (prog : Program) (w : World) (r : RootD) (lev : Nat) (x : String) (T : WN) : Prop := ∀ a, r.mg (Str.ofString x) = some (.ref a) → ∀ A, Room lev A → ∀ b σ st s Q us vs, Wd prog r b → (∀ p o, b.get? p = some o → s.heap.get? p = some o) → (∀ p, p ∈ σ → b.get? p = none) →
  Rep prog w σ st s.heap → RVs σ s.heap us vs → T vs st Q → wpAny (model prog w) A (call (.ref a) us) (Post prog w σ s Q) No s

noncomputable def Fl.toRet (Q : V → St → Prop) : Fl → St → Prop
  | .next, st => Q .none st
  | .ret v, st => Q v st
  | .cont, _ => False
noncomputable def wFun (ns : List String) (wb : WS) : WN := fun vs st Q => vs.length = ns.length ∧ wb (setAll ns vs fun _ => none) st fun f _ st' => f.toRet Q st'
noncomputable def wArgs (l : WL) (f : WN) : WE := fun η st Q => l η st fun vs st' => f vs st' Q

section
variable {prog : Program} {w : World} {r : RootD} {lev : Nat} {cx : Cx}

theorem FS.mono {x : String} {T : WN} {n m : Nat} (f : FS prog w r n x T) (l : n ≤ m) : FS prog w r m x T := fun a ha A rm => f a ha A (rm.mono l)
theorem FS.conv {x : String} {T T' : WN} {n : Nat} (f : FS prog w r n x T) (h : ∀ vs st Q, T' vs st Q → T vs st Q) : FS prog w r n x T' := fun a ha A rm b σ st s Q us vs W k o R rv t => f a ha A rm b σ st s Q us vs W k o R rv (h vs st Q t)

/-! names of the program's top and of the language -/
noncomputable def Loads (prog : Program) (w : World) (cx : Cx) (e : Expr) (u : Value) : Prop := ∀ {A : Around} {E : Value → Shared → Prop} {s : Shared} {Q : Value → Shared → Prop}, (∀ b o, cx.base.get? b = some o → s.heap.get? b = some o) → Q u s → wpAny (model prog w) A (eval e cx.env) Q E s
theorem loads_glob (C : CxOk prog r cx) {x : String} {pos : Pos} {u : Value} (hk : cx.env.kindOf (Str.ofString x) = some .globalImplicit) (hd : (Str.ofString x == ("__debug__" : Str)) = false) (hv : r.mg (Str.ofString x) = some u) : Loads prog w cx (.Name (Str.ofString x) pos) u := fun {A E s Q} K h =>
  Calls.Name_function_global C.kind hk (Calls.loadGlobal_global (by rw [C.glob]; exact C.wd.g.keeps K) hv h) hd
theorem loads_blt (C : CxOk prog r cx) {x : String} {pos : Pos} {u : Value} (hk : cx.env.kindOf (Str.ofString x) = some .globalImplicit) (hd : (Str.ofString x == ("__debug__" : Str)) = false) (hm : r.mg (Str.ofString x) = none) (hv : r.mb (Str.ofString x) = some u) :
    Loads prog w cx (.Name (Str.ofString x) pos) u := fun {A E s Q} K h =>
  Calls.Name_function_global C.kind hk (Calls.loadGlobal_builtin (by rw [C.glob]; exact C.wd.g.keeps K) hm (by rw [C.blt]; exact C.wd.b.keeps K) hv h) hd

/-! arguments -/
theorem sa_nil {pos : Pos} : SL prog w lev cx (spliced (backTo pos (starEach [] cx.env))) wNil := fun A rm σ st η s Q I h => args_nil ⟨[], st, σ, s.heap, s.toks, rfl, .refl _ _, I.rep, .nil, h⟩
theorem sa_cons {e : Expr} {rest : List Expr} {pos : Pos} {wa : WE} {wl : WL} (ha : SE prog w lev cx (eval e cx.env) wa) (hl : SL prog w lev cx (spliced (backTo pos (starEach rest cx.env))) wl)
    (he : starEach (e :: rest) cx.env = (false, eval e cx.env) :: starEach rest cx.env) : SL prog w lev cx (spliced (backTo pos (starEach (e :: rest) cx.env))) (wCons wa wl) := fun A rm σ st η s Q I h => by
  refine args_cons (wpAny_mono (ha A rm σ st η s _ I h) ?_ fun _ _ x => x) he
  refine fun u s₁ pz => pz.elim fun v st₁ σ₁ h₁ tk₁ X₁ R₁ rv h => ?_
  refine wpAny_mono (hl A rm σ₁ st₁ η _ _ (I.ext X₁ R₁) h) ?_ fun _ _ x => x
  refine fun us s₂ pz => pz.elim fun vs st₂ σ₂ h₂ tk₂ X₂ R₂ rvs q => ?_
  exact ⟨v :: vs, st₂, σ₂, h₂, tk₂, rfl, X₁.trans X₂, R₂, .cons (rv.ext X₂ R₁) rvs, q⟩

/-- a call of a function of the program -/
theorem se_call (C : CxOk prog r cx) {x : String} {T : WN} {e : Expr} {rest : List Expr} {pos npos : Pos} {wl : WL} (hx : ∃ d, d ∈ recsOf r.view ∧ d.name = Str.ofString x) (hk : cx.env.kindOf (Str.ofString x) = some .globalImplicit) (hd : (Str.ofString x == ("__debug__" : Str)) = false) (F : FS prog w r lev x T)
    (hl : SL prog w lev cx (spliced (backTo pos (starEach (e :: rest) cx.env))) wl) (he : starEach (e :: rest) cx.env = (false, eval e cx.env) :: starEach rest cx.env) :
    SE prog w lev cx (eval (.Call (.Name (Str.ofString x) npos) (e :: rest) [] pos) cx.env) (wArgs wl T) := fun A rm σ st η s Q I h => by
  obtain ⟨d, hd1, hd2⟩ := hx
  obtain ⟨a, o, pm, code, doc, h1, h2, h3, h4⟩ := C.wd.fn d hd1
  rw [hd2] at h1
  refine Call_ (loads_glob C hk hd h1 I.keep (callWith_def h3 (wpAny_mono (hl A rm σ st η s _ I h) ?_ fun _ _ x => x) he))
  refine fun us s₁ pz => pz.el ?_
  clear pz; rintro vs st₁ σ₁ h₁ tk₁ rfl X₁ R₁ rvs h
  have I₁ := I.ext X₁ R₁
  refine ⟨I₁.keep _ _ h2, wpAny_mono (F a h1 A rm cx.base σ₁ st₁ _ _ us vs C.wd I₁.keep I₁.off R₁ rvs h) (fun _ _ p => p.trans X₁) fun _ _ x => x⟩

/-- a call of a builtin function -/
theorem se_callB (C : CxOk prog r cx) {id : String} {T : WN} {x : Str} {e : Expr} {rest : List Expr} {pos npos : Pos} {wl : WL} (hf : Loads prog w cx (.Name x npos) (.builtin id)) (F : SN prog w lev (fun us => call (.builtin id) us) T)
    (hl : SL prog w lev cx (spliced (backTo pos (starEach (e :: rest) cx.env))) wl) (he : starEach (e :: rest) cx.env = (false, eval e cx.env) :: starEach rest cx.env) (hp : (backTo pos (starEach rest cx.env)).any (·.1) = false) :
    SE prog w lev cx (eval (.Call (.Name x npos) (e :: rest) [] pos) cx.env) (wArgs wl T) := fun A rm σ st η s Q I h => by
  refine Call_ (hf I.keep (callWith_builtin1 (wpAny_mono (hl A rm σ st η s _ I h) ?_ fun _ _ x => x) he hp))
  refine fun us s₁ pz => pz.elim fun vs st₁ σ₁ h₁ tk₁ X₁ R₁ rvs h => ?_
  exact wpAny_mono (F A rm σ₁ st₁ _ _ us vs R₁ rvs h) (fun _ _ p => p.trans X₁) fun _ _ x => x
/-- a call of a builtin type -/
theorem se_callT (C : CxOk prog r cx) {id : String} {T : WN} {x : Str} {e : Expr} {rest : List Expr} {pos npos : Pos} {wl : WL} (hf : Loads prog w cx (.Name x npos) (.type id)) (F : SN prog w lev (fun us => call (.type id) us) T)
    (hl : SL prog w lev cx (spliced (backTo pos (starEach (e :: rest) cx.env))) wl) (he : starEach (e :: rest) cx.env = (false, eval e cx.env) :: starEach rest cx.env) (hp : (backTo pos (starEach rest cx.env)).any (·.1) = false) :
    SE prog w lev cx (eval (.Call (.Name x npos) (e :: rest) [] pos) cx.env) (wArgs wl T) := fun A rm σ st η s Q I h => by
  refine Call_ (hf I.keep (PyProof.Rows.callWith_type1 (wpAny_mono (hl A rm σ st η s _ I h) ?_ fun _ _ x => x) he hp))
  refine fun us s₁ pz => pz.elim fun vs st₁ σ₁ h₁ tk₁ X₁ R₁ rvs h => ?_
  exact wpAny_mono (F A rm σ₁ st₁ _ _ us vs R₁ rvs h) (fun _ _ p => p.trans X₁) fun _ _ x => x

/-! a function's frame -/
abbrev fEnv (nm : Str) (params : Arguments) (body : List Stmt) (scope : Scope) (pm cd doc : Value) (L a : Addr) : Env := callEnvC (Calls.docDef nm params body scope pm cd doc) L a

theorem hide_gone {h : Heap} {σ : List Addr} {a : Addr} (e : h.get? a = none) : (hideAll h σ).get? a = none := by
  cases q : (hideAll h σ).get? a with
  | none => rfl
  | some o => rw [of_hideAll σ q] at e; cases e

theorem bind_inv {kind : Str → Option NameKind} {cells : List (Str × Addr)} {σ : List Addr} {h : Heap} : ∀ {ns : List String} {us : List Value} {vs : List V} (rv : RVs σ h us vs) (hl : us.length = ns.length)
    (hk : ∀ x, x ∈ ns → kind (Str.ofString x) = some .local ∨ (cells.lookup (Str.ofString x)).isSome = true) {m cm : Str → Option Value} {η : AE}
    (h1 : ∀ (x : String) v, kind (Str.ofString x) = some .local → η x = some v → ∃ u, m (Str.ofString x) = some u ∧ RV σ h u v)
    (h2 : ∀ (x : String) v, kind (Str.ofString x) ≠ some .local → η x = some v → (cells.lookup (Str.ofString x)).isSome = true ∧ ∃ u, cm (Str.ofString x) = some u ∧ RV σ h u v),
    (∀ (x : String) v, kind (Str.ofString x) = some .local → setAll ns vs η x = some v → ∃ u, bindL kind ((ns.map Str.ofString).zip us) m (Str.ofString x) = some u ∧ RV σ h u v) ∧
    (∀ (x : String) v, kind (Str.ofString x) ≠ some .local → setAll ns vs η x = some v → (cells.lookup (Str.ofString x)).isSome = true ∧ ∃ u, bindC kind ((ns.map Str.ofString).zip us) cm (Str.ofString x) = some u ∧ RV σ h u v)
  | [], us, vs, rv, hl, hk, m, cm, η, h1, h2 => by
    have : us = [] := by simpa using hl
    subst this; cases rv; exact ⟨h1, h2⟩
  | n :: ns, us, vs, rv, hl, hk, m, cm, η, h1, h2 => by
    cases rv with
    | nil => simp at hl
    | @cons u v us vs ru rus =>
      show (∀ (x : String) v', kind (Str.ofString x) = some .local → setAll ns vs (AE.set n v η) x = some v' → ∃ u', bindL kind ((ns.map Str.ofString).zip us) (if kind (Str.ofString n) = some .local then fun y => if y = Str.ofString n then some u else m y else m) (Str.ofString x) = some u' ∧ RV σ h u' v') ∧
        (∀ (x : String) v', kind (Str.ofString x) ≠ some .local → setAll ns vs (AE.set n v η) x = some v' → (cells.lookup (Str.ofString x)).isSome = true ∧ ∃ u', bindC kind ((ns.map Str.ofString).zip us) (if kind (Str.ofString n) = some .local then cm else fun y => if y = Str.ofString n then some u else cm y) (Str.ofString x) = some u' ∧ RV σ h u' v')
      refine bind_inv rus (by simpa using hl) (fun x hx => hk x (List.mem_cons_of_mem _ hx)) (fun x v' kx e => ?_) fun x v' kx e => ?_
      · by_cases q : x = n
        · subst q
          simp only [AE.set, if_true, Option.some.injEq] at e; subst e
          rw [if_pos kx]; exact ⟨u, by simp, ru⟩
        · simp only [AE.set, if_neg q] at e
          obtain ⟨u', e1, e2⟩ := h1 x v' kx e
          split
          · exact ⟨u', by show (if _ then _ else _) = _; rw [if_neg (fun z => q (ofString_inj z))]; exact e1, e2⟩
          · exact ⟨u', e1, e2⟩
      · by_cases q : x = n
        · subst q
          simp only [AE.set, if_true, Option.some.injEq] at e; subst e
          rw [if_neg kx]
          exact ⟨(hk x List.mem_cons_self).resolve_left kx, u, by simp, ru⟩
        · simp only [AE.set, if_neg q] at e
          obtain ⟨e0, u', e1, e2⟩ := h2 x v' kx e
          refine ⟨e0, ?_⟩
          split
          · exact ⟨u', e1, e2⟩
          · exact ⟨u', by show (if _ then _ else _) = _; rw [if_neg (fun z => q (ofString_inj z))]; exact e1, e2⟩

theorem fs_def {x : String} {d : DefRec} {ns : List String} {wb : WS} (hrec : d ∈ recsOf r.view) (hname : d.name = Str.ofString x)
    (hbind : ∀ us pm cd doc, us.length = ns.length → bindArgs (Calls.docDef d.name d.params d.body d.scope pm cd doc) ⟨us, []⟩ = pure ((ns.map Str.ofString).zip us))
    (hkind : (ns.all fun y => d.scope.names.lookup (Str.ofString y) == some .local || (d.scope.names.lookup (Str.ofString y) == some .cell)) = true)
    (hco : d.scope.isCoroutine = false) (hgen : d.scope.isGenerator = false) (hk : d.scope.kind = .function)
    (hb : ∀ base pm cd doc L a, CxOk prog r ⟨fEnv d.name d.params d.body d.scope pm cd doc L a, base⟩ → Own ⟨fEnv d.name d.params d.body d.scope pm cd doc L a, base⟩ → SS prog w lev ⟨fEnv d.name d.params d.body d.scope pm cd doc L a, base⟩ d.body wb) :
    FS prog w r (lev + 1) x (wFun ns wb) := fun a₀ ha A rm b σ st s Q us vs W K off R rv ⟨hvl, h⟩ => by
  have hl : us.length = ns.length := rv.length.trans hvl
  obtain ⟨a, o, pm, code, doc, h1, h2, h3, h4⟩ := W.fn d hrec
  rw [hname, ha] at h1; cases h1
  have kk : ∀ n, ∀ y ∈ (ns.map Str.ofString).zip us, d.scope.names.lookup y.1 = some .local ∨ (d.scope.names.lookup y.1 = some .cell ∧ ((cellsFrom n d.scope.names []).lookup y.1).isSome = true) := by
    refine kindsX ?_
    rw [List.all_eq_true]
    rintro ⟨y, u⟩ hy
    obtain ⟨z, hz, rfl⟩ := List.mem_map.mp (List.of_mem_zip hy).1
    exact List.all_eq_true.mp hkind z hz
  refine wpAny_call (codeAny_call_cells rm.depth (K _ _ h2) h3 (W.nolimit.keeps K) (h4.keeps K) rfl (hbind us pm code doc hl) rfl (kk _) (fun s₁ ic => ?_) hco hgen hk)
  obtain ⟨h₁, tk₁, rfl⟩ := ic.toInCall.same
  have keep := ic.toInCall.keep
  have hL : s.heap.get? s.heap.objs.size = none := Heap.get?_none_of_le (Nat.le_refl _)
  have hC : ∀ n c, (callEnvC (Calls.docDef d.name d.params d.body d.scope pm code doc) s.heap.objs.size a₀).cells.lookup n = some c → s.heap.get? c = none := fun n c e =>
    Heap.get?_none_of_le (Nat.le_of_lt (ic.above n c (PySem.mem_of_lookup e)))
  let cx : Cx := ⟨fEnv d.name d.params d.body d.scope pm code doc s.heap.objs.size a₀, hideAll s.heap σ⟩
  have C : CxOk prog r cx := ⟨hk, rfl, rfl, W.keeps fun p q e => hideAll_get σ (K p q e) fun m => (by rw [off p m] at e; cases e), hide_gone hL⟩
  have O : Own cx := ⟨fun n c e => hide_gone (hC n c e), fun n n' c e e' => name_of_addr ic.apart (PySem.mem_of_lookup e) (PySem.mem_of_lookup e')⟩
  have rv₁ := rv.mono (List.prefix_refl σ) (tk_grow (h' := h₁) keep)
  have BI := bind_inv (kind := cx.env.kindOf) (cells := cx.env.cells) (m := fun _ => none) (cm := fun _ => none) (η := fun _ => none) rv₁ hl (fun y hy => by
    have := List.all_eq_true.mp hkind y hy
    rcases Bool.or_eq_true_iff.mp this with q | q
    · exact .inl (show d.scope.names.lookup (Str.ofString y) = _ by simpa using q)
    · exact .inr (cellsFrom_some _ _ _ (.inl (show d.scope.names.lookup (Str.ofString y) = _ by simpa using q)))) (fun _ _ _ e => by cases e) (fun _ _ _ e => by cases e)
  have I : Inv prog w cx σ st (setAll ns vs fun _ => none) h₁ := by
    refine ⟨R.grow keep, fun p q e => keep p q (of_hideAll σ e), fun p m => hideAll_none σ m, ⟨_, ic.toInCall.ns, BI.1⟩, fun y v k e => ?_, fun y c e => ⟨_, ic.cell y c e⟩, fun m => ?_, fun y c e m => ?_⟩
    · obtain ⟨e0, u, e1, e2⟩ := BI.2 y v (fun z => by rw [z] at k; rcases k with k | k <;> cases k) e
      obtain ⟨c, hc⟩ := Option.isSome_iff_exists.mp e0
      refine ⟨c, u, hc, ?_, e2⟩
      have := ic.cell _ c hc
      rw [← e1]; exact this
    · obtain ⟨q, e⟩ := R.there m; rw [show s.heap.get? cx.env.locals = none from hL] at e; cases e
    · obtain ⟨q, e'⟩ := R.there m; rw [hC _ _ e] at e'; cases e'
  refine wpAny_mono (hb _ pm code doc _ a₀ C O _ rm.deeper σ st _ { s with heap := h₁, toks := tk₁ } _ I h) ?_ fun _ _ x => x.elim
  refine fun fl s' pz => pz.el ?_
  clear pz; rintro f η' st' σ' h' tk' rfl I' X' rf q
  have XX : Ext σ s.heap σ' h' := by
    refine ⟨X'.pre, fun p ob e n => I'.keep p ob (hideAll_get σ e n), fun p m n => ?_⟩
    cases e : s.heap.get? p with
    | none => rfl
    | some ob => have := I'.off p m; rw [show cx.base.get? p = some ob from hideAll_get σ e n] at this; cases this
  cases rf with
  | next => exact ⟨.none, st', σ', h', tk', rfl, XX, I'.rep, .none, q⟩
  | cont => exact q.elim
  | ret rv => exact ⟨_, st', σ', h', tk', rfl, XX, I'.rep, rv, q⟩
end
end Mine
end

section -- Cm1
set_option autoImplicit false
set_option linter.unusedVariables false
namespace Mine

noncomputable def Aside (cx : Cx) (p : Addr) : Prop := cx.base.get? p = none ∧ p ≠ cx.env.locals ∧ ∀ x, cx.env.cells.lookup x ≠ some p
abbrev WEm := AE → O → St → (O → St → Prop) → Prop
noncomputable def wCompI (wt : WT) (wc : WB) (em : WEm) (src : Option (Nat × O)) : List V → O → AE → St → (O → St → Prop) → Prop
  | [], o, _, st, Q => Q o st
  | v :: vs, o, η, st, Q => wt v η fun η₁ => wc η₁ st fun b st₁ => if b = true then em η₁ o st₁ fun o' st₂ => SrcOk src st₂ ∧ wCompI wt wc em src vs o' η₁ st₂ Q else SrcOk src st₁ ∧ wCompI wt wc em src vs o η₁ st₁ Q
noncomputable def emList (we : WE) : WEm := fun η o st Q => we η st fun v st₁ => ∃ vs, o = .list vs ∧ vs.length ≤ 1000 ∧ Q (.list (vs ++ [v])) st₁
noncomputable def emDict (wk wv : WE) : WEm := fun η o st Q => wk η st fun k st₁ => wv η st₁ fun v st₂ => ∃ kk es, k = keyT kk ∧ o = .dT none es ∧ es.length ≤ 1000 ∧ Q (.dT none (dput es kk v)) st₂

section
variable {prog : Program} {w : World} {r : RootD} {lev : Nat} {cx : Cx}

theorem nE {A : Around} {α : Type} {m : Sem α} {P : α → Shared → Prop} {E : Value → Shared → Prop} {s : Shared} (h : wpAny (model prog w) A m P No s) : wpAny (model prog w) A m P E s := wpAny_mono h (fun _ _ x => x) fun _ _ x => x.elim

theorem Inv.anchor (C : CxOk prog r cx) {σ : List Addr} {st : St} {η : AE} {h : Heap} (I : Inv prog w cx σ st η h) {p : Addr} (hb : cx.base.get? p = none) : ∃ b o, b ≠ p ∧ sysModules ≤ b ∧ h.get? b = some o := by
  obtain ⟨o, _, _, e, _⟩ := C.wd.g
  exact ⟨mainGlobals, o, fun q => (by subst q; rw [hb] at e; cases e), by decide, I.keep _ _ e⟩
theorem Inv.asideC (C : CxOk prog r cx) {σ : List Addr} {st : St} {η : AE} {h h' : Heap} {p : Addr} (I : Inv prog w cx σ st η h) (hs : Heap.ExtBut p h h') (hp : p ∉ σ) (ha : Aside cx p) (ht : ∀ vals, ¬ h.IsTuple p vals) : Inv prog w cx σ st η h' :=
  I.aside hs hp ha.1 ha.2.1 ha.2.2 ht (I.anchor C ha.1)

/-- what a step in a comprehension keeps, but for the object that it makes -/
structure ExtD (D : Addr) (σ : List Addr) (h : Heap) (σ' : List Addr) (h' : Heap) : Prop where
  pre : σ <+: σ'
  tk : TK h h'
  keep : ∀ p ob, h.get? p = some ob → p ∉ σ → p ≠ D → h'.get? p = some ob
  new : ∀ a, a ∈ σ' → a ∉ σ → h.get? a = none

noncomputable def EmitOk (prog : Program) (w : World) (lev : Nat) (cx : Cx) (t : Addr → Sem Unit) (em : WEm) : Prop := ∀ A, Room lev A → ∀ σ st η s (Q : O → St → Prop) o D, Inv prog w cx σ st η s.heap → D ∉ σ → Aside cx D → RO prog w σ s.heap D o → em η o st Q →
  wpAny (model prog w) A (t D) (fun _ s' => ∃ o' st' σ' h' tk, s' = { s with heap := h', toks := tk } ∧ Inv prog w cx σ' st' η h' ∧ RO prog w σ' h' D o' ∧ D ∉ σ' ∧ ExtD D σ s.heap σ' h' ∧ Q o' st') No s
noncomputable def testsOf (ifs : List Expr) (env : Env) : Sem Bool := forIn ifs true fun c r => if r = true then do let ok ← isTrue c env (eval c env); pure (ForInStep.yield ok) else pure (ForInStep.yield r)

theorem tests_nil : SB prog w lev cx (testsOf [] cx.env) (wConstB true) := fun A rm σ st η s Q I h => wpAny_tests_nil (PostB.stay I.rep h)
theorem tests_one {c : Expr} {wc : WB} (hc : SB prog w lev cx (isTrue c cx.env (eval c cx.env)) wc) : SB prog w lev cx (testsOf [c] cx.env) wc := fun A rm σ st η s Q I h => wpAny_tests_one (hc A rm σ st η s Q I h)

theorem notin_ext {σ σ' : List Addr} {h h' : Heap} {p : Addr} (X : Ext σ h σ' h') (hp : p ∉ σ) {o : Obj} (e : h.get? p = some o) : p ∉ σ' := fun m => by rw [X.new p m hp] at e; cases e

theorem emit_list (C : CxOk prog r cx) {elt : Expr} {we : WE} (he : SE prog w lev cx (eval elt cx.env) we) : EmitOk prog w lev cx (fun D => (do let _ ← call (.builtin "list.append") [.ref D, ← eval elt cx.env])) (emList we) := fun A rm σ st η s Q o D I hD ha ro h => by
  obtain ⟨oD, eD⟩ := ro.there
  refine wpAny_bind (wpAny_mono (he A rm σ st η s _ I h) ?_ fun _ _ x => x)
  refine fun u s₁ pz => pz.elim fun v st₁ σ₁ h₁ tk₁ X R rv hh => ?_
  obtain ⟨vs, rfl, hz, q⟩ := hh
  have I₁ := I.ext X R
  have T := X.tk I.rep
  have hD₁ := notin_ext X hD eD
  have ro₁ := ro.mono X.pre T fun ob e => X.keep D ob e hD
  cases ro₁ with
  | @list us _ l rs =>
    have n1 := rs.length
    refine wpAny_bind (list_append_plainL l (hsz := by rw [sizeLine_eq]; simp; omega) fun h' l' hs => wpAny_pure ?_)
    have nt₁ : ∀ vals, ¬ h₁.IsTuple D vals := fun vals t => (RO.list l rs : RO prog w σ₁ h₁ D _).notTuple t
    have I₂ := I₁.asideC C hs.extBut hD₁ ha nt₁
    have T' : TK h₁ h' := fun a vals t => by
      have ne : a ≠ D := fun z => nt₁ vals (z ▸ t)
      obtain ⟨ob, e, z⟩ := t
      exact ⟨ob, hs.extBut a ob ne e, z⟩
    refine ⟨.list (vs ++ [v]), st₁, σ₁, h', tk₁, rfl, I₂, .list (vals := us ++ [u]) (by simpa using l') ((rs.append (.cons rv .nil)).mono (List.prefix_refl _) T'), hD₁, ⟨X.pre, T.trans T', fun p ob e n1 n2 => hs.extBut p ob n2 (X.keep p ob e n1), X.new⟩, q⟩

theorem emit_dict (C : CxOk prog r cx) {kx vx : Expr} {wk wv : WE} (hk : SE prog w lev cx (eval kx cx.env) wk) (hv : SE prog w lev cx (eval vx cx.env) wv) : EmitOk prog w lev cx (fun D => (do
            let kv ← eval kx cx.env
            let vv ← holding [kv] (eval vx cx.env)
            standAt { kx.pos with endLine := vx.pos.endLine, endCol := vx.pos.endCol }
            holding [kv, vv] (dictSet D kv vv))) (emDict wk wv) := fun A rm σ st η s Q o D I hD ha ro h => by
  obtain ⟨oD, eD⟩ := ro.there
  refine wpAny_bind (wpAny_mono (hk A rm σ st η s _ I h) ?_ fun _ _ x => x)
  refine fun uk s₁ pz => pz.elim fun k st₁ σ₁ h₁ tk₁ X₁ R₁ rk h => ?_
  have I₁ := I.ext X₁ R₁
  refine wpAny_bind (wpAny_holding (wpAny_mono (hv A rm σ₁ st₁ η _ _ I₁ h) ?_ fun _ _ x => x))
  refine fun u s₂ pz => pz.elim fun v st₂ σ₂ h₂ tk₂ X₂ R₂ rv hh => ?_
  obtain ⟨kk, es, rfl, rfl, hz, q⟩ := hh
  have I₂ := I₁.ext X₂ R₂
  have X := X₁.trans X₂
  have T := X.tk I.rep
  have hD₁ := notin_ext X hD eD
  have ro₁ := ro.mono X.pre T fun ob e => X.keep D ob e hD
  obtain ⟨b, rfl, tk1⟩ := key_of (rk.ext X₂ R₁) (prog := prog) (w := w)
  cases ro₁ with
  | @dictT _ xs _ d qq l =>
    have n1 := qq.length
    refine wpAny_bind (wpAny_standAt (wpAny_holding (wpAny_dictSet_heap (knd := tk prog w) (hsz := by rw [sizeLine_eq]; omega) (by show A.units < cLine; have := rm.units1; omega) tk1 d fun h' d' hs => ?_)))
    have nt₁ : ∀ vals, ¬ h₂.IsTuple D vals := fun vals t => (RO.dictT d qq l : RO prog w σ₂ h₂ D _).notTuple t
    have I₃ := I₂.asideC C hs.extBut hD₁ ha nt₁
    have T' : TK h₂ h' := fun a vals t => by
      have ne : a ≠ D := fun z => nt₁ vals (z ▸ t)
      obtain ⟨ob, e, z⟩ := t
      exact ⟨ob, hs.extBut a ob ne e, z⟩
    refine ⟨.dT none (dput es kk v), st₂, σ₂, h', _, rfl, I₃, .dictT d' ((qq.mono (List.prefix_refl _) T').stored kk b (rv.mono (List.prefix_refl _) T') (nodup_tup d)) (fun _ e => nomatch e), hD₁, ⟨X.pre, T.trans T', fun p ob e n1 n2 => hs.extBut p ob n2 (X.keep p ob e n1), X.new⟩, q⟩

theorem It.self {A : Around} {E : Value → Shared → Prop} {s : Shared} {σ : List Addr} {I : Addr} {src : Option (Nat × O)} {vs : List V} {i : Nat} (t : It σ s.heap I src vs i) {Q : Value → Shared → Prop} (h : Q (.ref I) s) : wpAny (model prog w) A (pyIter (.ref I)) Q E s := by
  cases t with
  | list _ x => exact wpAny_pyIter_listiter x h
  | tup _ _ x => exact wpAny_pyIter_tupleiter x h
  | range x => exact wpAny_pyIter_rangeiter x h
  | dict _ x => exact wpAny_pyIter_keyiter x h

theorem comp_loop (C : CxOk prog r cx) {e tg iter : Expr} {ifs : List Expr} {t : Addr → Sem Unit} {wt : WT} {wc : WB} {em : WEm}
    (hturn : ∀ I D : Addr, compTurn e 0 (.ref I) (.ref D) cx.env = (do
      standAt iter.pos
      match ← pyNext (.ref I) with
      | none => pure (.done .next)
      | some v =>
        letOwnedTupleGo tg (.ref I) v
        assign tg cx.env v
        let mut ok := true
        for c in ifs do
          if ok then ok ← isTrue c cx.env (eval c cx.env)
        if ok then t D
        again (.compLoop e 0 (.ref I) (.ref D) cx.env)))
    (hden : ∀ (A : Around) (I D : Addr), A.under (.compLoop e 0 (.ref I) (.ref D) cx.env) = A ∧ (model prog w).den (.compLoop e 0 (.ref I) (.ref D) cx.env) = (compTurn e 0 (.ref I) (.ref D) cx.env).onRaise (fun x => do noteFrame x cx.env; theTreesLotGoes x))
    (hq : ∀ I D : Addr, (Code.compLoop e 0 (.ref I) (.ref D) cx.env).quiet = true)
    (ht : Target prog w lev cx tg wt) (hc : SB prog w lev cx (testsOf ifs cx.env) wc) (he : EmitOk prog w lev cx t em) {A : Around} (rm : Room lev A) {I D : Addr} {src : Option (Nat × O)} {vs : List V} {σ₀ : List Addr} {st₀ : St} {η₀ : AE} {s₀ : Shared} {o₀ : O}
    (hID : I ≠ D) (aI : Aside cx I) (aD : Aside cx D) (I0 : Inv prog w cx σ₀ st₀ η₀ s₀.heap) (it : It σ₀ s₀.heap I src vs 0) (so : SrcOk src st₀) (hI : I ∉ σ₀) (hD : D ∉ σ₀) (ro : RO prog w σ₀ s₀.heap D o₀) {Q : O → St → Prop} (h : wCompI wt wc em src vs o₀ η₀ st₀ Q)
    {R : Result → Shared → Prop} (hR : ∀ o st σ η h' tk, Inv prog w cx σ st η h' → σ₀ <+: σ → RO prog w σ h' D o → D ∉ σ → SrcOk src st → Q o st → R (.ok .next) { s₀ with heap := h', toks := tk }) :
    codeAny (model prog w) A (.compLoop e 0 (.ref I) (.ref D) cx.env) R s₀ := by
  refine codeAny_loop (hq I D) (fun n s' => ∃ σ st η h tk i o, s' = { s₀ with heap := h, toks := tk } ∧ Inv prog w cx σ st η h ∧ σ₀ <+: σ ∧ It σ h I src vs i ∧ SrcOk src st ∧ I ∉ σ ∧ D ∉ σ ∧ RO prog w σ h D o ∧ n = vs.length - i ∧ wCompI wt wc em src (vs.drop i) o η st Q) ?_ vs.length
    ⟨σ₀, st₀, η₀, s₀.heap, s₀.toks, 0, o₀, rfl, I0, List.prefix_refl _, it, so, hI, hD, ro, by simp, h⟩
  intro n s' hz
  refine ex7 hz ?_
  clear hz; intro σ st η h₂ tk₂ i o hz
  refine conj10 hz ?_
  clear hz; rintro rfl Iv pre it so hI hD ro rfl h
  rw [(hden A I D).1, (hden A I D).2]
  refine wpAny_noted ?_
  rw [hturn]
  refine wpAny_bind (wpAny_standAt (wpAny_bind (nE (it.next (s := { s₀ with heap := h₂, toks := tk₂ }) rm.hand Iv.rep so hI (fun v u h₃ tk₃ ev rv it₃ hs => ?_) fun ev h₃ hs => ?_))))
  · have I₃ := Iv.asideC C hs.extBut hI aI it.notTuple
    have T₃ : TK h₂ h₃ := fun a vals t => by
      have ne : a ≠ I := fun z => it.notTuple vals (z ▸ t)
      obtain ⟨ob, e, z⟩ := t
      exact ⟨ob, hs.extBut a ob ne e, z⟩
    have ro₃ := ro.mono (List.prefix_refl _) T₃ fun ob e => hs.extBut D ob (Ne.symm hID) e
    have hi := (List.getElem?_eq_some_iff.mp ev).1
    have hd : vs.drop i = v :: vs.drop (i + 1) := by rw [List.drop_eq_getElem_cons hi]; congr 1; exact (List.getElem?_eq_some_iff.mp ev).2
    rw [hd] at h
    refine wpAny_bind (nE (it₃.go (s := { s₀ with heap := h₃, toks := tk₃ }) (wpAny_bind (nE (ht rm (s := { s₀ with heap := h₃, toks := tk₃ }) I₃ rv h fun h₄ tk₄ η₄ hk I₄ X₄ => ?_)))))
    have T₄ := X₄.tk I₃.rep
    have it₄ := it₃.keep X₄.pre T₄ (fun o e => X₄.keep _ o e hI aI.2.1 aI.2.2)
    have ro₄ := ro₃.mono X₄.pre T₄ (fun o e => X₄.keep _ o e hD aD.2.1 aD.2.2)
    refine wpAny_bind (nE (wpAny_mono (hc A rm σ st η₄ { s₀ with heap := h₄, toks := tk₄ } _ I₄ hk) ?_ fun _ _ x => x))
    refine fun b s' pz => pz.elim fun st₅ σ₅ h₅ tk₅ X₅ R₅ q => ?_
    have I₅ := I₄.ext X₅ R₅
    have T₅ := X₅.tk I₄.rep
    have it₅ := it₄.keep X₅.pre T₅ (fun o e => X₅.keep _ o e hI)
    have ro₅ := ro₄.mono X₅.pre T₅ (fun o e => X₅.keep _ o e hD)
    obtain ⟨oI, eI⟩ := it₄.there
    obtain ⟨oD, eD⟩ := ro₄.there
    have hI₅ := notin_ext X₅ hI eI
    have hD₅ := notin_ext X₅ hD eD
    cases b with
    | false =>
      obtain ⟨so₅, q⟩ := q
      exact wpAny_pure ⟨rfl, vs.length - (i + 1), by omega, σ₅, st₅, η₄, h₅, tk₅, i + 1, o, rfl, I₅, pre.trans (X₄.pre.trans X₅.pre), it₅, so₅, hI₅, hD₅, ro₅, rfl, q⟩
    | true =>
      refine wpAny_bind (nE (wpAny_mono (he A rm σ₅ st₅ η₄ { s₀ with heap := h₅, toks := tk₅ } _ o D I₅ hD₅ aD ro₅ q) ?_ fun _ _ x => x))
      intro _ s' hz
      refine ex5 hz ?_
      clear hz; intro o₆ st₆ σ₆ h₆ tk₆ hz
      refine conj7 hz ?_
      clear hz; rintro rfl I₆ ro₆ hD₆ X₆ so₆ q
      obtain ⟨oI', eI'⟩ := it₅.there
      have it₆ := it₅.keep X₆.pre X₆.tk (fun o e => X₆.keep _ o e hI₅ hID)
      have hI₆ : I ∉ σ₆ := fun m => by rw [X₆.new I m hI₅] at eI'; cases eI'
      exact wpAny_pure ⟨rfl, vs.length - (i + 1), by omega, σ₆, st₆, η₄, h₆, tk₆, i + 1, o₆, rfl, I₆, pre.trans (X₄.pre.trans (X₅.pre.trans X₆.pre)), it₆, so₆, hI₆, hD₆, ro₆, rfl, q⟩
  · have I₃ := Iv.asideC C hs hI aI it.notTuple
    have T₃ : TK h₂ h₃ := fun a vals t => by
      have ne : a ≠ I := fun z => it.notTuple vals (z ▸ t)
      obtain ⟨ob, e, z⟩ := t
      exact ⟨ob, hs a ob ne e, z⟩
    have hi : vs.length ≤ i := by simpa using ev
    rw [List.drop_eq_nil_of_le hi] at h
    exact wpAny_pure (hR o st σ η h₃ tk₂ I₃ pre (ro.mono (List.prefix_refl _) T₃ fun ob e => hs D ob (Ne.symm hID) e) hD so h)
end
end Mine
end

section -- Cm2
set_option autoImplicit false
set_option linter.unusedVariables false
namespace Mine

noncomputable def capE (caps : List String) (η : AE) : AE := fun x => if x ∈ caps then η x else none
noncomputable def wComp (wa : WE) (caps : List String) (wt : WT) (wc : WB) (em : WEm) (o₀ : O) : AE → St → (O → St → Prop) → Prop := fun η st Q => wa η st fun v st₁ => wIter v st₁ fun src vs st₂ un => wCompI wt wc em src vs o₀ (capE caps η) st₂ fun o st₃ => Q o (un st₃)
noncomputable def wCompE (wa : WE) (caps : List String) (wt : WT) (wc : WB) (em : WEm) (o₀ : O) : WE := fun η st Q => wComp wa caps wt wc em o₀ η st fun o st' => Q (.loc st'.length) (st' ++ [o])
abbrev compCx (scope : Scope) (cl : List (Str × Addr)) (cx : Cx) (C : Addr) (base : Heap) : Cx := ⟨compEnvC scope cl C cx.env, base⟩

section
variable {prog : Program} {w : World} {r : RootD} {lev : Nat} {cx : Cx}

theorem Rep.aside {σ : List Addr} {st : St} {h h' : Heap} {p : Addr} (R : Rep prog w σ st h) (hs : Heap.ExtBut p h h') (hp : p ∉ σ) (ht : ∀ vals, ¬ h.IsTuple p vals) (ha : ∃ b o, b ≠ p ∧ sysModules ≤ b ∧ h.get? b = some o) : Rep prog w σ st h' ∧ TK h h' := by
  have T : TK h h' := fun a vals t => by
    have ne : a ≠ p := fun q => ht vals (q ▸ t)
    obtain ⟨o, e, q⟩ := t
    exact ⟨o, hs a o ne e, q⟩
  exact ⟨⟨R.len, R.nodup, fun i o a e f => (R.obj i o a e f).mono (List.prefix_refl _) T (fun ob e' => hs a ob (fun q => hp (q ▸ List.mem_of_getElem? f)) e'), R.low, let ⟨b, o, n, l, e⟩ := ha; ⟨b, o, l, hs b o n e⟩⟩, T⟩

theorem Rep.adopt {σ : List Addr} {st : St} {h : Heap} {D : Addr} {o : O} (R : Rep prog w σ st h) (hD : D ∉ σ) (hl : (D == sysModules) = false) (ro : RO prog w σ h D o) : Rep prog w (σ ++ [D]) (st ++ [o]) h := by
  refine ⟨by simp [R.len], ?_, fun i o' a' e f => ?_, fun b m => ?_, R.anchor⟩
  · rw [List.nodup_append]
    exact ⟨R.nodup, by simp, fun x hx y hy => by simp at hy; subst hy; exact fun e => hD (e ▸ hx)⟩
  · by_cases hi : i < st.length
    · rw [List.getElem?_append_left hi] at e
      rw [List.getElem?_append_left (by rw [R.len]; exact hi)] at f
      exact (R.obj i o' a' e f).mono (List.prefix_append _ _) (TK.refl _) (fun ob e => e)
    · have hi' : i < (st ++ [o]).length := (List.getElem?_eq_some_iff.mp e).1
      have : i = st.length := by simp at hi'; omega
      subst this
      simp at e; rw [← R.len] at f; simp at f; subst e; subst f; exact ro.mono (List.prefix_append _ _) (TK.refl _) (fun ob e => e)
  · rcases List.mem_append.mp m with m | m
    · exact R.low b m
    · simp at m; subst m; exact hl

theorem comp_core (C : CxOk prog r cx) {e tg iter : Expr} {ifs : List Expr} {t : Env → Addr → Sem Unit} {wa : WE} {caps : List String} {wt : WT} {wc : WB} {em : WEm} {o₀ : O} {oA : Obj} {scope : Scope} {cl : List (Str × Addr)} {newAcc : Sem Value}
    (hturn : ∀ (env : Env) (I D : Addr), compTurn e 0 (.ref I) (.ref D) env = (do
      standAt iter.pos
      match ← pyNext (.ref I) with
      | none => pure (.done .next)
      | some v =>
        letOwnedTupleGo tg (.ref I) v
        assign tg env v
        let mut ok := true
        for c in ifs do
          if ok then ok ← isTrue c env (eval c env)
        if ok then t env D
        again (.compLoop e 0 (.ref I) (.ref D) env)))
    (hden : ∀ (env : Env) (A : Around) (I D : Addr), A.under (.compLoop e 0 (.ref I) (.ref D) env) = A ∧ (model prog w).den (.compLoop e 0 (.ref I) (.ref D) env) = (compTurn e 0 (.ref I) (.ref D) env).onRaise (fun x => do noteFrame x env; theTreesLotGoes x))
    (hq : ∀ (env : Env) (I D : Addr), (Code.compLoop e 0 (.ref I) (.ref D) env).quiet = true)
    (hstart : ∀ (env : Env) (I D : Addr) (A : Around) (R : Result → Shared → Prop) (s : Shared), codeAny (model prog w) A (.compLoop e 0 (.ref I) (.ref D) env) R s →
      wpAny (model prog w) A (pyIter (.ref I)) (fun it' s' => codeAny (model prog w) A (.compLoop e 0 it' (.ref D) env) R s') (notedBy (model prog w) A env fun x s' => R (.error x) s') s → codeAny (model prog w) A (.compStart e 0 (.ref I) (.ref D) env) R s)
    (hnew : ∀ (A : Around) (E : Value → Shared → Prop) (s : Shared) (Q : Value → Shared → Prop), Q (.ref s.heap.objs.size) { s with heap := s.heap.push oA } → wpAny (model prog w) A newAcc Q E s)
    (hro : ∀ σ (h : Heap), RO prog w σ (h.push oA) h.objs.size o₀)
    (hkind : scope.kind = .function) (hcell : ∀ y ∈ scope.names, y.2 ≠ .cell)
    (hsub : ∀ p ∈ cl, cx.env.cells.lookup p.1 = some p.2)
    (hcap : ∀ x ∈ caps, (cl.lookup (Str.ofString x)).isSome = true ∧ (cx.env.kindOf (Str.ofString x) = some .cell ∨ cx.env.kindOf (Str.ofString x) = some .free) ∧ (relabel scope cx.env).names.lookup (Str.ofString x) ≠ some .local)
    (ha : SE prog w lev cx (eval iter cx.env) wa)
    (hbody : ∀ C' base, CxOk prog r (compCx scope cl cx C' base) → Target prog w lev (compCx scope cl cx C' base) tg wt ∧ SB prog w lev (compCx scope cl cx C' base) (testsOf ifs (compEnvC scope cl C' cx.env)) wc ∧ EmitOk prog w lev (compCx scope cl cx C' base) (t (compEnvC scope cl C' cx.env)) em)
    {A : Around} (rm : Room lev A) {σ : List Addr} {st : St} {η : AE} {s : Shared} {Q : O → St → Prop} (I : Inv prog w cx σ st η s.heap) (h : wComp wa caps wt wc em o₀ η st Q)
    {RR : Value → Addr → Result → Shared → Prop}
    (hRR : ∀ D Ca h' tk m σ' st' o, s.heap.get? Ca = none → h'.Ns Ca m → Ca ∉ σ' ++ [D] → Rep prog w (σ' ++ [D]) (st' ++ [o]) h' → Ext σ s.heap (σ' ++ [D]) h' → (σ' ++ [D])[st'.length]? = some D → Q o st' → RR (.ref D) Ca (.ok .next) { s with heap := h', toks := tk })
    {E : Value → Shared → Prop} :
    wpAny (model prog w) A (eval iter cx.env) (fun x s₁ => wpAny (model prog w) A (pyIter x) (fun it s₂ => wpAny (model prog w) A newAcc (fun acc s₃ =>
      wpAny (model prog w) A (newFunctionEnv scope cx.env.globals cl [] cx.env.qual none .none (some cx.env)) (fun cenv s₄ =>
        codeAny (model prog w) A (.compStart e 0 it acc { cenv with scope := relabel scope cx.env }) (RR acc cenv.locals) s₄) E s₃) E s₂) E s₁) E s := by
  refine nE (wpAny_mono (ha A rm σ st η s _ I h) ?_ fun _ _ x => x)
  refine fun u s₁ pz => pz.elim fun v st₁ σ₁ h₁ tk₁ X R rv h => ?_
  have I₁ := I.ext X R
  refine iter_new (s := { s with heap := h₁, toks := tk₁ }) R rv h fun src vs st' un oI hk R' it so un_ok => ?_
  refine hnew _ _ _ _ ?_
  refine wpAny_newFunctionEnv hcell (by intro y hy; simp at hy) (fun h₂ hns hsb => ?_) hkind
  dsimp only at hns hsb it R' ⊢
  generalize eI : h₁.push oI = hI at it R' hns hsb ⊢
  have szI : hI.objs.size = h₁.objs.size + 1 := by rw [← eI, Heap.size_push]
  have roD := hro σ₁ hI
  generalize eD : hI.push oA = hD at hns hsb roD ⊢
  have szD : hD.objs.size = hI.objs.size + 1 := by rw [← eD, Heap.size_push]
  have gI : ∀ b o, h₁.get? b = some o → hI.get? b = some o := fun b o e => by rw [← eI]; exact Heap.get?_push_of_some _ e
  have gD : ∀ b o, hI.get? b = some o → hD.get? b = some o := fun b o e => by rw [← eD]; exact Heap.get?_push_of_some _ e
  have g2 : ∀ b o, hD.get? b = some o → h₂.get? b = some o := fun b o e => hsb.extBut b o (Nat.ne_of_lt (Heap.lt_size e)) (Heap.get?_push_of_some _ e)
  have gAll : ∀ b o, h₁.get? b = some o → h₂.get? b = some o := fun b o e => g2 b o (gD b o (gI b o e))
  have fresh : ∀ a, h₁.objs.size ≤ a → h₁.get? a = none := fun a l => Heap.get?_none_of_le l
  have fI : h₁.get? h₁.objs.size = none := fresh _ (Nat.le_refl _)
  have fD : h₁.get? hI.objs.size = none := fresh _ (by rw [szI]; exact Nat.le_succ _)
  have fC : h₁.get? hD.objs.size = none := fresh _ (by rw [szD, szI]; exact Nat.le_trans (Nat.le_succ _) (Nat.le_succ _))
  have offσ : ∀ a, h₁.get? a = none → a ∉ σ₁ := fun a e m => by obtain ⟨ob, e'⟩ := R.there m; rw [e] at e'; cases e'
  have offc : ∀ x c, cl.lookup x = some c → cx.env.cells.lookup x = some c := fun x c e => hsub (x, c) (PySem.mem_of_lookup e)
  have offC : ∀ a, h₁.get? a = none → ∀ x, cl.lookup x ≠ some a := fun a e x q => by
    obtain ⟨v, o, e', _⟩ := I₁.cell x a (offc x a q); rw [e] at e'; cases e'
  have C' : CxOk prog r (compCx scope cl cx hD.objs.size (hideAll h₁ σ₁)) := ⟨hkind, C.glob, C.blt, C.wd.keeps fun b o e => hideAll_get σ₁ (I₁.keep b o e) fun m => (by rw [I₁.off b m] at e; cases e), hide_gone fC⟩
  obtain ⟨ht, hc, he⟩ := hbody hD.objs.size (hideAll h₁ σ₁) C'
  have I' : Inv prog w (compCx scope cl cx hD.objs.size (hideAll h₁ σ₁)) σ₁ st' (capE caps η) h₂ := by
    refine ⟨R'.grow fun b o e => g2 b o (gD b o e), fun b o e => gAll b o (of_hideAll σ₁ e), fun a m => hideAll_none σ₁ m, ⟨_, hns, fun x v k e => ?_⟩, fun x v k e => ?_, fun x c e => ?_, offσ _ fC, fun x c e => I₁.coff x c (offc x c e)⟩
    · unfold capE at e
      split at e
      · rename_i q; exact absurd k (hcap x q).2.2
      · cases e
    · unfold capE at e
      split at e
      · rename_i q
        obtain ⟨c, u, e1, ⟨ob, e2, e3⟩, e4⟩ := I₁.cells x v (hcap x q).2.1 e
        obtain ⟨c', hc'⟩ := Option.isSome_iff_exists.mp (hcap x q).1
        have := offc _ _ hc'
        rw [e1] at this; cases this
        exact ⟨c, u, hc', ⟨ob, gAll _ _ e2, e3⟩, e4.mono (List.prefix_refl _) (tk_grow gAll)⟩
      · cases e
    · obtain ⟨v, ob, e1, e2⟩ := I₁.cell x c (offc x c e); exact ⟨v, ob, gAll _ _ e1, e2⟩
  have hID : h₁.objs.size ≠ hI.objs.size := by rw [szI]; exact Nat.ne_of_lt (Nat.lt_succ_self _)
  have hIC : h₁.objs.size ≠ hD.objs.size := by rw [szD, szI]; exact Nat.ne_of_lt (Nat.lt_succ_of_lt (Nat.lt_succ_self _))
  have hDC : hI.objs.size ≠ hD.objs.size := by rw [szD]; exact Nat.ne_of_lt (Nat.lt_succ_self _)
  have aI : Aside (compCx scope cl cx hD.objs.size (hideAll h₁ σ₁)) h₁.objs.size := ⟨hide_gone fI, hIC, offC _ fI⟩
  have aD : Aside (compCx scope cl cx hD.objs.size (hideAll h₁ σ₁)) hI.objs.size := ⟨hide_gone fD, hDC, offC _ fD⟩
  have it₂ := it.keep (h' := h₂) (List.prefix_refl _) (tk_grow fun b o e => g2 b o (gD b o e)) (fun o e => g2 _ o (gD _ o e))
  have ro₂ : RO prog w σ₁ h₂ hI.objs.size o₀ := roD.mono (List.prefix_refl _) (tk_grow g2) fun ob e => g2 _ ob e
  have lowD : (hI.objs.size == sysModules) = false := by
    obtain ⟨o, _, _, e, _⟩ := C.wd.g
    have := Heap.lt_size (gI _ _ (I₁.keep _ _ e))
    refine beq_eq_false_iff_ne.mpr fun q => ?_
    rw [q] at this; exact absurd this (by decide)
  have loop : ∀ s₃ : Shared, s₃ = { s with heap := h₂, toks := tk₁ + ([] : List (Str × Value)).length } →
      codeAny (model prog w) A (.compLoop e 0 (.ref h₁.objs.size) (.ref hI.objs.size) (compEnvC scope cl hD.objs.size cx.env)) (RR (.ref hI.objs.size) hD.objs.size) s₃ := by
    rintro s₃ rfl
    refine comp_loop C' (cx := compCx scope cl cx hD.objs.size (hideAll h₁ σ₁)) (hturn _) (hden _) (hq _) ht hc he rm hID aI aD I' it₂ so (offσ _ fI) (offσ _ fD) ro₂ hk fun o st₃ σ₃ η₃ h₃ tk₃ I₃ pre ro₃ hD₃ so₃ q => ?_
    obtain ⟨m, hm, _⟩ := I₃.loc
    have R₃ := (un_ok _ _ _ I₃.rep so₃).adopt hD₃ lowD ro₃
    have X₃ : Ext σ₁ h₁ (σ₃ ++ [hI.objs.size]) h₃ := by
      refine ⟨pre.trans (List.prefix_append _ _), fun a ob e n => I₃.keep a ob (hideAll_get σ₁ e n), fun a m n => ?_⟩
      rcases List.mem_append.mp m with m | m
      · cases q : h₁.get? a with
        | none => rfl
        | some ob => have := I₃.off a m; rw [show (hideAll h₁ σ₁).get? a = some ob from hideAll_get σ₁ q n] at this; cases this
      · simp at m; subst m; exact fD
    have fCs : s.heap.get? hD.objs.size = none := by
      cases q : s.heap.get? hD.objs.size with
      | none => rfl
      | some ob =>
        by_cases m : hD.objs.size ∈ σ
        · obtain ⟨tt, ht'⟩ := X.pre
          exact absurd (ht' ▸ List.mem_append_left _ m) (offσ _ fC)
        · have := X.keep _ _ q m; rw [fC] at this; cases this
    refine hRR _ _ h₃ tk₃ m σ₃ (un st₃) o fCs hm (fun mm => ?_) R₃ (X.trans X₃) ?_ q
    · rcases List.mem_append.mp mm with mm | mm
      · exact I₃.Loff mm
      · simp at mm; exact hDC mm.symm
    · have := (un_ok _ _ _ I₃.rep so₃).len
      rw [← this]; simp
  exact hstart _ _ _ _ _ _ (loop _ rfl) (it₂.self (loop _ rfl))
end
end Mine
end

section -- Cm3
set_option autoImplicit false
set_option linter.unusedVariables false
namespace Mine

noncomputable def wListComp (wa : WE) (caps : List String) (wt : WT) (wc : WB) (we : WE) : WE := wCompE wa caps wt wc (emList we) (.list [])
noncomputable def wDictComp (wa : WE) (caps : List String) (wt : WT) (wc : WB) (wk wv : WE) : WE := wCompE wa caps wt wc (emDict wk wv) (.dT none [])

section
variable {prog : Program} {w : World} {r : RootD} {lev : Nat} {cx : Cx}

theorem post_of_core (C : CxOk prog r cx) {σ σ' : List Addr} {st st' : St} {η : AE} {s : Shared} {h' h'' : Heap} {Ca D : Addr} {o : O} {m : Str → Option Value} (I : Inv prog w cx σ st η s.heap) (fc : s.heap.get? Ca = none) (hn : h'.Ns Ca m) (hC : Ca ∉ σ' ++ [D])
    (R : Rep prog w (σ' ++ [D]) (st' ++ [o]) h') (X : Ext σ s.heap (σ' ++ [D]) h') (hs : Heap.SameBut Ca h' h'') : Rep prog w (σ' ++ [D]) (st' ++ [o]) h'' ∧ Ext σ s.heap (σ' ++ [D]) h'' := by
  have anc : ∃ b ob, b ≠ Ca ∧ sysModules ≤ b ∧ h'.get? b = some ob := by
    obtain ⟨og, _, _, e, _⟩ := C.wd.g
    have e' := I.keep _ _ e
    have n : mainGlobals ∉ σ := fun mm => by rw [I.off _ mm] at e; cases e
    exact ⟨mainGlobals, og, fun q => (by subst q; rw [fc] at e'; cases e'), by decide, X.keep _ _ e' n⟩
  refine ⟨(R.aside hs.extBut hC (ns_notTuple hn) anc).1, ⟨X.pre, fun a ob e n => hs.extBut a ob (fun q => by subst q; rw [fc] at e; cases e) (X.keep a ob e n), X.new⟩⟩

theorem se_listcomp (C : CxOk prog r cx) {elt tg iter : Expr} {ifs : List Expr} {wa we : WE} {wt : WT} {wc : WB} (caps : List String) {scope : Scope} {cl : List (Str × Addr)} {pos : Pos}
    (hs : ∀ x, foldedSetIterable iter cx.env x = pure x) (hclos : closureFor scope cx.env = pure cl) (hkind : scope.kind = .function) (hcell : ∀ y ∈ scope.names, y.2 ≠ .cell) (hnames : ∀ y ∈ scope.names, y.2 = .local → scope.names.lookup y.1 = some .local)
    (hsub : ∀ p ∈ cl, cx.env.cells.lookup p.1 = some p.2)
    (hcap : ∀ x ∈ caps, (cl.lookup (Str.ofString x)).isSome = true ∧ (cx.env.kindOf (Str.ofString x) = some .cell ∨ cx.env.kindOf (Str.ofString x) = some .free) ∧ (relabel scope cx.env).names.lookup (Str.ofString x) ≠ some .local)
    (ha : SE prog w lev cx (eval iter cx.env) wa)
    (hbody : ∀ C' base, CxOk prog r (compCx scope cl cx C' base) → Target prog w lev (compCx scope cl cx C' base) tg wt ∧ SB prog w lev (compCx scope cl cx C' base) (testsOf ifs (compCx scope cl cx C' base).env) wc ∧ SE prog w lev (compCx scope cl cx C' base) (eval elt (compCx scope cl cx C' base).env) we) :
    SE prog w lev cx (eval (.ListComp elt [⟨tg, iter, ifs, 0⟩] scope pos) cx.env) (wListComp wa caps wt wc we) := fun A rm σ st η s Q I h => by
  rw [eval_ListComp]
  refine wpAny_comprehension_free (use := none) rfl hs hclos hkind hnames ?_
  refine comp_core (Q := fun o st' => Q (.loc st'.length) (st' ++ [o])) C (RR := fun acc Ca => compPost (model prog w) A No none (Post prog w σ s Q) acc Ca) (t := fun env D => (do let _ ← call (.builtin "list.append") [.ref D, ← eval elt env])) (oA := { cls := .type "list", data := .seq #[] }) (o₀ := .list [])
    (fun env I D => compTurn_list elt tg iter ifs scope pos (.ref I) (.ref D) env) (fun _ _ _ _ => ⟨rfl, rfl⟩) (fun _ _ _ => rfl) (fun _ _ _ _ _ _ h0 h1 => codeAny_compStart_list h0 h1) (fun A E s Q h => wpAny_newObj_type h)
    (fun σ h => .list (vals := []) ⟨_, 0, Heap.get?_push_size _ rfl, rfl, rfl, rfl⟩ .nil) hkind hcell hsub hcap ha (fun C' base c => let ⟨a, b, d⟩ := hbody C' base c; ⟨a, b, emit_list c d⟩) rm I h ?_
  intro D Ca h' tk m σ' st' o fc hn hC R X ed q
  refine ⟨m, hn, fun h'' hs' => ?_⟩
  obtain ⟨R', X'⟩ := post_of_core C I fc hn hC R X hs'
  exact ⟨.loc st'.length, _, _, h'', tk, rfl, X', R', .loc ed, q⟩

theorem se_dictcomp (C : CxOk prog r cx) {kx vx tg iter : Expr} {ifs : List Expr} {wa wk wv : WE} {wt : WT} {wc : WB} (caps : List String) {scope : Scope} {cl : List (Str × Addr)} {pos : Pos}
    (hs : ∀ x, foldedSetIterable iter cx.env x = pure x) (hclos : closureFor scope cx.env = pure cl) (hkind : scope.kind = .function) (hcell : ∀ y ∈ scope.names, y.2 ≠ .cell) (hnames : ∀ y ∈ scope.names, y.2 = .local → scope.names.lookup y.1 = some .local)
    (hsub : ∀ p ∈ cl, cx.env.cells.lookup p.1 = some p.2)
    (hcap : ∀ x ∈ caps, (cl.lookup (Str.ofString x)).isSome = true ∧ (cx.env.kindOf (Str.ofString x) = some .cell ∨ cx.env.kindOf (Str.ofString x) = some .free) ∧ (relabel scope cx.env).names.lookup (Str.ofString x) ≠ some .local)
    (ha : SE prog w lev cx (eval iter cx.env) wa)
    (hbody : ∀ C' base, CxOk prog r (compCx scope cl cx C' base) → Target prog w lev (compCx scope cl cx C' base) tg wt ∧ SB prog w lev (compCx scope cl cx C' base) (testsOf ifs (compCx scope cl cx C' base).env) wc ∧
      SE prog w lev (compCx scope cl cx C' base) (eval kx (compCx scope cl cx C' base).env) wk ∧ SE prog w lev (compCx scope cl cx C' base) (eval vx (compCx scope cl cx C' base).env) wv) :
    SE prog w lev cx (eval (.DictComp kx vx [⟨tg, iter, ifs, 0⟩] scope pos) cx.env) (wDictComp wa caps wt wc wk wv) := fun A rm σ st η s Q I h => by
  rw [arm_eval_DictComp]
  refine wpAny_comprehension_free (use := none) rfl hs hclos hkind hnames ?_
  refine comp_core (Q := fun o st' => Q (.loc st'.length) (st' ++ [o])) C (RR := fun acc Ca => compPost (model prog w) A No none (Post prog w σ s Q) acc Ca) (t := fun env D => (do
            let kv ← eval kx env
            let vv ← holding [kv] (eval vx env)
            standAt { kx.pos with endLine := vx.pos.endLine, endCol := vx.pos.endCol }
            holding [kv, vv] (dictSet D kv vv))) (oA := { cls := .type "dict", data := .dict #[] }) (o₀ := .dT none [])
    (fun env I D => compTurn_dict kx vx tg iter ifs scope pos (.ref I) D env) (fun _ _ _ _ => ⟨rfl, rfl⟩) (fun _ _ _ => rfl) (fun _ _ _ _ _ _ h0 h1 => codeAny_compStart_dict h0 h1) (fun A E s Q h => wpAny_newObj_type h)
    (fun σ h => .dictT (Heap.DictOfH.new _) .nil (fun _ e => nomatch e)) hkind hcell hsub hcap ha (fun C' base c => let ⟨a, b, d, e⟩ := hbody C' base c; ⟨a, b, emit_dict c d e⟩) rm I h ?_
  intro D Ca h' tk m σ' st' o fc hn hC R X ed q
  refine ⟨m, hn, fun h'' hs' => ?_⟩
  obtain ⟨R', X'⟩ := post_of_core C I fc hn hC R X hs'
  exact ⟨.loc st'.length, _, _, h'', tk, rfl, X', R', .loc ed, q⟩

/-- a list comprehension bound to a name on its own line -/
theorem ss1_assignLC (C : CxOk prog r cx) {y : String} {elt tg iter : Expr} {ifs : List Expr} {wa we : WE} {wt : WT} {wc : WB} (caps : List String) {scope : Scope} {cl : List (Str × Addr)} {pos py spos : Pos} (hb : Bind prog w cx y)
    (hsw : swapsWith (.ListComp elt [⟨tg, iter, ifs, 0⟩] scope pos) (some (.Name (Str.ofString y) py)) spos.line cx.env = pure true)
    (hs : ∀ x, foldedSetIterable iter cx.env x = pure x) (hclos : closureFor scope cx.env = pure cl) (hkind : scope.kind = .function) (hcell : ∀ y ∈ scope.names, y.2 ≠ .cell) (hnames : ∀ y ∈ scope.names, y.2 = .local → scope.names.lookup y.1 = some .local)
    (hsub : ∀ p ∈ cl, cx.env.cells.lookup p.1 = some p.2)
    (hcap : ∀ x ∈ caps, (cl.lookup (Str.ofString x)).isSome = true ∧ (cx.env.kindOf (Str.ofString x) = some .cell ∨ cx.env.kindOf (Str.ofString x) = some .free) ∧ (relabel scope cx.env).names.lookup (Str.ofString x) ≠ some .local)
    (ha : SE prog w lev cx (eval iter cx.env) wa)
    (hbody : ∀ C' base, CxOk prog r (compCx scope cl cx C' base) → Target prog w lev (compCx scope cl cx C' base) tg wt ∧ SB prog w lev (compCx scope cl cx C' base) (testsOf ifs (compCx scope cl cx C' base).env) wc ∧ SE prog w lev (compCx scope cl cx C' base) (eval elt (compCx scope cl cx C' base).env) we) :
    SS1 prog w lev cx (.Assign [.Name (Str.ofString y) py] (.ListComp elt [⟨tg, iter, ifs, 0⟩] scope pos) spos) (wAssign y (wListComp wa caps wt wc we)) := fun A rm σ st η s Q I h => by
  rw [exec_Assign_Name_used _ _ _ _ hsw]
  refine wpAny_bind (wpAny_standAt (wpAny_bind ?_))
  show wpAny _ A (do let _ ← comprehension (.ListComp elt [⟨tg, iter, ifs, 0⟩] scope pos) scope cx.env _ (newList []) false (eval iter cx.env) (some (assign (.Name (Str.ofString y) py) cx.env))) _ _ s
  refine wpAny_bind (wpAny_mono (wpAny_comprehension_free (use := some (assign (.Name (Str.ofString y) py) cx.env)) (Q := fun _ s' => PostS prog w cx σ s Q .next s') rfl hs hclos hkind hnames ?_) (fun _ s' hq => wpAny_pure (wpAny_pure hq)) fun _ _ e => e)
  refine comp_core (Q := fun o st' => Q .next (AE.set y (.loc st'.length) η) (st' ++ [o])) C (RR := fun acc Ca => compPost (model prog w) A No (some (assign (.Name (Str.ofString y) py) cx.env)) (fun _ s' => PostS prog w cx σ s Q .next s') acc Ca) (t := fun env D => (do let _ ← call (.builtin "list.append") [.ref D, ← eval elt env])) (oA := { cls := .type "list", data := .seq #[] }) (o₀ := .list [])
    (fun env I D => compTurn_list elt tg iter ifs scope pos (.ref I) (.ref D) env) (fun _ _ _ _ => ⟨rfl, rfl⟩) (fun _ _ _ => rfl) (fun _ _ _ _ _ _ h0 h1 => codeAny_compStart_list h0 h1) (fun A E s Q h => wpAny_newObj_type h)
    (fun σ h => .list (vals := []) ⟨_, 0, Heap.get?_push_size _ rfl, rfl, rfl, rfl⟩ .nil) hkind hcell hsub hcap ha (fun C' base c => let ⟨a, b, d⟩ := hbody C' base c; ⟨a, b, emit_list c d⟩) rm I h ?_
  intro D Ca h' tk m σ' st' o fc hn hC R X ed q
  have I' := I.ext X R
  have rv : RV (σ' ++ [D]) h' (.ref D) (.loc st'.length) := .loc ed
  show wpAny _ A (assign (.Name (Str.ofString y) py) cx.env (.ref D)) _ _ _
  have fcL : Ca ≠ cx.env.locals := fun z => by obtain ⟨_, ⟨ob, _, _, e, _⟩, _⟩ := I.loc; rw [← z, fc] at e; cases e
  have fcc : ∀ x, cx.env.cells.lookup x ≠ some Ca := fun x z => by obtain ⟨_, ob, e, _⟩ := I.cell x Ca z; rw [fc] at e; cases e
  have fcb : cx.base.get? Ca = none := by
    cases q : cx.base.get? Ca with
    | none => rfl
    | some ob => have := I.keep _ _ q; rw [fc] at this; cases this
  refine wpAny_assign_Name (hb (s := { s with heap := h', toks := tk }) I' rv fun h₂ tk₂ I₂ X₂ => ?_)
  have hn₂ : h₂.Ns Ca m := hn.at' fun ob e => X₂.keep Ca ob e hC fcL fcc
  refine ⟨m, hn₂, fun h₃ hs₃ => ?_⟩
  have I₃ := I₂.asideC C hs₃.extBut hC ⟨fcb, fcL, fcc⟩ (ns_notTuple hn₂)
  have XX := (I.extS X).thenI I' X₂
  exact ⟨.next, _, _, _, h₃, tk₂, rfl, I₃, ⟨XX.pre, fun a ob e n n1 n2 => hs₃.extBut a ob (fun z => by subst z; rw [fc] at e; cases e) (XX.keep a ob e n n1 n2), XX.new, XX.frame⟩, .next, q⟩
end
end Mine
end

section -- Srt1
set_option autoImplicit false
set_option linter.unusedVariables false
namespace Mine

/-! the tree of questions of a small sort, answered by an order -/
noncomputable def kev {α : Type} (c : Nat → Nat → Bool) : KasT α → α
  | .ret a => a
  | .ask i j k => kev c (k (c i j))
theorem kev_bind {α β : Type} {c : Nat → Nat → Bool} {f : α → KasT β} : ∀ (t : KasT α), kev c (t.bind f) = kev c (f (kev c t))
  | .ret a => rfl
  | .ask i j k => by
    show kev c ((k (c i j)).bind f) = kev c (f (kev c (k (c i j))))
    exact kev_bind (k (c i j))
theorem kev_ite {α : Type} {c : Nat → Nat → Bool} {b : Prop} [Decidable b] {x y : KasT α} : kev c (if b then x else y) = if b then kev c x else kev c y := by split <;> rfl

theorem kev_wp {α : Type} {cmp : Nat → Nat → (Bool → Shared → Prop) → Shared → Prop} {c : Nat → Nat → Bool} {s : Shared} (hc : ∀ i j C, C (c i j) s → cmp i j C s) {Q : α → Shared → Prop} : ∀ (t : KasT α), Q (kev c t) s → t.kasWp cmp Q s
  | .ret a, h => h
  | .ask i j k, h => hc i j _ (kev_wp hc (k (c i j)) h)

section
variable (c : Nat → Nat → Bool) (n : Nat)
structure Ord : Prop where
  trans : ∀ i j k, i < n → j < n → k < n → c i j = true → c j k = true → c i k = true
  asym : ∀ i j, i < n → j < n → c i j = true → c j i = false
  tot : ∀ i j, i < n → j < n → i ≠ j → c i j = false → c j i = true
noncomputable def at' (p : Array Nat) (i : Nat) : Nat := p.getD i 0
noncomputable def Asc (p : Array Nat) (m : Nat) : Prop := ∀ i j, i < j → j < m → c (at' p i) (at' p j) = true
noncomputable def Desc (p : Array Nat) (m : Nat) : Prop := ∀ i j, i < j → j < m → c (at' p j) (at' p i) = true
noncomputable def Pm (p : Array Nat) : Prop := p.toList.Perm (List.range n)
end

section
variable {c : Nat → Nat → Bool} {n : Nat} {p : Array Nat}
theorem Pm.size (h : Pm n p) : p.size = n := by have := h.length_eq; simpa using this
theorem at_eq {i : Nat} (h : i < p.size) : at' p i = p[i] := by simp [at', Array.getD, h]
theorem Pm.lt (h : Pm n p) {i : Nat} (hi : i < n) : at' p i < n := by
  have hi' : i < p.size := by rw [h.size]; exact hi
  rw [at_eq hi']
  have : p[i] ∈ p.toList := by simp
  have := (h.mem_iff (a := p[i])).mp this
  simpa using this
theorem Pm.inj (h : Pm n p) {i j : Nat} (hi : i < n) (hj : j < n) (e : at' p i = at' p j) : i = j := by
  have hi' : i < p.size := by rw [h.size]; exact hi
  have hj' : j < p.size := by rw [h.size]; exact hj
  have nd : p.toList.Nodup := (h.nodup_iff).mpr List.nodup_range
  rw [at_eq hi', at_eq hj'] at e
  have hi2 : i < p.toList.length := by simpa using hi'
  have hj2 : j < p.toList.length := by simpa using hj'
  have e2 : p.toList[i]? = p.toList[j]? := by rw [List.getElem?_eq_getElem hi2, List.getElem?_eq_getElem hj2]; simpa using e
  exact (List.getElem?_inj hi2 nd).mp e2
theorem at_get (p : Array Nat) (k : Nat) : at' p k = (p[k]?).getD 0 := by
  unfold at'
  by_cases h : k < p.size
  · simp [Array.getD, h]
  · simp [Array.getD, h]
theorem at_some {i v : Nat} (h : p[i]? = some v) : at' p i = v := by
  obtain ⟨hi, e⟩ := Array.getElem?_eq_some_iff.mp h
  rw [at_eq hi, e]

/-- the next one is above: the run grows -/
theorem Asc.step (O : Ord c n) (P : Pm n p) {m : Nat} (h1 : 1 ≤ m) (hm : m < n) (A : Asc c p m) (hc : c (at' p m) (at' p (m - 1)) = false) : Asc c p (m + 1) := by
  have hl := O.tot _ _ (P.lt hm) (P.lt (show m - 1 < n by omega)) (fun e => by have := P.inj hm (show m - 1 < n by omega) e; omega) hc
  intro i j hij hj
  by_cases q : j = m
  · subst q
    by_cases q2 : i = j - 1
    · subst q2; exact hl
    · exact O.trans _ _ _ (P.lt (by omega)) (P.lt (by omega)) (P.lt hm) (A i (j - 1) (by omega) (by omega)) hl
  · exact A i j hij (by omega)
theorem kev_asc (O : Ord c n) (P : Pm n p) : ∀ (f m : Nat), 1 ≤ m → m + f = n → Asc c p m → ∃ r, kev c (kas_asc p f m) = r ∧ m ≤ r ∧ r ≤ n ∧ Asc c p r ∧ (r < n → c (at' p r) (at' p (r - 1)) = true)
  | 0, m, h1, hf, A => ⟨m, rfl, Nat.le_refl _, by omega, A, fun h => by omega⟩
  | f + 1, m, h1, hf, A => by
    show ∃ r, kev c (if c (p.getD m 0) (p.getD (m - 1) 0) = true then .ret m else kas_asc p f (m + 1)) = r ∧ _
    rw [kev_ite]
    cases q : c (at' p m) (at' p (m - 1)) with
    | true => exact ⟨m, by rw [if_pos (show c (p.getD m 0) (p.getD (m - 1) 0) = true from q)]; rfl, Nat.le_refl _, by omega, A, fun _ => q⟩
    | false =>
      rw [if_neg (show ¬ c (p.getD m 0) (p.getD (m - 1) 0) = true by rw [show c (p.getD m 0) (p.getD (m - 1) 0) = false from q]; simp)]
      obtain ⟨r, e, a, b, d, g⟩ := kev_asc O P f (m + 1) (by omega) (by omega) (A.step O P h1 (by omega) q)
      exact ⟨r, e, by omega, b, d, g⟩
theorem Desc.step (O : Ord c n) (P : Pm n p) {m : Nat} (h1 : 1 ≤ m) (hm : m < n) (A : Desc c p m) (hc : c (at' p m) (at' p (m - 1)) = true) : Desc c p (m + 1) := by
  intro i j hij hj
  by_cases q : j = m
  · subst q
    by_cases q2 : i = j - 1
    · subst q2; exact hc
    · exact O.trans _ _ _ (P.lt hm) (P.lt (by omega)) (P.lt (by omega)) hc (A i (j - 1) (by omega) (by omega))
  · exact A i j hij (by omega)
theorem kev_desc (O : Ord c n) (P : Pm n p) : ∀ (f m : Nat), 1 ≤ m → m + f = n → Desc c p m → ∃ r, kev c (kas_desc f p m 0) = (p, r, 0) ∧ m ≤ r ∧ r ≤ n ∧ Desc c p r
  | 0, m, h1, hf, A => ⟨m, rfl, Nat.le_refl _, by omega, A⟩
  | f + 1, m, h1, hf, A => by
    show ∃ r, kev c (if c (p.getD m 0) (p.getD (m - 1) 0) = true then (if 0 > 0 then kas_desc f (kas_rev p (m - (0 + 1)) m) (m + 1) 0 else kas_desc f p (m + 1) 0)
      else .ask (p.getD (m - 1) 0) (p.getD m 0) fun d => if d = true then .ret (p, m, 0) else kas_desc f p (m + 1) (0 + 1)) = (p, r, 0) ∧ _
    rw [if_neg (show ¬ (0 > 0) by omega), kev_ite]
    cases q : c (at' p m) (at' p (m - 1)) with
    | true =>
      rw [if_pos (show c (p.getD m 0) (p.getD (m - 1) 0) = true from q)]
      obtain ⟨r, e, a, b, d⟩ := kev_desc O P f (m + 1) (by omega) (by omega) (A.step O P h1 (by omega) q)
      exact ⟨r, e, by omega, b, d⟩
    | false =>
      rw [if_neg (show ¬ c (p.getD m 0) (p.getD (m - 1) 0) = true by rw [show c (p.getD m 0) (p.getD (m - 1) 0) = false from q]; simp)]
      have hl := O.tot _ _ (P.lt (show m < n by omega)) (P.lt (show m - 1 < n by omega)) (fun e => by have := P.inj (show m < n by omega) (show m - 1 < n by omega) e; omega) q
      refine ⟨m, ?_, Nat.le_refl _, by omega, A⟩
      show kev c (if c (p.getD (m - 1) 0) (p.getD m 0) = true then _ else _) = _
      rw [if_pos (show c (p.getD (m - 1) 0) (p.getD m 0) = true from hl)]; rfl

theorem Pm.rev (P : Pm n p) (i j : Nat) : Pm n (kas_rev p i j) := ((mirror_perm p i j ((j - i) / 2)).toList).trans P
theorem rev_at (P : Pm n p) {m : Nat} (hm : m ≤ n) (k : Nat) : at' (kas_rev p 0 m) k = if k < m then at' p (m - 1 - k) else at' p k := by
  rw [at_get]
  unfold kas_rev
  rw [getElem?_mirror_all (by rw [P.size]; exact hm)]
  by_cases h : k < m
  · rw [if_pos ⟨Nat.zero_le _, h⟩, if_pos h, at_get]; congr 2; omega
  · rw [if_neg (fun q => h q.2), if_neg h, at_get]
theorem Desc.rev (P : Pm n p) {m : Nat} (hm : m ≤ n) (D : Desc c p m) : Asc c (kas_rev p 0 m) m := fun i j hij hj => by
  rw [rev_at P hm, rev_at P hm, if_pos (by omega), if_pos hj]
  exact D (m - 1 - j) (m - 1 - i) (by omega) (by omega)

theorem kev_tail3 (O : Ord c n) (P : Pm n p) {m : Nat} (h1 : 1 ≤ m) (hm : m ≤ n) (D : Desc c p m) : ∃ r p', kev c (kas_tail3 m n p) = (r, p') ∧ 1 ≤ r ∧ r ≤ n ∧ Pm n p' ∧ Asc c p' r := by
  unfold kas_tail3
  rw [kev_bind]
  obtain ⟨r, e, a, b, d, _⟩ := kev_asc O (P.rev 0 m) (n - m) m h1 (by omega) (D.rev P hm)
  exact ⟨r, kas_rev p 0 m, by rw [e]; rfl, by omega, b, P.rev 0 m, d⟩
theorem kev_count (O : Ord c n) (P : Pm n p) (h2 : 2 ≤ n) : ∃ r p', kev c (kas_count n p) = (r, p') ∧ 1 ≤ r ∧ r ≤ n ∧ Pm n p' ∧ Asc c p' r := by
  unfold kas_count
  rw [kev_bind]
  obtain ⟨r, e, a, b, d, g⟩ := kev_asc O P (n - 1) 1 (Nat.le_refl _) (by omega) (fun i j hij hj => by omega)
  rw [e]
  by_cases q : r = n
  · subst q
    rw [if_pos (by simp)]
    exact ⟨r, p, rfl, a, b, P, d⟩
  · rw [if_neg (by simpa using q)]
    by_cases q1 : r > 1
    · rw [if_pos q1]
      show ∃ r' p', kev c (if c (p.getD 0 0) (p.getD (r - 1) 0) = true then _ else _) = (r', p') ∧ _
      rw [if_pos (show c (p.getD 0 0) (p.getD (r - 1) 0) = true from d 0 (r - 1) (by omega) (by omega))]
      exact ⟨r, p, rfl, a, b, P, d⟩
    · rw [if_neg q1]
      have hr : r = 1 := by omega
      subst hr
      unfold kas_descPart
      rw [kev_bind]
      have D : Desc c p 2 := fun i j hij hj => by
        have : i = 0 := by omega
        have : j = 1 := by omega
        subst i; subst j
        exact g (by omega)
      obtain ⟨m, e, a', b', d'⟩ := kev_desc O P (n - 2) 2 (by omega) (by omega) D
      rw [show n - (1 + 1) = n - 2 from rfl, show 1 + 1 = 2 from rfl, e]
      dsimp only
      rw [if_neg (by omega)]
      exact kev_tail3 O P (by omega) b' d'

theorem kev_place (O : Ord c n) (P : Pm n p) {k : Nat} (hk : k < n) (A : Asc c p k) : ∀ (f l r : Nat), l ≤ r → r ≤ k → r - l ≤ f → (∀ i, i < l → c (at' p i) (at' p k) = true) → (∀ i, r ≤ i → i < k → c (at' p k) (at' p i) = true) →
    ∃ q, kev c (kas_place p k f l r) = q ∧ q ≤ k ∧ (∀ i, i < q → c (at' p i) (at' p k) = true) ∧ (∀ i, q ≤ i → i < k → c (at' p k) (at' p i) = true)
  | 0, l, r, hl, hr, hf, h1, h2 => ⟨l, rfl, by omega, h1, fun i hi => h2 i (by omega)⟩
  | f + 1, l, r, hl, hr, hf, h1, h2 => by
    show ∃ q, kev c (if l ≥ r then .ret l else .ask (p.getD k 0) (p.getD ((l + r) / 2) 0) fun b => if b = true then kas_place p k f l ((l + r) / 2) else kas_place p k f ((l + r) / 2 + 1) r) = q ∧ _
    by_cases q : l ≥ r
    · rw [if_pos q]; exact ⟨l, rfl, by omega, h1, fun i hi => h2 i (by omega)⟩
    · rw [if_neg q]
      show ∃ q, kev c (if c (p.getD k 0) (p.getD ((l + r) / 2) 0) = true then kas_place p k f l ((l + r) / 2) else kas_place p k f ((l + r) / 2 + 1) r) = q ∧ _
      rw [kev_ite]
      cases z : c (at' p k) (at' p ((l + r) / 2)) with
      | true =>
        rw [if_pos (show c (p.getD k 0) (p.getD ((l + r) / 2) 0) = true from z)]
        refine kev_place O P hk A f l ((l + r) / 2) (by omega) (by omega) (by omega) h1 fun i hi hik => ?_
        by_cases qq : i = (l + r) / 2
        · subst qq; exact z
        · exact O.trans _ _ _ (P.lt hk) (P.lt (by omega)) (P.lt (by omega)) z (A _ _ (by omega) hik)
      | false =>
        rw [if_neg (show ¬ c (p.getD k 0) (p.getD ((l + r) / 2) 0) = true by rw [show c (p.getD k 0) (p.getD ((l + r) / 2) 0) = false from z]; simp)]
        have hl := O.tot _ _ (P.lt hk) (P.lt (show (l + r) / 2 < n by omega)) (fun e => by have := P.inj hk (show (l + r) / 2 < n by omega) e; omega) z
        refine kev_place O P hk A f ((l + r) / 2 + 1) r (by omega) hr (by omega) (fun i hi => ?_) h2
        by_cases qq : i = (l + r) / 2
        · subst qq; exact hl
        · exact O.trans _ _ _ (P.lt (by omega)) (P.lt (by omega)) (P.lt hk) (A _ _ (show i < (l + r) / 2 by omega) (by omega)) hl

theorem bub_at (P : Pm n p) {k q : Nat} (hk : k < n) (hq : q ≤ k) (i : Nat) : at' (bubble p k (k - q)) i = if i = q then at' p k else if q < i ∧ i ≤ k then at' p (i - 1) else at' p i := by
  rw [at_get, getElem?_bubble (by rw [P.size]; exact hk) _ (by omega)]
  have : k - (k - q) = q := by omega
  rw [this]
  by_cases h1 : i = q
  · rw [if_pos h1, if_pos h1, at_get]
  · rw [if_neg h1, if_neg h1]
    by_cases h2 : q < i ∧ i ≤ k
    · rw [if_pos h2, if_pos h2, at_get]
    · rw [if_neg h2, if_neg h2, at_get]
theorem Asc.bub (O : Ord c n) (P : Pm n p) {k q : Nat} (hk : k < n) (hq : q ≤ k) (A : Asc c p k) (h1 : ∀ i, i < q → c (at' p i) (at' p k) = true) (h2 : ∀ i, q ≤ i → i < k → c (at' p k) (at' p i) = true) : Asc c (bubble p k (k - q)) (k + 1) := fun i j hij hj => by
  rw [bub_at P hk hq, bub_at P hk hq]
  by_cases a : i = q
  · rw [if_pos a, if_neg (by omega), if_pos (by omega)]
    exact h2 _ (by omega) (by omega)
  · rw [if_neg a]
    by_cases b : j = q
    · rw [if_pos b, if_neg (by omega)]
      exact h1 _ (by omega)
    · rw [if_neg b]
      by_cases d : q < i ∧ i ≤ k
      · rw [if_pos d, if_pos (by omega)]; exact A _ _ (by omega) (by omega)
      · rw [if_neg d]
        by_cases e : q < j ∧ j ≤ k
        · rw [if_pos e]; exact A _ _ (by omega) (by omega)
        · rw [if_neg e]; exact A _ _ hij (by omega)
theorem kev_bin (O : Ord c n) : ∀ (f k : Nat) (p : Array Nat), Pm n p → 1 ≤ k → k + f = n → Asc c p k → ∃ p', kev c (kas_bin f p k) = p' ∧ Pm n p' ∧ Asc c p' n
  | 0, k, p, P, h1, hf, A => ⟨p, rfl, P, by have : k = n := by omega
                                            subst this; exact A⟩
  | f + 1, k, p, P, h1, hf, A => by
    show ∃ p', kev c ((kas_place p k k 0 k).bind fun l => kas_bin f (bubble p k (k - l)) (k + 1)) = p' ∧ _
    rw [kev_bind]
    obtain ⟨q, e, hq, a, b⟩ := kev_place O P (show k < n by omega) A k 0 k (by omega) (Nat.le_refl _) (by omega) (fun i hi => by omega) (fun i hi hi' => by omega)
    rw [e]
    exact kev_bin O f (k + 1) (bubble p k (k - q)) (((bubble_perm p k (k - q)).toList).trans P) (by omega) (by omega) (A.bub O P (by omega) hq a b)

theorem kev_sort (O : Ord c n) (h2 : 2 ≤ n) : ∃ p', kev c (kas_sort n) = p' ∧ Pm n p' ∧ Asc c p' n := by
  unfold kas_sort
  rw [kev_bind]
  obtain ⟨r, p', e, a, b, P, A⟩ := kev_count (p := (List.range n).toArray) O (by unfold Pm; simp) h2
  rw [e]
  dsimp only
  by_cases q : r < n
  · rw [if_pos q, show max r 1 = r by omega]
    exact kev_bin O (n - r) r p' P a (by omega) A
  · have : r = n := by omega
    subst this
    rw [if_neg q]
    exact ⟨p', rfl, P, A⟩

/-- every question stays within the items -/
noncomputable def kok {α : Type} (c : Nat → Nat → Bool) (n : Nat) : KasT α → Prop
  | .ret _ => True
  | .ask i j k => i < n ∧ j < n ∧ kok c n (k (c i j))
theorem kok_bind {α β : Type} {c : Nat → Nat → Bool} {n : Nat} {f : α → KasT β} : ∀ (t : KasT α), kok c n t → kok c n (f (kev c t)) → kok c n (t.bind f)
  | .ret a, _, h => h
  | .ask i j k, ⟨h1, h2, h3⟩, h => ⟨h1, h2, kok_bind (k (c i j)) h3 h⟩
theorem kok_ite {α : Type} {c : Nat → Nat → Bool} {n : Nat} {b : Prop} [Decidable b] {x y : KasT α} (hx : b → kok c n x) (hy : ¬ b → kok c n y) : kok c n (if b then x else y) := by
  by_cases h : b
  · rw [if_pos h]; exact hx h
  · rw [if_neg h]; exact hy h
theorem kok_wp {α : Type} {cmp : Nat → Nat → (Bool → Shared → Prop) → Shared → Prop} {c : Nat → Nat → Bool} {n : Nat} {s : Shared} (hc : ∀ i j C, i < n → j < n → C (c i j) s → cmp i j C s) {Q : α → Shared → Prop} : ∀ (t : KasT α), kok c n t → Q (kev c t) s → t.kasWp cmp Q s
  | .ret a, _, h => h
  | .ask i j k, ⟨h1, h2, h3⟩, h => hc i j _ h1 h2 (kok_wp hc (k (c i j)) h3 h)

theorem Pm.all (P : Pm n p) (h : 0 < n) (i : Nat) : p.getD i 0 < n := by
  by_cases hi : i < n
  · exact P.lt hi
  · have : ¬ i < p.size := by rw [P.size]; exact hi
    simp [Array.getD, this]; exact h
theorem kok_asc (hp : ∀ i, p.getD i 0 < n) : ∀ (f m : Nat), kok c n (kas_asc p f m)
  | 0, m => trivial
  | f + 1, m => ⟨hp _, hp _, kok_ite (fun _ => trivial) fun _ => kok_asc hp f (m + 1)⟩
theorem kok_desc (hn : 0 < n) : ∀ (f : Nat) (p : Array Nat) (m q : Nat), Pm n p → kok c n (kas_desc f p m q)
  | 0, p, m, q, _ => trivial
  | f + 1, p, m, q, P => ⟨P.all hn _, P.all hn _, kok_ite (fun _ => kok_ite (fun _ => kok_desc hn f _ _ _ (P.rev _ _)) fun _ => kok_desc hn f _ _ _ P) fun _ => ⟨P.all hn _, P.all hn _, kok_ite (fun _ => trivial) fun _ => kok_desc hn f _ _ _ P⟩⟩
theorem kok_tail3 (hn : 0 < n) (m k : Nat) (P : Pm n p) : kok c n (kas_tail3 m k p) := kok_bind _ (kok_asc (fun i => (P.rev 0 m).all hn i) _ _) trivial
theorem kok_place (hp : ∀ i, p.getD i 0 < n) (k : Nat) : ∀ (f l r : Nat), kok c n (kas_place p k f l r)
  | 0, l, r => trivial
  | f + 1, l, r => kok_ite (fun _ => trivial) fun _ => ⟨hp _, hp _, kok_ite (fun _ => kok_place hp k f _ _) fun _ => kok_place hp k f _ _⟩
theorem kok_bin (hn : 0 < n) : ∀ (f : Nat) (p : Array Nat) (k : Nat), Pm n p → kok c n (kas_bin f p k)
  | 0, p, k, _ => trivial
  | f + 1, p, k, P => kok_bind _ (kok_place (fun i => P.all hn i) k k 0 k) (kok_bin hn f _ _ (((bubble_perm p k _).toList).trans P))
theorem kev_desc_pm : ∀ (f : Nat) (p : Array Nat) (m q : Nat), Pm n p → Pm n (kev c (kas_desc f p m q)).1
  | 0, p, m, q, P => P
  | f + 1, p, m, q, P => by
    show Pm n (kev c (if c (p.getD m 0) (p.getD (m - 1) 0) = true then (if q > 0 then kas_desc f (kas_rev p (m - (q + 1)) m) (m + 1) 0 else kas_desc f p (m + 1) 0)
      else .ask (p.getD (m - 1) 0) (p.getD m 0) fun d => if d = true then .ret (p, m, q) else kas_desc f p (m + 1) (q + 1))).1
    rw [kev_ite]
    split
    · rw [kev_ite]
      split
      · exact kev_desc_pm f _ _ _ (P.rev _ _)
      · exact kev_desc_pm f _ _ _ P
    · show Pm n (kev c (if c (p.getD (m - 1) 0) (p.getD m 0) = true then .ret (p, m, q) else kas_desc f p (m + 1) (q + 1))).1
      rw [kev_ite]
      split
      · exact P
      · exact kev_desc_pm f _ _ _ P
theorem kok_sort (O : Ord c n) (h2 : 2 ≤ n) : kok c n (kas_sort n) := by
  have hn : 0 < n := by omega
  have P0 : Pm n (List.range n).toArray := by unfold Pm; simp
  have hdp : ∀ (p : Array Nat) (m : Nat), Pm n p → kok c n (kas_descPart m n p) := fun p m P => by
    unfold kas_descPart
    have P' := kev_desc_pm (c := c) (n - (m + 1)) p (m + 1) 0 P
    refine kok_bind _ (kok_desc hn _ _ _ _ P) (kok_ite (fun _ => kok_tail3 hn _ _ (P'.rev _ _)) fun _ => kok_tail3 hn _ _ P')
  unfold kas_sort
  refine kok_bind _ ?_ ?_
  · unfold kas_count
    exact kok_bind _ (kok_asc (fun i => P0.all hn i) _ _) (kok_ite (fun _ => trivial) fun _ => kok_ite (fun _ => ⟨P0.all hn _, P0.all hn _, kok_ite (fun _ => trivial) fun _ => hdp _ _ (P0.rev _ _)⟩) fun _ => hdp _ _ P0)
  · obtain ⟨r, p', e, _, _, P, _⟩ := kev_count (p := (List.range n).toArray) O P0 h2
    rw [e]
    exact kok_ite (fun _ => kok_bin hn _ _ _ P) fun _ => trivial
end

/-! a sort by hand -/
noncomputable def insBy {α : Type} (lt : α → α → Bool) (a : α) : List α → List α
  | [] => [a]
  | b :: r => if lt a b = true then a :: b :: r else b :: insBy lt a r
noncomputable def sortBy {α : Type} (lt : α → α → Bool) : List α → List α
  | [] => []
  | a :: r => insBy lt a (sortBy lt r)
structure Lin {α : Type} (lt : α → α → Bool) : Prop where
  trans : ∀ a b c, lt a b = true → lt b c = true → lt a c = true
  asym : ∀ a b, lt a b = true → lt b a = false
  tot : ∀ a b, a ≠ b → lt a b = false → lt b a = true
section
variable {α : Type} {lt : α → α → Bool}
theorem insBy_perm (a : α) : ∀ (l : List α), (insBy lt a l).Perm (a :: l)
  | [] => .refl _
  | b :: r => by
    unfold insBy
    split
    · exact .refl _
    · exact ((insBy_perm a r).cons b).trans (.swap a b r)
theorem sortBy_perm : ∀ (l : List α), (sortBy lt l).Perm l
  | [] => .refl _
  | a :: r => (insBy_perm a _).trans ((sortBy_perm r).cons a)
theorem insBy_asc (L : Lin lt) (a : α) : ∀ (l : List α), l.Pairwise (fun x y => lt x y = true) → a ∉ l → (insBy lt a l).Pairwise (fun x y => lt x y = true)
  | [], _, _ => by simp [insBy]
  | b :: r, h, hn => by
    obtain ⟨h1, h2⟩ := List.pairwise_cons.mp h
    simp only [List.mem_cons, not_or] at hn
    unfold insBy
    cases q : lt a b with
    | true =>
      rw [if_pos rfl]
      refine List.pairwise_cons.mpr ⟨fun x hx => ?_, h⟩
      rcases List.mem_cons.mp hx with rfl | hx
      · exact q
      · exact L.trans _ _ _ q (h1 x hx)
    | false =>
      rw [if_neg (by simp)]
      refine List.pairwise_cons.mpr ⟨fun x hx => ?_, insBy_asc L a r h2 hn.2⟩
      rcases List.mem_cons.mp ((insBy_perm a r).mem_iff.mp hx) with rfl | hx
      · exact L.tot _ _ hn.1 q
      · exact h1 x hx
theorem sortBy_asc (L : Lin lt) : ∀ (l : List α), l.Nodup → (sortBy lt l).Pairwise (fun x y => lt x y = true)
  | [], _ => .nil
  | a :: r, h => by
    obtain ⟨h1, h2⟩ := List.nodup_cons.mp h
    exact insBy_asc L a _ (sortBy_asc L r h2) fun m => h1 ((sortBy_perm r).mem_iff.mp m)
theorem asc_uniq (L : Lin lt) : ∀ {a b : List α}, a.Perm b → a.Pairwise (fun x y => lt x y = true) → b.Pairwise (fun x y => lt x y = true) → a = b
  | [], _, p, _, _ => p.nil_eq
  | x :: r, b, p, ha, hb => by
    cases b with
    | nil => exact absurd p.length_eq (by simp)
    | cons y t =>
      have hx : x ∈ y :: t := p.mem_iff.mp (.head _)
      have hy : y ∈ x :: r := p.mem_iff.mpr (.head _)
      have e : x = y := by
        rcases List.mem_cons.mp hx with h | h
        · exact h
        · rcases List.mem_cons.mp hy with h' | h'
          · exact h'.symm
          · have a1 := (List.pairwise_cons.mp ha).1 y h'
            have a2 := (List.pairwise_cons.mp hb).1 x h
            rw [L.asym _ _ a1] at a2; cases a2
      subst e
      rw [asc_uniq L (List.Perm.cons_inv p) (List.pairwise_cons.mp ha).2 (List.pairwise_cons.mp hb).2]
theorem sorted_eq (L : Lin lt) {a b : List α} (p : a.Perm b) (ha : a.Pairwise (fun x y => lt x y = true)) : a = sortBy lt b := by
  have nd : b.Nodup := (p.nodup_iff).mp (ha.imp fun {x y} h e => by subst e; rw [L.asym _ _ h] at h; cases h)
  exact asc_uniq L (p.trans (sortBy_perm b).symm) ha (sortBy_asc L b nd)

/-- the tree's end, on a list of distinct keys -/
theorem kas_keys (L : Lin lt) (d : α) (ks : List α) (nd : ks.Nodup) (h2 : 2 ≤ ks.length) : let c := fun i j => lt (ks.getD i d) (ks.getD j d)
    kok c ks.length (kas_sort ks.length) ∧ ((kev c (kas_sort ks.length)).toList.map fun i => ks.getD i d) = sortBy lt ks ∧ Pm ks.length (kev c (kas_sort ks.length)) := by
  intro c
  have gd : ∀ i, (h : i < ks.length) → ks.getD i d = ks[i] := fun i h => by simp [List.getD, h]
  have O : Ord c ks.length := ⟨fun i j k _ _ _ a b => L.trans _ _ _ a b, fun i j _ _ a => L.asym _ _ a, fun i j hi hj hne a => L.tot _ _ (fun e => hne (by
    rw [gd i hi, gd j hj] at e
    have e2 : ks[i]? = ks[j]? := by rw [List.getElem?_eq_getElem hi, List.getElem?_eq_getElem hj, e]
    exact (List.getElem?_inj hi nd).mp e2)) a⟩
  obtain ⟨p', e, P, A⟩ := kev_sort O h2
  rw [e]
  refine ⟨kok_sort O h2, sorted_eq L ?_ ?_, P⟩
  · have h1 : ((List.range ks.length).map fun i => ks.getD i d) = ks := by
      apply List.ext_getElem
      · simp
      · intro i h1 h2; simp only [List.getElem_map, List.getElem_range]; exact gd i h2
    have := P.map fun i => ks.getD i d
    rw [h1] at this; exact this
  · rw [List.pairwise_map]
    rw [List.pairwise_iff_getElem]
    intro i j hi hj hij
    have hi' : i < p'.size := by simpa using hi
    have hj' : j < p'.size := by simpa using hj
    have := A i j hij (by rw [← P.size]; exact hj')
    rw [at_eq hi', at_eq hj'] at this
    exact this
end

noncomputable def ltP (a b : Int × Int) : Bool := decide (a.1 < b.1 ∨ (a.1 = b.1 ∧ a.2 < b.2))
theorem lin_ltP : Lin ltP where
  trans a b c h1 h2 := by simp only [ltP, decide_eq_true_eq] at *; omega
  asym a b h := by simp only [ltP, decide_eq_true_eq, decide_eq_false_iff_not] at *; omega
  tot a b hne h := by
    simp only [ltP, decide_eq_true_eq, decide_eq_false_iff_not] at *
    have : ¬ (a.1 = b.1 ∧ a.2 = b.2) := fun q => hne (Prod.ext q.1 q.2)
    omega
noncomputable def ltI (a b : Int) : Bool := decide (a < b)
theorem lin_ltI : Lin ltI where
  trans a b c h1 h2 := by simp only [ltI, decide_eq_true_eq] at *; omega
  asym a b h := by simp only [ltI, decide_eq_true_eq, decide_eq_false_iff_not] at *; omega
  tot a b hne h := by simp only [ltI, decide_eq_true_eq, decide_eq_false_iff_not] at *; omega
end Mine
end

section -- Srt2
set_option autoImplicit false
set_option linter.unusedVariables false
namespace Mine

section
variable {prog : Program} {w : World} {A : Around} {E : Value → Shared → Prop} {s : Shared}

/-- how a small list may be sorted: the kind, the answers -/
structure Sortable (prog : Program) (w : World) (us us₂ : List Value) (c : Nat → Nat → Bool) (κ : SortKind) (h : Heap) : Prop where
  kind : 2 ≤ us.length → ∀ (A : Around) (s : Shared) (Q : SortKind → Shared → Prop), s.heap = h → Q κ s → wpAny (model prog w) A (keyKind' us.toArray) Q No s
  ask : ∀ (A : Around) (s : Shared) (i j : Nat) (C : Bool → Shared → Prop), s.heap = h → i < us.length → j < us.length → C (c i j) s → kas_ask prog w A κ us₂ i j C s

noncomputable def srtHeap (h : Heap) (a : Addr) (us : List Value) : Heap := ((h.update a (Obj.mapSeq fun _ => #[])).push (seqObj "tuple" us.toArray 0)).push (seqObj "list" #[] 0)
noncomputable def outOf (c : Nat → Nat → Bool) (us₂ : List Value) : List Value := if us₂.length < 2 then us₂ else (kev c (kas_sort us₂.length)).toList.map fun i => us₂.getD i Value.none

theorem raw_sort {a : Addr} {us us₂ : List Value} {n : Nat} {b : Bool} {c : Nat → Nat → Bool} {κ : SortKind} {P : PySem.Fin → Shared → Prop} (ho : s.heap.get? a = some (seqObj "list" us.toArray n)) (hb : us₂ = katRev b us) (h64 : us.length < 64)
    (S : Sortable prog w us us₂ c κ (srtHeap s.heap a us)) (hk : 2 ≤ us.length → kok c us.length (kas_sort us.length)) (hp : 2 ≤ us.length → (kev c (kas_sort us.length)).size = us.length)
    (h : P (.done (.ret .none)) { s with heap := sortedHeap s.heap a us (katRev b (outOf c us₂)).toArray }) :
    wpAny (model prog w) A (Builtin.«list.sort» ⟨[.ref a], if b = true then [(Str.ofString "reverse", .bool true)] else []⟩) P E s := by
  have ha : a < s.heap.objs.size := Heap.lt_size ho
  have hlen₂ : us₂.length = us.length := by rw [hb]; exact kat_len b us
  obtain ⟨e1, ho1⟩ : ∃ e1, (s.heap.update a (Obj.mapSeq fun _ => #[])).get? a = some (seqObj "list" #[] e1) := ⟨_, get?_update_seq ho (fun _ => #[])⟩
  have ho6 : (srtHeap s.heap a us).get? a = some (seqObj "list" #[] e1) := by
    unfold srtHeap
    rw [Heap.get?_push_ne _ _ _ (by rw [size_push', Heap.size_update]; exact Nat.ne_of_lt (Nat.lt_succ_of_lt ha)), Heap.get?_push_ne _ _ _ (by rw [Heap.size_update]; exact Nat.ne_of_lt ha)]
    exact ho1
  have tail : wpAny (model prog w) A (do
      let kind ← if us.toArray.size < 2 then pure general' else keyKind' us.toArray
      let ((), s) ← (if us.toArray.size < 2 then pure () else sortRuns').run (SortSt.mk' kind (if b = true then (us.toArray.zip us.toArray).reverse else us.toArray.zip us.toArray) #[] 7 none)
      let sorted := (arrOf s).map (·.2)
      let touched := (← seqEpoch a) != e1
      Builtin.List.listUpdate (.ref a) fun _ => if b = true then sorted.reverse else sorted
      if let some e := failedOf s then rule "list.sort.comparison-raised"; throw e
      if touched then rule "list.sort.modified"; raiseError "ValueError" "list modified during sort"
      ret .none) P E { s with heap := srtHeap s.heap a us } := by
    have start : (if b = true then (us.toArray.zip us.toArray).reverse else us.toArray.zip us.toArray) = us₂.toArray.zip us₂.toArray := by rw [hb]; exact kat_pairs b rfl
    rw [start]
    have hsz : us.toArray.size = us.length := by simp
    by_cases h2 : us.toArray.size < 2
    · rw [if_pos h2, if_pos h2]
      refine wpAny_bind (wpAny_pure ?_)
      dsimp only
      rw [StateT.run_pure]
      refine wpAny_bind (wpAny_pure ?_)
      dsimp only
      have out : (if b = true then (Array.map (fun x => x.snd) (arrOf (SortSt.mk' general' (us₂.toArray.zip us₂.toArray) #[] 7 none))).reverse else Array.map (fun x => x.snd) (arrOf (SortSt.mk' general' (us₂.toArray.zip us₂.toArray) #[] 7 none))) = (katRev b (outOf c us₂)).toArray := by
        have e : Array.map (fun x => x.snd) (arrOf (SortSt.mk' general' (us₂.toArray.zip us₂.toArray) #[] 7 none)) = us₂.toArray := by
          show Array.map (fun x => x.snd) (us₂.toArray.zip us₂.toArray) = us₂.toArray
          apply Array.toList_inj.mp
          rw [Array.toList_map, Array.toList_zip]
          show List.map Prod.snd (us₂.zip us₂) = us₂
          exact List.map_snd_zip (Nat.le_refl _)
        rw [e, kat_outs]
        unfold outOf
        rw [if_pos (by omega)]
      refine wpAny_bind (seqEpoch_at ho6 rfl ?_)
      rw [out]
      refine wpAny_bind (listUpdate_at ho6 rfl ?_ (Nat.zero_le _) (hsz2 := by rw [List.size_toArray, kat_len]; unfold outOf; rw [if_pos (by omega), sizeLine_eq]; omega))
      simp only [bne_self_eq_false, Bool.false_eq_true, if_false]
      exact wpAny_pure h
    · rw [if_neg h2, if_neg h2]
      have h2' : 2 ≤ us.length := by omega
      refine wpAny_bind (nE (S.kind h2' A _ _ rfl ?_))
      dsimp only
      have out : ∀ p : Array Nat, (if b = true then (List.toArray (p.toList.map fun i => us₂.getD i Value.none)).reverse else List.toArray (p.toList.map fun i => us₂.getD i Value.none)) = (katRev b (p.toList.map fun i => us₂.getD i Value.none)).toArray := fun p => kat_outs b _
      have key : (kas_sort us₂.length).kasWp (kas_ask prog w A κ us₂) (fun p s' => p = kev c (kas_sort us₂.length) ∧ s' = { s with heap := srtHeap s.heap a us }) { s with heap := srtHeap s.heap a us } := by
        rw [hlen₂]
        refine kok_wp (n := us.length) (fun i j C hi hj hC => S.ask A _ i j C rfl hi hj hC) _ (hk h2') ⟨rfl, rfl⟩
      refine wpAny_bind (wpAny_mono (kat_run (E := E) (Q := fun st' s' => arrOf st' = (kev c (kas_sort us₂.length)).map (kas_item (us₂.toArray.zip us₂.toArray)) ∧ failedOf st' = none ∧ s' = { s with heap := srtHeap s.heap a us })
        rfl (by omega) (by omega) (fun p' st' s' a1 a2 a3 a4 => ⟨by rw [a2, a4.1], a3, a4.2⟩) key) ?_ fun _ _ e => e)
      rintro ⟨⟨⟩, st'⟩ s' ⟨har, hf, rfl⟩
      dsimp only
      have hout := kat_snds rfl har
      rw [hout, out]
      have ho' : outOf c us₂ = (kev c (kas_sort us₂.length)).toList.map fun i => us₂.getD i Value.none := by unfold outOf; rw [if_neg (by omega)]
      rw [← ho']
      refine wpAny_bind (seqEpoch_at ho6 rfl ?_)
      refine wpAny_bind (listUpdate_at ho6 rfl ?_ (Nat.zero_le _) (hsz2 := by
        rw [List.size_toArray, kat_len, ho', List.length_map, Array.length_toList, hlen₂, hp h2', sizeLine_eq]; omega))
      rw [hf]
      simp only [bne_self_eq_false, Bool.false_eq_true, if_false]
      exact wpAny_pure h
  cases b with
  | false =>
    show wpAny _ _ (Builtin.«list.sort» ⟨[.ref a], []⟩) _ _ _
    rw [list_sort_plain]
    refine wpAny_bind (listItems_at ho rfl ?_)
    refine wpAny_bind (listUpdate_at ho rfl ?_ (by rw [List.size_toArray, sizeLine_eq]; omega) (Nat.zero_le _))
    refine wpAny_bind (seqEpoch_at ho1 rfl ?_)
    refine wpAny_bind (wpAny_newTuple ?_ (by show us.length ≤ _; rw [sizeLine_eq]; omega))
    refine wpAny_bind (wpAny_newList ?_ (Nat.zero_le _))
    exact wpAny_holding tail
  | true =>
    show wpAny _ _ (Builtin.«list.sort» ⟨[.ref a], [(Str.ofString "reverse", .bool true)]⟩) _ _ _
    rw [list_sort_rev]
    refine wpAny_bind (listItems_at ho rfl ?_)
    refine wpAny_bind (listUpdate_at ho rfl ?_ (by rw [List.size_toArray, sizeLine_eq]; omega) (Nat.zero_le _))
    refine wpAny_bind (seqEpoch_at ho1 rfl ?_)
    refine wpAny_bind (wpAny_newTuple ?_ (by show us.length ≤ _; rw [sizeLine_eq]; omega))
    refine wpAny_bind (wpAny_newList ?_ (Nat.zero_le _))
    refine wpAny_holding ?_
    exact wpAny_bind (wpAny_rule tail)
end
end Mine
end

section -- Srt3
set_option autoImplicit false
set_option linter.unusedVariables false
namespace Mine

noncomputable def itemsV (v : V) (st : St) : Option (List V) := match v with
  | .tup vs => some vs
  | .loc n => match st[n]? with
    | some (.list xs) => some xs
    | some (.dT _ es) => some (es.map fun p => keyT p.1)
    | some (.dI es) => some (es.map fun p => V.int p.1)
    | _ => none
  | _ => none
noncomputable def wSortV (xs : List V) (b : Bool) (st : St) (Q : V → St → Prop) : Prop :=
  (∃ ks : List (Int × Int), xs = ks.map keyT ∧ ks.Nodup ∧ ks.length < 64 ∧ Q (.loc st.length) (st ++ [.list ((katRev b (sortBy ltP ks)).map keyT)])) ∨
  (∃ ks : List Int, xs = ks.map V.int ∧ ks.Nodup ∧ ks.length < 64 ∧ Q (.loc st.length) (st ++ [.list ((katRev b (sortBy ltI ks)).map V.int)]))
noncomputable def wSorted (b : Bool) : WN := fun vs st Q => ∃ v xs, vs = [v] ∧ itemsV v st = some xs ∧ wSortV xs b st Q

section
variable {prog : Program} {w : World} {lev : Nat}

theorem walks_draw {A : Around} (hh : A.handled = none) (I d : Addr) (hne : d ≠ I) (es : Array DictEntry) (ep : Nat) :
    Walks prog w A I [I, d] [I] es.size (fun i v => ∃ e, es[i]? = some e ∧ v = e.key) (fun i h => h.IsKeyIter I d i es.size ep ∧ DRaw h d es ep) where
  sub := fun b hb => by simp at hb; simp [hb]
  frame := fun _ _ _ st hk => ⟨let ⟨o, e, r⟩ := st.1; ⟨o, hk I (by simp) o e, r⟩, let ⟨o, e, r⟩ := st.2; ⟨o, hk d (by simp) o e, r⟩⟩
  item := fun i s Q E hi st hQ => by
    refine next_draw_item st.1 st.2 (e := es[i]) (by simp [hi]) fun h' hit' hs' => ?_
    exact hQ _ h' s.toks ⟨es[i], by simp [hi], rfl⟩ ⟨hit', let ⟨o, e, r⟩ := st.2; ⟨o, hs'.extBut d o hne e, r⟩⟩ fun b o hb e => hs'.extBut b o (fun h => hb (by simp [h])) e
  done := fun s Q E st hQ => next_draw_end hh st.1 st.2 (by simp) fun h' he' => hQ h' s.toks fun b o hb e => he' b o (fun h => hb (by simp [h])) e
  self := fun _ _ _ _ st hQ => wpAny_pyIter_keyiter st.1 hQ

theorem kdl_draw (d : Addr) (hd : (d == sysModules) = false) (es : Array DictEntry) (ep : Nat) : KdlSrc prog w "dict" d d es.size (fun i v => ∃ e, es[i]? = some e ∧ v = e.key) (fun h => DRaw h d es ep) where
  type := fun s x => x.typeIs
  there := fun h x => let ⟨o, e, _⟩ := x; ⟨Heap.lt_size e, Heap.lt_size e⟩
  keep := fun h h' x k => let ⟨o, e, r⟩ := x; ⟨o, k d (.inl rfl) o e, r⟩
  notList := by decide
  notTuple := by decide
  hint := fun A E s Q x h => kdl_hint_dict x.typeIs h
  iter := fun A s hh x => ⟨_, _, fun E Q h => iter_draw hd x h, walks_draw hh s.heap.objs.size d (let ⟨o, e, _⟩ := x; Nat.ne_of_lt (Heap.lt_size e)) es ep,
    ⟨⟨_, Heap.get?_push_size _ rfl, rfl, rfl⟩, let ⟨o, e, r⟩ := x; ⟨o, Heap.get?_push_of_some _ e, r⟩⟩⟩

theorem RVs.of_get {σ : List Addr} {h : Heap} : ∀ {us : List Value} {vs : List V}, us.length = vs.length → (∀ (i : Nat) (u : Value), us[i]? = some u → ∃ v, vs[i]? = some v ∧ RV σ h u v) → RVs σ h us vs
  | [], [], _, _ => .nil
  | [], _ :: _, hl, _ => by simp at hl
  | _ :: _, [], hl, _ => by simp at hl
  | u :: us, v :: vs, hl, hg => by
    obtain ⟨v', e, r⟩ := hg 0 u rfl
    simp at e; subst e
    exact .cons r (RVs.of_get (by simpa using hl) fun i u' e' => by simpa using hg (i + 1) u' (by simpa using e'))

/-- a dict of keys, its rows raw -/
theorem keys_raw {σ : List Addr} {h : Heap} {a : Addr} {st : St} {n : Nat} {xs : List V} (R : Rep prog w σ st h) (ea : σ[n]? = some a) (hx : (∃ lk es, st[n]? = some (.dT lk es) ∧ xs = es.map fun p => keyT p.1) ∨ (∃ es, st[n]? = some (.dI es) ∧ xs = es.map fun p => V.int p.1)) :
    ∃ (d : Array DictEntry) (ep : Nat), DRaw h a d ep ∧ d.size = xs.length ∧ ∀ (i : Nat) (e : DictEntry), d[i]? = some e → ∃ v, xs[i]? = some v ∧ RV σ h e.key v := by
  rcases hx with ⟨lk, es, f, rfl⟩ | ⟨es, f, rfl⟩
  · cases R.obj _ _ _ f ea with
    | @dictT _ ys _ dd q l =>
      obtain ⟨o, ds, ep, g, x, hdat, hl, hk, hn⟩ := dd
      have sz := size_of_entries hl
      refine ⟨ds, ep, ⟨o, g, x, hdat⟩, by rw [sz, q.length]; simp, fun i e he => ?_⟩
      have hxs : (ys.map (entryOfKey (tk prog w)))[i]? = some e := by rw [← hl]; simpa using he
      rw [List.getElem?_map] at hxs
      obtain ⟨y, hy, rfl⟩ := Option.map_eq_some_iff.mp hxs
      have key : ∀ {xs : List (List Int × Addr × Value)} {es : List ((Int × Int) × V)} {i : Nat}, EsT σ h xs es → xs[i]? = some y → ∃ p, es[i]? = some p ∧ y.1 = keyL p.1 := by
        intro xs es i q
        induction q generalizing i with
        | nil => intro h; simp at h
        | cons a r ih => intro h; cases i with
          | zero => simp at h; subst h; exact ⟨_, rfl, rfl⟩
          | succ i => simp only [List.getElem?_cons_succ] at h ⊢; exact ih h
      obtain ⟨p, hp, ek⟩ := key q hy
      have tkey := hk y (List.mem_of_getElem? hy)
      rw [ek] at tkey
      exact ⟨keyT p.1, by simp [hp], tuple_of_key σ tkey⟩
  · cases R.obj _ _ _ f ea with
    | @dictI ys _ dd q =>
      obtain ⟨o, ds, ep, g, x, hdat, hk, hp, hn⟩ := dd
      refine ⟨ds, ep, ⟨o, g, x, hdat⟩, ?_, fun i e he => ?_⟩
      · have := hp.length
        rw [List.length_map, ← q.es.length, ← this]; simp
      · have hi : i < ds.size := (Array.getElem?_eq_some_iff.mp he).1
        have hy : i < ys.length := by rw [← hp.length]; simpa using hi
        have k1 := hp.get? (e := e) (i := i) (k := ys[i].1) (v := ys[i].2) (by simpa using he) (by simp [hy])
        have key : ∀ {kvs : List (Int × Value)} {es : List (Int × V)} {i : Nat} {y : Int × Value}, EsI σ h kvs es → kvs[i]? = some y → ∃ p, es[i]? = some p ∧ y.1 = p.1 := by
          intro kvs es i y q
          induction q generalizing i with
          | nil => intro h; simp at h
          | cons a r ih => intro h; cases i with
            | zero => simp at h; subst h; exact ⟨_, rfl, rfl⟩
            | succ i => simp only [List.getElem?_cons_succ] at h ⊢; exact ih h
        obtain ⟨p, hp', ek⟩ := key q (show ys[i]? = some ys[i] by simp [hy])
        obtain ⟨t, et⟩ := Value.isInt_shape (show e.key.isInt ys[i].1 = true from k1.1)
        refine ⟨.int p.1, by simp [hp'], ?_⟩
        rw [et, ek]; exact .int _ _

theorem collectV {A : Around} (rm : Room lev A) {B : Around} (hB : B.handled = none) {σ : List Addr} {st : St} {s : Shared} {u : Value} {v : V} {xs : List V} {Q : List Value → Shared → Prop} {E : Value → Shared → Prop} (R : Rep prog w σ st s.heap) (rv : RV σ s.heap u v) (hx : itemsV v st = some xs) (hz : xs.length ≤ 1000)
    (h : ∀ us h' tk, (∀ b o, s.heap.get? b = some o → h'.get? b = some o) → RVs σ h' us xs → Q us { s with heap := h', toks := tk }) : wpAny (model prog w) B (collect u) Q E s := by
  cases rv with
  | none => cases hx
  | bool => cases hx
  | int => cases hx
  | str => cases hx
  | @tup a vals vs t rs =>
    cases hx
    obtain ⟨o, e, c, n, d⟩ := t
    refine wpAny_collect_seq a (.inr rfl) e c d (fun h' g => ?_) (by have := rs.length; rw [List.size_toArray, sizeLine_eq]; omega)
    have := h vals h' s.toks g (rs.mono (List.prefix_refl _) (tk_grow g))
    simpa using this
  | @loc n a ea =>
    simp only [itemsV] at hx
    cases f : st[n]? with
    | none => rw [f] at hx; cases hx
    | some ob =>
      rw [f] at hx
      have dcase : ((∃ lk es, st[n]? = some (.dT lk es) ∧ xs = es.map fun p => keyT p.1) ∨ (∃ es, st[n]? = some (.dI es) ∧ xs = es.map fun p => V.int p.1)) → wpAny (model prog w) B (collect (.ref a)) Q E s := fun hc => by
        obtain ⟨d, ep, dr, sz, hk⟩ := keys_raw R ea hc
        have lo := R.low a (List.mem_of_getElem? ea)
        refine kdu_collect (kdl_draw a lo d ep) hB dr (by rw [sizeLine_eq]; omega) fun h' tk acc g it => ?_
        refine h acc.toList h' tk g (RVs.of_get (by simp [it.1, sz]) fun i u' e' => ?_)
        obtain ⟨en, e1, rfl⟩ := it.2 i u' (by simpa using e')
        obtain ⟨v, e2, e3⟩ := hk i en e1
        exact ⟨v, e2, e3.mono (List.prefix_refl _) (tk_grow g)⟩
      cases ob with
      | list ys =>
        cases hx
        cases R.obj _ _ _ f ea with
        | @list us _ l rs =>
          obtain ⟨o, k, e, c, _, d⟩ := l
          refine wpAny_collect_seq a (.inl rfl) e c d (fun h' g => ?_) (by have := rs.length; rw [List.size_toArray, sizeLine_eq]; omega)
          have := h us h' s.toks g (rs.mono (List.prefix_refl _) (tk_grow g))
          simpa using this
      | dT lk es => cases hx; exact dcase (.inl ⟨lk, es, f, rfl⟩)
      | dI es => cases hx; exact dcase (.inr ⟨es, f, rfl⟩)
      | dS es => cases hx
      | fro => cases hx

theorem RVs.katRev {σ : List Addr} {h : Heap} {us : List Value} {vs : List V} (r : RVs σ h us vs) (b : Bool) : RVs σ h (katRev b us) (katRev b vs) := by
  cases b with
  | false => exact r
  | true => exact r.reverse
theorem kat_map {α β : Type} (f : α → β) (b : Bool) (l : List α) : katRev b (l.map f) = (katRev b l).map f := by
  cases b with
  | false => rfl
  | true => exact List.map_reverse.symm
theorem kat_kat {α : Type} (b : Bool) (l : List α) : katRev b (katRev b l) = l := by
  cases b with
  | false => rfl
  | true => exact List.reverse_reverse l
theorem kat_perm {α : Type} (b : Bool) (l : List α) : (katRev b l).Perm l := by
  cases b with
  | false => exact .refl _
  | true => exact List.reverse_perm l
theorem RVs.getD {σ : List Addr} {h : Heap} {us : List Value} {vs : List V} (r : RVs σ h us vs) {i : Nat} (hi : i < us.length) (d : V) : RV σ h (us.getD i .none) (vs.getD i d) := by
  obtain ⟨v, e1, e2⟩ := r.get' (i := i) (u := us[i]) (by simp [hi])
  have : us.getD i .none = us[i] := by simp [List.getD, hi]
  rw [this]
  have : vs.getD i d = v := by simp [List.getD, e1]
  rw [this]; exact e2

theorem sortable_tup {σ : List Addr} {h : Heap} {us : List Value} {ks : List (Int × Int)} (b : Bool) (r : RVs σ h us (ks.map keyT)) :
    Sortable prog w us (katRev b us) (fun i j => ltP ((katRev b ks).getD i (0, 0)) ((katRev b ks).getD j (0, 0))) (tuples' true) h := by
  have hl := r.length
  refine ⟨fun h2 A s Q hs hQ => ?_, fun A s i j C hs hi hj hC => ?_⟩
  · have t : ∃ fs, KatTups h us fs ∧ fs.length = us.length ∧ ∀ v ∈ fs, ∃ x t, v = .int x t := by
      clear hQ h2 hl
      induction ks generalizing us with
      | nil => cases r; exact ⟨[], trivial, rfl, fun v hv => nomatch hv⟩
      | cons k ks ih =>
        cases r with
        | cons a r =>
          obtain ⟨fs, t, hlen, hv⟩ := ih r
          unfold keyT at a
          cases a with
          | @tup ad vals _ tt rs =>
            cases rs with
            | cons a1 r1 =>
              cases a1 with
              | int x tok =>
                obtain ⟨o, e, c, n, d⟩ := tt
                refine ⟨.int k.1 tok :: fs, KatTups.cons e c d (by simp) t, by simp [hlen], fun v hv' => ?_⟩
                rcases List.mem_cons.mp hv' with rfl | hv'
                · exact ⟨_, _, rfl⟩
                · exact hv v hv'
    obtain ⟨fs, t, hlen, hv⟩ := t
    refine kat_kind (M := model prog w) (hs ▸ t) (by omega) (T := .type "int") (fun v hv' => ?_) rfl hQ
    obtain ⟨x, tok, rfl⟩ := hv v hv'
    exact Looks.of_pure rfl
  · have r₂ := r.katRev b
    rw [kat_map] at r₂
    have hz := kat_len b us
    have ri := r₂.getD (i := i) (by omega) (keyT (0, 0))
    have rj := r₂.getD (i := j) (by omega) (keyT (0, 0))
    have e : ∀ i, ((katRev b ks).map keyT).getD i (keyT (0, 0)) = keyT ((katRev b ks).getD i (0, 0)) := fun i => by
      simp only [List.getD, List.getElem?_map]; cases (katRev b ks)[i]? <;> rfl
    rw [e] at ri rj
    generalize (katRev b ks).getD i (0, 0) = k at ri hC
    generalize (katRev b ks).getD j (0, 0) = k' at rj hC
    unfold kas_ask
    generalize (katRev b us).getD i Value.none = x at ri
    generalize (katRev b us).getD j Value.none = y at rj
    subst hs
    unfold keyT at ri rj
    cases ri with
    | @tup ax vx _ tx rx =>
      cases rj with
      | @tup ay vy _ ty ry =>
        obtain ⟨ox, ex, cx, nx, dx⟩ := tx
        obtain ⟨oy, ey, cy, ny, dy⟩ := ty
        cases rx with
        | cons a1 r1 => cases r1 with
          | cons a2 r2 => cases r2; cases ry with
            | cons b1 q1 => cases q1 with
              | cons b2 q2 =>
                cases q2; cases a1; cases a2; cases b1; cases b2
                refine kat_lt ex dx ey dy ?_
                refine kat_cons (wpAny_eqBool_int ?_)
                by_cases h1 : k.1 = k'.1
                · rw [show (k.1 == k'.1) = true by simpa using h1]
                  refine kat_yes (kat_cons (wpAny_eqBool_int ?_))
                  by_cases h2 : k.2 = k'.2
                  · rw [show (k.2 == k'.2) = true by simpa using h2]
                    refine kat_yes (kat_nil ?_)
                    have : ltP k k' = false := by simp [ltP]; omega
                    rw [this] at hC; exact hC
                  · rw [show (k.2 == k'.2) = false by simpa using h2]
                    refine kat_no (kat_one _ _ (PyProof.Rows.lt_int ?_))
                    have : ltP k k' = decide (k.2 < k'.2) := by simp [ltP, h1]
                    rw [this] at hC; exact hC
                · rw [show (k.1 == k'.1) = false by simpa using h1]
                  refine kat_no (oneLt_int ?_)
                  have : ltP k k' = decide (k.1 < k'.1) := by simp [ltP, h1]
                  rw [this] at hC; exact hC

theorem sortable_int {σ : List Addr} {h : Heap} {us : List Value} {ks : List Int} (b : Bool) (r : RVs σ h us (ks.map V.int)) :
    Sortable prog w us (katRev b us) (fun i j => ltI ((katRev b ks).getD i 0) ((katRev b ks).getD j 0)) oneType' h := by
  have hl := r.length
  refine ⟨fun h2 A s Q hs hQ => ?_, fun A s i j C hs hi hj hC => ?_⟩
  · have hv : ∀ v ∈ us, ∃ x t, v = .int x t := by
      clear hQ h2 hl
      induction ks generalizing us with
      | nil => cases r; exact fun v hv => nomatch hv
      | cons k ks ih =>
        cases r with
        | cons a r =>
          cases a with
          | int x t =>
            intro v hv
            rcases List.mem_cons.mp hv with rfl | hv
            · exact ⟨_, _, rfl⟩
            · exact ih r v hv
    refine kas_kind (M := model prog w) h2 (T := .type "int") (fun v hv' => ?_) rfl rfl hQ
    obtain ⟨x, tok, rfl⟩ := hv v hv'
    exact Looks.of_pure rfl
  · have r₂ := r.katRev b
    rw [kat_map] at r₂
    have hz := kat_len b us
    have ri := r₂.getD (i := i) (by omega) (V.int 0)
    have rj := r₂.getD (i := j) (by omega) (V.int 0)
    have e : ∀ i, ((katRev b ks).map V.int).getD i (V.int 0) = V.int ((katRev b ks).getD i 0) := fun i => by
      simp only [List.getD, List.getElem?_map]; cases (katRev b ks)[i]? <;> rfl
    rw [e] at ri rj
    generalize (katRev b ks).getD i 0 = k at ri hC
    generalize (katRev b ks).getD j 0 = k' at rj hC
    unfold kas_ask
    generalize (katRev b us).getD i Value.none = x at ri
    generalize (katRev b us).getD j Value.none = y at rj
    cases ri; cases rj
    exact kat_lt_int hC
end
end Mine
end

section -- Srt4
set_option autoImplicit false
set_option linter.unusedVariables false
namespace Mine
section
variable {prog : Program} {w : World} {r : RootD} {lev : Nat} {cx : Cx}

theorem katRev_sort {α : Type} {lt : α → α → Bool} (L : Lin lt) (b : Bool) {ks : List α} (nd : ks.Nodup) : sortBy lt (katRev b ks) = sortBy lt ks :=
  asc_uniq L ((sortBy_perm _).trans ((kat_perm b ks).trans (sortBy_perm ks).symm)) (sortBy_asc L _ ((kat_perm b ks).nodup_iff.mpr nd)) (sortBy_asc L _ nd)

theorem out_keys {α : Type} {lt : α → α → Bool} (L : Lin lt) (d : α) (f : α → V) (hf : ∀ i (ks : List α), (ks.map f).getD i (f d) = f (ks.getD i d)) (ks₂ : List α) (nd : ks₂.Nodup) {σ : List Addr} {h : Heap} {us₂ : List Value} (r : RVs σ h us₂ (ks₂.map f)) :
    RVs σ h (outOf (fun i j => lt (ks₂.getD i d) (ks₂.getD j d)) us₂) ((sortBy lt ks₂).map f) ∧ (2 ≤ us₂.length → kok (fun i j => lt (ks₂.getD i d) (ks₂.getD j d)) us₂.length (kas_sort us₂.length) ∧ (kev (fun i j => lt (ks₂.getD i d) (ks₂.getD j d)) (kas_sort us₂.length)).size = us₂.length) := by
  have hl : us₂.length = ks₂.length := by rw [r.length]; simp
  unfold outOf
  by_cases h2 : us₂.length < 2
  · rw [if_pos h2]
    refine ⟨?_, fun h => by omega⟩
    have : sortBy lt ks₂ = ks₂ := by
      match ks₂, hl ▸ h2 with
      | [], _ => rfl
      | [a], _ => rfl
    rw [this]; exact r
  · rw [if_neg h2]
    obtain ⟨k1, k2, k3⟩ := kas_keys L d ks₂ nd (by omega)
    rw [hl]
    refine ⟨?_, fun _ => ⟨k1, k3.size⟩⟩
    rw [← k2]
    refine RVs.of_get (by simp) fun i u e => ?_
    simp only [List.getElem?_map, Option.map_eq_some_iff] at e ⊢
    obtain ⟨j, ej, rfl⟩ := e
    refine ⟨_, ⟨_, ⟨j, ej, rfl⟩, rfl⟩, ?_⟩
    have hj : j < ks₂.length := by
      have := (k3.mem_iff (a := j)).mp (List.mem_of_getElem? ej)
      simpa using this
    have := r.getD (i := j) (by omega) (f d)
    rw [hf] at this; exact this

theorem sort_end {A : Around} {E : Value → Shared → Prop} {σ : List Addr} {st : St} {s : Shared} {us : List Value} {xs : List V} {b : Bool} {Q : V → St → Prop} (R : Rep prog w σ st s.heap) (rs : RVs σ s.heap us xs) (hz : us.length < 64) (h : wSortV xs b st Q) {a : Addr} (ha : a = s.heap.objs.size)
    {P : PySem.Fin → Shared → Prop} (hP : ∀ h' st' σ' v, Rep prog w σ' st' h' → Ext σ s.heap σ' h' → RV σ' h' (.ref a) v → Q v st' → P (.done (.ret .none)) { s with heap := h', toks := s.toks }) :
    wpAny (model prog w) A (Builtin.«list.sort» ⟨[.ref a], if b = true then [(Str.ofString "reverse", .bool true)] else []⟩) P E { s with heap := s.heap.push (seqObj "list" us.toArray 0) } := by
  subst ha
  have ho : (s.heap.push (seqObj "list" us.toArray 0)).get? s.heap.objs.size = some (seqObj "list" us.toArray 0) := Heap.get?_push_size _ rfl
  have gT : TK s.heap (srtHeap (s.heap.push (seqObj "list" us.toArray 0)) s.heap.objs.size us) := fun p vals t => by
    obtain ⟨o, e, q⟩ := t
    have hlt := Heap.lt_size e
    refine ⟨o, ?_, q⟩
    unfold srtHeap
    have e' : (s.heap.push (seqObj "list" us.toArray 0)).get? p = some o := Heap.get?_push_of_some _ e
    exact Heap.get?_push_of_some _ (Heap.get?_push_of_some _ ((Heap.get?_update_ne _ _ _ _ (Nat.ne_of_lt hlt)).trans e'))
  have fin : ∀ {α : Type} (lt : α → α → Bool) (L : Lin lt) (d : α) (f : α → V) (hf : ∀ i (ks : List α), (ks.map f).getD i (f d) = f (ks.getD i d)) (ks : List α) (nd : ks.Nodup) (rk : RVs σ s.heap us (ks.map f)) (κ : SortKind)
      (S : Sortable prog w us (katRev b us) (fun i j => lt ((katRev b ks).getD i d) ((katRev b ks).getD j d)) κ (srtHeap (s.heap.push (seqObj "list" us.toArray 0)) s.heap.objs.size us))
      (hq : Q (.loc st.length) (st ++ [.list ((katRev b (sortBy lt ks)).map f)])),
      wpAny (model prog w) A (Builtin.«list.sort» ⟨[.ref s.heap.objs.size], if b = true then [(Str.ofString "reverse", .bool true)] else []⟩) P E { s with heap := s.heap.push (seqObj "list" us.toArray 0) } := by
    intro α lt L d f hf ks nd rk κ S hq
    have rk₂ := rk.katRev b
    rw [kat_map] at rk₂
    obtain ⟨o1, o2⟩ := out_keys L d f hf (katRev b ks) ((kat_perm b ks).nodup_iff.mpr nd) rk₂
    rw [katRev_sort L b nd] at o1
    rw [kat_len] at o2
    refine raw_sort (s := { s with heap := s.heap.push (seqObj "list" us.toArray 0) }) ho rfl hz S (fun h2 => (o2 h2).1) (fun h2 => (o2 h2).2) ?_
    have old : ∀ p o, s.heap.get? p = some o → (sortedHeap (s.heap.push (seqObj "list" us.toArray 0)) s.heap.objs.size us (katRev b (outOf (fun i j => lt ((katRev b ks).getD i d) ((katRev b ks).getD j d)) (katRev b us))).toArray).get? p = some o := fun p o e => by
      have hlt := Heap.lt_size e
      rw [sortedHeap_old (Nat.ne_of_lt hlt) (by rw [size_push']; exact Nat.lt_succ_of_lt hlt)]
      exact Heap.get?_push_of_some _ e
    obtain ⟨ep, hat⟩ := sortedHeap_at (out := (katRev b (outOf (fun i j => lt ((katRev b ks).getD i d) ((katRev b ks).getD j d)) (katRev b us))).toArray) ho
    have ro : RO prog w (σ ++ [s.heap.objs.size]) (sortedHeap (s.heap.push (seqObj "list" us.toArray 0)) s.heap.objs.size us (katRev b (outOf (fun i j => lt ((katRev b ks).getD i d) ((katRev b ks).getD j d)) (katRev b us))).toArray) s.heap.objs.size (.list ((katRev b (sortBy lt ks)).map f)) := by
      refine .list (vals := katRev b (outOf (fun i j => lt ((katRev b ks).getD i d) ((katRev b ks).getD j d)) (katRev b us))) ⟨_, ep, hat, rfl, rfl, rfl⟩ ?_
      have := (o1.katRev b).mono (List.prefix_append σ [s.heap.objs.size]) (tk_grow old)
      rw [kat_map] at this; exact this
    obtain ⟨R', X', e'⟩ := R.alloc old (Nat.le_refl _) ro
    exact hP _ _ _ _ R' X' (.loc e') hq
  rcases h with ⟨ks, rfl, nd, _, hq⟩ | ⟨ks, rfl, nd, _, hq⟩
  · exact fin ltP lin_ltP (0, 0) keyT (fun i ks => by simp only [List.getD, List.getElem?_map]; cases ks[i]? <;> rfl) ks nd rs _ (sortable_tup b (rs.mono (List.prefix_refl _) gT)) hq
  · exact fin ltI lin_ltI 0 V.int (fun i ks => by simp only [List.getD, List.getElem?_map]; cases ks[i]? <;> rfl) ks nd rs _ (sortable_int b (rs.mono (List.prefix_refl _) gT)) hq

theorem wSortV.len {xs : List V} {b : Bool} {st : St} {Q : V → St → Prop} (h : wSortV xs b st Q) : xs.length < 64 := by
  rcases h with ⟨ks, rfl, _, h, _⟩ | ⟨ks, rfl, _, h, _⟩ <;> simpa using h

theorem sn_sorted : SN prog w lev (fun us => call (.builtin "sorted") us) (wSorted false) := fun A rm σ st s Q us vs R rvs h => by
  obtain ⟨v, xs, rfl, hx, h⟩ := h
  have hz := h.len
  cases rvs with
  | @cons u _ us' _ ru rus =>
    cases rus
    refine Calls.call_function_entry kind_sorted plain_sorted entry_sorted (args_sorted1 _) ?_
    unfold Builtin.«sorted»
    refine wpAny_bind (m := checkCount "sorted" 1 1 _) (wpAny_pure ?_)
    refine wpAny_bind (collectV rm (B := A.in1) (show A.in1.handled = none from rm.hand) R ru hx (by omega) fun us h' tk g rs => ?_)
    have hl := rs.length
    refine wpAny_bind (wpAny_newList ?_ (by rw [sizeLine_eq]; omega))
    have hoL : (h'.push (seqObj "list" us.toArray 0)).get? h'.objs.size = some (seqObj "list" us.toArray 0) := Heap.get?_push_size _ rfl
    show wpAny _ _ _ _ _ { s with heap := h'.push (seqObj "list" us.toArray 0), toks := tk }
    refine wpAny_bind (wpAny_holding (wpAny_call_entry slot_list_sort ⟨_, hoL, rfl⟩ entry_list_sort ?body (args_list_sort _)))
    case body =>
      refine sort_end (b := false) (s := { s with heap := h', toks := tk }) (R.grow g) rs (by omega) h rfl fun h'' st' σ' v' R' X' rv' q => ?_
      exact ⟨_, rfl, wpAny_pure ⟨_, rfl, v', st', σ', h'', tk, rfl, (Ext.grow g).trans X', R', rv', q⟩⟩

/-- sorted(..., reverse=True) -/
theorem s1_sortedR {A : Around} (rm : Room lev A) {σ : List Addr} {st : St} {s : Shared} {Q : V → St → Prop} {u : Value} {v : V} (R : Rep prog w σ st s.heap) (ru : RV σ s.heap u v) (h : wSorted true [v] st Q) :
    wpAny (model prog w) A (call (.builtin "sorted") [u] [(Str.ofString "reverse", .bool true)]) (Post prog w σ s Q) No s := by
  obtain ⟨v', xs, e, hx, h⟩ := h
  cases e
  have hz := h.len
  refine call_function_entry_kw kind_sorted plain_sorted entry_sorted (args_sorted_rev _ _) ?_
  unfold Builtin.«sorted»
  refine wpAny_bind (m := checkCount "sorted" 1 1 _) (wpAny_pure ?_)
  refine wpAny_bind (collectV rm (B := A.in1) (show A.in1.handled = none from rm.hand) R ru hx (by omega) fun us h' tk g rs => ?_)
  have hl := rs.length
  refine wpAny_bind (wpAny_newList ?_ (by rw [sizeLine_eq]; omega))
  have hoL : (h'.push (seqObj "list" us.toArray 0)).get? h'.objs.size = some (seqObj "list" us.toArray 0) := Heap.get?_push_size _ rfl
  show wpAny _ _ _ _ _ { s with heap := h'.push (seqObj "list" us.toArray 0), toks := tk }
  refine wpAny_bind (wpAny_holding (wpAny_call_entry_kw slot_list_sort ⟨_, hoL, rfl⟩ entry_list_sort ?body (args_list_sort_rev _ _)))
  case body =>
    refine sort_end (b := true) (s := { s with heap := h', toks := tk }) (R.grow g) rs (by omega) h rfl fun h'' st' σ' v' R' X' rv' q => ?_
    exact ⟨_, rfl, wpAny_pure ⟨_, rfl, v', st', σ', h'', tk, rfl, (Ext.grow g).trans X', R', rv', q⟩⟩
end
end Mine
end

section -- B1
set_option autoImplicit false
set_option linter.unusedVariables false
namespace Mine

noncomputable def maxL : List Int → Int
  | [] => 0
  | [a] => a
  | a :: b :: r => max a (maxL (b :: r))
theorem maxL_mem : ∀ {l : List Int}, l ≠ [] → maxL l ∈ l
  | [a], _ => by simp [maxL]
  | a :: b :: r, _ => by
    have := maxL_mem (l := b :: r) (by simp)
    unfold maxL
    rcases Int.le_total a (maxL (b :: r)) with h | h
    · rw [Int.max_eq_right h]; exact List.mem_cons_of_mem _ this
    · rw [Int.max_eq_left h]; exact List.mem_cons_self
theorem maxL_le : ∀ {l : List Int} {x : Int}, x ∈ l → x ≤ maxL l
  | [a], x, h => by simp at h; subst h; simp [maxL]
  | a :: b :: r, x, h => by
    unfold maxL
    rcases List.mem_cons.mp h with rfl | h
    · exact Int.le_max_left _ _
    · exact Int.le_trans (maxL_le h) (Int.le_max_right _ _)
theorem maxL_eq {l : List Int} {m : Int} (h1 : m ∈ l) (h2 : ∀ x ∈ l, x ≤ m) : m = maxL l :=
  Int.le_antisymm (maxL_le h1) (h2 _ (maxL_mem (by intro e; subst e; simp at h1)))

theorem argBest_gt (val : Nat → Int) : ∀ k, argBest (fun i j => decide (val j < val i)) k ≤ k ∧ ∀ i, i ≤ k → val i ≤ val (argBest (fun i j => decide (val j < val i)) k)
  | 0 => ⟨Nat.le_refl _, fun i h => by have : i = 0 := by omega
                                       subst this; exact Int.le_refl _⟩
  | k + 1 => by
    obtain ⟨h1, h2⟩ := argBest_gt val k
    unfold argBest
    by_cases q : val (argBest (fun i j => decide (val j < val i)) k) < val (k + 1)
    · rw [if_pos (by simpa using q)]
      refine ⟨Nat.le_refl _, fun i hi => ?_⟩
      by_cases e : i = k + 1
      · subst e; exact Int.le_refl _
      · have := h2 i (by omega); omega
    · rw [if_neg (by simpa using q)]
      refine ⟨by omega, fun i hi => ?_⟩
      by_cases e : i = k + 1
      · subst e; omega
      · exact h2 i (by omega)
theorem argBest_lt (val : Nat → Int) : ∀ k, argBest (fun i j => decide (val i < val j)) k ≤ k ∧ ∀ i, i ≤ k → val (argBest (fun i j => decide (val i < val j)) k) ≤ val i
  | 0 => ⟨Nat.le_refl _, fun i h => by have : i = 0 := by omega
                                       subst this; exact Int.le_refl _⟩
  | k + 1 => by
    obtain ⟨h1, h2⟩ := argBest_lt val k
    unfold argBest
    by_cases q : val (k + 1) < val (argBest (fun i j => decide (val i < val j)) k)
    · rw [if_pos (by simpa using q)]
      refine ⟨Nat.le_refl _, fun i hi => ?_⟩
      by_cases e : i = k + 1
      · subst e; exact Int.le_refl _
      · have := h2 i (by omega); omega
    · rw [if_neg (by simpa using q)]
      refine ⟨by omega, fun i hi => ?_⟩
      by_cases e : i = k + 1
      · subst e; omega
      · exact h2 i (by omega)

noncomputable def wLen : WN := fun vs st Q => match vs with
  | [.loc n] => (∃ xs, st[n]? = some (.list xs) ∧ xs.length ≤ 1000 ∧ Q (.int xs.length) st) ∨ (∃ lk es, st[n]? = some (.dT lk es) ∧ es.length ≤ 1000 ∧ Q (.int es.length) st)
  | _ => False
noncomputable def wAbs : WN := fun vs st Q => match vs with
  | [.int a] => Q (.int (if a < 0 then -a else a)) st
  | _ => False
noncomputable def wMax : WN := fun vs st Q => match vs with
  | [.int a, .int b] => Q (.int (max a b)) st
  | [.loc n] => ∃ ns, st[n]? = some (.list (ns.map V.int)) ∧ ns ≠ [] ∧ ns.length ≤ 1000 ∧ Q (.int (maxL ns)) st
  | _ => False
noncomputable def wMin : WN := fun vs st Q => match vs with
  | [.int a, .int b] => Q (.int (min a b)) st
  | _ => False
noncomputable def wAny : WN := fun vs st Q => match vs with
  | [.loc n] => ∃ bs : List Bool, st[n]? = some (.list (bs.map V.bool)) ∧ Q (.bool (bs.any id)) st
  | _ => False
noncomputable def wListC : WN := fun vs st Q => ∃ v xs, vs = [v] ∧ itemsV v st = some xs ∧ xs.length ≤ 1000 ∧ Q (.loc st.length) (st ++ [.list xs])
noncomputable def wTupC : WN := fun vs st Q => match vs with
  | [.loc n] => ∃ xs, st[n]? = some (.list xs) ∧ xs.length ≤ 1000 ∧ Q (.tup xs) st
  | _ => False

section
variable {prog : Program} {w : World} {r : RootD} {lev : Nat} {cx : Cx}

theorem rvs1 {σ : List Addr} {h : Heap} {us : List Value} {v : V} (r : RVs σ h us [v]) : ∃ u, us = [u] ∧ RV σ h u v := by
  cases r with
  | cons a r => cases r; exact ⟨_, rfl, a⟩
theorem rvs2 {σ : List Addr} {h : Heap} {us : List Value} {v v' : V} (r : RVs σ h us [v, v']) : ∃ u u', us = [u, u'] ∧ RV σ h u v ∧ RV σ h u' v' := by
  cases r with
  | cons a r => obtain ⟨u, rfl, b⟩ := rvs1 r; exact ⟨_, _, rfl, a, b⟩
theorem rvs3 {σ : List Addr} {h : Heap} {us : List Value} {v v' v'' : V} (r : RVs σ h us [v, v', v'']) : ∃ u u' u'', us = [u, u', u''] ∧ RV σ h u v ∧ RV σ h u' v' ∧ RV σ h u'' v'' := by
  cases r with
  | cons a r => obtain ⟨u, u', rfl, b, c⟩ := rvs2 r; exact ⟨_, _, _, rfl, a, b, c⟩
theorem rv_loc {σ : List Addr} {h : Heap} {u : Value} {n : Nat} (r : RV σ h u (.loc n)) : ∃ a, u = .ref a ∧ σ[n]? = some a := by cases r with | loc e => exact ⟨_, rfl, e⟩
theorem rv_int {σ : List Addr} {h : Heap} {u : Value} {i : Int} (r : RV σ h u (.int i)) : ∃ t, u = .int i t := by cases r with | int _ t => exact ⟨t, rfl⟩
/-- one argument, a place -/
theorem inv_l {P : List V → Prop} {vs : List V} (h : P vs) (h0 : ¬ P []) (h2 : ∀ v v' r, ¬ P (v :: v' :: r)) (h1 : ∀ v, P [v] → ∃ n, v = .loc n) : ∃ n, vs = [.loc n] := by
  rcases vs with _ | ⟨v, _ | ⟨v', r⟩⟩
  · exact absurd h h0
  · obtain ⟨n, rfl⟩ := h1 v h; exact ⟨n, rfl⟩
  · exact absurd h (h2 _ _ _)
theorem inv_i {P : List V → Prop} {vs : List V} (h : P vs) (h0 : ¬ P []) (h2 : ∀ v v' r, ¬ P (v :: v' :: r)) (h1 : ∀ v, P [v] → ∃ n, v = .int n) : ∃ n, vs = [.int n] := by
  rcases vs with _ | ⟨v, _ | ⟨v', r⟩⟩
  · exact absurd h h0
  · obtain ⟨n, rfl⟩ := h1 v h; exact ⟨n, rfl⟩
  · exact absurd h (h2 _ _ _)
theorem inv_2 {P : List V → Prop} {vs : List V} (h : P vs) (h0 : ¬ P []) (h1 : ∀ v, ¬ P [v]) (h3 : ∀ v v' v'' r, ¬ P (v :: v' :: v'' :: r)) (h2 : ∀ v v', P [v, v'] → ∃ n, v = .loc n) : ∃ n v', vs = [.loc n, v'] := by
  rcases vs with _ | ⟨v, _ | ⟨v', _ | ⟨v'', r⟩⟩⟩
  · exact absurd h h0
  · exact absurd h (h1 _)
  · obtain ⟨n, rfl⟩ := h2 v v' h; exact ⟨n, v', rfl⟩
  · exact absurd h (h3 _ _ _ _)
theorem inv_3 {P : List V → Prop} {vs : List V} (h : P vs) (h0 : ¬ P []) (h1 : ∀ v, ¬ P [v]) (h2 : ∀ v v', ¬ P [v, v']) (h4 : ∀ v v' v'' v3 r, ¬ P (v :: v' :: v'' :: v3 :: r)) (h3 : ∀ v v' v'', P [v, v', v''] → ∃ n, v = .loc n) : ∃ n v' v'', vs = [.loc n, v', v''] := by
  rcases vs with _ | ⟨v, _ | ⟨v', _ | ⟨v'', _ | ⟨v3, r⟩⟩⟩⟩
  · exact absurd h h0
  · exact absurd h (h1 _)
  · exact absurd h (h2 _ _)
  · obtain ⟨n, rfl⟩ := h3 v v' v'' h; exact ⟨n, v', v'', rfl⟩
  · exact absurd h (h4 _ _ _ _ _)

theorem sn_len : SN prog w lev (fun us => call (.builtin "len") us) wLen := fun A rm σ st s Q us vs R rvs h => by
  obtain ⟨n, rfl⟩ := inv_l (P := fun vs => wLen vs st Q) h (fun q => q) (fun v _ _ q => by cases v <;> exact q) (fun v q => by cases v <;> first | exact ⟨_, rfl⟩ | exact (show False from q).elim)
  · obtain ⟨_, rfl, ra⟩ := rvs1 rvs
    obtain ⟨a, rfl, ea⟩ := rv_loc ra
    rcases h with ⟨xs, f, hz, h⟩ | ⟨lk, es, f, hz, h⟩
    · cases R.obj _ _ _ f ea with
      | @list us _ l rs =>
        have hl := rs.length
        refine PySem.Calls.call_len_list l.isList (by rw [List.size_toArray]; omega) ?_
        refine Post.same R ?_ h
        rw [List.size_toArray, hl]; exact .int _ _
    · obtain ⟨d, ep, dr, sz, _⟩ := keys_raw R ea (.inl ⟨lk, es, f, rfl⟩)
      have lo := R.low a (List.mem_of_getElem? ea)
      have hT := dr.typeIs
      obtain ⟨o, ho, hc, hd⟩ := dr
      rw [List.length_map] at sz
      refine PyProof.Rows.call_len_slot (n := (d.size : Int)) hT PySem.F.slot_dict_len (fun Q' hq => wpAny_call_entry PySem.F.slot_dict_len hT PySem.F.entry_dict_len ?_ (PySem.F.args_dict_len_1 _)) (by omega) (by omega) ?_
      · show wpAny _ _ (dictSize a >>= _) _ _ s
        unfold dictSize
        refine wpAny_bind (wpAny_bind (wpAny_dictEntries ho hd (wpAny_pure ?_)))
        show wpAny _ _ (Builtin.Dict.pendingCount a >>= _) _ _ s
        refine wpAny_bind (wpAny_pendingCount_other lo ?_)
        refine wpAny_ret_mkInt ?_
        rw [show ((d.size : Int) + ((0 : Nat) : Int)) = (d.size : Int) by simp]
        exact hq
      · refine Post.same R ?_ h
        rw [sz]; exact .int _ _

theorem sn_abs : SN prog w lev (fun us => call (.builtin "abs") us) wAbs := fun A rm σ st s Q us vs R rvs h => by
  obtain ⟨n, rfl⟩ := inv_i (P := fun vs => wAbs vs st Q) h (fun q => q) (fun v _ _ q => by cases v <;> exact q) (fun v q => by cases v <;> first | exact ⟨_, rfl⟩ | exact (show False from q).elim)
  · obtain ⟨_, rfl, ra⟩ := rvs1 rvs
    obtain ⟨t, rfl⟩ := rv_int ra
    exact PyProof.Rows.call_abs_int fun u tk => Post.same R (.int _ _) h

theorem ints_at {σ : List Addr} {h : Heap} {us : List Value} {ns : List Int} (r : RVs σ h us (ns.map V.int)) : ∀ (i : Nat) (v : Value), us.toArray[i]? = some v → ∃ t, v = .int (ns.getD i 0) t := fun i v e => by
  obtain ⟨x, e1, e2⟩ := r.get' (i := i) (u := v) (by simpa using e)
  rw [List.getElem?_map] at e1
  obtain ⟨y, hy, rfl⟩ := Option.map_eq_some_iff.mp e1
  cases e2 with
  | int _ t => exact ⟨t, by simp [List.getD, hy]⟩

theorem max_list {A : Around} {E : Value → Shared → Prop} {s : Shared} (hh : A.handled = none) {l : Addr} {us : List Value} {ns : List Int} {σ : List Addr} (hl : s.heap.IsList l us.toArray) (r : RVs σ s.heap us (ns.map V.int)) (hn : ns ≠ []) {Q : Value → Shared → Prop}
    (h : ∀ h' tk t, (∀ b o, s.heap.get? b = some o → h'.get? b = some o) → Q (.int (maxL ns) t) { s with heap := h', toks := tk }) : wpAny (model prog w) A (call (.builtin "max") [.ref l]) Q E s := by
  have hlen : us.length = ns.length := by rw [r.length]; simp
  have hpos : 0 < ns.length := List.length_pos_iff.mpr hn
  have hlt : l < s.heap.objs.size := by obtain ⟨_, e, _⟩ := hl; exact Heap.lt_size e
  refine call_max_walk (wpAny_pyIter_list hl ?_)
  refine ⟨_, _, _, _, _, _, _, rfl, Walks.list (show A.in1.handled = none from hh) _ l (Nat.ne_of_lt hlt) us.toArray, ⟨⟨_, Heap.get?_push_size _ rfl, rfl, rfl⟩, hl.at fun o e => Heap.get?_push_of_some _ e⟩, ?_, by rw [List.size_toArray]; omega, CmpOf.ints_gt (fun i => ns.getD i 0) (ints_at r), fun v h' tk hP hk => ?_⟩
  · intro b hb
    show b < (s.heap.push _).objs.size
    rw [size_push']
    simp at hb
    rcases hb with rfl | rfl
    · exact Nat.lt_succ_self _
    · exact Nat.lt_succ_of_lt hlt
  · obtain ⟨t, rfl⟩ := ints_at r _ _ hP
    have ag := argBest_gt (fun i => ns.getD i 0) (us.toArray.size - 1)
    rw [List.size_toArray, hlen] at ag
    have e : ns.getD (argBest (fun i j => decide (ns.getD j 0 < ns.getD i 0)) (us.toArray.size - 1)) 0 = maxL ns := by
      rw [List.size_toArray, hlen]
      refine maxL_eq ?_ fun x hx => ?_
      · have hi : argBest (fun i j => decide (ns.getD j 0 < ns.getD i 0)) (ns.length - 1) < ns.length := by have := ag.1; omega
        have e := List.getElem_mem hi
        generalize argBest (fun i j => decide (ns.getD j 0 < ns.getD i 0)) (ns.length - 1) = z at hi e ⊢
        simpa [List.getD, hi] using e
      · obtain ⟨i, hi, rfl⟩ := List.mem_iff_getElem.mp hx
        have := ag.2 i (by omega)
        simpa [List.getD, hi] using this
    rw [e]
    exact h h' tk t fun b o eb => hk b o (by simp; exact Nat.ne_of_lt (Heap.lt_size eb)) (Heap.get?_push_of_some _ eb)

theorem max_two {A : Around} {E : Value → Shared → Prop} {s : Shared} (hh : A.handled = none) {a b : Int} {t u : Tok} {Q : Value → Shared → Prop}
    (h : ∀ h' tk t, (∀ b o, s.heap.get? b = some o → h'.get? b = some o) → Q (.int (max a b) t) { s with heap := h', toks := tk }) : wpAny (model prog w) A (call (.builtin "max") [.int a t, .int b u]) Q E s := by
  have ht : (s.heap.push { cls := .type "tuple", data := .seq #[.int a t, .int b u] }).IsTuple s.heap.objs.size #[.int a t, .int b u] := ⟨_, Heap.get?_push_size _ rfl, rfl, 0, rfl⟩
  have hv : ∀ (i : Nat) (v : Value), (#[Value.int a t, Value.int b u])[i]? = some v → ∃ t, v = .int ([a, b].getD i 0) t := fun i v e => by
    match i, e with
    | 0, e => exact ⟨t, by simpa using e.symm⟩
    | 1, e => exact ⟨u, by simpa using e.symm⟩
    | i + 2, e => simp at e
  refine call_max_two (wpAny_pyIter_tuple ht ?_)
  refine ⟨_, _, _, _, _, _, _, rfl, Walks.tuple (show A.in1.handled = none from hh) _ s.heap.objs.size (by show s.heap.objs.size ≠ (s.heap.push _).objs.size; rw [size_push']; exact Nat.ne_of_lt (Nat.lt_succ_self _)) _, ⟨⟨_, Heap.get?_push_size _ rfl, rfl, rfl⟩, ht.at fun o e => Heap.get?_push_of_some _ e⟩, ?_, by simp, CmpOf.ints_gt (fun i => [a, b].getD i 0) hv, fun v h' tk hP hk => ?_⟩
  · intro x hb
    show x < ((s.heap.push _).push _).objs.size
    rw [size_push']
    simp at hb
    rw [size_push']
    rcases hb with rfl | rfl
    · exact Nat.lt_succ_self _
    · exact Nat.lt_succ_of_lt (Nat.lt_succ_self _)
  · obtain ⟨t', rfl⟩ := hv _ _ hP
    have e : [a, b].getD (argBest (fun i j => decide ([a, b].getD j 0 < [a, b].getD i 0)) (#[Value.int a t, Value.int b u].size - 1)) 0 = max a b := by
      show [a, b].getD (if decide ([a, b].getD 0 0 < [a, b].getD 1 0) = true then 1 else 0) 0 = _
      show [a, b].getD (if decide (a < b) = true then 1 else 0) 0 = _
      by_cases q : a < b
      · rw [if_pos (by simpa using q)]; show b = _; omega
      · rw [if_neg (by simpa using q)]; show a = _; omega
    rw [e]
    refine h h' tk t' fun x o eb => hk x o (by simp; exact Nat.ne_of_lt (Nat.lt_succ_of_lt (Heap.lt_size eb))) (Heap.get?_push_of_some _ (Heap.get?_push_of_some _ eb))

theorem min_two {A : Around} {E : Value → Shared → Prop} {s : Shared} (hh : A.handled = none) {a b : Int} {t u : Tok} {Q : Value → Shared → Prop}
    (h : ∀ h' tk t, (∀ b o, s.heap.get? b = some o → h'.get? b = some o) → Q (.int (min a b) t) { s with heap := h', toks := tk }) : wpAny (model prog w) A (call (.builtin "min") [.int a t, .int b u]) Q E s := by
  have ht : (s.heap.push { cls := .type "tuple", data := .seq #[.int a t, .int b u] }).IsTuple s.heap.objs.size #[.int a t, .int b u] := ⟨_, Heap.get?_push_size _ rfl, rfl, 0, rfl⟩
  have hv : ∀ (i : Nat) (v : Value), (#[Value.int a t, Value.int b u])[i]? = some v → ∃ t, v = .int ([a, b].getD i 0) t := fun i v e => by
    match i, e with
    | 0, e => exact ⟨t, by simpa using e.symm⟩
    | 1, e => exact ⟨u, by simpa using e.symm⟩
    | i + 2, e => simp at e
  refine call_min_two (wpAny_pyIter_tuple ht ?_)
  refine ⟨_, _, _, _, _, _, _, rfl, Walks.tuple (show A.in1.handled = none from hh) _ s.heap.objs.size (by show s.heap.objs.size ≠ (s.heap.push _).objs.size; rw [size_push']; exact Nat.ne_of_lt (Nat.lt_succ_self _)) _, ⟨⟨_, Heap.get?_push_size _ rfl, rfl, rfl⟩, ht.at fun o e => Heap.get?_push_of_some _ e⟩, ?_, by simp, CmpOf.ints_lt (fun i => [a, b].getD i 0) hv, fun v h' tk hP hk => ?_⟩
  · intro x hb
    show x < ((s.heap.push _).push _).objs.size
    rw [size_push']
    simp at hb
    rw [size_push']
    rcases hb with rfl | rfl
    · exact Nat.lt_succ_self _
    · exact Nat.lt_succ_of_lt (Nat.lt_succ_self _)
  · obtain ⟨t', rfl⟩ := hv _ _ hP
    have e : [a, b].getD (argBest (fun i j => decide ([a, b].getD i 0 < [a, b].getD j 0)) (#[Value.int a t, Value.int b u].size - 1)) 0 = min a b := by
      show [a, b].getD (if decide ([a, b].getD 1 0 < [a, b].getD 0 0) = true then 1 else 0) 0 = _
      show [a, b].getD (if decide (b < a) = true then 1 else 0) 0 = _
      by_cases q : b < a
      · rw [if_pos (by simpa using q)]; show b = _; omega
      · rw [if_neg (by simpa using q)]; show a = _; omega
    rw [e]
    refine h h' tk t' fun x o eb => hk x o (by simp; exact Nat.ne_of_lt (Nat.lt_succ_of_lt (Heap.lt_size eb))) (Heap.get?_push_of_some _ (Heap.get?_push_of_some _ eb))

theorem sn_max : SN prog w lev (fun us => call (.builtin "max") us) wMax := fun A rm σ st s Q us vs R rvs h => by
  rcases vs with _ | ⟨v, _ | ⟨v', _ | ⟨v'', r⟩⟩⟩
  · exact (show False from h).elim
  · cases v with
    | loc n =>
      obtain ⟨_, rfl, ra⟩ := rvs1 rvs
      obtain ⟨a, rfl, ea⟩ := rv_loc ra
      obtain ⟨ns, f, hne, hz, h⟩ := h
      cases R.obj _ _ _ f ea with
      | @list us _ l rs => exact max_list rm.hand l.isList rs hne fun h' tk t g => Post.here R g (.int _ _) h
    | _ => exact (show False from h).elim
  · cases v with
    | int a => cases v' with
      | int b =>
        obtain ⟨_, _, rfl, ra, rb⟩ := rvs2 rvs
        obtain ⟨t, rfl⟩ := rv_int ra
        obtain ⟨u, rfl⟩ := rv_int rb
        exact max_two rm.hand fun h' tk t g => Post.here R g (.int _ _) h
      | _ => exact (show False from h).elim
    | _ => exact (show False from h).elim
  · cases v <;> first | exact (show False from h).elim | (cases v' <;> exact (show False from h).elim)
theorem sn_min : SN prog w lev (fun us => call (.builtin "min") us) wMin := fun A rm σ st s Q us vs R rvs h => by
  rcases vs with _ | ⟨v, _ | ⟨v', _ | ⟨v'', r⟩⟩⟩
  · exact (show False from h).elim
  · cases v <;> exact (show False from h).elim
  · cases v with
    | int a => cases v' with
      | int b =>
        obtain ⟨_, _, rfl, ra, rb⟩ := rvs2 rvs
        obtain ⟨t, rfl⟩ := rv_int ra
        obtain ⟨u, rfl⟩ := rv_int rb
        exact min_two rm.hand fun h' tk t g => Post.here R g (.int _ _) h
      | _ => exact (show False from h).elim
    | _ => exact (show False from h).elim
  · cases v <;> first | exact (show False from h).elim | (cases v' <;> exact (show False from h).elim)

theorem sn_any : SN prog w lev (fun us => call (.builtin "any") us) wAny := fun A rm σ st s Q us vs R rvs h => by
  obtain ⟨n, rfl⟩ := inv_l (P := fun vs => wAny vs st Q) h (fun q => q) (fun v _ _ q => by cases v <;> exact q) (fun v q => by cases v <;> first | exact ⟨_, rfl⟩ | exact (show False from q).elim)
  · obtain ⟨_, rfl, ra⟩ := rvs1 rvs
    obtain ⟨a, rfl, ea⟩ := rv_loc ra
    obtain ⟨bs, f, h⟩ := h
    cases R.obj _ _ _ f ea with
    | @list us _ l rs =>
      have hlen : us.length = bs.length := by rw [rs.length]; simp
      have hlt := l.lt
      refine call_any_walk (wpAny_pyIter_list l.isList ?_)
      refine ⟨_, _, _, _, _, _, (fun i => bs.getD i false), rfl, Walks.list (show A.in1.handled = none from rm.hand) _ a (Nat.ne_of_lt hlt) us.toArray, ⟨⟨_, Heap.get?_push_size _ rfl, rfl, rfl⟩, l.isList.at fun o e => Heap.get?_push_of_some _ e⟩, fun i v s' Q' E' hP hq => ?_, fun h' tk hk => ?_⟩
      · obtain ⟨x, e1, e2⟩ := rs.get' (i := i) (u := v) (by simpa using hP)
        rw [List.getElem?_map] at e1
        obtain ⟨y, hy, rfl⟩ := Option.map_eq_some_iff.mp e1
        cases e2
        refine wpAny_truthy_bool ?_
        have e : bs.getD i false = y := by simp [List.getD, hy]
        have hq : Q' (bs.getD i false) s' := hq
        rw [e] at hq; exact hq
      · have e : (List.range us.toArray.size).any (fun i => bs.getD i false) = bs.any id := by
          rw [List.size_toArray, hlen, Bool.eq_iff_iff]
          simp only [List.any_eq_true, List.mem_range, id]
          constructor
          · rintro ⟨i, hi, hb⟩
            refine ⟨bs[i], List.getElem_mem hi, ?_⟩
            simpa [List.getD, hi] using hb
          · rintro ⟨x, hx, hb⟩
            obtain ⟨i, hi, rfl⟩ := List.mem_iff_getElem.mp hx
            exact ⟨i, hi, by simpa [List.getD, hi] using hb⟩
        rw [e]
        exact Post.here R (fun b o eb => hk b o (by simp; exact Nat.ne_of_lt (Heap.lt_size eb)) (Heap.get?_push_of_some _ eb)) (.bool _) h

theorem sn_listC : SN prog w lev (fun us => call (.type "list") us) wListC := fun A rm σ st s Q us vs R rvs h => by
  obtain ⟨v, xs, rfl, hx, hz, h⟩ := h
  cases rvs with
  | @cons u _ us' _ ru rus =>
    cases rus
    have fin : ∀ h' tk items c', (∀ b o, s.heap.get? b = some o → h'.get? b = some o) → h'.get? s.heap.objs.size = some { cls := .type "list", dict := none, data := .seq items c', slots := #[] } → RVs σ h' items.toList xs → Post prog w σ s Q (.ref s.heap.objs.size) { s with heap := h', toks := tk } := by
      intro h' tk items c' g e rs
      have ro : RO prog w (σ ++ [s.heap.objs.size]) h' s.heap.objs.size (.list xs) := .list (vals := items.toList) ⟨_, c', e, rfl, rfl, by simp⟩ (rs.mono (List.prefix_append _ _) (TK.refl _))
      obtain ⟨R', X', e'⟩ := R.alloc g (Nat.le_refl _) ro
      exact ⟨.loc st.length, _, _, h', tk, rfl, X', R', .loc e', h⟩
    cases ru with
    | none => cases hx
    | bool => cases hx
    | int => cases hx
    | str => cases hx
    | @tup a vals vs t rs =>
      cases hx
      obtain ⟨o, e, c, n, d⟩ := t
      refine call_list_seq a (.inr rfl) e c d (fun h' c' g e' => ?_) (by have := rs.length; rw [List.size_toArray, sizeLine_eq]; omega)
      exact fin h' s.toks _ c' g e' (rs.mono (List.prefix_refl _) (tk_grow g))
    | @loc n a ea =>
      simp only [itemsV] at hx
      cases f : st[n]? with
      | none => rw [f] at hx; cases hx
      | some ob =>
        rw [f] at hx
        have dcase : ((∃ lk es, st[n]? = some (.dT lk es) ∧ xs = es.map fun p => keyT p.1) ∨ (∃ es, st[n]? = some (.dI es) ∧ xs = es.map fun p => V.int p.1)) → wpAny (model prog w) A (call (.type "list") [.ref a]) (Post prog w σ s Q) No s := fun hc => by
          obtain ⟨d, ep, dr, sz, hk⟩ := keys_raw R ea hc
          have lo := R.low a (List.mem_of_getElem? ea)
          refine kdl_call (kdl_draw a lo d ep) rm.hand dr (by rw [sizeLine_eq]; omega) fun h' tk acc c' g e' it => ?_
          refine fin h' tk acc c' g e' (RVs.of_get (by simp [it.1, sz]) fun i u' e' => ?_)
          obtain ⟨en, e1, rfl⟩ := it.2 i u' (by simpa using e')
          obtain ⟨v, e2, e3⟩ := hk i en e1
          exact ⟨v, e2, e3.mono (List.prefix_refl _) (tk_grow g)⟩
        cases ob with
        | list ys =>
          cases hx
          cases R.obj _ _ _ f ea with
          | @list us _ l rs =>
            obtain ⟨o, k, e, c, _, d⟩ := l
            refine call_list_seq a (.inl rfl) e c d (fun h' c' g e' => ?_) (by have := rs.length; rw [List.size_toArray, sizeLine_eq]; omega)
            exact fin h' s.toks _ c' g e' (rs.mono (List.prefix_refl _) (tk_grow g))
        | dT lk es => cases hx; exact dcase (.inl ⟨lk, es, f, rfl⟩)
        | dI es => cases hx; exact dcase (.inr ⟨es, f, rfl⟩)
        | dS es => cases hx
        | fro => cases hx

theorem sn_tupC : SN prog w lev (fun us => call (.type "tuple") us) wTupC := fun A rm σ st s Q us vs R rvs h => by
  obtain ⟨n, rfl⟩ := inv_l (P := fun vs => wTupC vs st Q) h (fun q => q) (fun v _ _ q => by cases v <;> exact q) (fun v q => by cases v <;> first | exact ⟨_, rfl⟩ | exact (show False from q).elim)
  · obtain ⟨_, rfl, ra⟩ := rvs1 rvs
    obtain ⟨a, rfl, ea⟩ := rv_loc ra
    obtain ⟨xs, f, hz, h⟩ := h
    cases R.obj _ _ _ f ea with
    | @list us _ l rs =>
      have hl := rs.length
      refine call_tuple_list l.isList (fun h' g => ?_) (by rw [List.size_toArray, sizeLine_eq]; omega)
      have g' : ∀ b o, s.heap.get? b = some o → (h'.push { cls := .type "tuple", data := .seq us.toArray }).get? b = some o := fun b o e => Heap.get?_push_of_some _ (g b o e)
      exact Post.here R g' (.tup (vals := us) ⟨_, Heap.get?_push_size _ rfl, rfl, 0, rfl⟩ (rs.mono (List.prefix_refl _) (tk_grow g'))) h
end
end Mine
end

section -- B2
set_option autoImplicit false
set_option linter.unusedVariables false
set_option maxRecDepth 100000
namespace Mine

noncomputable def recvL (v : V) (st : St) : Prop := ∃ n xs, v = .loc n ∧ st[n]? = some (.list xs)
noncomputable def recvD (v : V) (st : St) : Prop := ∃ n, v = .loc n ∧ ((∃ lk es, st[n]? = some (.dT lk es)) ∨ (∃ es, st[n]? = some (.dI es)) ∨ (∃ es, st[n]? = some (.dS es)))
noncomputable def wMeth (rc : V → St → Prop) (wo : WE) (wl : WL) (f : WN) : WE := fun η st Q => wo η st fun ov st₁ => rc ov st₁ ∧ wl η st₁ fun vs st₂ => f (ov :: vs) st₂ Q

noncomputable def wAppend : WN := fun vs st Q => match vs with
  | [.loc n, v] => ∃ xs, st[n]? = some (.list xs) ∧ xs.length ≤ 1000 ∧ Q .none (st.set n (.list (xs ++ [v])))
  | _ => False
noncomputable def wGet1 : WN := fun vs st Q => match vs with
  | [.loc n, k] => ∃ lk es kk, k = keyT kk ∧ st[n]? = some (.dT lk es) ∧ Q ((dget es kk).getD .none) st
  | _ => False
noncomputable def wGet2 : WN := fun vs st Q => match vs with
  | [.loc n, k, d] => ∃ lk es kk, k = keyT kk ∧ st[n]? = some (.dT lk es) ∧ Q ((dget es kk).getD d) st
  | _ => False
noncomputable def wPop1 : WN := fun vs st Q => match vs with
  | [.loc n, k] => ∃ es kk v, k = keyT kk ∧ st[n]? = some (.dT none es) ∧ es.length ≤ 1000 ∧ dget es kk = some v ∧ Q v (st.set n (.dT none (ddel es kk)))
  | _ => False
noncomputable def wSetDef : WN := fun vs st Q => match vs with
  | [.loc n, .int k, d] => ∃ es, st[n]? = some (.dI es) ∧ es.length ≤ 1000 ∧ match dget es k with
    | some v => Q v st
    | none => Q d (st.set n (.dI (dput es k d)))
  | _ => False
noncomputable def hashK (k : Int × Int) : Int := reduceHash (Builtin.Tuple.tupleHashOf ([k.1, k.2].map hashInt))
noncomputable def wUpdate : WN := fun vs st Q => match vs with
  | [.loc n, .loc m] => ∃ lk es, n ≠ m ∧ st[n]? = some (.dT none []) ∧ st[m]? = some (.dT lk es) ∧ es.length ≤ 1000 ∧ (es.map fun p => hashK p.1).Nodup ∧ Q .none (st.set n (.dT none es))
  | _ => False

section
variable {prog : Program} {w : World} {r : RootD} {lev : Nat} {cx : Cx}

theorem hash_tk (k : Int × Int) : (tk prog w).hash (keyL k) = hashK k := rfl

theorem se_meth {o : Expr} {name : Str} {apos pos : Pos} {e : Expr} {rest : List Expr} {T id : String} {rc : V → St → Prop} {wo : WE} {wl : WL} {f : WN}
    (hbase : attributeBase o name cx.env (eval o cx.env) = eval o cx.env)
    (hfew : ((backTo pos (starEach (e :: rest) cx.env)).all (fun x => !x.1) && (backToKw pos (keywordEach [] cx.env)).all (fun x => x.1.isSome)
      && decide ((e :: rest).length + ([] : List Keyword).length + (if ([] : List Keyword).isEmpty then 0 else 1) < 30)) = true)
    (hline : (apos.endLine == pos.line) = true) (pa : PlainAttrs T) (slot : Slot T name id) (hty : typeOf (.builtin id) = pure (.type "method_descriptor"))
    (hrc : ∀ {σ : List Addr} {st : St} {s : Shared} {u : Value} {v : V}, Rep prog w σ st s.heap → RV σ s.heap u v → rc v st → s.TypeIs u T ∧ ∀ a, u = .ref a → ∃ ob, s.heap.get? a = some ob ∧ ob.dict = none)
    (ho : SE prog w lev cx (eval o cx.env) wo) (hl : SL prog w lev cx (spliced (backTo pos (starEach (e :: rest) cx.env))) wl) (F : SN prog w lev (fun us => call (.builtin id) us) f)
    (he : starEach (e :: rest) cx.env = (false, eval e cx.env) :: starEach rest cx.env) (hp : (backTo pos (starEach rest cx.env)).any (·.1) = false) :
    SE prog w lev cx (eval (.Call (.Attribute o name apos) (e :: rest) [] pos) cx.env) (wMeth rc wo wl f) := fun A rm σ st η s Q I h => by
  refine wpAny_Call_method hbase hfew hline pa slot hty (wpAny_mono (ho A rm σ st η s _ I h) ?_ fun _ _ x => x)
  refine fun u s₁ pz => pz.el ?_
  clear pz; rintro v st₁ σ₁ h₁ tk₁ rfl X₁ R₁ rv hh
  obtain ⟨hr, h⟩ := hh
  obtain ⟨a1, a2⟩ := hrc (s := { s with heap := h₁, toks := tk₁ }) R₁ rv hr
  refine ⟨a1, a2, ?_⟩
  have key := hl A rm σ₁ st₁ η { s with heap := h₁, toks := tk₁ } _ (I.ext X₁ R₁) h
  rw [he] at key ⊢
  refine Calls.callWith_builtin (first := [u]) (by show (false || (backTo pos (starEach rest cx.env)).any (·.1)) = false; rw [hp]; rfl) (Calls.evalArgs_plain (wpAny_mono key ?_ fun _ _ x => x))
  refine fun us s₂ pz => pz.elim fun vs st₂ σ₂ h₂ tk₂ X₂ R₂ rvs h => ?_
  exact wpAny_mono (F A rm σ₂ st₂ _ _ (u :: us) (v :: vs) R₂ (.cons (rv.ext X₂ R₁) rvs) h) (fun _ _ p => (p.trans X₂).trans X₁) fun _ _ x => x

theorem rcv_list {σ : List Addr} {st : St} {s : Shared} {u : Value} {v : V} (R : Rep prog w σ st s.heap) (rv : RV σ s.heap u v) (h : recvL v st) : s.TypeIs u "list" ∧ ∀ a, u = .ref a → ∃ ob, s.heap.get? a = some ob ∧ ob.dict = none := by
  obtain ⟨n, xs, rfl, f⟩ := h
  cases rv with
  | @loc _ a ea =>
    cases R.obj _ _ _ f ea with
    | list l _ =>
      obtain ⟨o, k, e, c, d, _⟩ := l
      exact ⟨⟨o, e, c⟩, fun b hb => by cases hb; exact ⟨o, e, d⟩⟩
theorem rcv_dict {σ : List Addr} {st : St} {s : Shared} {u : Value} {v : V} (R : Rep prog w σ st s.heap) (rv : RV σ s.heap u v) (h : recvD v st) : s.TypeIs u "dict" ∧ ∀ a, u = .ref a → ∃ ob, s.heap.get? a = some ob ∧ ob.dict = none := by
  obtain ⟨n, rfl, h⟩ := h
  cases rv with
  | @loc _ a ea =>
    have : ∃ o, s.heap.get? a = some o ∧ o.ExactDict := by
      rcases h with ⟨lk, es, f⟩ | ⟨es, f⟩ | ⟨es, f⟩
      · cases R.obj _ _ _ f ea with
        | dictT d _ _ => obtain ⟨o, _, _, e, x, _⟩ := d; exact ⟨o, e, x⟩
      · cases R.obj _ _ _ f ea with
        | dictI d _ => obtain ⟨o, _, _, e, x, _⟩ := d; exact ⟨o, e, x⟩
      · cases R.obj _ _ _ f ea with
        | dictS d _ => obtain ⟨o, _, _, e, x, _⟩ := d; exact ⟨o, e, x⟩
    obtain ⟨o, e, x⟩ := this
    exact ⟨⟨o, e, x.1⟩, fun b hb => by cases hb; exact ⟨o, e, x.2.1⟩⟩

theorem sn_append : SN prog w lev (fun us => call (.builtin "list.append") us) wAppend := fun A rm σ st s Q us vs R rvs h => by
  obtain ⟨n, k, rfl⟩ := inv_2 (P := fun vs => wAppend vs st Q) h (fun q => q) (fun v q => by cases v <;> exact q) (fun v _ _ _ q => by cases v <;> exact q) (fun v v' q => by cases v <;> first | exact ⟨_, rfl⟩ | exact (show False from q).elim)
  · obtain ⟨_, u, rfl, ra, rk⟩ := rvs2 rvs
    obtain ⟨a, rfl, ea⟩ := rv_loc ra
    obtain ⟨xs, f, hz, h⟩ := h
    cases R.obj _ _ _ f ea with
    | @list us _ l rs =>
      have hl := rs.length
      refine list_append_plainL l (hsz := by rw [List.size_toArray, sizeLine_eq]; omega) fun h' l' hs => ?_
      obtain ⟨R', X'⟩ := R.upd (o := .list (xs ++ [k])) ea hs.extBut fun T => .list (vals := us ++ [u]) (by simpa using l') ((rs.append (.cons rk .nil)).mono (List.prefix_refl _) T)
      exact ⟨.none, _, _, h', s.toks, rfl, X', R', .none, h⟩

theorem sn_get1 : SN prog w lev (fun us => call (.builtin "dict.get") us) wGet1 := fun A rm σ st s Q us vs R rvs h => by
  obtain ⟨n, k, rfl⟩ := inv_2 (P := fun vs => wGet1 vs st Q) h (fun q => q) (fun v q => by cases v <;> exact q) (fun v _ _ _ q => by cases v <;> exact q) (fun v v' q => by cases v <;> first | exact ⟨_, rfl⟩ | exact (show False from q).elim)
  · obtain ⟨_, u, rfl, ra, rk⟩ := rvs2 rvs
    obtain ⟨a, rfl, ea⟩ := rv_loc ra
    obtain ⟨lk, es, kk, hk, f, h⟩ := h
    subst hk
    obtain ⟨b, rfl, tk1⟩ := key_of rk (prog := prog) (w := w)
    have lo := R.low a (List.mem_of_getElem? ea)
    cases R.obj _ _ _ f ea with
    | @dictT _ xs _ d q l =>
      refine call_meetsIn PySem.F.slot_dict_get d.typeIs PySem.F.entry_dict_get (PySem.F.args_dict_get_2 _ _) (meetsH_dict_get (tk prog w) a b lo) ⟨by show A.units + 1 < cLine; have := rm.units1; omega, _, _, tk1, d, ?_⟩
      rcases q.get kk with ⟨e1, e2⟩ | ⟨a', u', v', e1, e2, e3⟩
      · rw [e2]; rw [e1] at h; exact Post.same R .none h
      · rw [e2]; rw [e1] at h; exact Post.same R e3 h
theorem sn_get2 : SN prog w lev (fun us => call (.builtin "dict.get") us) wGet2 := fun A rm σ st s Q us vs R rvs h => by
  obtain ⟨n, k, d, rfl⟩ := inv_3 (P := fun vs => wGet2 vs st Q) h (fun q => q) (fun v q => by cases v <;> exact q) (fun v _ q => by cases v <;> exact q) (fun v _ _ _ _ q => by cases v <;> exact q) (fun v v' v'' q => by cases v <;> first | exact ⟨_, rfl⟩ | exact (show False from q).elim)
  · obtain ⟨_, u, ud, rfl, ra, rk, rd⟩ := rvs3 rvs
    obtain ⟨a, rfl, ea⟩ := rv_loc ra
    obtain ⟨lk, es, kk, hk, f, h⟩ := h
    subst hk
    obtain ⟨b, rfl, tk1⟩ := key_of rk (prog := prog) (w := w)
    have lo := R.low a (List.mem_of_getElem? ea)
    cases R.obj _ _ _ f ea with
    | @dictT _ xs _ d q l =>
      refine call_meetsIn PySem.F.slot_dict_get d.typeIs PySem.F.entry_dict_get (PySem.F.args_dict_get_3 _ _ _) (meetsH_dict_get_default (tk prog w) a b lo ud) ⟨by show A.units + 1 < cLine; have := rm.units1; omega, _, _, tk1, d, ?_⟩
      rcases q.get kk with ⟨e1, e2⟩ | ⟨a', u', v', e1, e2, e3⟩
      · rw [e2]; rw [e1] at h; exact Post.same R rd h
      · rw [e2]; rw [e1] at h; exact Post.same R e3 h

/-! pop -/
theorem EsT.del {σ : List Addr} {h : Heap} {xs : List (List Int × Addr × Value)} {es : List ((Int × Int) × V)} (e : EsT σ h xs es) (k : Int × Int) : EsT σ h (xs.filter fun x => decide (x.1 ≠ keyL k)) (ddel es k) := by
  induction e with
  | nil => exact .nil
  | @cons k' a u v r es x e ih =>
    unfold ddel at ih ⊢
    by_cases hk : k' = k
    · subst hk; simp only [List.filter_cons]; simpa using ih
    · have : ¬ keyL k' = keyL k := fun q => hk (keyL_inj.mp q)
      simp only [List.filter_cons, ne_eq, this, not_false_eq_true, decide_true, if_true, hk]
      exact .cons x ih
theorem erase_filter {α β : Type} [DecidableEq α] : ∀ {xs : List (α × β)} {i : Nat} {k : α} {p : β}, (xs.map (·.1)).Nodup → xs[i]? = some (k, p) → xs.eraseIdx i = xs.filter fun x => decide (x.1 ≠ k)
  | [], _, _, _, _, e => by simp at e
  | x :: xs, 0, k, p, hn, e => by
    simp only [List.getElem?_cons_zero, Option.some.injEq] at e; subst e
    simp only [List.map_cons, List.nodup_cons] at hn
    have : xs.filter (fun x => decide (x.1 ≠ k)) = xs := by
      rw [List.filter_eq_self]
      intro y hy
      have : y.1 ≠ k := fun q => hn.1 (q ▸ List.mem_map.mpr ⟨y, hy, rfl⟩)
      simpa using this
    rw [List.eraseIdx_cons_zero, List.filter_cons, if_neg (by simp), this]
  | x :: xs, i + 1, k, p, hn, e => by
    simp only [List.getElem?_cons_succ] at e
    simp only [List.map_cons, List.nodup_cons] at hn
    have hx : x.1 ≠ k := fun q => hn.1 (q ▸ List.mem_map.mpr ⟨_, List.mem_of_getElem? e, rfl⟩)
    simp only [List.eraseIdx_cons_succ, List.filter_cons, ne_eq, hx, not_false_eq_true, decide_true, if_true]
    rw [erase_filter hn.2 e]
theorem map_erase {α β : Type} (f : α → β) : ∀ (l : List α) (i : Nat), (l.map f).eraseIdx i = (l.eraseIdx i).map f
  | [], _ => by simp
  | a :: l, 0 => by simp
  | a :: l, i + 1 => by simp only [List.map_cons, List.eraseIdx_cons_succ, map_erase f l i]
theorem atKey_get {α : Type} [DecidableEq α] {xs : List (α × Addr × Value)} {k : α} {p : Addr × Value} (e : atKey xs k = some p) : (k, p) ∈ xs := by
  unfold atKey at e
  obtain ⟨x, hx, rfl⟩ := Option.map_eq_some_iff.mp e
  have h1 := List.mem_of_find?_eq_some hx
  have h2 := List.find?_some hx
  have : x.1 = k := by simpa using h2
  rw [← this]; exact h1

theorem takeOut_heap {A : Around} {E : Value → Shared → Prop} {s : Shared} {d a : Addr} {xs : List (List Int × Addr × Value)} {k : List Int} {p : Addr × Value} {Q : Option DictEntry → Shared → Prop} (hu : (tk prog w).room A) (hkey : (tk prog w).is s.heap k a) (hm : s.heap.DictOfH (tk prog w) d xs) (hp : atKey xs k = some p)
    (hQ : ∀ e h', e.val = p.2 → h'.DictOfH (tk prog w) d (xs.filter fun x => decide (x.1 ≠ k)) → Heap.SameBut d s.heap h' → Q (some e) { s with heap := h', toks := s.toks + (tk prog w).draws k })
    (hsz : xs.length ≤ sizeLine) : wpAny (model prog w) A (Builtin.Dict.takeOut d (.ref a)) Q E s := by
  obtain ⟨o, es, ep, ho, hc, hd, he, his, hn⟩ := hm
  have hes : es.size ≤ sizeLine := by rw [size_of_entries he]; exact hsz
  unfold Builtin.Dict.takeOut
  try with_reducible refine wpAny_holding ?_
  refine wpAny_bind ((tk prog w).pyHash hu hkey ?_)
  refine wpAny_bind (wpAny_dictFind_heap (s := { s with toks := s.toks + (tk prog w).draws k }) hu hkey ho hd he his hn (fun hno => ?_) fun j q hj => ?_)
  · obtain ⟨i, hi⟩ := List.mem_iff_getElem?.mp (atKey_get hp)
    exact absurd hi (hno i p)
  · have hq : q = p := by
      obtain ⟨i, hi⟩ := List.mem_iff_getElem?.mp (atKey_get hp)
      have := idxH_unique hn hj hi
      subst this
      rw [hi] at hj; injection hj with hj; injection hj with _ hj; exact hj.symm
    subst hq
    refine wpAny_bind (wpAny_dictEntries (s := { s with toks := s.toks + (tk prog w).draws k }) ho hd ?_)
    rw [entry_at he j, hj]
    refine wpAny_bind (wpAny_updateDictKeys (hz := hes) (s := { s with toks := s.toks + (tk prog w).draws k }) ho hd (wpAny_pure (hQ _ _ rfl ⟨_, _, ep + 1, Heap.get?_update_self _ ho (Obj.isFreed_of_dict (Obj.data_mapDictKeys hd _)),
      hc.mapDictKeys _, Obj.data_mapDictKeys hd _, ?_, fun x hx => ?_, ?_⟩ (Heap.SameBut.update ..))))
    · have : (es.eraseIdxIfInBounds j).toList = es.toList.eraseIdx j := by simp
      rw [this, he, map_erase, erase_filter hn hj]
    · exact (tk prog w).keeps (his x (List.mem_filter.mp hx).1) ho hd (Heap.SameBut.update ..)
    · exact hn.sublist (List.Sublist.map _ List.filter_sublist)

theorem sn_pop1 : SN prog w lev (fun us => call (.builtin "dict.pop") us) wPop1 := fun A rm σ st s Q us vs R rvs h => by
  obtain ⟨n, k, rfl⟩ := inv_2 (P := fun vs => wPop1 vs st Q) h (fun q => q) (fun v q => by cases v <;> exact q) (fun v _ _ _ q => by cases v <;> exact q) (fun v v' q => by cases v <;> first | exact ⟨_, rfl⟩ | exact (show False from q).elim)
  · obtain ⟨_, u, rfl, ra, rk⟩ := rvs2 rvs
    obtain ⟨a, rfl, ea⟩ := rv_loc ra
    obtain ⟨es, kk, v, hk, f, hz, hg, h⟩ := h
    subst hk
    obtain ⟨b, rfl, tk1⟩ := key_of rk (prog := prog) (w := w)
    cases R.obj _ _ _ f ea with
    | @dictT _ xs _ d q l =>
      have n1 := q.length
      rcases q.get kk with ⟨e1, e2⟩ | ⟨a', u', v', e1, e2, e3⟩
      · rw [hg] at e1; cases e1
      · rw [hg] at e1; cases e1
        refine wpAny_call_entry PySem.F.slot_dict_pop d.typeIs PySem.F.entry_dict_pop ?_ (PySem.F.args_dict_pop_2 _ _)
        unfold Builtin.«dict.pop»
        refine wpAny_bind ?_
        unfold Builtin.Dict.keyAndDefault
        refine wpAny_bind (wpAny_notOrdered_dict d.typeIs ?_)
        show wpAny _ _ (pure (a, Value.ref b, none)) _ _ s
        refine wpAny_pure ?_
        dsimp only
        rw [if_neg (show ¬ ((keyPart (.ref b)).isSome = true) by simp [keyPart])]
        obtain ⟨od, ed, ep, g1, g2, g3, g4, g5, g6⟩ := id d
        refine wpAny_bind (wpAny_dictEntries g1 g3 (wpAny_bind (wpAny_pure ?_)))
        have hne : ed.isEmpty = false := by
          have hx : xs ≠ [] := fun q0 => by subst q0; cases e2
          have hs := size_of_entries g4
          have : ed.size ≠ 0 := by rw [hs]; exact fun q0 => hx (List.length_eq_zero_iff.mp q0)
          simpa using this
        rw [hne]
        simp only [Bool.false_eq_true, if_false]
        refine wpAny_bind (takeOut_heap (prog := prog) (w := w) (p := (a', u')) (by show A.units + 1 < cLine; have := rm.units1; omega) tk1 d e2 (fun e h' hev d' hs => ?_) (by rw [sizeLine_eq]; omega))
        simp only [Option.isNone_some, Bool.false_eq_true, if_false]
        obtain ⟨R', X'⟩ := R.upd (o := .dT none (ddel es kk)) ea hs.extBut fun T => .dictT d' ((q.mono (List.prefix_refl _) T).del kk) (fun _ e => nomatch e)
        refine wpAny_bind (wpAny_letGo (wpAny_pure ⟨e.val, rfl, ?_⟩))
        rw [hev]
        exact ⟨v, _, _, h', _, rfl, X', R', e3.ext X' R, h⟩

theorem sn_setdef : SN prog w lev (fun us => call (.builtin "dict.setdefault") us) wSetDef := fun A rm σ st s Q us vs R rvs h => by
  obtain ⟨n, kv, dv, rfl⟩ := inv_3 (P := fun vs => wSetDef vs st Q) h (fun q => q) (fun v q => by cases v <;> first | exact q | (cases v' <;> exact q)) (fun v v' q => by cases v <;> first | exact q | (cases v' <;> exact q)) (fun v v' _ _ _ q => by cases v <;> first | exact q | (cases v' <;> exact q)) (fun v v' v'' q => by cases v <;> first | exact ⟨_, rfl⟩ | exact (show False from q).elim)
  · have hi : ∃ k, kv = .int k := by cases kv <;> first | exact ⟨_, rfl⟩ | exact (show False from h).elim
    obtain ⟨k, rfl⟩ := hi
    obtain ⟨_, _, ud, rfl, ra, rk, rd⟩ := rvs3 rvs
    obtain ⟨a, rfl, ea⟩ := rv_loc ra
    obtain ⟨t, rfl⟩ := rv_int rk
    obtain ⟨es, f, hz, h⟩ := h
    have lo := R.low a (List.mem_of_getElem? ea)
    cases R.obj _ _ _ f ea with
    | @dictI kvs _ d q =>
      have n1 := q.es.length
      refine wpAny_call_entry PySem.F.slot_dict_setdefault d.typeIs PySem.F.entry_dict_setdefault ?_ (PySem.F.args_dict_setdefault_3 _ _ _)
      unfold Builtin.«dict.setdefault»
      refine wpAny_bind ?_
      unfold Builtin.Dict.keyAndDefault
      refine wpAny_bind (wpAny_notOrdered_dict d.typeIs ?_)
      show wpAny _ _ (pure (a, Value.int k t, some ud)) _ _ s
      refine wpAny_pure ?_
      show wpAny _ _ (if (a == sysModules) = true then _ else (dictSetDefault a (.int k t) ud >>= _)) _ _ s
      rw [if_neg (by rw [lo]; exact Bool.false_ne_true)]
      refine wpAny_bind (kt_dictSetDefault_pairs (knd := intKind prog w) (k := k) (hsz := by rw [sizeLine_eq]; omega) (by simp [intKind, Value.isInt]) d (fun v hv => ?_) fun hn h' d' hs => ?_)
      · rcases q.es.get k with ⟨e1, e2⟩ | ⟨u', v', e1, e2, e3⟩
        · rw [hv] at e2; cases e2
        · rw [hv] at e2; cases e2
          rw [e1] at h
          exact wpAny_pure ⟨_, rfl, Post.same R e3 h⟩
      · rcases q.es.get k with ⟨e1, e2⟩ | ⟨u', v', e1, e2, e3⟩
        · rw [e1] at h
          obtain ⟨R', X'⟩ := R.upd (o := .dI (dput es k dv)) ea hs.extBut fun T => .dictI d' ((q.mono (List.prefix_refl _) T).es.stored k (rd.mono (List.prefix_refl _) T) (nodup_int d)).esI
          exact wpAny_pure ⟨_, rfl, dv, _, _, h', _, rfl, X', R', rd.ext X' R, h⟩
        · rw [hn] at e2; cases e2
end
end Mine
end

section -- B3
set_option autoImplicit false
set_option linter.unusedVariables false
set_option maxRecDepth 100000
namespace Mine

section
variable {prog : Program} {w : World} {r : RootD} {lev : Nat} {cx : Cx}

theorem list_no_keys : typeLookup (.type "list") (Str.ofString "keys") = pure none := by rw [typeLookup_type, builtinLookup_eq_fast]; kernel_rfl

theorem keys_miss {A : Around} {E : Value → Shared → Prop} {s : Shared} {a : Addr} {xs : Array Value} {Q : Option Value → Shared → Prop} (l : PlainL s.heap a xs) (hA : A.handled = none)
    (h : ∀ h' tk, (∀ b o, s.heap.get? b = some o → h'.get? b = some o) → Q none { s with heap := h', toks := tk }) : wpAny (model prog w) A (getAttr? (.ref a) (Str.ofString "keys")) Q E s := by
  obtain ⟨⟨c, dct, dat, sl⟩, k, hx, hc, hd, hdat⟩ := l
  simp only at hc hdat hd
  subst hc hdat hd
  obtain ⟨hp, g, d, tk, os⟩ := s
  have hT : ∀ tk', (⟨hp, g, d, tk', os⟩ : Shared).TypeIs (.ref a) "list" := fun _ => ⟨_, hx, rfl⟩
  have f1 := sub_AttributeError
  have f3 := PySem.F.slot_list_getattribute.lookup
  have f4 := PySem.F.slot_list_getattribute.bind (.ref a)
  have f5 := am_list_getattr_none
  unfold getAttr? getAttrBy? getAttrBy
  repeat (any_goals (first | assumption | exact hT _ | ((with_reducible show wpAny _ _ (call (Value.builtin "list.__getattribute__") _ _) _ _ _); refine call_meets PySem.F.slot_list_getattribute (hT _) am_entry_list_getattribute (PySem.F.args_list_getattribute_2 _ _) (meets_getattribute_miss_list a xs k sl (Str.ofString "keys") _ list_no_keys (by decide +kernel) (by decide +kernel)) ⟨hx, hA, fun h' tk' e hx' => ?_⟩) | wp_step))
  obtain ⟨t', u', he⟩ := hx'.there
  have hk := hx'.of
  show wpAny _ _ (getattributeRaised _ _ _ _ _ _ _) _ _ _
  unfold getattributeRaised
  repeat (any_goals (first | assumption | wp_step))
  exact h h' tk' hk.keeps

theorem forIn_all {M : Model} {A : Around} {E : Value → Shared → Prop} {s : Shared} {α : Type} {f : α → PUnit → Sem (ForInStep PUnit)} : ∀ (l : List α) {Q : PUnit → Shared → Prop}, (∀ e ∈ l, ∀ (Q' : ForInStep PUnit → Shared → Prop), Q' (.yield ⟨⟩) s → wpAny M A (f e ⟨⟩) Q' E s) → Q ⟨⟩ s → wpAny M A (forIn l ⟨⟩ f) Q E s
  | [], Q, _, h => by rw [List.forIn_nil]; exact wpAny_pure h
  | a :: l, Q, hf, h => by
    rw [List.forIn_cons]
    exact wpAny_bind (hf a (.head _) _ (forIn_all l (fun e he => hf e (.tail _ he)) h))

/-- the keys' hashes are apart -/
theorem entries_apart {A : Around} {E : Value → Shared → Prop} {s : Shared} {nm : String} {o : Addr} {oo : Obj} {es : Array DictEntry} {ep : Nat} {xs : List (List Int × Addr × Value)} {Q : Array DictEntry → Shared → Prop} (ho : s.heap.get? o = some oo) (hd : oo.data = .dict es ep)
    (he : es.toList = xs.map (entryOfKey (tk prog w))) (his : ∀ x ∈ xs, (tk prog w).is s.heap x.1 x.2.1) (hh : (xs.map fun x => (tk prog w).hash x.1).Nodup) (h : Q es s) : wpAny (model prog w) A (Builtin.Dict.entriesForEmpty nm o) Q E s := by
  unfold Builtin.Dict.entriesForEmpty
  refine wpAny_bind (wpAny_dictEntries ho hd ?_)
  refine wpAny_bind ?_
  rw [← Array.forIn_toList]
  refine forIn_all _ (fun e hem Q' hq => ?_) (wpAny_pure h)
  rw [he] at hem
  obtain ⟨x, hx, rfl⟩ := List.mem_map.mp hem
  obtain ⟨ot, its, nt, e1, e2, e3, _⟩ := his x hx
  have hT : s.TypeIs (.ref x.2.1) "tuple" := ⟨ot, e1, e2⟩
  show wpAny _ _ (Builtin.Dict.quietEq (.ref x.2.1) >>= _) _ _ _
  unfold Builtin.Dict.quietEq
  refine wpAny_bind (wpAny_bind (wpAny_specialOf (name := (cmpInfo .Eq).2.1) hT PySem.F.slot_tuple_eq.lookup (wpAny_pure ?_)))
  rw [if_pos (by decide)]
  have sz : ¬ (es.filter fun y => y.hash == (entryOfKey (tk prog w) x).hash).size > 1 := by
    have e0 : (es.filter fun y => y.hash == (entryOfKey (tk prog w) x).hash).size = ((xs.map (entryOfKey (tk prog w))).filter fun y => y.hash == (entryOfKey (tk prog w) x).hash).length := by
      rw [← he]; simp [← Array.length_toList]
    rw [e0]
    clear e0 he hem his hx e1 e2 e3 hT
    show ¬ _ > 1
    generalize (entryOfKey (tk prog w) x).hash = hv
    have key : ∀ {xs : List (List Int × Addr × Value)}, (xs.map fun x => (tk prog w).hash x.1).Nodup → ((xs.map (entryOfKey (tk prog w))).filter fun y => y.hash == hv).length ≤ 1 ∧ (hv ∉ xs.map (fun x => (tk prog w).hash x.1) → ((xs.map (entryOfKey (tk prog w))).filter fun y => y.hash == hv).length = 0) := by
      intro xs
      induction xs with
      | nil => intro _; exact ⟨by simp, fun _ => by simp⟩
      | cons y r ih =>
        intro hn
        simp only [List.map_cons, List.nodup_cons] at hn
        obtain ⟨i1, i2⟩ := ih hn.2
        by_cases q : (tk prog w).hash y.1 = hv
        · have hb : ((entryOfKey (tk prog w) y).hash == hv) = true := by simpa [entryOfKey] using q
          simp only [List.map_cons, List.filter_cons, hb, if_true, List.length_cons, List.mem_cons, not_or]
          have := i2 (q ▸ hn.1)
          exact ⟨by omega, fun h => absurd q.symm h.1⟩
        · have hb : ((entryOfKey (tk prog w) y).hash == hv) = false := by simpa [entryOfKey] using q
          simp only [List.map_cons, List.filter_cons, hb, Bool.false_eq_true, if_false, List.mem_cons, not_or]
          exact ⟨i1, fun h => i2 h.2⟩
    have := (key hh).1
    omega
  rw [if_neg sz]
  exact wpAny_pure hq

theorem merge_empty {A : Around} {E : Value → Shared → Prop} {s : Shared} {nm : String} {d o : Addr} {xs : List (List Int × Addr × Value)} {Q : Unit → Shared → Prop} (hdo : d ≠ o) (hoS : (o == sysModules) = false) (hd : s.heap.DictOfH (tk prog w) d []) (ho : s.heap.DictOfH (tk prog w) o xs)
    (hh : (xs.map fun x => (tk prog w).hash x.1).Nodup) (hsz : xs.length ≤ sizeLine)
    (hQ : ∀ h', h'.DictOfH (tk prog w) d xs → Heap.SameBut d s.heap h' → Q () { s with heap := h' }) : wpAny (model prog w) A (Builtin.Dict.mergeDict nm d o) Q E s := by
  obtain ⟨od, esd, epd, hod, hcd, hdd, hed, _, _⟩ := id hd
  obtain ⟨oo, eso, epo, hoo, hco, hdo', heo, hio, hno⟩ := id ho
  have sz := size_of_entries heo
  unfold Builtin.Dict.mergeDict
  rw [if_neg (by simpa using hdo)]
  unfold Builtin.Dict.showsAll
  rw [if_neg (by rw [hoS]; exact Bool.false_ne_true)]
  refine wpAny_bind (wpAny_pure (wpAny_bind (wpAny_dictEntries hoo hdo' ?_)))
  dsimp only
  cases xs with
  | nil =>
    have h0 : eso = #[] := Array.eq_empty_of_size_eq_zero (by simpa using sz)
    subst h0
    rw [if_neg (by simp)]
    refine wpAny_bind (wpAny_dictEpoch hoo hdo' (wpAny_bind (wpAny_dictEntries hoo hdo' ?_)))
    refine wpAny_bind ?_
    rw [Std.Legacy.Range.forIn_eq_forIn_range']
    exact wpAny_pure (wpAny_pure (hQ _ hd (Heap.SameBut.refl _ _)))
  | cons x r =>
    have hfew : (!(decide (eso.size ≤ 8) && eso.all fun e => (keyPart e.key).isSome)) = true := by
      have : (eso.all fun e => (keyPart e.key).isSome) = false := by
        rw [← Array.all_toList, heo, List.map_cons, List.all_cons]
        have : (keyPart (entryOfKey (tk prog w) x).key).isSome = false := rfl
        rw [this, Bool.false_and]
      rw [this, Bool.and_false]; rfl
    rw [if_pos hfew]
    refine wpAny_bind (wpAny_dictEntries hod hdd ?_)
    have h0 : esd.isEmpty = true := by have := size_of_entries hed; simpa using this
    rw [if_pos h0]
    refine wpAny_bind (entries_apart hoo hdo' heo hio hh ?_)
    have hne : (!eso.isEmpty) = true := by
      have : eso.size ≠ 0 := by rw [sz]; simp
      simpa using this
    rw [if_pos hne]
    refine wpAny_bind (wpAny_updateDictKeysTo hod hdd (wpAny_pure (hQ _ ⟨_, _, epd + 1, Heap.get?_update_self _ hod (Obj.isFreed_of_dict (Obj.data_mapDictKeys hdd _)), hcd.mapDictKeys _, Obj.data_mapDictKeys hdd _, heo, fun y hy => (tk prog w).keeps (hio y hy) hod hdd (Heap.SameBut.update ..), hno⟩ (Heap.SameBut.update ..))) (by rw [sz]; omega))

theorem EsT.hashes {σ : List Addr} {h : Heap} {xs : List (List Int × Addr × Value)} {es : List ((Int × Int) × V)} (e : EsT σ h xs es) : (xs.map fun x => (tk prog w).hash x.1) = es.map fun p => hashK p.1 := by
  induction e with
  | nil => rfl
  | cons _ _ ih => rw [List.map_cons, List.map_cons, ih]; rfl

theorem sn_update : SN prog w lev (fun us => call (.builtin "dict.update") us) wUpdate := fun A rm σ st s Q us vs R rvs h => by
  obtain ⟨n, mv, rfl⟩ := inv_2 (P := fun vs => wUpdate vs st Q) h (fun q => q) (fun v q => by cases v <;> exact q) (fun v v' _ _ q => by cases v <;> first | exact q | (cases v' <;> exact q)) (fun v v' q => by cases v <;> first | exact ⟨_, rfl⟩ | exact (show False from q).elim)
  · have hi : ∃ m, mv = .loc m := by cases mv <;> first | exact ⟨_, rfl⟩ | exact (show False from h).elim
    obtain ⟨m, rfl⟩ := hi
    obtain ⟨_, _, rfl, ra, rb⟩ := rvs2 rvs
    obtain ⟨a, rfl, ea⟩ := rv_loc ra
    obtain ⟨b, rfl, eb⟩ := rv_loc rb
    obtain ⟨lk, es, hnm, f1, f2, hz, hh, h⟩ := h
    have lob := R.low b (List.mem_of_getElem? eb)
    have hab : a ≠ b := fun q => by
      subst q
      exact hnm ((List.getElem?_inj (List.getElem?_eq_some_iff.mp ea).1 R.nodup).mp (ea.trans eb.symm))
    cases R.obj _ _ _ f1 ea with
    | @dictT _ xs _ d q l =>
      cases q
      cases R.obj _ _ _ f2 eb with
      | @dictT _ ys _ d' q' l' =>
        have n1 := q'.length
        refine wpAny_call_entry PySem.F.slot_dict_update d.typeIs PySem.F.entry_dict_update ?_ (PySem.F.args_dict_update_2 _ _)
        unfold Builtin.«dict.update»
        refine wpAny_bind ?_
        unfold Builtin.Dict.selfAndRest
        refine wpAny_bind (wpAny_notOrdered_dict d.typeIs ?_)
        show wpAny _ _ (pure (a, [Value.ref b])) _ _ s
        refine wpAny_pure ?_
        show wpAny _ _ (Builtin.Dict.updateFrom "dict.update" a (.ref b) [] .none) _ _ s
        unfold Builtin.Dict.updateFrom
        refine wpAny_bind (wpAny_typeOf d'.typeIs ?_)
        rw [if_neg (by decide)]
        refine wpAny_bind ?_
        unfold Builtin.Dict.merge
        refine wpAny_bind ?_
        unfold Builtin.Dict.readDirectly
        refine wpAny_bind (wpAny_isInstance d'.typeIs isSubtype_dict_dict ?_)
        simp only [Bool.not_true, Bool.false_eq_true, if_false]
        refine wpAny_bind (wpAny_specialOf d'.typeIs PySem.F.slot_dict_iter.lookup (wpAny_pure ?_))
        simp only [beq_self_eq_true, if_true]
        refine wpAny_bind (wpAny_pure ?_)
        refine merge_empty hab lob d d' (by rw [q'.hashes]; exact hh) (by rw [sizeLine_eq]; omega) fun h' dd hs => ?_
        show wpAny _ _ (Builtin.Dict.addKeywords a [] >>= _) _ _ _
        obtain ⟨R', X'⟩ := R.upd (o := .dT none es) ea hs.extBut fun T => .dictT dd (q'.mono (List.prefix_refl _) T) (fun _ e => nomatch e)
        exact wpAny_bind (wpAny_pure (wpAny_pure ⟨.none, rfl, .none, _, _, h', s.toks, rfl, X', R', .none, h⟩))
end
end Mine
end

section -- B4
set_option autoImplicit false
set_option linter.unusedVariables false
set_option maxRecDepth 100000
namespace Mine

noncomputable def putAll : List ((Int × Int) × V) → List ((Int × Int) × V) → List ((Int × Int) × V)
  | [], es => es
  | p :: r, es => putAll r (dput es p.1 p.2)
noncomputable def wDictC : WN := fun vs st Q => match vs with
  | [.loc m] => (∃ lk es, st[m]? = some (.dT lk es) ∧ es.length ≤ 1000 ∧ (es.map fun p => hashK p.1).Nodup ∧ Q (.loc st.length) (st ++ [.dT none es])) ∨
      (∃ ps : List ((Int × Int) × V), st[m]? = some (.list (ps.map fun p => .tup [keyT p.1, p.2])) ∧ ps.length ≤ 500 ∧ Q (.loc st.length) (st ++ [.dT none (putAll ps [])]))
  | _ => False

theorem dput_len (es : List ((Int × Int) × V)) (k : Int × Int) (v : V) : (dput es k v).length ≤ es.length + 1 := by
  induction es with
  | nil => simp [dput]
  | cons e r ih => obtain ⟨a, b⟩ := e; unfold dput; split <;> simp; omega

section
variable {prog : Program} {w : World} {r : RootD} {lev : Nat} {cx : Cx}

theorem _root_.PySem.Heap.DictOfH.keeps' {h h' : Heap} {a : Addr} (d : h.DictOfH (tk prog w) a []) (hk : ∀ p o, h.get? p = some o → h'.get? p = some o) : h'.DictOfH (tk prog w) a [] := by
  obtain ⟨o, es, ep, e, x, d, l, q⟩ := d
  exact ⟨o, es, ep, hk _ _ e, x, d, l, (fun _ h => nomatch h), q.2⟩
theorem plain_upd_loop : plainId "dict.update.loop" = true := by decide +kernel
theorem entry_upd_loop : entryFor table "dict.update.loop" = some Builtin.«dict.update.loop» := entryFor_of_tree (by kernel_rfl)

theorem upd_loop {A : Around} (hh : A.handled = none) (hu : A.units + 2 < cLine) {I d : Addr} {src : Option (Nat × O)} {vs : List V} (hId : I ≠ d) {R : Result → Shared → Prop} (n : Nat) : ∀ (k i : Nat) (ps : List ((Int × Int) × V)) {σ : List Addr} {st : St} {s : Shared} {es : List ((Int × Int) × V)}, k < n → vs.length - i = k → i ≤ vs.length → vs.drop i = ps.map (fun p => .tup [keyT p.1, p.2]) →
    Rep prog w σ st s.heap → SrcOk src st → It σ s.heap I src vs i → I ∉ σ → d ∉ σ → RO prog w σ s.heap d (.dT none es) → es.length + k ≤ 1000 → (∃ b o, b ≠ I ∧ b ≠ d ∧ sysModules ≤ b ∧ s.heap.get? b = some o) →
    (∀ h' tk, (∀ b o, b ≠ I → b ≠ d → s.heap.get? b = some o → h'.get? b = some o) → RO prog w σ h' d (.dT none (putAll ps es)) → R (.ok (.ret .none)) { s with heap := h', toks := tk }) →
    codeAny (model prog w) A (.builtin "dict.update.loop" ⟨[.ref d, .ref I, .int (i : Int) 0, .none], []⟩) R s := by
  induction n with
  | zero => intro k i ps σ st s es hn; exact absurd hn (Nat.not_lt_zero _)
  | succ n ih =>
      intro k i ps σ st s es hn hk hi hps Rp so it hI hd ro hz hanc hR
      refine codeAny_builtin entry_upd_loop ?_
      rw [Around.under_plainId plain_upd_loop _]
      unfold Builtin.«dict.update.loop»
      dsimp only
      have tkI : ∀ h', Heap.ExtBut I s.heap h' → TK s.heap h' := fun h' hs a vals t => by
        have ne : a ≠ I := fun q => it.notTuple vals (q ▸ t)
        obtain ⟨o, e, q⟩ := t
        exact ⟨o, hs a o ne e, q⟩
      refine wpAny_bind (it.next (A := A.in1) (show A.in1.handled = none from hh) Rp so hI (fun v u h₁ tk₁ ev rv it₁ hs => ?_) fun ev h₁ hs => ?_)
      · have hlt := (List.getElem?_eq_some_iff.mp ev).1
        have hd' : vs.drop i = v :: vs.drop (i + 1) := by rw [List.drop_eq_getElem_cons hlt]; congr 1; exact (List.getElem?_eq_some_iff.mp ev).2
        rw [hd'] at hps
        cases ps with
        | nil => simp at hps
        | cons p ps =>
          simp only [List.map_cons, List.cons.injEq] at hps
          obtain ⟨rfl, hps⟩ := hps
          have T₁ := tkI h₁ hs.extBut
          have ro₁ := ro.mono (List.prefix_refl _) T₁ fun ob e => hs.extBut d ob (Ne.symm hId) e
          have R₁ : Rep prog w σ st h₁ := (Rp.aside hs.extBut hI it.notTuple (let ⟨b, o, h1, h2, h3, h4⟩ := hanc; ⟨b, o, h1, h3, h4⟩)).1
          cases rv with
          | @tup a vals _ tt rs =>
            cases rs with
            | @cons uk _ _ _ rk rs => cases rs with
              | @cons uv _ _ _ rv rs =>
                cases rs
                obtain ⟨b, rfl, tk1⟩ := key_of rk (prog := prog) (w := w)
                obtain ⟨ot, e1, e2, nt, e3⟩ := tt
                refine wpAny_bind (wpAny_holding (wpAny_bind (wpAny_tryCatch ?_)))
                unfold Builtin.Dict.pairItems
                refine wpAny_bind (wpAny_typeOf (s := { s with heap := h₁, toks := tk₁ }) ⟨ot, e1, e2⟩ ?_)
                rw [if_pos (by decide)]
                refine wpAny_bind (wpAny_seqItems (s := { s with heap := h₁, toks := tk₁ }) e1 e3 (wpAny_pure ?_))
                show wpAny _ _ (holding [Value.ref b, uv] (dictSet d (.ref b) uv)) _ _ _
                have tkey : (tk prog w).is h₁ (keyL p.1) b := tk1
                cases ro₁ with
                | @dictT _ xs _ dd q l =>
                  have n1 := q.length
                  refine wpAny_holding (wpAny_dictSet_heap (s := { s with heap := h₁, toks := tk₁ }) (knd := tk prog w) (hsz := by rw [sizeLine_eq]; omega) (by show A.units + 1 < cLine; omega) tkey dd fun h₂ d₂ hs₂ => ?_)
                  have nt₁ : ∀ vals, ¬ h₁.IsTuple d vals := fun vals t => (RO.dictT dd q l : RO prog w σ h₁ d _).notTuple t
                  obtain ⟨R₂, T₂⟩ := R₁.aside hs₂.extBut hd nt₁ (let ⟨b, o, h1, h2, h3, h4⟩ := hanc; ⟨b, o, h2, h3, hs.extBut b o h1 h4⟩)
                  have it₂ := it₁.keep (List.prefix_refl _) T₂ (fun o e => hs₂.extBut I o hId e)
                  have ro₂ : RO prog w σ h₂ d (.dT none (dput es p.1 p.2)) := .dictT d₂ ((q.mono (List.prefix_refl _) T₂).stored p.1 b (rv.mono (List.prefix_refl _) T₂) (nodup_tup dd)) (fun _ e => nomatch e)
                  refine wpAny_pure ⟨plainId_quiet plain_upd_loop _, ?_⟩
                  have dl := dput_len es p.1 p.2
                  exact ih (vs.length - (i + 1)) (i + 1) ps (s := { s with heap := h₂, toks := _ }) (by omega) rfl (by omega) hps R₂ so it₂ hI hd ro₂ (by omega)
                    (let ⟨b, o, h1, h2, h3, h4⟩ := hanc; ⟨b, o, h1, h2, h3, hs₂.extBut b o h2 (hs.extBut b o h1 h4)⟩)
                    fun h' tk' g ro' => hR h' tk' (fun b o n1 n2 e => g b o n1 n2 (hs₂.extBut b o n2 (hs.extBut b o n1 e))) ro'
      · have hge : vs.length ≤ i := by simpa using ev
        rw [List.drop_eq_nil_of_le hge] at hps
        have : ps = [] := by cases ps with
          | nil => rfl
          | cons _ _ => simp at hps
        subst this
        have T₁ := tkI h₁ hs
        have ro₁ := ro.mono (List.prefix_refl _) T₁ fun ob e => hs d ob (Ne.symm hId) e
        show wpAny _ _ (Builtin.Dict.addKeywords d [] >>= _) _ _ _
        exact wpAny_bind (wpAny_pure (wpAny_pure (hR h₁ s.toks (fun b o n1 n2 e => hs b o n1 e) ro₁)))

theorem sn_dictC : SN prog w lev (fun us => call (.type "dict") us) wDictC := fun A rm σ st s Q us vs R rvs h => by
  obtain ⟨m, rfl⟩ := inv_l (P := fun vs => wDictC vs st Q) h (fun q => q) (fun v _ _ q => by cases v <;> exact q) (fun v q => by cases v <;> first | exact ⟨_, rfl⟩ | exact (show False from q).elim)
  · obtain ⟨_, rfl, rb⟩ := rvs1 rvs
    obtain ⟨b, rfl, eb⟩ := rv_loc rb
    have lob := R.low b (List.mem_of_getElem? eb)
    obtain ⟨obj, eob⟩ := R.there (List.mem_of_getElem? eb)
    have hdo : s.heap.objs.size ≠ b := fun e => absurd (Heap.lt_size eob) (by rw [e]; exact Nat.lt_irrefl _)
    have g₀ : ∀ p o, s.heap.get? p = some o → (s.heap.push { cls := .type "dict", data := .dict #[] }).get? p = some o := fun p o e => Heap.get?_push_of_some _ e
    have hnew : (s.heap.push { cls := .type "dict", data := .dict #[] }).DictOfH (tk prog w) s.heap.objs.size [] := Heap.DictOfH.new s.heap
    have R₀ := R.grow g₀
    refine callType_codes (Q₁ := fun obj s₁ => obj = .ref s.heap.objs.size ∧ s₁ = { s with heap := s.heap.push { cls := .type "dict", data := .dict #[] } }) PySem.F.kt_called_dict (PySem.F.kt_typeCall_dict_1 _) PySem.F.entry_dict_init (kt_code_dict_new _ ⟨rfl, rfl⟩) ?_
    rintro obj s₁ ⟨rfl, rfl⟩
    refine ⟨hnew.typeIs, PySem.F.args_dict_init_2 _ _, ?_⟩
    unfold Builtin.«dict.__init__»
    refine wpAny_bind ?_
    unfold Builtin.Dict.selfAndRest
    refine wpAny_bind (wpAny_notOrdered_dict hnew.typeIs ?_)
    show wpAny _ _ (pure (s.heap.objs.size, [Value.ref b])) _ _ _
    refine wpAny_pure ?_
    show wpAny _ _ (Builtin.Dict.updateFrom "dict.__init__" s.heap.objs.size (.ref b) [] .none) _ _ _
    unfold Builtin.Dict.updateFrom
    rcases h with ⟨lk, es, f2, hz, hh, h⟩ | ⟨ps, f2, hz, h⟩
    · cases R₀.obj _ _ _ f2 eb with
      | @dictT _ ys _ d' q' l' =>
        have n1 := q'.length
        refine wpAny_bind (wpAny_typeOf (s := { s with heap := s.heap.push { cls := .type "dict", data := .dict #[] } }) d'.typeIs ?_)
        rw [if_neg (by decide)]
        refine wpAny_bind ?_
        unfold Builtin.Dict.merge
        refine wpAny_bind ?_
        unfold Builtin.Dict.readDirectly
        refine wpAny_bind (wpAny_isInstance (s := { s with heap := s.heap.push { cls := .type "dict", data := .dict #[] } }) d'.typeIs isSubtype_dict_dict ?_)
        simp only [Bool.not_true, Bool.false_eq_true, if_false]
        refine wpAny_bind (wpAny_specialOf (s := { s with heap := s.heap.push { cls := .type "dict", data := .dict #[] } }) d'.typeIs PySem.F.slot_dict_iter.lookup (wpAny_pure ?_))
        simp only [beq_self_eq_true, if_true]
        refine wpAny_bind (wpAny_pure ?_)
        refine merge_empty (s := { s with heap := s.heap.push { cls := .type "dict", data := .dict #[] } }) hdo lob hnew d' (by rw [q'.hashes]; exact hh) (by rw [sizeLine_eq]; omega) fun h' dd hs => ?_
        show wpAny _ _ (Builtin.Dict.addKeywords s.heap.objs.size [] >>= _) _ _ _
        have g : ∀ p o, s.heap.get? p = some o → h'.get? p = some o := fun p o e => hs.extBut p o (Nat.ne_of_lt (Heap.lt_size e)) (g₀ p o e)
        have T : TK (s.heap.push { cls := .type "dict", data := .dict #[] }) h' := fun a vals t => by
          have ne : a ≠ s.heap.objs.size := fun q0 => by
            subst q0; obtain ⟨o, e, c, _⟩ := t; rw [Heap.get?_push_size _ rfl] at e; cases e; exact absurd (show Value.type "dict" = Value.type "tuple" from c) (by decide)
          obtain ⟨o, e, z⟩ := t
          exact ⟨o, hs.extBut a o ne e, z⟩
        have ro : RO prog w (σ ++ [s.heap.objs.size]) h' s.heap.objs.size (.dT none es) := .dictT dd (q'.mono (List.prefix_append _ _) T) (fun _ e => nomatch e)
        obtain ⟨R', X', e'⟩ := R.alloc g (Nat.le_refl _) ro
        exact wpAny_bind (wpAny_pure (wpAny_pure ⟨rfl, .loc st.length, _, _, h', s.toks, rfl, X', R', .loc e', h⟩))
    · cases R₀.obj _ _ _ f2 eb with
      | @list us _ l rs =>
        have n1 := rs.length
        refine wpAny_bind (wpAny_typeOf (s := { s with heap := s.heap.push { cls := .type "dict", data := .dict #[] } }) l.isList.typeIs ?_)
        rw [if_pos (by decide)]
        refine wpAny_bind (keys_miss (s := { s with heap := s.heap.push { cls := .type "dict", data := .dict #[] } }) l (show A.in1.in1.handled = none from rm.hand) fun h₁ tk₁ g₁ => ?_)
        rw [if_pos (by rfl)]
        refine wpAny_bind (wpAny_rule ?_)
        have R₁ := R₀.grow g₁
        have l₁ := l.keeps g₁
        refine wpAny_bind (wpAny_pyIter_list l₁.isList ?_)
        have G : ∀ p o, h₁.get? p = some o → (h₁.push { cls := .type "list_iterator", data := .fields #[.ref b, .int 0 0] }).get? p = some o := fun p o e => Heap.get?_push_of_some _ e
        have dS : (s.heap.push { cls := .type "dict", data := .dict #[] }).get? s.heap.objs.size = some { cls := .type "dict", data := .dict #[] } := Heap.get?_push_size _ rfl
        have szd : s.heap.objs.size < h₁.objs.size := Heap.lt_size (g₁ _ _ dS)
        have hnσ : ∀ p, s.heap.objs.size ≤ p → p ∉ σ := fun p hp mm => by obtain ⟨o, e⟩ := R.there mm; exact absurd (Heap.lt_size e) (Nat.not_lt.mpr hp)
        have gall : ∀ p o, s.heap.get? p = some o → (h₁.push { cls := .type "list_iterator", data := .fields #[.ref b, .int 0 0] }).get? p = some o := fun p o e => G p o (g₁ p o (g₀ p o e))
        refine wpAny_pure ⟨plainId_quiet plain_upd_loop _, ?_⟩
        show codeAny (model prog w) A.in1 (.builtin "dict.update.loop" ⟨[.ref s.heap.objs.size, .ref h₁.objs.size, .int ((0 : Nat) : Int) 0, .none], []⟩) _ _
        refine upd_loop (src := some (m, .list (ps.map fun (p : (Int × Int) × V) => V.tup [keyT p.1, p.2]))) (vs := ps.map fun (p : (Int × Int) × V) => V.tup [keyT p.1, p.2]) (s := { s with heap := h₁.push { cls := .type "list_iterator", data := .fields #[.ref b, .int 0 0] }, toks := tk₁ }) (show A.in1.handled = none from rm.hand) (by show A.units + 1 + 2 < cLine; have := rm.units1; omega) (Ne.symm (Nat.ne_of_lt szd)) (ps.length + 1) ps.length 0 ps (Nat.lt_succ_self _) (by simp) (Nat.zero_le _) (by simp) (R₁.grow G) f2
          (.list eb ⟨_, Heap.get?_push_size _ rfl, rfl, rfl⟩) (hnσ _ (Nat.le_of_lt szd)) (hnσ _ (Nat.le_refl _)) (.dictT (hnew.keeps' fun p o e => G p o (g₁ p o e)) .nil (fun _ e => nomatch e)) (by simp; omega) ?_ fun h' tk' g ro => ?_
        · obtain ⟨x, o, hl, e⟩ := R.anchor
          have := Heap.lt_size e
          exact ⟨x, o, Nat.ne_of_lt (Nat.lt_trans this szd), Nat.ne_of_lt this, hl, gall _ _ e⟩
        · have g' : ∀ p o, s.heap.get? p = some o → h'.get? p = some o := fun p o e => g p o (Nat.ne_of_lt (Nat.lt_trans (Heap.lt_size e) szd)) (Nat.ne_of_lt (Heap.lt_size e)) (gall p o e)
          obtain ⟨R', X', e'⟩ := R.alloc g' (Nat.le_refl _) (ro.mono (List.prefix_append _ _) (TK.refl _) fun ob e => e)
          exact ⟨rfl, .loc st.length, _, _, h', tk', rfl, X', R', .loc e', h⟩
end
end Mine
end

section -- B5
set_option autoImplicit false
set_option linter.unusedVariables false
set_option maxRecDepth 100000
namespace Mine

noncomputable def notStar : Expr → Bool
  | .Starred .. => false
  | _ => true
theorem starEach_ns {e : Expr} {rest : List Expr} {env : Env} (h : notStar e = true) : starEach (e :: rest) env = (false, eval e env) :: starEach rest env := by
  cases e <;> first | rfl | cases h
noncomputable def mkI1 (k : Int) (v : V) : O := .dI [(k, v)]
noncomputable def mkI2 (k k' : Int) (v v' : V) : O := .dI [(k, v), (k', v')]
noncomputable def mkS2 (k k' : String) (v v' : V) : O := .dS [(k, v), (k', v')]
noncomputable def wDict1 (mk : V → O) (a : WE) : WE := fun η st Q => a η st fun v st₁ => Q (.loc st₁.length) (st₁ ++ [mk v])
noncomputable def wDict2 (mk : V → V → O) (a b : WE) : WE := fun η st Q => a η st fun v st₁ => b η st₁ fun v' st₂ => Q (.loc st₂.length) (st₂ ++ [mk v v'])

section
variable {prog : Program} {w : World} {r : RootD} {lev : Nat} {cx : Cx} {K : Type} [DecidableEq K] {knd : KeyKind prog w K}

noncomputable def KeyE (knd : KeyKind prog w K) (env : Env) (e : Expr) (k : K) : Prop := ∀ {A : Around} {E : Value → Shared → Prop} {s : Shared} {Q : Value → Shared → Prop}, (∀ u tk, knd.is k u = true → Q u { s with toks := tk }) → wpAny (model prog w) A (eval e env) Q E s
theorem keyE_int (env : Env) (i : Int) (n : Nat) (pos : Pos) : KeyE (intKind prog w) env (.Constant (.int i) n pos) i := fun {A E s Q} h => wpAny_Constant_int (h _ _ (by simp [intKind, Value.isInt]))
theorem keyE_str (env : Env) (x : Str) (n : Nat) (pos : Pos) : KeyE (PySem.strKind prog w) env (.Constant (.str x) n pos) x := fun {A E s Q} h => wpAny_Constant_str (h _ _ (by simp [PySem.strKind, Value.isStrOf]))

theorem dict_kept {σ : List Addr} {h h' : Heap} {D : Addr} {kvs : List (K × Value)} (d : h.DictOf knd D kvs) (e : ∀ ob, h.get? D = some ob → h'.get? D = some ob) : h'.DictOf knd D kvs := by
  obtain ⟨o, es, ep, g, q⟩ := d; exact ⟨o, es, ep, e _ g, q⟩

theorem se_dict2 (C : CxOk prog r cx) {kx1 kx2 vx1 vx2 : Expr} {k1 k2 : K} (pos : Pos) {wa wb : WE} (mk : V → V → O) (h1 : KeyE knd cx.env kx1 k1) (h2 : KeyE knd cx.env kx2 k2) (hne : k1 ≠ k2)
    (hmk : ∀ σ h D u1 u2 v1 v2, h.DictOf knd D [(k1, u1), (k2, u2)] → RV σ h u1 v1 → RV σ h u2 v2 → RO prog w σ h D (mk v1 v2))
    (ha : SE prog w lev cx (eval vx1 cx.env) wa) (hb : SE prog w lev cx (eval vx2 cx.env) wb) : SE prog w lev cx (eval (.Dict [some kx1, some kx2] [vx1, vx2] pos) cx.env) (wDict2 mk wa wb) := fun A rm σ st η s Q I h => by
  have hnew : (s.heap.push { cls := .type "dict", data := .dict #[] }).DictOf knd s.heap.objs.size [] := Heap.DictOf.new s.heap
  have g₀ : ∀ p o, s.heap.get? p = some o → (s.heap.push { cls := .type "dict", data := .dict #[] }).get? p = some o := fun p o e => Heap.get?_push_of_some _ e
  have eD : (s.heap.push { cls := .type "dict", data := .dict #[] }).get? s.heap.objs.size = some { cls := .type "dict", data := .dict #[] } := Heap.get?_push_size _ rfl
  have I₀ := I.ext (.grow g₀) (I.rep.grow g₀)
  have nD : s.heap.objs.size ∉ σ := fun m => by obtain ⟨o, e⟩ := I.rep.there m; exact absurd (Heap.lt_size e) (Nat.lt_irrefl _)
  have lo : (s.heap.objs.size == sysModules) = false := by
    obtain ⟨o, _, _, e, _⟩ := C.wd.g
    have := Heap.lt_size (I.keep _ _ e)
    refine beq_eq_false_iff_ne.mpr fun q => ?_
    rw [q] at this; exact absurd this (by decide)
  refine wpAny_Dict_any rfl rfl (by simp) (by simp) (evalPairs_cons (h1 fun u1 t1 i1 => wpAny_bind (wpAny_mono (ha A rm σ st η { s with heap := s.heap.push { cls := .type "dict", data := .dict #[] }, toks := t1 } _ I₀ h) ?_ fun _ _ x => x)))
  refine fun w1 s₁ pz => pz.elim fun v1 st₁ σ₁ h₁ tk₁ X₁ R₁ rv1 h => ?_
  refine wpAny_bind (wpAny_standAt (wpAny_pure (evalPairs_cons (h2 fun u2 t2 i2 => wpAny_bind (wpAny_mono (hb A rm σ₁ st₁ η { s with heap := h₁, toks := t2 } _ (I₀.ext X₁ R₁) h) ?_ fun _ _ x => x)))))
  refine fun w2 s₂ pz => pz.elim fun v2 st₂ σ₂ h₂ tk₂ X₂ R₂ rv2 h => ?_
  refine wpAny_bind (wpAny_standAt (wpAny_pure (evalPairs_nil ?_)))
  have X := X₁.trans X₂
  have nD₁ := notin_ext X₁ nD eD
  have eD₁ := X₁.keep _ _ eD nD
  have nD₂ := notin_ext X₂ nD₁ eD₁
  have d₂ : h₂.DictOf knd s.heap.objs.size [] := dict_kept (σ := σ) hnew fun ob e => X.keep _ _ e nD
  have nt : ∀ {h : Heap} {kvs : List (K × Value)}, h.DictOf knd s.heap.objs.size kvs → ∀ vals, ¬ h.IsTuple s.heap.objs.size vals := fun {h kvs} d vals t => by
    obtain ⟨o, _, _, e, x, _⟩ := d; obtain ⟨o', e', c, _⟩ := t; rw [e] at e'; cases e'; rw [x.1] at c; exact absurd c (by decide)
  have anc : ∀ {h : Heap}, (∀ p o, p ≠ s.heap.objs.size → h₂.get? p = some o → h.get? p = some o) → ∃ b o, b ≠ s.heap.objs.size ∧ sysModules ≤ b ∧ h.get? b = some o := fun {h} g => by
    obtain ⟨o, _, _, e, _⟩ := C.wd.g
    have e0 := I.keep _ _ e
    have hlt := Heap.lt_size e0
    have n0 : mainGlobals ∉ σ := fun m => by rw [I.off _ m] at e; cases e
    exact ⟨mainGlobals, o, Nat.ne_of_lt hlt, by decide, g _ _ (Nat.ne_of_lt hlt) (X.keep _ _ (g₀ _ _ e0) n0)⟩
  unfold storeAll
  rw [List.forIn_cons]
  refine wpAny_bind (wpAny_bind (wpAny_dictSet_pairs (s := { s with heap := h₂, toks := tk₂ }) (knd := knd) i1 d₂ (fun h₃ d₃ hs₃ => wpAny_pure ?_) (Nat.zero_le _)))
  obtain ⟨R₃, T₃⟩ := R₂.aside hs₃.extBut nD₂ (nt d₂) (anc fun p o _ e => e)
  dsimp only
  rw [List.forIn_cons]
  refine wpAny_bind (wpAny_bind (wpAny_dictSet_pairs (s := { s with heap := h₃, toks := tk₂ + 1 }) (knd := knd) i2 d₃ (fun h₄ d₄ hs₄ => wpAny_pure ?_) (by simp [stored, sizeLine_eq])))
  obtain ⟨R₄, T₄⟩ := R₃.aside hs₄.extBut nD₂ (nt d₃) (anc fun p o n e => hs₃.extBut p o n e)
  dsimp only
  rw [List.forIn_nil]
  refine wpAny_pure ?_
  have e12 : stored (stored [] k1 w1) k2 w2 = [(k1, w1), (k2, w2)] := by simp [stored, hne]
  rw [e12] at d₄
  have ro := hmk σ₂ h₄ _ w1 w2 v1 v2 d₄ (((rv1.ext X₂ R₁).mono (List.prefix_refl _) T₃).mono (List.prefix_refl _) T₄) ((rv2.mono (List.prefix_refl _) T₃).mono (List.prefix_refl _) T₄)
  have XX : Ext σ s.heap (σ₂ ++ [s.heap.objs.size]) h₄ := by
    refine ⟨X.pre.trans (List.prefix_append _ _), fun a ob e n => ?_, fun a m n => ?_⟩
    · have na := Nat.ne_of_lt (Heap.lt_size e)
      exact hs₄.extBut a ob na (hs₃.extBut a ob na (X.keep a ob (g₀ _ _ e) n))
    · rcases List.mem_append.mp m with m | m
      · have := X.new a m n
        cases q : s.heap.get? a with
        | none => rfl
        | some ob => rw [g₀ _ _ q] at this; cases this
      · simp at m; subst m; exact Heap.get?_none_of_le (Nat.le_refl _)
  exact ⟨.loc st₂.length, _, _, h₄, _, rfl, XX, R₄.adopt nD₂ lo ro, .loc (by rw [← R₂.len]; simp), h⟩

theorem se_dict1 (C : CxOk prog r cx) {kx1 vx1 : Expr} {k1 : K} (pos : Pos) {wa : WE} (mk : V → O) (h1 : KeyE knd cx.env kx1 k1)
    (hmk : ∀ σ h D u1 v1, h.DictOf knd D [(k1, u1)] → RV σ h u1 v1 → RO prog w σ h D (mk v1))
    (ha : SE prog w lev cx (eval vx1 cx.env) wa) : SE prog w lev cx (eval (.Dict [some kx1] [vx1] pos) cx.env) (wDict1 mk wa) := fun A rm σ st η s Q I h => by
  have hnew : (s.heap.push { cls := .type "dict", data := .dict #[] }).DictOf knd s.heap.objs.size [] := Heap.DictOf.new s.heap
  have g₀ : ∀ p o, s.heap.get? p = some o → (s.heap.push { cls := .type "dict", data := .dict #[] }).get? p = some o := fun p o e => Heap.get?_push_of_some _ e
  have eD : (s.heap.push { cls := .type "dict", data := .dict #[] }).get? s.heap.objs.size = some { cls := .type "dict", data := .dict #[] } := Heap.get?_push_size _ rfl
  have I₀ := I.ext (.grow g₀) (I.rep.grow g₀)
  have nD : s.heap.objs.size ∉ σ := fun m => by obtain ⟨o, e⟩ := I.rep.there m; exact absurd (Heap.lt_size e) (Nat.lt_irrefl _)
  have lo : (s.heap.objs.size == sysModules) = false := by
    obtain ⟨o, _, _, e, _⟩ := C.wd.g
    have := Heap.lt_size (I.keep _ _ e)
    refine beq_eq_false_iff_ne.mpr fun q => ?_
    rw [q] at this; exact absurd this (by decide)
  refine wpAny_Dict_any rfl rfl (by simp) (by simp) (evalPairs_cons (h1 fun u1 t1 i1 => wpAny_bind (wpAny_mono (ha A rm σ st η { s with heap := s.heap.push { cls := .type "dict", data := .dict #[] }, toks := t1 } _ I₀ h) ?_ fun _ _ x => x)))
  refine fun w1 s₁ pz => pz.elim fun v1 st₁ σ₁ h₁ tk₁ X R₁ rv1 h => ?_
  refine wpAny_bind (wpAny_standAt (wpAny_pure (evalPairs_nil ?_)))
  have nD₁ := notin_ext X nD eD
  have d₂ : h₁.DictOf knd s.heap.objs.size [] := dict_kept (σ := σ) hnew fun ob e => X.keep _ _ e nD
  have nt : ∀ {h : Heap} {kvs : List (K × Value)}, h.DictOf knd s.heap.objs.size kvs → ∀ vals, ¬ h.IsTuple s.heap.objs.size vals := fun {h kvs} d vals t => by
    obtain ⟨o, _, _, e, x, _⟩ := d; obtain ⟨o', e', c, _⟩ := t; rw [e] at e'; cases e'; rw [x.1] at c; exact absurd c (by decide)
  have anc : ∃ b o, b ≠ s.heap.objs.size ∧ sysModules ≤ b ∧ h₁.get? b = some o := by
    obtain ⟨o, _, _, e, _⟩ := C.wd.g
    have e0 := I.keep _ _ e
    have hlt := Heap.lt_size e0
    have n0 : mainGlobals ∉ σ := fun m => by rw [I.off _ m] at e; cases e
    exact ⟨mainGlobals, o, Nat.ne_of_lt hlt, by decide, X.keep _ _ (g₀ _ _ e0) n0⟩
  unfold storeAll
  rw [List.forIn_cons]
  refine wpAny_bind (wpAny_bind (wpAny_dictSet_pairs (s := { s with heap := h₁, toks := tk₁ }) (knd := knd) i1 d₂ (fun h₃ d₃ hs₃ => wpAny_pure ?_) (Nat.zero_le _)))
  obtain ⟨R₃, T₃⟩ := R₁.aside hs₃.extBut nD₁ (nt d₂) anc
  dsimp only
  rw [List.forIn_nil]
  refine wpAny_pure ?_
  have e12 : stored [] k1 w1 = [(k1, w1)] := by simp [stored]
  rw [e12] at d₃
  have ro := hmk σ₁ h₃ _ w1 v1 d₃ (rv1.mono (List.prefix_refl _) T₃)
  have XX : Ext σ s.heap (σ₁ ++ [s.heap.objs.size]) h₃ := by
    refine ⟨X.pre.trans (List.prefix_append _ _), fun a ob e n => ?_, fun a m n => ?_⟩
    · exact hs₃.extBut a ob (Nat.ne_of_lt (Heap.lt_size e)) (X.keep a ob (g₀ _ _ e) n)
    · rcases List.mem_append.mp m with m | m
      · have := X.new a m n
        cases q : s.heap.get? a with
        | none => rfl
        | some ob => rw [g₀ _ _ q] at this; cases this
      · simp at m; subst m; exact Heap.get?_none_of_le (Nat.le_refl _)
  exact ⟨.loc st₁.length, _, _, h₃, _, rfl, XX, R₃.adopt nD₁ lo ro, .loc (by rw [← R₁.len]; simp), h⟩

theorem se_dict1I (C : CxOk prog r cx) {vx1 : Expr} {k1 : Int} {n1 : Nat} {p1 : Pos} (pos : Pos) {wa : WE} (ha : SE prog w lev cx (eval vx1 cx.env) wa) :
    SE prog w lev cx (eval (.Dict [some (.Constant (.int k1) n1 p1)] [vx1] pos) cx.env) (wDict1 (mkI1 k1) wa) :=
  se_dict1 (knd := intKind prog w) C pos _ (keyE_int _ _ _ _) (fun σ h D u1 v1 d r1 => .dictI d (.cons r1 .nil)) ha
theorem se_dict2I (C : CxOk prog r cx) {vx1 vx2 : Expr} {k1 k2 : Int} {n1 n2 : Nat} {p1 p2 : Pos} (pos : Pos) {wa wb : WE} (hne : k1 ≠ k2) (ha : SE prog w lev cx (eval vx1 cx.env) wa) (hb : SE prog w lev cx (eval vx2 cx.env) wb) :
    SE prog w lev cx (eval (.Dict [some (.Constant (.int k1) n1 p1), some (.Constant (.int k2) n2 p2)] [vx1, vx2] pos) cx.env) (wDict2 (mkI2 k1 k2) wa wb) :=
  se_dict2 (knd := intKind prog w) C pos _ (keyE_int _ _ _ _) (keyE_int _ _ _ _) hne (fun σ h D u1 u2 v1 v2 d r1 r2 => .dictI d (.cons r1 (.cons r2 .nil))) ha hb
theorem se_dict2S (C : CxOk prog r cx) {vx1 vx2 : Expr} {k1 k2 : String} {n1 n2 : Nat} {p1 p2 : Pos} (pos : Pos) {wa wb : WE} (hne : k1 ≠ k2) (ha : SE prog w lev cx (eval vx1 cx.env) wa) (hb : SE prog w lev cx (eval vx2 cx.env) wb) :
    SE prog w lev cx (eval (.Dict [some (.Constant (.str (Str.ofString k1)) n1 p1), some (.Constant (.str (Str.ofString k2)) n2 p2)] [vx1, vx2] pos) cx.env) (wDict2 (mkS2 k1 k2) wa wb) :=
  se_dict2 (knd := PySem.strKind prog w) C pos _ (keyE_str _ _ _ _) (keyE_str _ _ _ _) (fun q => hne (ofString_inj q)) (fun σ h D u1 u2 v1 v2 d r1 r2 => .dictS d (.cons r1 (.cons r2 .nil))) ha hb

/-- sorted(x, reverse=True) -/
theorem se_sortedR (C : CxOk prog r cx) {x : Str} {a : Expr} {pos npos kpos cpos : Pos} {n : Nat} {wa : WE} (hf : Loads prog w cx (.Name x npos) (.builtin "sorted")) (ha : SE prog w lev cx (eval a cx.env) wa)
    (hs : starEach [a] cx.env = (false, eval a cx.env) :: starEach [] cx.env) :
    SE prog w lev cx (eval (.Call (.Name x npos) [a] [{ arg := some (Str.ofString "reverse"), value := .Constant (.bool true) n cpos, pos := kpos }] pos) cx.env) (fun η st Q => wa η st fun v st₁ => wSorted true [v] st₁ Q) := fun A rm σ st η s Q I h => by
  show wpAny _ _ (eval (.Name x npos) cx.env >>= fun f => callWith pos f [] (backTo pos (starEach [a] cx.env)) (backToKw pos (keywordEach [{ arg := some (Str.ofString "reverse"), value := .Constant (.bool true) n cpos, pos := kpos }] cx.env))) _ _ _
  refine wpAny_bind (hf I.keep ?_)
  refine callWith_kw (args_cons (wpAny_mono (ha A rm σ st η s _ I h) ?_ fun _ _ x => x) hs) (by rw [hs]; rfl) (by rw [hs]; rfl)
  refine fun u s₁ pz => pz.elim fun v st₁ σ₁ h₁ tk₁ X R rv h => ?_
  refine args_nil ?_
  show wpAny _ _ (evalAll [do let v ← eval (.Constant (.bool true) n cpos) cx.env; standAt pos; pure v]) _ _ _
  refine wpAny_bind (wpAny_bind (wpAny_Constant_bool (wpAny_bind (wpAny_standAt (wpAny_pure ?_)))))
  refine wpAny_bind (wpAny_holding (wpAny_pure (wpAny_pure ?_)))
  exact wpAny_mono (s1_sortedR rm (s := { s with heap := h₁, toks := tk₁ }) R rv h) (fun _ _ p => p.trans X) fun _ _ x => x
end
end Mine
end

section -- D
set_option autoImplicit false
set_option linter.unusedVariables false
set_option maxRecDepth 100000
namespace Mine

noncomputable def wb_mask_of : WS := (wRet (wBin .LShift (wBin .Sub (wBin .LShift (wConst (.int 1)) (wVar "length")) (wConst (.int 1))) (wBin .Sub (wVar "bits") (wVar "length"))))
noncomputable def T_mask_of : WN := wFun ["length", "bits"] wb_mask_of

noncomputable def wb_prefix_at : WS := (wRet (wTup (wCons (wBin .BitAnd (wVar "address") (wArgs (wCons (wVar "length") (wCons (wVar "bits") wNil)) T_mask_of)) (wCons (wVar "length") wNil))))
noncomputable def T_prefix_at : WN := wFun ["address", "length", "bits"] wb_prefix_at

noncomputable def wb_holds_address : WS := (wRet (wCmp .Eq (wBin .BitAnd (wVar "address") (wArgs (wCons (wItem (wVar "prefix") (wConst (.int 1))) (wCons (wVar "bits") wNil)) T_mask_of)) (wItem (wVar "prefix") (wConst (.int 0)))))
noncomputable def T_holds_address : WN := wFun ["prefix", "address", "bits"] wb_holds_address

noncomputable def wb_covers : WS := (wRet (wAndE (wCmp .LtE (wItem (wVar "one") (wConst (.int 1))) (wItem (wVar "other") (wConst (.int 1)))) (wArgs (wCons (wVar "one") (wCons (wItem (wVar "other") (wConst (.int 0))) (wCons (wVar "bits") wNil))) T_holds_address)))
noncomputable def T_covers : WN := wFun ["one", "other", "bits"] wb_covers

noncomputable def wb_put_best : WS := (wSeq (wAssign "known" (wMeth recvD (wVar "nets") (wCons (wVar "prefix") wNil) wGet1)) (wLater (wIfS (wOrB (wTest (wCmp .Is (wVar "known") (wConst .none))) (wOrB (wTest (wCmp .Lt (wVar "cost") (wItem (wVar "known") (wConst (.int 0))))) (wConstB false))) (wLater (wSetItem (wTup (wCons (wVar "cost") (wCons (wArgs (wCons (wArgs (wCons (wVar "hops") wNil) (wSorted false)) wNil) wTupC) wNil))) (wVar "nets") (wVar "prefix"))) (wLater (wIfS (wTest (wCmp .Eq (wVar "cost") (wItem (wVar "known") (wConst (.int 0))))) (wLater (wSetItem (wTup (wCons (wVar "cost") (wCons (wArgs (wCons (wArgs (wCons (wBin .Add (wArgs (wCons (wItem (wVar "known") (wConst (.int 1))) wNil) wListC) (wListComp (wVar "hops") ["known"] (tName "hop") (wTest (wCmp .NotIn (wVar "hop") (wItem (wVar "known") (wConst (.int 1))))) (wVar "hop"))) wNil) (wSorted false)) wNil) wTupC) wNil))) (wVar "nets") (wVar "prefix"))) wSkip)))))
noncomputable def T_put_best : WN := wFun ["nets", "prefix", "cost", "hops"] wb_put_best

noncomputable def wb_counting_rows : WS := (wSeq (wAssign "found" (wList wNil)) (wLater (wSeq (wFor (wVar "rows") (tTuple ["head", "body"]) (wSeq (wAssignT ["age", "options", "sort", "ls_id", "adv"] (wTake (wVar "head") (wConst (.int 5)))) (wLater (wSeq (wIfS (wOrB (wTest (wCmp .NotEq (wVar "sort") (wVar "kind"))) (wOrB (wTest (wCmp .GtE (wVar "age") (wConst (.int 3600)))) (wOrB (wTest (wCmp .Eq (wVar "adv") (wVar "own"))) (wOrB (wTest (wCmp .GtE (wItem (wVar "body") (wConst (.int 2))) (wConst (.int 16777215)))) (wConstB false))))) wCont wSkip) (wLater (wIfS (wAndB (wTest (wCmp .In (wVar "adv") (wVar "routers"))) (wAndB (wTest (wCmp .NotEq (wBin .BitAnd (wItem (wItem (wVar "routers") (wVar "adv")) (wConst (.int 2))) (wConst (.int 1))) (wConst (.int 0)))) (wConstB true))) (wLater (wExprS (wMeth recvL (wVar "found") (wCons (wTup (wCons (wVar "ls_id") (wCons (wVar "body") (wCons (wItem (wVar "routers") (wVar "adv")) wNil)))) wNil) wAppend))) wSkip)))))) (wLater (wRet (wVar "found"))))))
noncomputable def T_counting_rows : WN := wFun ["rows", "kind", "routers", "own"] wb_counting_rows

noncomputable def wb_inter_nets : WS := (wSeq (wAssign "found" (wEmptyDict (.dT none []))) (wLater (wSeq (wFor (wArgs (wCons (wVar "rows") (wCons (wConst (.int 3)) (wCons (wVar "routers") (wCons (wVar "own") wNil)))) T_counting_rows) (tTuple ["ls_id", "body", "entry"]) (wSeq (wAssign "prefix" (wArgs (wCons (wVar "ls_id") (wCons (wItem (wVar "body") (wConst (.int 1))) (wCons (wVar "bits") wNil))) T_prefix_at)) (wLater (wIfS (wTest (wCmp .NotIn (wVar "prefix") (wVar "ranges"))) (wLater (wExprS (wArgs (wCons (wVar "found") (wCons (wVar "prefix") (wCons (wBin .Add (wItem (wVar "entry") (wConst (.int 0))) (wItem (wVar "body") (wConst (.int 2)))) (wCons (wItem (wVar "entry") (wConst (.int 1))) wNil)))) T_put_best))) wSkip)))) (wLater (wRet (wVar "found"))))))
noncomputable def T_inter_nets : WN := wFun ["rows", "routers", "own", "ranges", "bits"] wb_inter_nets

noncomputable def wb_range_of : WS := (wSeq (wAssign "found" (wConst .none)) (wLater (wSeq (wFor (wVar "ranges") (tName "one") (wIfS (wAndB (wTest (wArgs (wCons (wItem (wVar "one") (wConst (.int 0))) (wCons (wVar "prefix") (wCons (wVar "bits") wNil))) T_covers)) (wAndB (wOrB (wTest (wCmp .Is (wVar "found") (wConst .none))) (wOrB (wTest (wCmp .Gt (wItem (wItem (wVar "one") (wConst (.int 0))) (wConst (.int 1))) (wItem (wItem (wVar "found") (wConst (.int 0))) (wConst (.int 1))))) (wConstB false))) (wConstB true))) (wLater (wAssign "found" (wVar "one"))) wSkip)) (wLater (wRet (wVar "found"))))))
noncomputable def T_range_of : WN := wFun ["prefix", "ranges", "bits"] wb_range_of

noncomputable def wb_active_ranges : WS := (wSeq (wAssign "found" (wEmptyDict (.dT none []))) (wLater (wSeq (wFor (wVar "routes") (tName "route") (wSeq (wAssign "one" (wArgs (wCons (wItem (wVar "route") (wConst (.int 0))) (wCons (wVar "ranges") (wCons (wVar "bits") wNil))) T_range_of)) (wLater (wIfS (wTest (wCmp .IsNot (wVar "one") (wConst .none))) (wLater (wSetItem (wConst (.bool true)) (wVar "found") (wItem (wVar "one") (wConst (.int 0))))) wSkip)))) (wLater (wRet (wArgs (wCons (wVar "found") wNil) (wSorted false)))))))
noncomputable def T_active_ranges : WN := wFun ["routes", "ranges", "bits"] wb_active_ranges

noncomputable def wb_condensed_nets : WS := (wSeq (wAssign "found" (wEmptyDict (.dT none []))) (wLater (wSeq (wFor (wVar "routes") (tName "route") (wSeq (wAssign "one" (wArgs (wCons (wItem (wVar "route") (wConst (.int 0))) (wCons (wVar "ranges") (wCons (wVar "bits") wNil))) T_range_of)) (wLater (wIfS (wTest (wCmp .Is (wVar "one") (wConst .none))) (wLater (wSetItem (wArgs (wCons (wItem (wVar "route") (wConst (.int 2))) (wCons (wMeth recvD (wVar "found") (wCons (wItem (wVar "route") (wConst (.int 0))) (wCons (wConst (.int 0)) wNil)) wGet2) wNil)) wMax) (wVar "found") (wItem (wVar "route") (wConst (.int 0))))) (wLater (wIfS (wTest (wItem (wVar "one") (wConst (.int 1)))) (wLater (wSetItem (wArgs (wCons (wItem (wVar "route") (wConst (.int 2))) (wCons (wMeth recvD (wVar "found") (wCons (wItem (wVar "one") (wConst (.int 0))) (wCons (wConst (.int 0)) wNil)) wGet2) wNil)) wMax) (wVar "found") (wItem (wVar "one") (wConst (.int 0))))) wSkip)))))) (wLater (wRet (wVar "found"))))))
noncomputable def T_condensed_nets : WN := wFun ["routes", "ranges", "bits"] wb_condensed_nets

noncomputable def wb_nets_for : WS := (wSeq (wAssignT ["found", "own", "lots"] (wTup (wCons (wEmptyDict (.dT none [])) (wCons (wEmptyDict (.dT none [])) (wCons (wEmptyDict (.dI [])) wNil))))) (wLater (wSeq (wFor (wArgs (wCons (wVar "table") wNil) (wSorted false)) (tName "prefix") (wSeq (wAssign "route" (wItem (wVar "table") (wVar "prefix"))) (wLater (wSeq (wIfS (wOrB (wTest (wCmp .Eq (wItem (wVar "route") (wConst (.int 4))) (wVar "area"))) (wOrB (wTest (wCmp .GtE (wItem (wVar "route") (wConst (.int 2))) (wConst (.int 16777215)))) (wConstB false))) wCont wSkip) (wLater (wIfS (wTest (wCmp .Eq (wItem (wVar "route") (wConst (.int 1))) (wConst (.str "intra")))) (wLater (wExprS (wMeth recvL (wMeth recvD (wVar "lots") (wCons (wItem (wVar "route") (wConst (.int 4))) (wCons (wList wNil) wNil)) wSetDef) (wCons (wVar "route") wNil) wAppend))) (wLater (wIfS (wAndB (wTest (wCmp .Eq (wItem (wVar "route") (wConst (.int 1))) (wConst (.str "inter")))) (wAndB (wTest (wCmp .NotEq (wVar "area") (wConst (.int 0)))) (wConstB true))) (wLater (wSetItem (wItem (wVar "route") (wConst (.int 2))) (wVar "found") (wVar "prefix"))) wSkip)))))))) (wLater (wSeq (wFor (wArgs (wCons (wVar "lots") wNil) (wSorted false)) (tName "other") (wSeq (wAssign "told" (wArgs (wCons (wItem (wVar "lots") (wVar "other")) (wCons (wItem (wItem (wVar "areas") (wVar "other")) (wConst (.str "ranges"))) (wCons (wVar "bits") wNil))) T_condensed_nets)) (wLater (wFor (wVar "told") (tName "prefix") (wSetItem (wArgs (wCons (wItem (wVar "told") (wVar "prefix")) (wCons (wMeth recvD (wVar "own") (wCons (wVar "prefix") (wCons (wConst (.int 16777215)) wNil)) wGet2) wNil)) wMin) (wVar "own") (wVar "prefix")))))) (wLater (wSeq (wExprS (wMeth recvD (wVar "found") (wCons (wVar "own") wNil) wUpdate)) (wLater (wRet (wVar "found"))))))))))
noncomputable def T_nets_for : WN := wFun ["area", "areas", "table", "bits"] wb_nets_for

noncomputable def wb_routers_for : WS := (wSeq (wAssign "found" (wEmptyDict (.dI []))) (wLater (wSeq (wFor (wArgs (wCons (wVar "leading") wNil) (wSorted false)) (tName "number") (wSeq (wAssignT ["cost", "hops", "home", "is_intra"] (wItem (wVar "leading") (wVar "number"))) (wLater (wIfS (wAndB (wTest (wCmp .NotEq (wVar "home") (wVar "area"))) (wAndB (wTest (wCmp .Lt (wVar "cost") (wConst (.int 16777215)))) (wAndB (wOrB (wTest (wVar "is_intra")) (wOrB (wTest (wCmp .NotEq (wVar "area") (wConst (.int 0)))) (wConstB false))) (wConstB true)))) (wLater (wSetItem (wVar "cost") (wVar "found") (wVar "number"))) wSkip)))) (wLater (wRet (wVar "found"))))))
noncomputable def T_routers_for : WN := wFun ["area", "leading"] wb_routers_for

noncomputable def wb_id_for : WS := (wSeq (wAssign "last" (wBin .BitOr (wItem (wVar "prefix") (wConst (.int 0))) (wBin .Sub (wBin .Sub (wBin .LShift (wConst (.int 1)) (wVar "bits")) (wConst (.int 1))) (wArgs (wCons (wItem (wVar "prefix") (wConst (.int 1))) (wCons (wVar "bits") wNil)) T_mask_of)))) (wLater (wSeq (wAssign "is_doubled" (wArgs (wCons (wListComp (wVar "nets") ["prefix"] (tName "other") (wConstB true) (wAndE (wCmp .Eq (wItem (wVar "other") (wConst (.int 0))) (wItem (wVar "prefix") (wConst (.int 0)))) (wCmp .Lt (wItem (wVar "other") (wConst (.int 1))) (wItem (wVar "prefix") (wConst (.int 1)))))) wNil) wAny)) (wLater (wSeq (wFor (wIf (wTest (wVar "is_doubled")) (wTup (wCons (wVar "last") (wCons (wItem (wVar "prefix") (wConst (.int 0))) wNil))) (wTup (wCons (wItem (wVar "prefix") (wConst (.int 0))) (wCons (wVar "last") wNil)))) (tName "number") (wIfS (wTest (wCmp .NotIn (wVar "number") (wVar "taken"))) (wLater (wRet (wVar "number"))) wSkip)) (wLater (wSeq (wAssign "number" (wItem (wVar "prefix") (wConst (.int 0)))) (wLater (wSeq wFalse (wLater (wRet (wIf (wTest (wCmp .LtE (wVar "number") (wVar "last"))) (wVar "number") (wConst .none)))))))))))))
noncomputable def T_id_for : WN := wFun ["prefix", "nets", "taken", "bits"] wb_id_for

noncomputable def wb_numbered_nets : WS := (wSeq (wAssignT ["found", "taken"] (wTup (wCons (wEmptyDict (.dT none [])) (wCons (wEmptyDict (.dI [])) wNil)))) (wLater (wSeq (wFor (fun η st Q => (wListComp (wVar "nets") [] (tName "prefix") (wConstB true) (wTup (wCons (wItem (wVar "prefix") (wConst (.int 1))) (wCons (wItem (wVar "prefix") (wConst (.int 0))) wNil)))) η st fun v st₁ => wSorted true [v] st₁ Q) (tTuple ["length", "address"]) (wSeq (wAssign "number" (wArgs (wCons (wTup (wCons (wVar "address") (wCons (wVar "length") wNil))) (wCons (wVar "nets") (wCons (wVar "taken") (wCons (wVar "bits") wNil)))) T_id_for)) (wLater (wIfS (wTest (wCmp .IsNot (wVar "number") (wConst .none))) (wLater (wSeq (wSetItem (wConst (.bool true)) (wVar "taken") (wVar "number")) (wLater (wSetItem (wVar "number") (wVar "found") (wTup (wCons (wVar "address") (wCons (wVar "length") wNil))))))) wSkip)))) (wLater (wRet (wVar "found"))))))
noncomputable def T_numbered_nets : WN := wFun ["nets", "bits"] wb_numbered_nets

noncomputable def wb_summaries_for : WS := (wSeq (wAssignT ["config", "found", "nets"] (wTup (wCons (wItem (wVar "areas") (wVar "area")) (wCons (wEmptyDict (.dT none [])) (wCons (wEmptyDict (.dT none [])) wNil))))) (wLater (wSeq (wIfS (wOrB (wNot (wTest (wItem (wVar "config") (wConst (.str "stub"))))) (wOrB (wTest (wMeth recvD (wVar "config") (wCons (wConst (.str "told")) (wCons (wConst (.bool true)) wNil)) wGet2)) (wConstB false))) (wLater (wAssign "nets" (wArgs (wCons (wVar "area") (wCons (wVar "areas") (wCons (wVar "table") (wCons (wVar "bits") wNil)))) T_nets_for))) wSkip) (wLater (wSeq (wIfS (wTest (wItem (wVar "config") (wConst (.str "stub")))) (wLater (wSetItem (wMeth recvD (wVar "config") (wCons (wConst (.str "default")) (wCons (wConst (.int 1)) wNil)) wGet2) (wVar "nets") (wTup (wCons (wConst (.int 0)) (wCons (wConst (.int 0)) wNil))))) wSkip) (wLater (wSeq (wAssign "ids" (wArgs (wCons (wVar "nets") (wCons (wVar "bits") wNil)) T_numbered_nets)) (wLater (wSeq (wFor (wArgs (wCons (wVar "ids") wNil) (wSorted false)) (tName "prefix") (wSetItem (wTup (wCons (wConst (.str "summary")) (wCons (wItem (wVar "prefix") (wConst (.int 1))) (wCons (wItem (wVar "nets") (wVar "prefix")) wNil)))) (wVar "found") (wTup (wCons (wConst (.int 3)) (wCons (wItem (wVar "ids") (wVar "prefix")) wNil))))) (wLater (wSeq (wIfS (wNot (wTest (wItem (wVar "config") (wConst (.str "stub"))))) (wLater (wSeq (wAssign "routers" (wArgs (wCons (wVar "area") (wCons (wVar "leading") wNil)) T_routers_for)) (wLater (wFor (wArgs (wCons (wVar "routers") wNil) (wSorted false)) (tName "number") (wSetItem (wTup (wCons (wConst (.str "summary")) (wCons (wConst (.int 0)) (wCons (wItem (wVar "routers") (wVar "number")) wNil)))) (wVar "found") (wTup (wCons (wConst (.int 4)) (wCons (wVar "number") wNil)))))))) wSkip) (wLater (wRet (wVar "found"))))))))))))))
noncomputable def T_summaries_for : WN := wFun ["area", "areas", "table", "leading", "bits"] wb_summaries_for

noncomputable def wb_law_draw : WS := (wSeq (wAssign "spot" (wItem (wVar "box") (wConst (.int 1)))) (wLater (wSeq (wSetItem (wBin .Add (wVar "spot") (wConst (.int 1))) (wVar "box") (wConst (.int 1))) (wLater (wSeq (wIfS (wTest (wCmp .Lt (wVar "spot") (wArgs (wCons (wItem (wVar "box") (wConst (.int 0))) wNil) wLen))) (wLater (wRet (wBin .Mod (wArgs (wCons (wItem (wItem (wVar "box") (wConst (.int 0))) (wVar "spot")) wNil) wAbs) (wVar "many")))) wSkip) (wLater (wRet (wBin .Mod (wBin .Add (wBin .Add (wBin .Mult (wConst (.int 5)) (wVar "spot")) (wBin .FloorDiv (wBin .Mult (wVar "spot") (wVar "spot")) (wConst (.int 3)))) (wConst (.int 1))) (wVar "many")))))))))
noncomputable def T_law_draw : WN := wFun ["box", "many"] wb_law_draw

noncomputable def wb_law_prefix : WS := (wRet (wTup (wCons (wBin .Mult (wArgs (wCons (wVar "box") (wCons (wBin .Pow (wConst (.int 2)) (wVar "length")) wNil)) T_law_draw) (wBin .Pow (wConst (.int 2)) (wBin .Sub (wConst (.int 4)) (wVar "length")))) (wCons (wVar "length") wNil))))
noncomputable def T_law_prefix : WN := wFun ["box", "length"] wb_law_prefix

noncomputable def wb_law_is_in : WS := (wRet (wAndE (wCmp .LtE (wItem (wVar "wide") (wConst (.int 1))) (wItem (wVar "prefix") (wConst (.int 1)))) (wCmp .Eq (wBin .FloorDiv (wItem (wVar "prefix") (wConst (.int 0))) (wBin .Pow (wConst (.int 2)) (wBin .Sub (wConst (.int 4)) (wItem (wVar "wide") (wConst (.int 1)))))) (wBin .FloorDiv (wItem (wVar "wide") (wConst (.int 0))) (wBin .Pow (wConst (.int 2)) (wBin .Sub (wConst (.int 4)) (wItem (wVar "wide") (wConst (.int 1)))))))))
noncomputable def T_law_is_in : WN := wFun ["prefix", "wide"] wb_law_is_in

noncomputable def wb_law_home : WS := (wSeq (wAssignT ["home", "is_shown"] (wTup (wCons (wVar "prefix") (wCons (wConst (.bool true)) wNil)))) (wLater (wSeq (wAssign "around" (wListComp (wVar "ranges") ["prefix"] (tName "one") (wTest (wArgs (wCons (wVar "prefix") (wCons (wItem (wVar "one") (wConst (.int 0))) wNil)) T_law_is_in)) (wVar "one"))) (wLater (wSeq (wFor (wVar "around") (tTuple ["wide", "word"]) (wIfS (wTest (wCmp .Eq (wItem (wVar "wide") (wConst (.int 1))) (wArgs (wCons (wListComp (wVar "around") [] (tName "one") (wConstB true) (wItem (wItem (wVar "one") (wConst (.int 0))) (wConst (.int 1)))) wNil) wMax))) (wLater (wAssignT ["home", "is_shown"] (wTup (wCons (wVar "wide") (wCons (wVar "word") wNil))))) wSkip)) (wLater (wRet (wTup (wCons (wVar "home") (wCons (wVar "is_shown") wNil))))))))))
noncomputable def T_law_home : WN := wFun ["prefix", "ranges"] wb_law_home

noncomputable def wb_law_rows : WS := (wRet (wListComp (wArgs (wCons (wVar "nets") wNil) (wSorted false)) ["nets"] (tName "prefix") (wConstB true) (wTup (wCons (wVar "prefix") (wCons (wConst (.str "intra")) (wCons (wItem (wVar "nets") (wVar "prefix")) (wCons (wConst (.int 0)) (wCons (wConst (.int 1)) (wCons (wTup wNil) wNil)))))))))
noncomputable def T_law_rows : WN := wFun ["nets"] wb_law_rows

noncomputable def wb_law_learned : WS := (wSeq (wAssign "areas" (wDict2 (mkI2 0 1) (wDict2 (mkS2 "stub" "ranges") (wConst (.bool false)) (wTup wNil)) (wDict2 (mkS2 "stub" "ranges") (wConst (.bool false)) (wVar "ranges")))) (wLater (wSeq (wAssign "bodies" (wArgs (wCons (wConst (.int 0)) (wCons (wVar "areas") (wCons (wDictComp (wArgs (wCons (wVar "nets") wNil) T_law_rows) [] (tName "row") (wConstB true) (wItem (wVar "row") (wConst (.int 0))) (wVar "row")) (wCons (wEmptyDict (.dI [])) (wCons (wConst (.int 4)) wNil))))) T_summaries_for)) (wLater (wSeq (wAssign "rows" (wListComp (wArgs (wCons (wVar "bodies") wNil) (wSorted false)) ["bodies"] (tTuple ["kind", "number"]) (wConstB true) (wTup (wCons (wTup (wCons (wConst (.int 0)) (wCons (wConst (.int 2)) (wCons (wVar "kind") (wCons (wVar "number") (wCons (wConst (.int 5)) (wCons (wConst (.int 1)) (wCons (wConst (.int 1)) wNil)))))))) (wCons (wItem (wVar "bodies") (wTup (wCons (wVar "kind") (wCons (wVar "number") wNil)))) wNil))))) (wLater (wSeq (wAssign "found" (wArgs (wCons (wVar "rows") (wCons (wDict1 (mkI1 5) (wTup (wCons (wConst (.int 2)) (wCons (wTup (wCons (wConst (.int 9)) wNil)) (wCons (wConst (.int 1)) wNil))))) (wCons (wConst (.int 6)) (wCons (wTup wNil) (wCons (wConst (.int 4)) wNil))))) T_inter_nets)) (wLater (wRet (wDictComp (wVar "found") ["found"] (tName "prefix") (wTest (wCmp .Eq (wItem (wItem (wVar "found") (wVar "prefix")) (wConst (.int 1))) (wTup (wCons (wConst (.int 9)) wNil)))) (wVar "prefix") (wBin .Sub (wItem (wItem (wVar "found") (wVar "prefix")) (wConst (.int 0))) (wConst (.int 2)))))))))))))
noncomputable def T_law_learned : WN := wFun ["nets", "ranges"] wb_law_learned

noncomputable def wb_law_turned_right : WS := (wSeq (wAssignT ["home", "is_shown"] (wArgs (wCons (wVar "prefix") (wCons (wVar "ranges") wNil)) T_law_home)) (wLater (wSeq (wFor (wBin .Add (wArgs (wCons (wVar "before") wNil) wListC) (wArgs (wCons (wVar "told") wNil) wListC)) (tName "key") (wIfS (wAndB (wTest (wCmp .NotEq (wVar "key") (wVar "home"))) (wAndB (wTest (wCmp .NotEq (wMeth recvD (wVar "before") (wCons (wVar "key") wNil) wGet1) (wMeth recvD (wVar "told") (wCons (wVar "key") wNil) wGet1))) (wConstB true))) (wLater (wRet (wConst (.bool false)))) wSkip)) (wLater (wSeq (wAssign "peers" (wListComp (wVar "nets") ["home", "nets", "ranges"] (tName "one") (wAndB (wTest (wCmp .Lt (wItem (wVar "nets") (wVar "one")) (wConst (.int 16777215)))) (wAndB (wTest (wCmp .Eq (wItem (wArgs (wCons (wVar "one") (wCons (wVar "ranges") wNil)) T_law_home) (wConst (.int 0))) (wVar "home"))) (wConstB true))) (wItem (wVar "nets") (wVar "one")))) (wLater (wRet (wCmp .Eq (wMeth recvD (wVar "told") (wCons (wVar "home") wNil) wGet1) (wIf (wAndB (wTest (wVar "is_shown")) (wAndB (wTest (wCmp .NotEq (wVar "peers") (wList wNil))) (wConstB true))) (wArgs (wCons (wVar "peers") wNil) wMax) (wConst .none))))))))))
noncomputable def T_law_turned_right : WN := wFun ["before", "told", "prefix", "nets", "ranges"] wb_law_turned_right

noncomputable def wb_law_lots_right : WS := (wSeq (wAssign "joined" (wArgs (wCons (wArgs (wCons (wTake (wVar "rows") (wVar "cut")) (wCons (wVar "ranges") (wCons (wConst (.int 4)) wNil))) T_condensed_nets) wNil) wDictC)) (wLater (wSeq (wAssign "other" (wArgs (wCons (wRev (wDrop (wVar "rows") (wVar "cut"))) (wCons (wVar "ranges") (wCons (wConst (.int 4)) wNil))) T_condensed_nets)) (wLater (wSeq (wFor (wVar "other") (tName "key") (wSetItem (wArgs (wCons (wItem (wVar "other") (wVar "key")) (wCons (wMeth recvD (wVar "joined") (wCons (wVar "key") (wCons (wConst (.int 0)) wNil)) wGet2) wNil)) wMax) (wVar "joined") (wVar "key"))) (wLater (wSeq (wAssign "words" (wArgs (wCons (wVar "ranges") wNil) wDictC)) (wLater (wSeq (wAssign "shown" (wListComp (wArgs (wCons (wVar "rows") (wCons (wVar "ranges") (wCons (wConst (.int 4)) wNil))) T_active_ranges) ["words"] (tName "one") (wTest (wItem (wVar "words") (wVar "one"))) (wVar "one"))) (wLater (wRet (wAndE (wCmp .Eq (wVar "joined") (wVar "told")) (wCmp .Eq (wVar "shown") (wListComp (wArgs (wCons (wVar "told") wNil) (wSorted false)) ["words"] (tName "key") (wTest (wCmp .In (wVar "key") (wVar "words"))) (wVar "key")))))))))))))))
noncomputable def T_law_lots_right : WN := wFun ["rows", "cut", "ranges", "told"] wb_law_lots_right

noncomputable def wb_law_further_right : WS := (wSeq (wAssignT ["around", "is_shown"] (wArgs (wCons (wVar "further") (wCons (wVar "ranges") wNil)) T_law_home)) (wLater (wSeq (wAssign "later" (wArgs (wCons (wVar "rows") (wCons (wBin .Add (wVar "ranges") (wList (wCons (wTup (wCons (wVar "further") (wCons (wVar "is_shown") wNil))) wNil))) (wCons (wConst (.int 4)) wNil))) T_condensed_nets)) (wLater (wSeq (wAssignT ["words", "moved"] (wTup (wCons (wArgs (wCons (wVar "ranges") wNil) wDictC) (wCons (wList (wCons (wVar "further") wNil)) wNil)))) (wLater (wSeq (wIfS (wTest (wCmp .In (wVar "around") (wVar "words"))) (wLater (wExprS (wMeth recvL (wVar "moved") (wCons (wVar "around") wNil) wAppend))) (wLater (wAssign "moved" (wBin .Add (wVar "moved") (wListComp (wVar "told") ["further", "words"] (tName "key") (wAndB (wTest (wCmp .NotIn (wVar "key") (wVar "words"))) (wAndB (wTest (wArgs (wCons (wVar "key") (wCons (wVar "further") wNil)) T_law_is_in)) (wConstB true))) (wVar "key")))))) (wLater (wSeq (wFor (wBin .Add (wArgs (wCons (wVar "told") wNil) wListC) (wArgs (wCons (wVar "later") wNil) wListC)) (tName "key") (wIfS (wAndB (wTest (wCmp .NotIn (wVar "key") (wVar "moved"))) (wAndB (wTest (wCmp .NotEq (wMeth recvD (wVar "told") (wCons (wVar "key") wNil) wGet1) (wMeth recvD (wVar "later") (wCons (wVar "key") wNil) wGet1))) (wConstB true))) (wLater (wRet (wConst (.bool false)))) wSkip)) (wLater (wSeq (wAssign "inner" (wListComp (wVar "later") ["further", "words"] (tName "key") (wAndB (wTest (wCmp .NotIn (wVar "key") (wVar "words"))) (wAndB (wTest (wCmp .NotEq (wVar "key") (wVar "further"))) (wAndB (wTest (wArgs (wCons (wVar "key") (wCons (wVar "further") wNil)) T_law_is_in)) (wConstB true)))) (wVar "key"))) (wLater (wRet (wAndE (wCmp .Eq (wVar "inner") (wList wNil)) (wCmp .Eq (wArgs (wCons (wListComp (wVar "moved") ["later"] (tName "key") (wConstB true) (wMeth recvD (wVar "later") (wCons (wVar "key") (wCons (wConst (.int 0)) wNil)) wGet2)) wNil) wMax) (wArgs (wCons (wListComp (wVar "moved") ["told"] (tName "key") (wConstB true) (wMeth recvD (wVar "told") (wCons (wVar "key") (wCons (wConst (.int 0)) wNil)) wGet2)) wNil) wMax))))))))))))))))
noncomputable def T_law_further_right : WN := wFun ["rows", "further", "ranges", "told"] wb_law_further_right

noncomputable def wb_law : WS := (wSeq (wAssignT ["box", "ranges", "nets", "told"] (wTup (wCons (wList (wCons (wArgs (wCons (wTake (wVar "script") (wConst (.int 48))) wNil) wListC) (wCons (wConst (.int 0)) wNil))) (wCons (wList wNil) (wCons (wEmptyDict (.dT none [])) (wCons (wEmptyDict (.dT none [])) wNil)))))) (wLater (wSeq (wForR (wBin .Add (wConst (.int 2)) (wArgs (wCons (wVar "box") (wCons (wConst (.int 2)) wNil)) T_law_draw)) (tName "turn") (wSeq (wAssignT ["wide", "is_shown"] (wTup (wCons (wArgs (wCons (wVar "box") (wCons (wArgs (wCons (wVar "box") (wCons (wConst (.int 4)) wNil)) T_law_draw) wNil)) T_law_prefix) (wCons (wCmp .Gt (wArgs (wCons (wVar "box") (wCons (wConst (.int 4)) wNil)) T_law_draw) (wConst (.int 0))) wNil)))) (wLater (wIfS (wTest (wCmp .NotIn (wVar "wide") (wArgs (wCons (wVar "ranges") wNil) wDictC))) (wLater (wExprS (wMeth recvL (wVar "ranges") (wCons (wTup (wCons (wVar "wide") (wCons (wVar "is_shown") wNil))) wNil) wAppend))) wSkip)))) (wLater (wSeq (wForR (wConst (.int 7)) (tName "turn") (wSeq (wAssign "form" (wIf (wTest (wCmp .Gt (wVar "turn") (wConst (.int 2)))) (wArgs (wCons (wVar "box") (wCons (wConst (.int 5)) wNil)) T_law_draw) (wConst (.int 1)))) (wLater (wSeq (wAssignT ["prefix", "cost"] (wTup (wCons (wArgs (wCons (wVar "box") (wCons (wBin .Add (wConst (.int 1)) (wArgs (wCons (wVar "box") (wCons (wConst (.int 3)) wNil)) T_law_draw)) wNil)) T_law_prefix) (wCons (wItem (wTup (wCons (wConst (.int 1)) (wCons (wConst (.int 3)) (wCons (wConst (.int 4)) (wCons (wConst (.int 7)) wNil))))) (wArgs (wCons (wVar "box") (wCons (wConst (.int 4)) wNil)) T_law_draw)) wNil)))) (wLater (wSeq (wIfS (wAndB (wTest (wCmp .Gt (wVar "form") (wConst (.int 2)))) (wAndB (wTest (wCmp .NotEq (wVar "nets") (wEmptyDict (.dT none [])))) (wConstB true))) (wLater (wSeq (wAssign "prefix" (wItem (wArgs (wCons (wVar "nets") wNil) (wSorted false)) (wArgs (wCons (wVar "box") (wCons (wArgs (wCons (wVar "nets") wNil) wLen) wNil)) T_law_draw))) (wLater (wExprS (wMeth recvD (wVar "nets") (wCons (wVar "prefix") wNil) wPop1))))) (wLater (wSetItem (wIf (wTest (wCmp .Gt (wVar "form") (wConst (.int 0)))) (wVar "cost") (wConst (.int 16777215))) (wVar "nets") (wVar "prefix")))) (wLater (wSeq (wAssignT ["before", "told"] (wTup (wCons (wVar "told") (wCons (wArgs (wCons (wVar "nets") (wCons (wVar "ranges") wNil)) T_law_learned) wNil)))) (wLater (wIfS (wNot (wTest (wArgs (wCons (wVar "before") (wCons (wVar "told") (wCons (wVar "prefix") (wCons (wVar "nets") (wCons (wVar "ranges") wNil))))) T_law_turned_right))) (wLater (wRet (wConst (.bool false)))) wSkip)))))))))) (wLater (wSeq (wAssign "rows" (wListComp (wArgs (wCons (wVar "nets") wNil) T_law_rows) [] (tName "row") (wTest (wCmp .Lt (wItem (wVar "row") (wConst (.int 2))) (wConst (.int 16777215)))) (wVar "row"))) (wLater (wSeq (wIfS (wTest (wCmp .Eq (wVar "rows") (wList wNil))) (wLater (wRet (wCmp .Eq (wVar "told") (wEmptyDict (.dT none []))))) wSkip) (wLater (wSeq (wIfS (wNot (wTest (wArgs (wCons (wVar "rows") (wCons (wBin .Add (wConst (.int 1)) (wArgs (wCons (wVar "box") (wCons (wConst (.int 3)) wNil)) T_law_draw)) (wCons (wVar "ranges") (wCons (wVar "told") wNil)))) T_law_lots_right))) (wLater (wRet (wConst (.bool false)))) wSkip) (wLater (wSeq (wAssign "base" (wItem (wItem (wVar "rows") (wArgs (wCons (wVar "box") (wCons (wArgs (wCons (wVar "rows") wNil) wLen) wNil)) T_law_draw)) (wConst (.int 0)))) (wLater (wSeq (wAssign "length" (wBin .Add (wConst (.int 1)) (wArgs (wCons (wVar "box") (wCons (wItem (wVar "base") (wConst (.int 1))) wNil)) T_law_draw))) (wLater (wSeq (wAssign "further" (wTup (wCons (wBin .Mult (wBin .FloorDiv (wItem (wVar "base") (wConst (.int 0))) (wBin .Pow (wConst (.int 2)) (wBin .Sub (wConst (.int 4)) (wVar "length")))) (wBin .Pow (wConst (.int 2)) (wBin .Sub (wConst (.int 4)) (wVar "length")))) (wCons (wVar "length") wNil)))) (wLater (wSeq (wIfS (wTest (wCmp .In (wVar "further") (wArgs (wCons (wVar "ranges") wNil) wDictC))) (wLater (wAssign "further" (wVar "base"))) wSkip) (wLater (wRet (wOrE (wCmp .In (wVar "further") (wArgs (wCons (wVar "ranges") wNil) wDictC)) (wArgs (wCons (wVar "rows") (wCons (wVar "further") (wCons (wVar "ranges") (wCons (wVar "told") wNil)))) T_law_further_right)))))))))))))))))))))))
noncomputable def T_law : WN := wFun ["script"] wb_law

end Mine
end

section -- P1
set_option autoImplicit false
set_option linter.unusedVariables false
set_option maxRecDepth 100000
set_option maxHeartbeats 8000000
namespace Mine

abbrev pw : Program := PySem.Challenge.pw_sz0109_01
noncomputable def nthS : List Stmt → Nat → Stmt
  | s :: _, 0 => s
  | _ :: r, n + 1 => nthS r n
  | [], _ => .Pass ⟨0, 0, 0, 0⟩
noncomputable def recS : Stmt → DefRec
  | .FunctionDef name params body _ _ _ scope _ _ pos => ⟨name, params, body, scope, pos⟩
  | _ => ⟨"", ⟨[], [], none, [], [], none, []⟩, [], ⟨.function, [], false, false, []⟩, ⟨0, 0, 0, 0⟩⟩
noncomputable def fnr (i : Nat) : DefRec := recS (nthS pw.main.body i)

/-- what the program's top and the language give to names -/
structure RootOk (r : RootD) : Prop where
  recs : ∀ d, d ∈ recsOf pw → d ∈ recsOf r.view
  g_BACKBONE : ∃ t, r.mg (Str.ofString "BACKBONE") = some (.int 0 t)
  g_MAX_AGE : ∃ t, r.mg (Str.ofString "MAX_AGE") = some (.int 3600 t)
  g_LS_INFINITY : ∃ t, r.mg (Str.ofString "LS_INFINITY") = some (.int 16777215 t)
  g_BORDER : ∃ t, r.mg (Str.ofString "BORDER") = some (.int 1 t)
  g_SUMMARY_NET : ∃ t, r.mg (Str.ofString "SUMMARY_NET") = some (.int 3 t)
  g_SUMMARY_ROUTER : ∃ t, r.mg (Str.ofString "SUMMARY_ROUTER") = some (.int 4 t)
  m_len : r.mg (Str.ofString "len") = none
  b_len : r.mb (Str.ofString "len") = some (.builtin "len")
  m_abs : r.mg (Str.ofString "abs") = none
  b_abs : r.mb (Str.ofString "abs") = some (.builtin "abs")
  m_max : r.mg (Str.ofString "max") = none
  b_max : r.mb (Str.ofString "max") = some (.builtin "max")
  m_min : r.mg (Str.ofString "min") = none
  b_min : r.mb (Str.ofString "min") = some (.builtin "min")
  m_any : r.mg (Str.ofString "any") = none
  b_any : r.mb (Str.ofString "any") = some (.builtin "any")
  m_sorted : r.mg (Str.ofString "sorted") = none
  b_sorted : r.mb (Str.ofString "sorted") = some (.builtin "sorted")
  m_list : r.mg (Str.ofString "list") = none
  b_list : r.mb (Str.ofString "list") = some (.type "list")
  m_tuple : r.mg (Str.ofString "tuple") = none
  b_tuple : r.mb (Str.ofString "tuple") = some (.type "tuple")
  m_dict : r.mg (Str.ofString "dict") = none
  b_dict : r.mb (Str.ofString "dict") = some (.type "dict")
  m_range : r.mg (Str.ofString "range") = none
  b_range : r.mb (Str.ofString "range") = some (.type "range")

theorem len1 {us : List Value} (h : us.length = 1) : ∃ a, us = [a] := by
  rcases us with _ | ⟨a, _ | ⟨b, r⟩⟩
  · exact absurd h (by simp)
  · exact ⟨a, rfl⟩
  · exact absurd h (by simp)
theorem len2 {us : List Value} (h : us.length = 2) : ∃ a b, us = [a, b] := by
  rcases us with _ | ⟨a, r⟩
  · exact absurd h (by simp)
  · obtain ⟨b, rfl⟩ := len1 (us := r) (by simpa using h); exact ⟨a, b, rfl⟩
theorem len3 {us : List Value} (h : us.length = 3) : ∃ a b c, us = [a, b, c] := by
  rcases us with _ | ⟨a, r⟩
  · exact absurd h (by simp)
  · obtain ⟨b, c, rfl⟩ := len2 (us := r) (by simpa using h); exact ⟨a, b, c, rfl⟩
theorem len4 {us : List Value} (h : us.length = 4) : ∃ a b c d, us = [a, b, c, d] := by
  rcases us with _ | ⟨a, r⟩
  · exact absurd h (by simp)
  · obtain ⟨b, c, d, rfl⟩ := len3 (us := r) (by simpa using h); exact ⟨a, b, c, d, rfl⟩
theorem len5 {us : List Value} (h : us.length = 5) : ∃ a b c d e, us = [a, b, c, d, e] := by
  rcases us with _ | ⟨a, r⟩
  · exact absurd h (by simp)
  · obtain ⟨b, c, d, e, rfl⟩ := len4 (us := r) (by simpa using h); exact ⟨a, b, c, d, e, rfl⟩

section
variable {prog : Program} {w : World} {r : RootD}

theorem range_call {cx : Cx} (C : CxOk prog r cx) {x : Str} {e : Expr} {pos npos : Pos} (hf : Loads prog w cx (.Name x npos) (.type "range")) (he : starEach [e] cx.env = (false, eval e cx.env) :: starEach [] cx.env) :
    ∀ (A : Around) (E : Value → Shared → Prop) (s : Shared) (Q : Value → Shared → Prop), (∀ b o, cx.base.get? b = some o → s.heap.get? b = some o) → wpAny (model prog w) A (eval e cx.env) (fun u s₁ => wpAny (model prog w) A (call (.type "range") [u]) Q E s₁) E s →
      wpAny (model prog w) A (eval (.Call (.Name x npos) [e] [] pos) cx.env) Q E s := fun A E s Q K h =>
  Call_ (hf K (PyProof.Rows.callWith_type1 (args_cons (wpAny_mono h (fun v s₁ h₁ => args_nil h₁) fun _ _ x => x) he) he rfl))

theorem rec_mask_of : fnr 2 ∈ recsOf pw := List.mem_of_getElem? (show (recsOf pw)[0]? = some (fnr 2) by kernel_rfl)
theorem fs_mask_of (G : RootOk r) : FS prog w r 1 "mask_of" T_mask_of := by
  refine fs_def (d := fnr 2) (G.recs _ rec_mask_of) (by kernel_rfl) ?_ (by kernel_rfl) (by kernel_rfl) (by kernel_rfl) (by kernel_rfl) ?_
  · intro us pm cd doc hl
    obtain ⟨u0, u1, rfl⟩ := len2 hl
    kernel_rfl
  · intro base pm cd doc L a C O
    refine ss_one ?_
    exact ss1_ret _ (se_bin .LShift _ (se_bin .Sub _ (se_bin .LShift _ (se_int 1 _ _) (se_local C "length" _ (by rfl) (by rfl))) (se_int 1 _ _)) (se_bin .Sub _ (se_local C "bits" _ (by rfl) (by rfl)) (se_local C "length" _ (by rfl) (by rfl))))

theorem rec_prefix_at : fnr 3 ∈ recsOf pw := List.mem_of_getElem? (show (recsOf pw)[1]? = some (fnr 3) by kernel_rfl)
theorem fs_prefix_at (G : RootOk r) : FS prog w r 2 "prefix_at" T_prefix_at := by
  refine fs_def (d := fnr 3) (G.recs _ rec_prefix_at) (by kernel_rfl) ?_ (by kernel_rfl) (by kernel_rfl) (by kernel_rfl) (by kernel_rfl) ?_
  · intro us pm cd doc hl
    obtain ⟨u0, u1, u2, rfl⟩ := len3 hl
    kernel_rfl
  · intro base pm cd doc L a C O
    refine ss_one ?_
    exact ss1_ret _ (se_tup _ _ (sl_cons _ (se_bin .BitAnd _ (se_local C "address" _ (by rfl) (by rfl)) (se_call C (x := "mask_of") ⟨_, G.recs _ rec_mask_of, rfl⟩ (by rfl) (by rfl) ((fs_mask_of G).mono (by decide)) (sa_cons (se_local C "length" _ (by rfl) (by rfl)) (sa_cons (se_local C "bits" _ (by rfl) (by rfl)) sa_nil (starEach_ns rfl)) (starEach_ns rfl)) (starEach_ns rfl))) (sl_cons _ (se_local C "length" _ (by rfl) (by rfl)) (sl_nil _) (starEach_ns rfl)) (starEach_ns rfl)))

theorem rec_holds_address : fnr 4 ∈ recsOf pw := List.mem_of_getElem? (show (recsOf pw)[2]? = some (fnr 4) by kernel_rfl)
theorem fs_holds_address (G : RootOk r) : FS prog w r 2 "holds_address" T_holds_address := by
  refine fs_def (d := fnr 4) (G.recs _ rec_holds_address) (by kernel_rfl) ?_ (by kernel_rfl) (by kernel_rfl) (by kernel_rfl) (by kernel_rfl) ?_
  · intro us pm cd doc hl
    obtain ⟨u0, u1, u2, rfl⟩ := len3 hl
    kernel_rfl
  · intro base pm cd doc L a C O
    refine ss_one ?_
    exact ss1_ret _ (se_cmp .Eq _ (se_bin .BitAnd _ (se_local C "address" _ (by rfl) (by rfl)) (se_call C (x := "mask_of") ⟨_, G.recs _ rec_mask_of, rfl⟩ (by rfl) (by rfl) ((fs_mask_of G).mono (by decide)) (sa_cons (se_item _ (se_local C "prefix" _ (by rfl) (by rfl)) (se_int 1 _ _) (by intro _ _; rfl)) (sa_cons (se_local C "bits" _ (by rfl) (by rfl)) sa_nil (starEach_ns rfl)) (starEach_ns rfl)) (starEach_ns rfl))) (se_item _ (se_local C "prefix" _ (by rfl) (by rfl)) (se_int 0 _ _) (by intro _ _; rfl)) (by rfl))

theorem rec_covers : fnr 5 ∈ recsOf pw := List.mem_of_getElem? (show (recsOf pw)[3]? = some (fnr 5) by kernel_rfl)
theorem fs_covers (G : RootOk r) : FS prog w r 3 "covers" T_covers := by
  refine fs_def (d := fnr 5) (G.recs _ rec_covers) (by kernel_rfl) ?_ (by kernel_rfl) (by kernel_rfl) (by kernel_rfl) (by kernel_rfl) ?_
  · intro us pm cd doc hl
    obtain ⟨u0, u1, u2, rfl⟩ := len3 hl
    kernel_rfl
  · intro base pm cd doc L a C O
    refine ss_one ?_
    exact ss1_ret _ (se_and _ (se_cmp .LtE _ (se_item _ (se_local C "one" _ (by rfl) (by rfl)) (se_int 1 _ _) (by intro _ _; rfl)) (se_item _ (se_local C "other" _ (by rfl) (by rfl)) (se_int 1 _ _) (by intro _ _; rfl)) (by rfl)) (se_bool1 _ (se_call C (x := "holds_address") ⟨_, G.recs _ rec_holds_address, rfl⟩ (by rfl) (by rfl) ((fs_holds_address G).mono (by decide)) (sa_cons (se_local C "one" _ (by rfl) (by rfl)) (sa_cons (se_item _ (se_local C "other" _ (by rfl) (by rfl)) (se_int 0 _ _) (by intro _ _; rfl)) (sa_cons (se_local C "bits" _ (by rfl) (by rfl)) sa_nil (starEach_ns rfl)) (starEach_ns rfl)) (starEach_ns rfl)) (starEach_ns rfl))))

theorem rec_put_best : fnr 8 ∈ recsOf pw := List.mem_of_getElem? (show (recsOf pw)[4]? = some (fnr 8) by kernel_rfl)
theorem fs_put_best (G : RootOk r) : FS prog w r 1 "put_best" T_put_best := by
  refine fs_def (d := fnr 8) (G.recs _ rec_put_best) (by kernel_rfl) ?_ (by kernel_rfl) (by kernel_rfl) (by kernel_rfl) (by kernel_rfl) ?_
  · intro us pm cd doc hl
    obtain ⟨u0, u1, u2, u3, rfl⟩ := len4 hl
    kernel_rfl
  · intro base pm cd doc L a C O
    refine ss_cons ?_ ?_
    · refine ss1_assign _ _ ?_ ?_ ?_
      · exact (bind_cell C O (x := "known") (by rfl) (by rfl))
      · exact (se_meth (T := "dict") (id := "dict.get") (by rfl) (by rfl) (by rfl) PySem.F.plainAttrs_dict PySem.F.slot_dict_get PySem.F.type_dict_get (rc := recvD) (fun R rv h => rcv_dict R rv h) (se_local C "nets" _ (by rfl) (by rfl)) (sa_cons (se_local C "prefix" _ (by rfl) (by rfl)) sa_nil (starEach_ns rfl)) sn_get1 (starEach_ns rfl) (by rfl))
      · rfl
    · refine ss_one ?_
      refine ss1_if _ (sb_bool _ _ (sb_or_cons (sb_cmp .Is _ _ (se_cell C "known" _ (by rfl) (by rfl)) (se_none _ _) (by rfl)) (sb_or_cons (sb_cmp .Lt _ _ (se_local C "cost" _ (by rfl) (by rfl)) (se_item _ (se_cell C "known" _ (by rfl) (by rfl)) (se_int 0 _ _) (by intro _ _; rfl)) (by rfl)) sb_or_nil))) ?_ ?_
      · refine ss_one ?_
        exact ss1_set _ _ (se_tup _ _ (sl_cons _ (se_local C "cost" _ (by rfl) (by rfl)) (sl_cons _ (se_callT C (loads_blt C (x := "tuple") (by rfl) (by rfl) G.m_tuple G.b_tuple) sn_tupC (sa_cons (se_callB C (loads_blt C (x := "sorted") (by rfl) (by rfl) G.m_sorted G.b_sorted) sn_sorted (sa_cons (se_local C "hops" _ (by rfl) (by rfl)) sa_nil (starEach_ns rfl)) (starEach_ns rfl) (by rfl)) sa_nil (starEach_ns rfl)) (starEach_ns rfl) (by rfl)) (sl_nil _) (starEach_ns rfl)) (starEach_ns rfl))) (se_local C "nets" _ (by rfl) (by rfl)) (se_local C "prefix" _ (by rfl) (by rfl)) (by rfl)
      · refine ss_one ?_
        refine ss1_if _ (sb_cmp .Eq _ _ (se_local C "cost" _ (by rfl) (by rfl)) (se_item _ (se_cell C "known" _ (by rfl) (by rfl)) (se_int 0 _ _) (by intro _ _; rfl)) (by rfl)) ?_ ?_
        · refine ss_one ?_
          exact ss1_set _ _ (se_tup _ _ (sl_cons _ (se_local C "cost" _ (by rfl) (by rfl)) (sl_cons _ (se_callT C (loads_blt C (x := "tuple") (by rfl) (by rfl) G.m_tuple G.b_tuple) sn_tupC (sa_cons (se_callB C (loads_blt C (x := "sorted") (by rfl) (by rfl) G.m_sorted G.b_sorted) sn_sorted (sa_cons (se_bin .Add _ (se_callT C (loads_blt C (x := "list") (by rfl) (by rfl) G.m_list G.b_list) sn_listC (sa_cons (se_item _ (se_cell C "known" _ (by rfl) (by rfl)) (se_int 1 _ _) (by intro _ _; rfl)) sa_nil (starEach_ns rfl)) (starEach_ns rfl) (by rfl)) (se_listcomp C (cl := [(Str.ofString "known", L + 1)]) ["known"] (fun _ => rfl) (by rfl) (by rfl) (by decide +kernel) (by decide +kernel) (List.forall_mem_cons.mpr ⟨rfl, List.forall_mem_nil _⟩) (List.forall_mem_cons.mpr ⟨⟨rfl, .inl rfl, fun h => absurd (show some NameKind.cell = some NameKind.local from h) (by decide)⟩, List.forall_mem_nil _⟩) (se_local C "hops" _ (by rfl) (by rfl)) (fun C' base c => ⟨target_name _ (bind_local c (x := "hop") (by rfl)), tests_one (sb_cmp .NotIn _ _ (se_local c "hop" _ (by rfl) (by rfl)) (se_item _ (se_cell c "known" _ (by rfl) (by rfl)) (se_int 1 _ _) (by intro _ _; rfl)) (by rfl)), (se_local c "hop" _ (by rfl) (by rfl))⟩))) sa_nil (starEach_ns rfl)) (starEach_ns rfl) (by rfl)) sa_nil (starEach_ns rfl)) (starEach_ns rfl) (by rfl)) (sl_nil _) (starEach_ns rfl)) (starEach_ns rfl))) (se_local C "nets" _ (by rfl) (by rfl)) (se_local C "prefix" _ (by rfl) (by rfl)) (by rfl)
        · exact ss_nil

theorem rec_counting_rows : fnr 13 ∈ recsOf pw := List.mem_of_getElem? (show (recsOf pw)[5]? = some (fnr 13) by kernel_rfl)
theorem fs_counting_rows (G : RootOk r) : FS prog w r 1 "counting_rows" T_counting_rows := by
  refine fs_def (d := fnr 13) (G.recs _ rec_counting_rows) (by kernel_rfl) ?_ (by kernel_rfl) (by kernel_rfl) (by kernel_rfl) (by kernel_rfl) ?_
  · intro us pm cd doc hl
    obtain ⟨u0, u1, u2, u3, rfl⟩ := len4 hl
    kernel_rfl
  · intro base pm cd doc L a C O
    refine ss_cons ?_ ?_
    · refine ss1_assign _ _ ?_ ?_ ?_
      · exact (bind_local C (x := "found") (by rfl))
      · exact (se_list _ (sl_nil _))
      · rfl
    · refine ss_cons ?_ ?_
      · refine ss1_for _ (se_local C "rows" _ (by rfl) (by rfl)) (target_tuple _ _ (.cons (bind_local C (x := "head") (by rfl)) (.cons (bind_local C (x := "body") (by rfl)) .nil))) ?_ (by intro _; rfl)
        · refine ss_cons ?_ ?_
          · exact ss1_assignT _ _ _ (.cons (bind_local C (x := "age") (by rfl)) (.cons (bind_local C (x := "options") (by rfl)) (.cons (bind_local C (x := "sort") (by rfl)) (.cons (bind_local C (x := "ls_id") (by rfl)) (.cons (bind_local C (x := "adv") (by rfl)) .nil))))) (se_take _ _ (se_local C "head" _ (by rfl) (by rfl)) (se_int 5 _ _)) (by rfl) (by rfl)
          · refine ss_cons ?_ ?_
            · refine ss1_if _ (sb_bool _ _ (sb_or_cons (sb_cmp .NotEq _ _ (se_local C "sort" _ (by rfl) (by rfl)) (se_local C "kind" _ (by rfl) (by rfl)) (by rfl)) (sb_or_cons (sb_cmp .GtE _ _ (se_local C "age" _ (by rfl) (by rfl)) (se_glob C "MAX_AGE" _ 3600 (by rfl) (by rfl) G.g_MAX_AGE) (by rfl)) (sb_or_cons (sb_cmp .Eq _ _ (se_local C "adv" _ (by rfl) (by rfl)) (se_local C "own" _ (by rfl) (by rfl)) (by rfl)) (sb_or_cons (sb_cmp .GtE _ _ (se_item _ (se_local C "body" _ (by rfl) (by rfl)) (se_int 2 _ _) (by intro _ _; rfl)) (se_glob C "LS_INFINITY" _ 16777215 (by rfl) (by rfl) G.g_LS_INFINITY) (by rfl)) sb_or_nil))))) ?_ ?_
              · refine ss_one ?_
                exact ss1_cont _
              · exact ss_nil
            · refine ss_one ?_
              refine ss1_if _ (sb_bool _ _ (sb_and_cons (sb_cmp .In _ _ (se_local C "adv" _ (by rfl) (by rfl)) (se_local C "routers" _ (by rfl) (by rfl)) (by rfl)) (sb_and_cons (sb_cmp .NotEq _ _ (se_bin .BitAnd _ (se_item _ (se_item _ (se_local C "routers" _ (by rfl) (by rfl)) (se_local C "adv" _ (by rfl) (by rfl)) (by intro _ _; rfl)) (se_int 2 _ _) (by intro _ _; rfl)) (se_glob C "BORDER" _ 1 (by rfl) (by rfl) G.g_BORDER)) (se_int 0 _ _) (by rfl)) sb_and_nil))) ?_ ?_
              · refine ss_one ?_
                exact ss1_expr _ (se_meth (T := "list") (id := "list.append") (by rfl) (by rfl) (by rfl) PySem.F.plainAttrs_list PySem.F.slot_list_append PySem.F.type_list_append (rc := recvL) (fun R rv h => rcv_list R rv h) (se_local C "found" _ (by rfl) (by rfl)) (sa_cons (se_tup _ _ (sl_cons _ (se_local C "ls_id" _ (by rfl) (by rfl)) (sl_cons _ (se_local C "body" _ (by rfl) (by rfl)) (sl_cons _ (se_item _ (se_local C "routers" _ (by rfl) (by rfl)) (se_local C "adv" _ (by rfl) (by rfl)) (by intro _ _; rfl)) (sl_nil _) (starEach_ns rfl)) (starEach_ns rfl)) (starEach_ns rfl))) sa_nil (starEach_ns rfl)) sn_append (starEach_ns rfl) (by rfl)) (by rfl) (by rfl)
              · exact ss_nil
      · refine ss_one ?_
        exact ss1_ret _ (se_local C "found" _ (by rfl) (by rfl))

theorem rec_inter_nets : fnr 14 ∈ recsOf pw := List.mem_of_getElem? (show (recsOf pw)[6]? = some (fnr 14) by kernel_rfl)
theorem fs_inter_nets (G : RootOk r) : FS prog w r 3 "inter_nets" T_inter_nets := by
  refine fs_def (d := fnr 14) (G.recs _ rec_inter_nets) (by kernel_rfl) ?_ (by kernel_rfl) (by kernel_rfl) (by kernel_rfl) (by kernel_rfl) ?_
  · intro us pm cd doc hl
    obtain ⟨u0, u1, u2, u3, u4, rfl⟩ := len5 hl
    kernel_rfl
  · intro base pm cd doc L a C O
    refine ss_cons ?_ ?_
    · refine ss1_assign _ _ ?_ ?_ ?_
      · exact (bind_local C (x := "found") (by rfl))
      · exact (se_dict0 (.dT none []) (.inr (.inr rfl)) _)
      · rfl
    · refine ss_cons ?_ ?_
      · refine ss1_for _ (se_call C (x := "counting_rows") ⟨_, G.recs _ rec_counting_rows, rfl⟩ (by rfl) (by rfl) ((fs_counting_rows G).mono (by decide)) (sa_cons (se_local C "rows" _ (by rfl) (by rfl)) (sa_cons (se_glob C "SUMMARY_NET" _ 3 (by rfl) (by rfl) G.g_SUMMARY_NET) (sa_cons (se_local C "routers" _ (by rfl) (by rfl)) (sa_cons (se_local C "own" _ (by rfl) (by rfl)) sa_nil (starEach_ns rfl)) (starEach_ns rfl)) (starEach_ns rfl)) (starEach_ns rfl)) (starEach_ns rfl)) (target_tuple _ _ (.cons (bind_local C (x := "ls_id") (by rfl)) (.cons (bind_local C (x := "body") (by rfl)) (.cons (bind_local C (x := "entry") (by rfl)) .nil)))) ?_ (by intro _; rfl)
        · refine ss_cons ?_ ?_
          · refine ss1_assign _ _ ?_ ?_ ?_
            · exact (bind_local C (x := "prefix") (by rfl))
            · exact (se_call C (x := "prefix_at") ⟨_, G.recs _ rec_prefix_at, rfl⟩ (by rfl) (by rfl) ((fs_prefix_at G).mono (by decide)) (sa_cons (se_local C "ls_id" _ (by rfl) (by rfl)) (sa_cons (se_item _ (se_local C "body" _ (by rfl) (by rfl)) (se_int 1 _ _) (by intro _ _; rfl)) (sa_cons (se_local C "bits" _ (by rfl) (by rfl)) sa_nil (starEach_ns rfl)) (starEach_ns rfl)) (starEach_ns rfl)) (starEach_ns rfl))
            · rfl
          · refine ss_one ?_
            refine ss1_if _ (sb_cmp .NotIn _ _ (se_local C "prefix" _ (by rfl) (by rfl)) (se_local C "ranges" _ (by rfl) (by rfl)) (by rfl)) ?_ ?_
            · refine ss_one ?_
              exact ss1_expr _ (se_call C (x := "put_best") ⟨_, G.recs _ rec_put_best, rfl⟩ (by rfl) (by rfl) ((fs_put_best G).mono (by decide)) (sa_cons (se_local C "found" _ (by rfl) (by rfl)) (sa_cons (se_local C "prefix" _ (by rfl) (by rfl)) (sa_cons (se_bin .Add _ (se_item _ (se_local C "entry" _ (by rfl) (by rfl)) (se_int 0 _ _) (by intro _ _; rfl)) (se_item _ (se_local C "body" _ (by rfl) (by rfl)) (se_int 2 _ _) (by intro _ _; rfl))) (sa_cons (se_item _ (se_local C "entry" _ (by rfl) (by rfl)) (se_int 1 _ _) (by intro _ _; rfl)) sa_nil (starEach_ns rfl)) (starEach_ns rfl)) (starEach_ns rfl)) (starEach_ns rfl)) (starEach_ns rfl)) (by rfl) (by rfl)
            · exact ss_nil
      · refine ss_one ?_
        exact ss1_ret _ (se_local C "found" _ (by rfl) (by rfl))

theorem rec_range_of : fnr 16 ∈ recsOf pw := List.mem_of_getElem? (show (recsOf pw)[7]? = some (fnr 16) by kernel_rfl)
theorem fs_range_of (G : RootOk r) : FS prog w r 4 "range_of" T_range_of := by
  refine fs_def (d := fnr 16) (G.recs _ rec_range_of) (by kernel_rfl) ?_ (by kernel_rfl) (by kernel_rfl) (by kernel_rfl) (by kernel_rfl) ?_
  · intro us pm cd doc hl
    obtain ⟨u0, u1, u2, rfl⟩ := len3 hl
    kernel_rfl
  · intro base pm cd doc L a C O
    refine ss_cons ?_ ?_
    · refine ss1_assign _ _ ?_ ?_ ?_
      · exact (bind_local C (x := "found") (by rfl))
      · exact (se_none _ _)
      · rfl
    · refine ss_cons ?_ ?_
      · refine ss1_for _ (se_local C "ranges" _ (by rfl) (by rfl)) (target_name _ (bind_local C (x := "one") (by rfl))) ?_ (by intro _; rfl)
        · refine ss_one ?_
          refine ss1_if _ (sb_bool _ _ (sb_and_cons (sb_val (se_call C (x := "covers") ⟨_, G.recs _ rec_covers, rfl⟩ (by rfl) (by rfl) ((fs_covers G).mono (by decide)) (sa_cons (se_item _ (se_local C "one" _ (by rfl) (by rfl)) (se_int 0 _ _) (by intro _ _; rfl)) (sa_cons (se_local C "prefix" _ (by rfl) (by rfl)) (sa_cons (se_local C "bits" _ (by rfl) (by rfl)) sa_nil (starEach_ns rfl)) (starEach_ns rfl)) (starEach_ns rfl)) (starEach_ns rfl)) (by intro _; rfl)) (sb_and_cons (sb_bool _ _ (sb_or_cons (sb_cmp .Is _ _ (se_local C "found" _ (by rfl) (by rfl)) (se_none _ _) (by rfl)) (sb_or_cons (sb_cmp .Gt _ _ (se_item _ (se_item _ (se_local C "one" _ (by rfl) (by rfl)) (se_int 0 _ _) (by intro _ _; rfl)) (se_int 1 _ _) (by intro _ _; rfl)) (se_item _ (se_item _ (se_local C "found" _ (by rfl) (by rfl)) (se_int 0 _ _) (by intro _ _; rfl)) (se_int 1 _ _) (by intro _ _; rfl)) (by rfl)) sb_or_nil))) sb_and_nil))) ?_ ?_
          · refine ss_one ?_
            refine ss1_assign _ _ ?_ ?_ ?_
            · exact (bind_local C (x := "found") (by rfl))
            · exact (se_local C "one" _ (by rfl) (by rfl))
            · rfl
          · exact ss_nil
      · refine ss_one ?_
        exact ss1_ret _ (se_local C "found" _ (by rfl) (by rfl))

theorem rec_active_ranges : fnr 17 ∈ recsOf pw := List.mem_of_getElem? (show (recsOf pw)[8]? = some (fnr 17) by kernel_rfl)
theorem fs_active_ranges (G : RootOk r) : FS prog w r 5 "active_ranges" T_active_ranges := by
  refine fs_def (d := fnr 17) (G.recs _ rec_active_ranges) (by kernel_rfl) ?_ (by kernel_rfl) (by kernel_rfl) (by kernel_rfl) (by kernel_rfl) ?_
  · intro us pm cd doc hl
    obtain ⟨u0, u1, u2, rfl⟩ := len3 hl
    kernel_rfl
  · intro base pm cd doc L a C O
    refine ss_cons ?_ ?_
    · refine ss1_assign _ _ ?_ ?_ ?_
      · exact (bind_local C (x := "found") (by rfl))
      · exact (se_dict0 (.dT none []) (.inr (.inr rfl)) _)
      · rfl
    · refine ss_cons ?_ ?_
      · refine ss1_for _ (se_local C "routes" _ (by rfl) (by rfl)) (target_name _ (bind_local C (x := "route") (by rfl))) ?_ (by intro _; rfl)
        · refine ss_cons ?_ ?_
          · refine ss1_assign _ _ ?_ ?_ ?_
            · exact (bind_local C (x := "one") (by rfl))
            · exact (se_call C (x := "range_of") ⟨_, G.recs _ rec_range_of, rfl⟩ (by rfl) (by rfl) ((fs_range_of G).mono (by decide)) (sa_cons (se_item _ (se_local C "route" _ (by rfl) (by rfl)) (se_int 0 _ _) (by intro _ _; rfl)) (sa_cons (se_local C "ranges" _ (by rfl) (by rfl)) (sa_cons (se_local C "bits" _ (by rfl) (by rfl)) sa_nil (starEach_ns rfl)) (starEach_ns rfl)) (starEach_ns rfl)) (starEach_ns rfl))
            · rfl
          · refine ss_one ?_
            refine ss1_if _ (sb_cmp .IsNot _ _ (se_local C "one" _ (by rfl) (by rfl)) (se_none _ _) (by rfl)) ?_ ?_
            · refine ss_one ?_
              exact ss1_set _ _ (se_bool true _ _) (se_local C "found" _ (by rfl) (by rfl)) (se_item _ (se_local C "one" _ (by rfl) (by rfl)) (se_int 0 _ _) (by intro _ _; rfl)) (by rfl)
            · exact ss_nil
      · refine ss_one ?_
        exact ss1_ret _ (se_callB C (loads_blt C (x := "sorted") (by rfl) (by rfl) G.m_sorted G.b_sorted) sn_sorted (sa_cons (se_local C "found" _ (by rfl) (by rfl)) sa_nil (starEach_ns rfl)) (starEach_ns rfl) (by rfl))

theorem rec_condensed_nets : fnr 18 ∈ recsOf pw := List.mem_of_getElem? (show (recsOf pw)[9]? = some (fnr 18) by kernel_rfl)
theorem fs_condensed_nets (G : RootOk r) : FS prog w r 5 "condensed_nets" T_condensed_nets := by
  refine fs_def (d := fnr 18) (G.recs _ rec_condensed_nets) (by kernel_rfl) ?_ (by kernel_rfl) (by kernel_rfl) (by kernel_rfl) (by kernel_rfl) ?_
  · intro us pm cd doc hl
    obtain ⟨u0, u1, u2, rfl⟩ := len3 hl
    kernel_rfl
  · intro base pm cd doc L a C O
    refine ss_cons ?_ ?_
    · refine ss1_assign _ _ ?_ ?_ ?_
      · exact (bind_local C (x := "found") (by rfl))
      · exact (se_dict0 (.dT none []) (.inr (.inr rfl)) _)
      · rfl
    · refine ss_cons ?_ ?_
      · refine ss1_for _ (se_local C "routes" _ (by rfl) (by rfl)) (target_name _ (bind_local C (x := "route") (by rfl))) ?_ (by intro _; rfl)
        · refine ss_cons ?_ ?_
          · refine ss1_assign _ _ ?_ ?_ ?_
            · exact (bind_local C (x := "one") (by rfl))
            · exact (se_call C (x := "range_of") ⟨_, G.recs _ rec_range_of, rfl⟩ (by rfl) (by rfl) ((fs_range_of G).mono (by decide)) (sa_cons (se_item _ (se_local C "route" _ (by rfl) (by rfl)) (se_int 0 _ _) (by intro _ _; rfl)) (sa_cons (se_local C "ranges" _ (by rfl) (by rfl)) (sa_cons (se_local C "bits" _ (by rfl) (by rfl)) sa_nil (starEach_ns rfl)) (starEach_ns rfl)) (starEach_ns rfl)) (starEach_ns rfl))
            · rfl
          · refine ss_one ?_
            refine ss1_if _ (sb_cmp .Is _ _ (se_local C "one" _ (by rfl) (by rfl)) (se_none _ _) (by rfl)) ?_ ?_
            · refine ss_one ?_
              exact ss1_set _ _ (se_callB C (loads_blt C (x := "max") (by rfl) (by rfl) G.m_max G.b_max) sn_max (sa_cons (se_item _ (se_local C "route" _ (by rfl) (by rfl)) (se_int 2 _ _) (by intro _ _; rfl)) (sa_cons (se_meth (T := "dict") (id := "dict.get") (by rfl) (by rfl) (by rfl) PySem.F.plainAttrs_dict PySem.F.slot_dict_get PySem.F.type_dict_get (rc := recvD) (fun R rv h => rcv_dict R rv h) (se_local C "found" _ (by rfl) (by rfl)) (sa_cons (se_item _ (se_local C "route" _ (by rfl) (by rfl)) (se_int 0 _ _) (by intro _ _; rfl)) (sa_cons (se_int 0 _ _) sa_nil (starEach_ns rfl)) (starEach_ns rfl)) sn_get2 (starEach_ns rfl) (by rfl)) sa_nil (starEach_ns rfl)) (starEach_ns rfl)) (starEach_ns rfl) (by rfl)) (se_local C "found" _ (by rfl) (by rfl)) (se_item _ (se_local C "route" _ (by rfl) (by rfl)) (se_int 0 _ _) (by intro _ _; rfl)) (by rfl)
            · refine ss_one ?_
              refine ss1_if _ (sb_val (se_item _ (se_local C "one" _ (by rfl) (by rfl)) (se_int 1 _ _) (by intro _ _; rfl)) (by intro _; rfl)) ?_ ?_
              · refine ss_one ?_
                exact ss1_set _ _ (se_callB C (loads_blt C (x := "max") (by rfl) (by rfl) G.m_max G.b_max) sn_max (sa_cons (se_item _ (se_local C "route" _ (by rfl) (by rfl)) (se_int 2 _ _) (by intro _ _; rfl)) (sa_cons (se_meth (T := "dict") (id := "dict.get") (by rfl) (by rfl) (by rfl) PySem.F.plainAttrs_dict PySem.F.slot_dict_get PySem.F.type_dict_get (rc := recvD) (fun R rv h => rcv_dict R rv h) (se_local C "found" _ (by rfl) (by rfl)) (sa_cons (se_item _ (se_local C "one" _ (by rfl) (by rfl)) (se_int 0 _ _) (by intro _ _; rfl)) (sa_cons (se_int 0 _ _) sa_nil (starEach_ns rfl)) (starEach_ns rfl)) sn_get2 (starEach_ns rfl) (by rfl)) sa_nil (starEach_ns rfl)) (starEach_ns rfl)) (starEach_ns rfl) (by rfl)) (se_local C "found" _ (by rfl) (by rfl)) (se_item _ (se_local C "one" _ (by rfl) (by rfl)) (se_int 0 _ _) (by intro _ _; rfl)) (by rfl)
              · exact ss_nil
      · refine ss_one ?_
        exact ss1_ret _ (se_local C "found" _ (by rfl) (by rfl))

theorem rec_nets_for : fnr 19 ∈ recsOf pw := List.mem_of_getElem? (show (recsOf pw)[10]? = some (fnr 19) by kernel_rfl)
theorem fs_nets_for (G : RootOk r) : FS prog w r 6 "nets_for" T_nets_for := by
  refine fs_def (d := fnr 19) (G.recs _ rec_nets_for) (by kernel_rfl) ?_ (by kernel_rfl) (by kernel_rfl) (by kernel_rfl) (by kernel_rfl) ?_
  · intro us pm cd doc hl
    obtain ⟨u0, u1, u2, u3, rfl⟩ := len4 hl
    kernel_rfl
  · intro base pm cd doc L a C O
    refine ss_cons ?_ ?_
    · exact ss1_assignW3 _ _ _ (bind_local C (x := "found") (by rfl)) (bind_local C (x := "own") (by rfl)) (bind_local C (x := "lots") (by rfl)) (by decide) (by decide) (by decide) (se_tup _ _ (sl_cons _ (se_dict0 (.dT none []) (.inr (.inr rfl)) _) (sl_cons _ (se_dict0 (.dT none []) (.inr (.inr rfl)) _) (sl_cons _ (se_dict0 (.dI []) (.inl rfl) _) (sl_nil _) (starEach_ns rfl)) (starEach_ns rfl)) (starEach_ns rfl))) (by rfl) (by rfl)
    · refine ss_cons ?_ ?_
      · refine ss1_for _ (se_callB C (loads_blt C (x := "sorted") (by rfl) (by rfl) G.m_sorted G.b_sorted) sn_sorted (sa_cons (se_local C "table" _ (by rfl) (by rfl)) sa_nil (starEach_ns rfl)) (starEach_ns rfl) (by rfl)) (target_name _ (bind_local C (x := "prefix") (by rfl))) ?_ (by intro _; rfl)
        · refine ss_cons ?_ ?_
          · refine ss1_assign _ _ ?_ ?_ ?_
            · exact (bind_local C (x := "route") (by rfl))
            · exact (se_item _ (se_local C "table" _ (by rfl) (by rfl)) (se_local C "prefix" _ (by rfl) (by rfl)) (by intro _ _; rfl))
            · rfl
          · refine ss_cons ?_ ?_
            · refine ss1_if _ (sb_bool _ _ (sb_or_cons (sb_cmp .Eq _ _ (se_item _ (se_local C "route" _ (by rfl) (by rfl)) (se_int 4 _ _) (by intro _ _; rfl)) (se_local C "area" _ (by rfl) (by rfl)) (by rfl)) (sb_or_cons (sb_cmp .GtE _ _ (se_item _ (se_local C "route" _ (by rfl) (by rfl)) (se_int 2 _ _) (by intro _ _; rfl)) (se_glob C "LS_INFINITY" _ 16777215 (by rfl) (by rfl) G.g_LS_INFINITY) (by rfl)) sb_or_nil))) ?_ ?_
              · refine ss_one ?_
                exact ss1_cont _
              · exact ss_nil
            · refine ss_one ?_
              refine ss1_if _ (sb_cmp .Eq _ _ (se_item _ (se_local C "route" _ (by rfl) (by rfl)) (se_int 1 _ _) (by intro _ _; rfl)) (se_str "intra" _ _) (by rfl)) ?_ ?_
              · refine ss_one ?_
                exact ss1_expr _ (se_meth (T := "list") (id := "list.append") (by rfl) (by rfl) (by rfl) PySem.F.plainAttrs_list PySem.F.slot_list_append PySem.F.type_list_append (rc := recvL) (fun R rv h => rcv_list R rv h) (se_meth (T := "dict") (id := "dict.setdefault") (by rfl) (by rfl) (by rfl) PySem.F.plainAttrs_dict PySem.F.slot_dict_setdefault PySem.F.type_dict_setdefault (rc := recvD) (fun R rv h => rcv_dict R rv h) (se_local C "lots" _ (by rfl) (by rfl)) (sa_cons (se_item _ (se_local C "route" _ (by rfl) (by rfl)) (se_int 4 _ _) (by intro _ _; rfl)) (sa_cons (se_list _ (sl_nil _)) sa_nil (starEach_ns rfl)) (starEach_ns rfl)) sn_setdef (starEach_ns rfl) (by rfl)) (sa_cons (se_local C "route" _ (by rfl) (by rfl)) sa_nil (starEach_ns rfl)) sn_append (starEach_ns rfl) (by rfl)) (by rfl) (by rfl)
              · refine ss_one ?_
                refine ss1_if _ (sb_bool _ _ (sb_and_cons (sb_cmp .Eq _ _ (se_item _ (se_local C "route" _ (by rfl) (by rfl)) (se_int 1 _ _) (by intro _ _; rfl)) (se_str "inter" _ _) (by rfl)) (sb_and_cons (sb_cmp .NotEq _ _ (se_local C "area" _ (by rfl) (by rfl)) (se_glob C "BACKBONE" _ 0 (by rfl) (by rfl) G.g_BACKBONE) (by rfl)) sb_and_nil))) ?_ ?_
                · refine ss_one ?_
                  exact ss1_set _ _ (se_item _ (se_local C "route" _ (by rfl) (by rfl)) (se_int 2 _ _) (by intro _ _; rfl)) (se_local C "found" _ (by rfl) (by rfl)) (se_local C "prefix" _ (by rfl) (by rfl)) (by rfl)
                · exact ss_nil
      · refine ss_cons ?_ ?_
        · refine ss1_for _ (se_callB C (loads_blt C (x := "sorted") (by rfl) (by rfl) G.m_sorted G.b_sorted) sn_sorted (sa_cons (se_local C "lots" _ (by rfl) (by rfl)) sa_nil (starEach_ns rfl)) (starEach_ns rfl) (by rfl)) (target_name _ (bind_local C (x := "other") (by rfl))) ?_ (by intro _; rfl)
          · refine ss_cons ?_ ?_
            · refine ss1_assign _ _ ?_ ?_ ?_
              · exact (bind_local C (x := "told") (by rfl))
              · exact (se_call C (x := "condensed_nets") ⟨_, G.recs _ rec_condensed_nets, rfl⟩ (by rfl) (by rfl) ((fs_condensed_nets G).mono (by decide)) (sa_cons (se_item _ (se_local C "lots" _ (by rfl) (by rfl)) (se_local C "other" _ (by rfl) (by rfl)) (by intro _ _; rfl)) (sa_cons (se_item _ (se_item _ (se_local C "areas" _ (by rfl) (by rfl)) (se_local C "other" _ (by rfl) (by rfl)) (by intro _ _; rfl)) (se_str "ranges" _ _) (by intro _ _; rfl)) (sa_cons (se_local C "bits" _ (by rfl) (by rfl)) sa_nil (starEach_ns rfl)) (starEach_ns rfl)) (starEach_ns rfl)) (starEach_ns rfl))
              · rfl
            · refine ss_one ?_
              refine ss1_for _ (se_local C "told" _ (by rfl) (by rfl)) (target_name _ (bind_local C (x := "prefix") (by rfl))) ?_ (by intro _; rfl)
              · refine ss_one ?_
                exact ss1_set _ _ (se_callB C (loads_blt C (x := "min") (by rfl) (by rfl) G.m_min G.b_min) sn_min (sa_cons (se_item _ (se_local C "told" _ (by rfl) (by rfl)) (se_local C "prefix" _ (by rfl) (by rfl)) (by intro _ _; rfl)) (sa_cons (se_meth (T := "dict") (id := "dict.get") (by rfl) (by rfl) (by rfl) PySem.F.plainAttrs_dict PySem.F.slot_dict_get PySem.F.type_dict_get (rc := recvD) (fun R rv h => rcv_dict R rv h) (se_local C "own" _ (by rfl) (by rfl)) (sa_cons (se_local C "prefix" _ (by rfl) (by rfl)) (sa_cons (se_glob C "LS_INFINITY" _ 16777215 (by rfl) (by rfl) G.g_LS_INFINITY) sa_nil (starEach_ns rfl)) (starEach_ns rfl)) sn_get2 (starEach_ns rfl) (by rfl)) sa_nil (starEach_ns rfl)) (starEach_ns rfl)) (starEach_ns rfl) (by rfl)) (se_local C "own" _ (by rfl) (by rfl)) (se_local C "prefix" _ (by rfl) (by rfl)) (by rfl)
        · refine ss_cons ?_ ?_
          · exact ss1_expr _ (se_meth (T := "dict") (id := "dict.update") (by rfl) (by rfl) (by rfl) PySem.F.plainAttrs_dict PySem.F.slot_dict_update PySem.F.type_dict_update (rc := recvD) (fun R rv h => rcv_dict R rv h) (se_local C "found" _ (by rfl) (by rfl)) (sa_cons (se_local C "own" _ (by rfl) (by rfl)) sa_nil (starEach_ns rfl)) sn_update (starEach_ns rfl) (by rfl)) (by rfl) (by rfl)
          · refine ss_one ?_
            exact ss1_ret _ (se_local C "found" _ (by rfl) (by rfl))

end
end Mine
end

section -- P2
set_option autoImplicit false
set_option linter.unusedVariables false
set_option maxRecDepth 100000
set_option maxHeartbeats 2000000
namespace Mine
section
variable {prog : Program} {w : World} {r : RootD}

theorem rec_routers_for : fnr 20 ∈ recsOf pw := List.mem_of_getElem? (show (recsOf pw)[11]? = some (fnr 20) by kernel_rfl)
theorem fs_routers_for (G : RootOk r) : FS prog w r 1 "routers_for" T_routers_for := by
  refine fs_def (d := fnr 20) (G.recs _ rec_routers_for) (by kernel_rfl) ?_ (by kernel_rfl) (by kernel_rfl) (by kernel_rfl) (by kernel_rfl) ?_
  · intro us pm cd doc hl
    obtain ⟨u0, u1, rfl⟩ := len2 hl
    kernel_rfl
  · intro base pm cd doc L a C O
    refine ss_cons ?_ ?_
    · refine ss1_assign _ _ ?_ ?_ ?_
      · exact (bind_local C (x := "found") (by rfl))
      · exact (se_dict0 (.dI []) (.inl rfl) _)
      · rfl
    · refine ss_cons ?_ ?_
      · refine ss1_for _ (se_callB C (loads_blt C (x := "sorted") (by rfl) (by rfl) G.m_sorted G.b_sorted) sn_sorted (sa_cons (se_local C "leading" _ (by rfl) (by rfl)) sa_nil (starEach_ns rfl)) (starEach_ns rfl) (by rfl)) (target_name _ (bind_local C (x := "number") (by rfl))) ?_ (by intro _; rfl)
        · refine ss_cons ?_ ?_
          · exact ss1_assignT _ _ _ (.cons (bind_local C (x := "cost") (by rfl)) (.cons (bind_local C (x := "hops") (by rfl)) (.cons (bind_local C (x := "home") (by rfl)) (.cons (bind_local C (x := "is_intra") (by rfl)) .nil)))) (se_item _ (se_local C "leading" _ (by rfl) (by rfl)) (se_local C "number" _ (by rfl) (by rfl)) (by intro _ _; rfl)) (by rfl) (by rfl)
          · refine ss_one ?_
            refine ss1_if _ (sb_bool _ _ (sb_and_cons (sb_cmp .NotEq _ _ (se_local C "home" _ (by rfl) (by rfl)) (se_local C "area" _ (by rfl) (by rfl)) (by rfl)) (sb_and_cons (sb_cmp .Lt _ _ (se_local C "cost" _ (by rfl) (by rfl)) (se_glob C "LS_INFINITY" _ 16777215 (by rfl) (by rfl) G.g_LS_INFINITY) (by rfl)) (sb_and_cons (sb_bool _ _ (sb_or_cons (sb_val (se_local C "is_intra" _ (by rfl) (by rfl)) (by intro _; rfl)) (sb_or_cons (sb_cmp .NotEq _ _ (se_local C "area" _ (by rfl) (by rfl)) (se_glob C "BACKBONE" _ 0 (by rfl) (by rfl) G.g_BACKBONE) (by rfl)) sb_or_nil))) sb_and_nil)))) ?_ ?_
            · refine ss_one ?_
              exact ss1_set _ _ (se_local C "cost" _ (by rfl) (by rfl)) (se_local C "found" _ (by rfl) (by rfl)) (se_local C "number" _ (by rfl) (by rfl)) (by rfl)
            · exact ss_nil
      · refine ss_one ?_
        exact ss1_ret _ (se_local C "found" _ (by rfl) (by rfl))

theorem rec_id_for : fnr 21 ∈ recsOf pw := List.mem_of_getElem? (show (recsOf pw)[12]? = some (fnr 21) by kernel_rfl)
theorem fs_id_for (G : RootOk r) : FS prog w r 2 "id_for" T_id_for := by
  refine fs_def (d := fnr 21) (G.recs _ rec_id_for) (by kernel_rfl) ?_ (by kernel_rfl) (by kernel_rfl) (by kernel_rfl) (by kernel_rfl) ?_
  · intro us pm cd doc hl
    obtain ⟨u0, u1, u2, u3, rfl⟩ := len4 hl
    kernel_rfl
  · intro base pm cd doc L a C O
    refine ss_cons ?_ ?_
    · refine ss1_assign _ _ ?_ ?_ ?_
      · exact (bind_local C (x := "last") (by rfl))
      · exact (se_bin .BitOr _ (se_item _ (se_cell C "prefix" _ (by rfl) (by rfl)) (se_int 0 _ _) (by intro _ _; rfl)) (se_bin .Sub _ (se_bin .Sub _ (se_bin .LShift _ (se_int 1 _ _) (se_local C "bits" _ (by rfl) (by rfl))) (se_int 1 _ _)) (se_call C (x := "mask_of") ⟨_, G.recs _ rec_mask_of, rfl⟩ (by rfl) (by rfl) ((fs_mask_of G).mono (by decide)) (sa_cons (se_item _ (se_cell C "prefix" _ (by rfl) (by rfl)) (se_int 1 _ _) (by intro _ _; rfl)) (sa_cons (se_local C "bits" _ (by rfl) (by rfl)) sa_nil (starEach_ns rfl)) (starEach_ns rfl)) (starEach_ns rfl))))
      · rfl
    · refine ss_cons ?_ ?_
      · refine ss1_assign _ _ ?_ ?_ ?_
        · exact (bind_local C (x := "is_doubled") (by rfl))
        · exact (se_callB C (loads_blt C (x := "any") (by rfl) (by rfl) G.m_any G.b_any) sn_any (sa_cons (se_listcomp C (cl := [(Str.ofString "prefix", L + 1)]) ["prefix"] (fun _ => rfl) (by rfl) (by rfl) (by decide +kernel) (by decide +kernel) (List.forall_mem_cons.mpr ⟨rfl, List.forall_mem_nil _⟩) (List.forall_mem_cons.mpr ⟨⟨rfl, .inl rfl, fun h => absurd (show some NameKind.cell = some NameKind.local from h) (by decide)⟩, List.forall_mem_nil _⟩) (se_local C "nets" _ (by rfl) (by rfl)) (fun C' base c => ⟨target_name _ (bind_local c (x := "other") (by rfl)), tests_nil, (se_and _ (se_cmp .Eq _ (se_item _ (se_local c "other" _ (by rfl) (by rfl)) (se_int 0 _ _) (by intro _ _; rfl)) (se_item _ (se_cell c "prefix" _ (by rfl) (by rfl)) (se_int 0 _ _) (by intro _ _; rfl)) (by rfl)) (se_bool1 _ (se_cmp .Lt _ (se_item _ (se_local c "other" _ (by rfl) (by rfl)) (se_int 1 _ _) (by intro _ _; rfl)) (se_item _ (se_cell c "prefix" _ (by rfl) (by rfl)) (se_int 1 _ _) (by intro _ _; rfl)) (by rfl))))⟩)) sa_nil (starEach_ns rfl)) (starEach_ns rfl) (by rfl))
        · rfl
      · refine ss_cons ?_ ?_
        · refine ss1_for _ (se_if _ (sb_val (se_local C "is_doubled" _ (by rfl) (by rfl)) (by intro _; rfl)) (se_tup _ _ (sl_cons _ (se_local C "last" _ (by rfl) (by rfl)) (sl_cons _ (se_item _ (se_cell C "prefix" _ (by rfl) (by rfl)) (se_int 0 _ _) (by intro _ _; rfl)) (sl_nil _) (starEach_ns rfl)) (starEach_ns rfl))) (se_tup _ _ (sl_cons _ (se_item _ (se_cell C "prefix" _ (by rfl) (by rfl)) (se_int 0 _ _) (by intro _ _; rfl)) (sl_cons _ (se_local C "last" _ (by rfl) (by rfl)) (sl_nil _) (starEach_ns rfl)) (starEach_ns rfl)))) (target_name _ (bind_local C (x := "number") (by rfl))) ?_ (by intro _; rfl)
          · refine ss_one ?_
            refine ss1_if _ (sb_cmp .NotIn _ _ (se_local C "number" _ (by rfl) (by rfl)) (se_local C "taken" _ (by rfl) (by rfl)) (by rfl)) ?_ ?_
            · refine ss_one ?_
              exact ss1_ret _ (se_local C "number" _ (by rfl) (by rfl))
            · exact ss_nil
        · refine ss_cons ?_ ?_
          · refine ss1_assign _ _ ?_ ?_ ?_
            · exact (bind_local C (x := "number") (by rfl))
            · exact (se_item _ (se_cell C "prefix" _ (by rfl) (by rfl)) (se_int 0 _ _) (by intro _ _; rfl))
            · rfl
          · refine ss_cons ?_ ?_
            · exact ss1_false _
            · refine ss_one ?_
              exact ss1_ret _ (se_if _ (sb_cmp .LtE _ _ (se_local C "number" _ (by rfl) (by rfl)) (se_local C "last" _ (by rfl) (by rfl)) (by rfl)) (se_local C "number" _ (by rfl) (by rfl)) (se_none _ _))

theorem rec_numbered_nets : fnr 22 ∈ recsOf pw := List.mem_of_getElem? (show (recsOf pw)[13]? = some (fnr 22) by kernel_rfl)
theorem fs_numbered_nets (G : RootOk r) : FS prog w r 3 "numbered_nets" T_numbered_nets := by
  refine fs_def (d := fnr 22) (G.recs _ rec_numbered_nets) (by kernel_rfl) ?_ (by kernel_rfl) (by kernel_rfl) (by kernel_rfl) (by kernel_rfl) ?_
  · intro us pm cd doc hl
    obtain ⟨u0, u1, rfl⟩ := len2 hl
    kernel_rfl
  · intro base pm cd doc L a C O
    refine ss_cons ?_ ?_
    · exact ss1_assignW2 _ _ _ (bind_local C (x := "found") (by rfl)) (bind_local C (x := "taken") (by rfl)) (by decide) (se_tup _ _ (sl_cons _ (se_dict0 (.dT none []) (.inr (.inr rfl)) _) (sl_cons _ (se_dict0 (.dI []) (.inl rfl) _) (sl_nil _) (starEach_ns rfl)) (starEach_ns rfl))) (by rfl) (by rfl)
    · refine ss_cons ?_ ?_
      · refine ss1_for _ (se_sortedR C (loads_blt C (x := "sorted") (by rfl) (by rfl) G.m_sorted G.b_sorted) (se_listcomp C (cl := []) [] (fun _ => rfl) (by rfl) (by rfl) (by decide +kernel) (by decide +kernel) (List.forall_mem_nil _) (List.forall_mem_nil _) (se_local C "nets" _ (by rfl) (by rfl)) (fun C' base c => ⟨target_name _ (bind_local c (x := "prefix") (by rfl)), tests_nil, (se_tup _ _ (sl_cons _ (se_item _ (se_local c "prefix" _ (by rfl) (by rfl)) (se_int 1 _ _) (by intro _ _; rfl)) (sl_cons _ (se_item _ (se_local c "prefix" _ (by rfl) (by rfl)) (se_int 0 _ _) (by intro _ _; rfl)) (sl_nil _) (starEach_ns rfl)) (starEach_ns rfl)))⟩)) (starEach_ns rfl)) (target_tuple _ _ (.cons (bind_local C (x := "length") (by rfl)) (.cons (bind_local C (x := "address") (by rfl)) .nil))) ?_ (by intro _; rfl)
        · refine ss_cons ?_ ?_
          · refine ss1_assign _ _ ?_ ?_ ?_
            · exact (bind_local C (x := "number") (by rfl))
            · exact (se_call C (x := "id_for") ⟨_, G.recs _ rec_id_for, rfl⟩ (by rfl) (by rfl) ((fs_id_for G).mono (by decide)) (sa_cons (se_tup _ _ (sl_cons _ (se_local C "address" _ (by rfl) (by rfl)) (sl_cons _ (se_local C "length" _ (by rfl) (by rfl)) (sl_nil _) (starEach_ns rfl)) (starEach_ns rfl))) (sa_cons (se_local C "nets" _ (by rfl) (by rfl)) (sa_cons (se_local C "taken" _ (by rfl) (by rfl)) (sa_cons (se_local C "bits" _ (by rfl) (by rfl)) sa_nil (starEach_ns rfl)) (starEach_ns rfl)) (starEach_ns rfl)) (starEach_ns rfl)) (starEach_ns rfl))
            · rfl
          · refine ss_one ?_
            refine ss1_if _ (sb_cmp .IsNot _ _ (se_local C "number" _ (by rfl) (by rfl)) (se_none _ _) (by rfl)) ?_ ?_
            · refine ss_cons ?_ ?_
              · exact ss1_set _ _ (se_bool true _ _) (se_local C "taken" _ (by rfl) (by rfl)) (se_local C "number" _ (by rfl) (by rfl)) (by rfl)
              · refine ss_one ?_
                exact ss1_set _ _ (se_local C "number" _ (by rfl) (by rfl)) (se_local C "found" _ (by rfl) (by rfl)) (se_tup _ _ (sl_cons _ (se_local C "address" _ (by rfl) (by rfl)) (sl_cons _ (se_local C "length" _ (by rfl) (by rfl)) (sl_nil _) (starEach_ns rfl)) (starEach_ns rfl))) (by rfl)
            · exact ss_nil
      · refine ss_one ?_
        exact ss1_ret _ (se_local C "found" _ (by rfl) (by rfl))

theorem rec_summaries_for : fnr 23 ∈ recsOf pw := List.mem_of_getElem? (show (recsOf pw)[14]? = some (fnr 23) by kernel_rfl)
theorem fs_summaries_for (G : RootOk r) : FS prog w r 7 "summaries_for" T_summaries_for := by
  refine fs_def (d := fnr 23) (G.recs _ rec_summaries_for) (by kernel_rfl) ?_ (by kernel_rfl) (by kernel_rfl) (by kernel_rfl) (by kernel_rfl) ?_
  · intro us pm cd doc hl
    obtain ⟨u0, u1, u2, u3, u4, rfl⟩ := len5 hl
    kernel_rfl
  · intro base pm cd doc L a C O
    refine ss_cons ?_ ?_
    · exact ss1_assignW3 _ _ _ (bind_local C (x := "config") (by rfl)) (bind_local C (x := "found") (by rfl)) (bind_local C (x := "nets") (by rfl)) (by decide) (by decide) (by decide) (se_tup _ _ (sl_cons _ (se_item _ (se_local C "areas" _ (by rfl) (by rfl)) (se_local C "area" _ (by rfl) (by rfl)) (by intro _ _; rfl)) (sl_cons _ (se_dict0 (.dT none []) (.inr (.inr rfl)) _) (sl_cons _ (se_dict0 (.dT none []) (.inr (.inr rfl)) _) (sl_nil _) (starEach_ns rfl)) (starEach_ns rfl)) (starEach_ns rfl))) (by rfl) (by rfl)
    · refine ss_cons ?_ ?_
      · refine ss1_if _ (sb_bool _ _ (sb_or_cons (sb_not _ _ (sb_val (se_item _ (se_local C "config" _ (by rfl) (by rfl)) (se_str "stub" _ _) (by intro _ _; rfl)) (by intro _; rfl))) (sb_or_cons (sb_val (se_meth (T := "dict") (id := "dict.get") (by rfl) (by rfl) (by rfl) PySem.F.plainAttrs_dict PySem.F.slot_dict_get PySem.F.type_dict_get (rc := recvD) (fun R rv h => rcv_dict R rv h) (se_local C "config" _ (by rfl) (by rfl)) (sa_cons (se_str "told" _ _) (sa_cons (se_bool true _ _) sa_nil (starEach_ns rfl)) (starEach_ns rfl)) sn_get2 (starEach_ns rfl) (by rfl)) (by intro _; rfl)) sb_or_nil))) ?_ ?_
        · refine ss_one ?_
          refine ss1_assign _ _ ?_ ?_ ?_
          · exact (bind_local C (x := "nets") (by rfl))
          · exact (se_call C (x := "nets_for") ⟨_, G.recs _ rec_nets_for, rfl⟩ (by rfl) (by rfl) ((fs_nets_for G).mono (by decide)) (sa_cons (se_local C "area" _ (by rfl) (by rfl)) (sa_cons (se_local C "areas" _ (by rfl) (by rfl)) (sa_cons (se_local C "table" _ (by rfl) (by rfl)) (sa_cons (se_local C "bits" _ (by rfl) (by rfl)) sa_nil (starEach_ns rfl)) (starEach_ns rfl)) (starEach_ns rfl)) (starEach_ns rfl)) (starEach_ns rfl))
          · rfl
        · exact ss_nil
      · refine ss_cons ?_ ?_
        · refine ss1_if _ (sb_val (se_item _ (se_local C "config" _ (by rfl) (by rfl)) (se_str "stub" _ _) (by intro _ _; rfl)) (by intro _; rfl)) ?_ ?_
          · refine ss_one ?_
            exact ss1_set _ _ (se_meth (T := "dict") (id := "dict.get") (by rfl) (by rfl) (by rfl) PySem.F.plainAttrs_dict PySem.F.slot_dict_get PySem.F.type_dict_get (rc := recvD) (fun R rv h => rcv_dict R rv h) (se_local C "config" _ (by rfl) (by rfl)) (sa_cons (se_str "default" _ _) (sa_cons (se_int 1 _ _) sa_nil (starEach_ns rfl)) (starEach_ns rfl)) sn_get2 (starEach_ns rfl) (by rfl)) (se_local C "nets" _ (by rfl) (by rfl)) (se_tup _ _ (sl_cons _ (se_int 0 _ _) (sl_cons _ (se_int 0 _ _) (sl_nil _) (starEach_ns rfl)) (starEach_ns rfl))) (by rfl)
          · exact ss_nil
        · refine ss_cons ?_ ?_
          · refine ss1_assign _ _ ?_ ?_ ?_
            · exact (bind_local C (x := "ids") (by rfl))
            · exact (se_call C (x := "numbered_nets") ⟨_, G.recs _ rec_numbered_nets, rfl⟩ (by rfl) (by rfl) ((fs_numbered_nets G).mono (by decide)) (sa_cons (se_local C "nets" _ (by rfl) (by rfl)) (sa_cons (se_local C "bits" _ (by rfl) (by rfl)) sa_nil (starEach_ns rfl)) (starEach_ns rfl)) (starEach_ns rfl))
            · rfl
          · refine ss_cons ?_ ?_
            · refine ss1_for _ (se_callB C (loads_blt C (x := "sorted") (by rfl) (by rfl) G.m_sorted G.b_sorted) sn_sorted (sa_cons (se_local C "ids" _ (by rfl) (by rfl)) sa_nil (starEach_ns rfl)) (starEach_ns rfl) (by rfl)) (target_name _ (bind_local C (x := "prefix") (by rfl))) ?_ (by intro _; rfl)
              · refine ss_one ?_
                exact ss1_set _ _ (se_tup _ _ (sl_cons _ (se_str "summary" _ _) (sl_cons _ (se_item _ (se_local C "prefix" _ (by rfl) (by rfl)) (se_int 1 _ _) (by intro _ _; rfl)) (sl_cons _ (se_item _ (se_local C "nets" _ (by rfl) (by rfl)) (se_local C "prefix" _ (by rfl) (by rfl)) (by intro _ _; rfl)) (sl_nil _) (starEach_ns rfl)) (starEach_ns rfl)) (starEach_ns rfl))) (se_local C "found" _ (by rfl) (by rfl)) (se_tup _ _ (sl_cons _ (se_glob C "SUMMARY_NET" _ 3 (by rfl) (by rfl) G.g_SUMMARY_NET) (sl_cons _ (se_item _ (se_local C "ids" _ (by rfl) (by rfl)) (se_local C "prefix" _ (by rfl) (by rfl)) (by intro _ _; rfl)) (sl_nil _) (starEach_ns rfl)) (starEach_ns rfl))) (by rfl)
            · refine ss_cons ?_ ?_
              · refine ss1_if _ (sb_not _ _ (sb_val (se_item _ (se_local C "config" _ (by rfl) (by rfl)) (se_str "stub" _ _) (by intro _ _; rfl)) (by intro _; rfl))) ?_ ?_
                · refine ss_cons ?_ ?_
                  · refine ss1_assign _ _ ?_ ?_ ?_
                    · exact (bind_local C (x := "routers") (by rfl))
                    · exact (se_call C (x := "routers_for") ⟨_, G.recs _ rec_routers_for, rfl⟩ (by rfl) (by rfl) ((fs_routers_for G).mono (by decide)) (sa_cons (se_local C "area" _ (by rfl) (by rfl)) (sa_cons (se_local C "leading" _ (by rfl) (by rfl)) sa_nil (starEach_ns rfl)) (starEach_ns rfl)) (starEach_ns rfl))
                    · rfl
                  · refine ss_one ?_
                    refine ss1_for _ (se_callB C (loads_blt C (x := "sorted") (by rfl) (by rfl) G.m_sorted G.b_sorted) sn_sorted (sa_cons (se_local C "routers" _ (by rfl) (by rfl)) sa_nil (starEach_ns rfl)) (starEach_ns rfl) (by rfl)) (target_name _ (bind_local C (x := "number") (by rfl))) ?_ (by intro _; rfl)
                    · refine ss_one ?_
                      exact ss1_set _ _ (se_tup _ _ (sl_cons _ (se_str "summary" _ _) (sl_cons _ (se_int 0 _ _) (sl_cons _ (se_item _ (se_local C "routers" _ (by rfl) (by rfl)) (se_local C "number" _ (by rfl) (by rfl)) (by intro _ _; rfl)) (sl_nil _) (starEach_ns rfl)) (starEach_ns rfl)) (starEach_ns rfl))) (se_local C "found" _ (by rfl) (by rfl)) (se_tup _ _ (sl_cons _ (se_glob C "SUMMARY_ROUTER" _ 4 (by rfl) (by rfl) G.g_SUMMARY_ROUTER) (sl_cons _ (se_local C "number" _ (by rfl) (by rfl)) (sl_nil _) (starEach_ns rfl)) (starEach_ns rfl))) (by rfl)
                · exact ss_nil
              · refine ss_one ?_
                exact ss1_ret _ (se_local C "found" _ (by rfl) (by rfl))

end
end Mine
end

section -- P3
set_option autoImplicit false
set_option linter.unusedVariables false
set_option maxRecDepth 100000
set_option maxHeartbeats 2000000
namespace Mine
section
variable {prog : Program} {w : World} {r : RootD}

theorem rec_law_draw : fnr 25 ∈ recsOf pw := List.mem_of_getElem? (show (recsOf pw)[15]? = some (fnr 25) by kernel_rfl)
theorem fs_law_draw (G : RootOk r) : FS prog w r 1 "_law_draw" T_law_draw := by
  refine fs_def (d := fnr 25) (G.recs _ rec_law_draw) (by kernel_rfl) ?_ (by kernel_rfl) (by kernel_rfl) (by kernel_rfl) (by kernel_rfl) ?_
  · intro us pm cd doc hl
    obtain ⟨u0, u1, rfl⟩ := len2 hl
    kernel_rfl
  · intro base pm cd doc L a C O
    refine ss_cons ?_ ?_
    · refine ss1_assign _ _ ?_ ?_ ?_
      · exact (bind_local C (x := "spot") (by rfl))
      · exact (se_item _ (se_local C "box" _ (by rfl) (by rfl)) (se_int 1 _ _) (by intro _ _; rfl))
      · rfl
    · refine ss_cons ?_ ?_
      · exact ss1_set _ _ (se_bin .Add _ (se_local C "spot" _ (by rfl) (by rfl)) (se_int 1 _ _)) (se_local C "box" _ (by rfl) (by rfl)) (se_int 1 _ _) (by rfl)
      · refine ss_cons ?_ ?_
        · refine ss1_if _ (sb_cmp .Lt _ _ (se_local C "spot" _ (by rfl) (by rfl)) (se_callB C (loads_blt C (x := "len") (by rfl) (by rfl) G.m_len G.b_len) sn_len (sa_cons (se_item _ (se_local C "box" _ (by rfl) (by rfl)) (se_int 0 _ _) (by intro _ _; rfl)) sa_nil (starEach_ns rfl)) (starEach_ns rfl) (by rfl)) (by rfl)) ?_ ?_
          · refine ss_one ?_
            exact ss1_ret _ (se_bin .Mod _ (se_callB C (loads_blt C (x := "abs") (by rfl) (by rfl) G.m_abs G.b_abs) sn_abs (sa_cons (se_item _ (se_item _ (se_local C "box" _ (by rfl) (by rfl)) (se_int 0 _ _) (by intro _ _; rfl)) (se_local C "spot" _ (by rfl) (by rfl)) (by intro _ _; rfl)) sa_nil (starEach_ns rfl)) (starEach_ns rfl) (by rfl)) (se_local C "many" _ (by rfl) (by rfl)))
          · exact ss_nil
        · refine ss_one ?_
          exact ss1_ret _ (se_bin .Mod _ (se_bin .Add _ (se_bin .Add _ (se_bin .Mult _ (se_int 5 _ _) (se_local C "spot" _ (by rfl) (by rfl))) (se_bin .FloorDiv _ (se_bin .Mult _ (se_local C "spot" _ (by rfl) (by rfl)) (se_local C "spot" _ (by rfl) (by rfl))) (se_int 3 _ _))) (se_int 1 _ _)) (se_local C "many" _ (by rfl) (by rfl)))

theorem rec_law_prefix : fnr 26 ∈ recsOf pw := List.mem_of_getElem? (show (recsOf pw)[16]? = some (fnr 26) by kernel_rfl)
theorem fs_law_prefix (G : RootOk r) : FS prog w r 2 "_law_prefix" T_law_prefix := by
  refine fs_def (d := fnr 26) (G.recs _ rec_law_prefix) (by kernel_rfl) ?_ (by kernel_rfl) (by kernel_rfl) (by kernel_rfl) (by kernel_rfl) ?_
  · intro us pm cd doc hl
    obtain ⟨u0, u1, rfl⟩ := len2 hl
    kernel_rfl
  · intro base pm cd doc L a C O
    refine ss_one ?_
    exact ss1_ret _ (se_tup _ _ (sl_cons _ (se_bin .Mult _ (se_call C (x := "_law_draw") ⟨_, G.recs _ rec_law_draw, rfl⟩ (by rfl) (by rfl) ((fs_law_draw G).mono (by decide)) (sa_cons (se_local C "box" _ (by rfl) (by rfl)) (sa_cons (se_bin .Pow _ (se_int 2 _ _) (se_local C "length" _ (by rfl) (by rfl))) sa_nil (starEach_ns rfl)) (starEach_ns rfl)) (starEach_ns rfl)) (se_bin .Pow _ (se_int 2 _ _) (se_bin .Sub _ (se_int 4 _ _) (se_local C "length" _ (by rfl) (by rfl))))) (sl_cons _ (se_local C "length" _ (by rfl) (by rfl)) (sl_nil _) (starEach_ns rfl)) (starEach_ns rfl)))

theorem rec_law_is_in : fnr 27 ∈ recsOf pw := List.mem_of_getElem? (show (recsOf pw)[17]? = some (fnr 27) by kernel_rfl)
theorem fs_law_is_in (G : RootOk r) : FS prog w r 1 "_law_is_in" T_law_is_in := by
  refine fs_def (d := fnr 27) (G.recs _ rec_law_is_in) (by kernel_rfl) ?_ (by kernel_rfl) (by kernel_rfl) (by kernel_rfl) (by kernel_rfl) ?_
  · intro us pm cd doc hl
    obtain ⟨u0, u1, rfl⟩ := len2 hl
    kernel_rfl
  · intro base pm cd doc L a C O
    refine ss_one ?_
    exact ss1_ret _ (se_and _ (se_cmp .LtE _ (se_item _ (se_local C "wide" _ (by rfl) (by rfl)) (se_int 1 _ _) (by intro _ _; rfl)) (se_item _ (se_local C "prefix" _ (by rfl) (by rfl)) (se_int 1 _ _) (by intro _ _; rfl)) (by rfl)) (se_bool1 _ (se_cmp .Eq _ (se_bin .FloorDiv _ (se_item _ (se_local C "prefix" _ (by rfl) (by rfl)) (se_int 0 _ _) (by intro _ _; rfl)) (se_bin .Pow _ (se_int 2 _ _) (se_bin .Sub _ (se_int 4 _ _) (se_item _ (se_local C "wide" _ (by rfl) (by rfl)) (se_int 1 _ _) (by intro _ _; rfl))))) (se_bin .FloorDiv _ (se_item _ (se_local C "wide" _ (by rfl) (by rfl)) (se_int 0 _ _) (by intro _ _; rfl)) (se_bin .Pow _ (se_int 2 _ _) (se_bin .Sub _ (se_int 4 _ _) (se_item _ (se_local C "wide" _ (by rfl) (by rfl)) (se_int 1 _ _) (by intro _ _; rfl))))) (by rfl))))

theorem rec_law_home : fnr 28 ∈ recsOf pw := List.mem_of_getElem? (show (recsOf pw)[18]? = some (fnr 28) by kernel_rfl)
theorem fs_law_home (G : RootOk r) : FS prog w r 2 "_law_home" T_law_home := by
  refine fs_def (d := fnr 28) (G.recs _ rec_law_home) (by kernel_rfl) ?_ (by kernel_rfl) (by kernel_rfl) (by kernel_rfl) (by kernel_rfl) ?_
  · intro us pm cd doc hl
    obtain ⟨u0, u1, rfl⟩ := len2 hl
    kernel_rfl
  · intro base pm cd doc L a C O
    refine ss_cons ?_ ?_
    · exact ss1_assignW2 _ _ _ (bind_local C (x := "home") (by rfl)) (bind_local C (x := "is_shown") (by rfl)) (by decide) (se_tup _ _ (sl_cons _ (se_cell C "prefix" _ (by rfl) (by rfl)) (sl_cons _ (se_bool true _ _) (sl_nil _) (starEach_ns rfl)) (starEach_ns rfl))) (by rfl) (by rfl)
    · refine ss_cons ?_ ?_
      · exact ss1_assignLC C (cl := [(Str.ofString "prefix", L + 1)]) ["prefix"] (bind_local C (x := "around") (by rfl)) (by rfl) (fun _ => rfl) (by rfl) (by rfl) (by decide +kernel) (by decide +kernel) (List.forall_mem_cons.mpr ⟨rfl, List.forall_mem_nil _⟩) (List.forall_mem_cons.mpr ⟨⟨rfl, .inl rfl, fun h => absurd (show some NameKind.cell = some NameKind.local from h) (by decide)⟩, List.forall_mem_nil _⟩) (se_local C "ranges" _ (by rfl) (by rfl)) (fun C' base c => ⟨target_name _ (bind_local c (x := "one") (by rfl)), tests_one (sb_val (se_call c (x := "_law_is_in") ⟨_, G.recs _ rec_law_is_in, rfl⟩ (by rfl) (by rfl) ((fs_law_is_in G).mono (by decide)) (sa_cons (se_cell c "prefix" _ (by rfl) (by rfl)) (sa_cons (se_item _ (se_local c "one" _ (by rfl) (by rfl)) (se_int 0 _ _) (by intro _ _; rfl)) sa_nil (starEach_ns rfl)) (starEach_ns rfl)) (starEach_ns rfl)) (by intro _; rfl)), (se_local c "one" _ (by rfl) (by rfl))⟩)
      · refine ss_cons ?_ ?_
        · refine ss1_for _ (se_local C "around" _ (by rfl) (by rfl)) (target_tuple _ _ (.cons (bind_local C (x := "wide") (by rfl)) (.cons (bind_local C (x := "word") (by rfl)) .nil))) ?_ (by intro _; rfl)
          · refine ss_one ?_
            refine ss1_if _ (sb_cmp .Eq _ _ (se_item _ (se_local C "wide" _ (by rfl) (by rfl)) (se_int 1 _ _) (by intro _ _; rfl)) (se_callB C (loads_blt C (x := "max") (by rfl) (by rfl) G.m_max G.b_max) sn_max (sa_cons (se_listcomp C (cl := []) [] (fun _ => rfl) (by rfl) (by rfl) (by decide +kernel) (by decide +kernel) (List.forall_mem_nil _) (List.forall_mem_nil _) (se_local C "around" _ (by rfl) (by rfl)) (fun C' base c => ⟨target_name _ (bind_local c (x := "one") (by rfl)), tests_nil, (se_item _ (se_item _ (se_local c "one" _ (by rfl) (by rfl)) (se_int 0 _ _) (by intro _ _; rfl)) (se_int 1 _ _) (by intro _ _; rfl))⟩)) sa_nil (starEach_ns rfl)) (starEach_ns rfl) (by rfl)) (by rfl)) ?_ ?_
            · refine ss_one ?_
              exact ss1_assignW2 _ _ _ (bind_local C (x := "home") (by rfl)) (bind_local C (x := "is_shown") (by rfl)) (by decide) (se_tup _ _ (sl_cons _ (se_local C "wide" _ (by rfl) (by rfl)) (sl_cons _ (se_local C "word" _ (by rfl) (by rfl)) (sl_nil _) (starEach_ns rfl)) (starEach_ns rfl))) (by rfl) (by rfl)
            · exact ss_nil
        · refine ss_one ?_
          exact ss1_ret _ (se_tup _ _ (sl_cons _ (se_local C "home" _ (by rfl) (by rfl)) (sl_cons _ (se_local C "is_shown" _ (by rfl) (by rfl)) (sl_nil _) (starEach_ns rfl)) (starEach_ns rfl)))

theorem rec_law_rows : fnr 29 ∈ recsOf pw := List.mem_of_getElem? (show (recsOf pw)[19]? = some (fnr 29) by kernel_rfl)
theorem fs_law_rows (G : RootOk r) : FS prog w r 1 "_law_rows" T_law_rows := by
  refine fs_def (d := fnr 29) (G.recs _ rec_law_rows) (by kernel_rfl) ?_ (by kernel_rfl) (by kernel_rfl) (by kernel_rfl) (by kernel_rfl) ?_
  · intro us pm cd doc hl
    obtain ⟨u0, rfl⟩ := len1 hl
    kernel_rfl
  · intro base pm cd doc L a C O
    refine ss_one ?_
    exact ss1_ret _ (se_listcomp C (cl := [(Str.ofString "nets", L + 1)]) ["nets"] (fun _ => rfl) (by rfl) (by rfl) (by decide +kernel) (by decide +kernel) (List.forall_mem_cons.mpr ⟨rfl, List.forall_mem_nil _⟩) (List.forall_mem_cons.mpr ⟨⟨rfl, .inl rfl, fun h => absurd (show some NameKind.cell = some NameKind.local from h) (by decide)⟩, List.forall_mem_nil _⟩) (se_callB C (loads_blt C (x := "sorted") (by rfl) (by rfl) G.m_sorted G.b_sorted) sn_sorted (sa_cons (se_cell C "nets" _ (by rfl) (by rfl)) sa_nil (starEach_ns rfl)) (starEach_ns rfl) (by rfl)) (fun C' base c => ⟨target_name _ (bind_local c (x := "prefix") (by rfl)), tests_nil, (se_tup _ _ (sl_cons _ (se_local c "prefix" _ (by rfl) (by rfl)) (sl_cons _ (se_str "intra" _ _) (sl_cons _ (se_item _ (se_cell c "nets" _ (by rfl) (by rfl)) (se_local c "prefix" _ (by rfl) (by rfl)) (by intro _ _; rfl)) (sl_cons _ (se_int 0 _ _) (sl_cons _ (se_int 1 _ _) (sl_cons _ (se_tup _ _ (sl_nil _)) (sl_nil _) (starEach_ns rfl)) (starEach_ns rfl)) (starEach_ns rfl)) (starEach_ns rfl)) (starEach_ns rfl)) (starEach_ns rfl)))⟩))

end
end Mine
end

section -- P4
set_option autoImplicit false
set_option linter.unusedVariables false
set_option maxRecDepth 100000
set_option maxHeartbeats 2000000
namespace Mine
section
variable {prog : Program} {w : World} {r : RootD}

theorem rec_law_learned : fnr 30 ∈ recsOf pw := List.mem_of_getElem? (show (recsOf pw)[20]? = some (fnr 30) by kernel_rfl)
theorem fs_law_learned (G : RootOk r) : FS prog w r 8 "_law_learned" T_law_learned := by
  refine fs_def (d := fnr 30) (G.recs _ rec_law_learned) (by kernel_rfl) ?_ (by kernel_rfl) (by kernel_rfl) (by kernel_rfl) (by kernel_rfl) ?_
  · intro us pm cd doc hl
    obtain ⟨u0, u1, rfl⟩ := len2 hl
    kernel_rfl
  · intro base pm cd doc L a C O
    refine ss_cons ?_ ?_
    · refine ss1_assign _ _ ?_ ?_ ?_
      · exact (bind_local C (x := "areas") (by rfl))
      · exact (by refine se_dict2I C (k1 := 0) (k2 := 1) _ ?_ ?_ ?_; (· decide); (· exact (by refine se_dict2S C (k1 := "stub") (k2 := "ranges") _ ?_ ?_ ?_; (· decide); (· exact (se_bool false _ _)); (· exact (se_tup _ _ (sl_nil _))))); (· exact (by refine se_dict2S C (k1 := "stub") (k2 := "ranges") _ ?_ ?_ ?_; (· decide); (· exact (se_bool false _ _)); (· exact (se_local C "ranges" _ (by rfl) (by rfl))))))
      · rfl
    · refine ss_cons ?_ ?_
      · refine ss1_assign _ _ ?_ ?_ ?_
        · exact (bind_cell C O (x := "bodies") (by rfl) (by rfl))
        · exact (se_call C (x := "summaries_for") ⟨_, G.recs _ rec_summaries_for, rfl⟩ (by rfl) (by rfl) ((fs_summaries_for G).mono (by decide)) (sa_cons (se_int 0 _ _) (sa_cons (se_local C "areas" _ (by rfl) (by rfl)) (sa_cons (se_dictcomp C (cl := []) [] (fun _ => rfl) (by rfl) (by rfl) (by decide +kernel) (by decide +kernel) (List.forall_mem_nil _) (List.forall_mem_nil _) (se_call C (x := "_law_rows") ⟨_, G.recs _ rec_law_rows, rfl⟩ (by rfl) (by rfl) ((fs_law_rows G).mono (by decide)) (sa_cons (se_local C "nets" _ (by rfl) (by rfl)) sa_nil (starEach_ns rfl)) (starEach_ns rfl)) (fun C' base c => ⟨target_name _ (bind_local c (x := "row") (by rfl)), tests_nil, (se_item _ (se_local c "row" _ (by rfl) (by rfl)) (se_int 0 _ _) (by intro _ _; rfl)), (se_local c "row" _ (by rfl) (by rfl))⟩)) (sa_cons (se_dict0 (.dI []) (.inl rfl) _) (sa_cons (se_int 4 _ _) sa_nil (starEach_ns rfl)) (starEach_ns rfl)) (starEach_ns rfl)) (starEach_ns rfl)) (starEach_ns rfl)) (starEach_ns rfl))
        · rfl
      · refine ss_cons ?_ ?_
        · exact ss1_assignLC C (cl := [(Str.ofString "bodies", L + 1)]) ["bodies"] (bind_local C (x := "rows") (by rfl)) (by rfl) (fun _ => rfl) (by rfl) (by rfl) (by decide +kernel) (by decide +kernel) (List.forall_mem_cons.mpr ⟨rfl, List.forall_mem_nil _⟩) (List.forall_mem_cons.mpr ⟨⟨rfl, .inl rfl, fun h => absurd (show some NameKind.cell = some NameKind.local from h) (by decide)⟩, List.forall_mem_nil _⟩) (se_callB C (loads_blt C (x := "sorted") (by rfl) (by rfl) G.m_sorted G.b_sorted) sn_sorted (sa_cons (se_cell C "bodies" _ (by rfl) (by rfl)) sa_nil (starEach_ns rfl)) (starEach_ns rfl) (by rfl)) (fun C' base c => ⟨target_tuple _ _ (.cons (bind_local c (x := "kind") (by rfl)) (.cons (bind_local c (x := "number") (by rfl)) .nil)), tests_nil, (se_tup _ _ (sl_cons _ (se_tup _ _ (sl_cons _ (se_int 0 _ _) (sl_cons _ (se_int 2 _ _) (sl_cons _ (se_local c "kind" _ (by rfl) (by rfl)) (sl_cons _ (se_local c "number" _ (by rfl) (by rfl)) (sl_cons _ (se_int 5 _ _) (sl_cons _ (se_int 1 _ _) (sl_cons _ (se_int 1 _ _) (sl_nil _) (starEach_ns rfl)) (starEach_ns rfl)) (starEach_ns rfl)) (starEach_ns rfl)) (starEach_ns rfl)) (starEach_ns rfl)) (starEach_ns rfl))) (sl_cons _ (se_item _ (se_cell c "bodies" _ (by rfl) (by rfl)) (se_tup _ _ (sl_cons _ (se_local c "kind" _ (by rfl) (by rfl)) (sl_cons _ (se_local c "number" _ (by rfl) (by rfl)) (sl_nil _) (starEach_ns rfl)) (starEach_ns rfl))) (by intro _ _; rfl)) (sl_nil _) (starEach_ns rfl)) (starEach_ns rfl)))⟩)
        · refine ss_cons ?_ ?_
          · refine ss1_assign _ _ ?_ ?_ ?_
            · exact (bind_cell C O (x := "found") (by rfl) (by rfl))
            · exact (by refine se_call C (x := "inter_nets") ⟨_, G.recs _ rec_inter_nets, rfl⟩ (by rfl) (by rfl) ((fs_inter_nets G).mono (by decide)) ?_ ?_; (· exact (by refine sa_cons ?_ ?_ ?_; (· exact (se_local C "rows" _ (by rfl) (by rfl))); (· exact (by refine sa_cons ?_ ?_ ?_; (· exact (by refine se_dict1I C (k1 := 5) _ ?_; (· exact (se_tup _ _ (sl_cons _ (se_int 2 _ _) (sl_cons _ (se_tup _ _ (sl_cons _ (se_int 9 _ _) (sl_nil _) (starEach_ns rfl))) (sl_cons _ (se_int 1 _ _) (sl_nil _) (starEach_ns rfl)) (starEach_ns rfl)) (starEach_ns rfl)))))); (· exact (by refine sa_cons ?_ ?_ ?_; (· exact (se_int 6 _ _)); (· exact (by refine sa_cons ?_ ?_ ?_; (· exact (se_tup _ _ (sl_nil _))); (· exact (by refine sa_cons ?_ ?_ ?_; (· exact (se_int 4 _ _)); (· exact sa_nil); (· exact starEach_ns rfl))); (· exact starEach_ns rfl))); (· exact starEach_ns rfl))); (· exact starEach_ns rfl))); (· exact starEach_ns rfl))); (· exact starEach_ns rfl))
            · rfl
          · refine ss_one ?_
            exact ss1_ret _ (se_dictcomp C (cl := [(Str.ofString "found", L + 1 + 1)]) ["found"] (fun _ => rfl) (by rfl) (by rfl) (by decide +kernel) (by decide +kernel) (List.forall_mem_cons.mpr ⟨rfl, List.forall_mem_nil _⟩) (List.forall_mem_cons.mpr ⟨⟨rfl, .inl rfl, fun h => absurd (show some NameKind.cell = some NameKind.local from h) (by decide)⟩, List.forall_mem_nil _⟩) (se_cell C "found" _ (by rfl) (by rfl)) (fun C' base c => ⟨target_name _ (bind_local c (x := "prefix") (by rfl)), tests_one (sb_cmp .Eq _ _ (se_item _ (se_item _ (se_cell c "found" _ (by rfl) (by rfl)) (se_local c "prefix" _ (by rfl) (by rfl)) (by intro _ _; rfl)) (se_int 1 _ _) (by intro _ _; rfl)) (se_tup _ _ (sl_cons _ (se_int 9 _ _) (sl_nil _) (starEach_ns rfl))) (by rfl)), (se_local c "prefix" _ (by rfl) (by rfl)), (se_bin .Sub _ (se_item _ (se_item _ (se_cell c "found" _ (by rfl) (by rfl)) (se_local c "prefix" _ (by rfl) (by rfl)) (by intro _ _; rfl)) (se_int 0 _ _) (by intro _ _; rfl)) (se_int 2 _ _))⟩))

theorem rec_law_turned_right : fnr 31 ∈ recsOf pw := List.mem_of_getElem? (show (recsOf pw)[21]? = some (fnr 31) by kernel_rfl)
theorem fs_law_turned_right (G : RootOk r) : FS prog w r 3 "_law_turned_right" T_law_turned_right := by
  refine fs_def (d := fnr 31) (G.recs _ rec_law_turned_right) (by kernel_rfl) ?_ (by kernel_rfl) (by kernel_rfl) (by kernel_rfl) (by kernel_rfl) ?_
  · intro us pm cd doc hl
    obtain ⟨u0, u1, u2, u3, u4, rfl⟩ := len5 hl
    kernel_rfl
  · intro base pm cd doc L a C O
    refine ss_cons ?_ ?_
    · exact ss1_assignT _ _ _ (.cons (bind_cell C O (x := "home") (by rfl) (by rfl)) (.cons (bind_local C (x := "is_shown") (by rfl)) .nil)) (se_call C (x := "_law_home") ⟨_, G.recs _ rec_law_home, rfl⟩ (by rfl) (by rfl) ((fs_law_home G).mono (by decide)) (sa_cons (se_local C "prefix" _ (by rfl) (by rfl)) (sa_cons (se_cell C "ranges" _ (by rfl) (by rfl)) sa_nil (starEach_ns rfl)) (starEach_ns rfl)) (starEach_ns rfl)) (by rfl) (by rfl)
    · refine ss_cons ?_ ?_
      · refine ss1_for _ (se_bin .Add _ (se_callT C (loads_blt C (x := "list") (by rfl) (by rfl) G.m_list G.b_list) sn_listC (sa_cons (se_local C "before" _ (by rfl) (by rfl)) sa_nil (starEach_ns rfl)) (starEach_ns rfl) (by rfl)) (se_callT C (loads_blt C (x := "list") (by rfl) (by rfl) G.m_list G.b_list) sn_listC (sa_cons (se_local C "told" _ (by rfl) (by rfl)) sa_nil (starEach_ns rfl)) (starEach_ns rfl) (by rfl))) (target_name _ (bind_local C (x := "key") (by rfl))) ?_ (by intro _; rfl)
        · refine ss_one ?_
          refine ss1_if _ (sb_bool _ _ (sb_and_cons (sb_cmp .NotEq _ _ (se_local C "key" _ (by rfl) (by rfl)) (se_cell C "home" _ (by rfl) (by rfl)) (by rfl)) (sb_and_cons (sb_cmp .NotEq _ _ (se_meth (T := "dict") (id := "dict.get") (by rfl) (by rfl) (by rfl) PySem.F.plainAttrs_dict PySem.F.slot_dict_get PySem.F.type_dict_get (rc := recvD) (fun R rv h => rcv_dict R rv h) (se_local C "before" _ (by rfl) (by rfl)) (sa_cons (se_local C "key" _ (by rfl) (by rfl)) sa_nil (starEach_ns rfl)) sn_get1 (starEach_ns rfl) (by rfl)) (se_meth (T := "dict") (id := "dict.get") (by rfl) (by rfl) (by rfl) PySem.F.plainAttrs_dict PySem.F.slot_dict_get PySem.F.type_dict_get (rc := recvD) (fun R rv h => rcv_dict R rv h) (se_local C "told" _ (by rfl) (by rfl)) (sa_cons (se_local C "key" _ (by rfl) (by rfl)) sa_nil (starEach_ns rfl)) sn_get1 (starEach_ns rfl) (by rfl)) (by rfl)) sb_and_nil))) ?_ ?_
          · refine ss_one ?_
            exact ss1_ret _ (se_bool false _ _)
          · exact ss_nil
      · refine ss_cons ?_ ?_
        · exact ss1_assignLC C (cl := [(Str.ofString "ranges", L + 1 + 1), (Str.ofString "nets", L + 1), (Str.ofString "home", L + 1 + 1 + 1)]) ["home", "nets", "ranges"] (bind_local C (x := "peers") (by rfl)) (by rfl) (fun _ => rfl) (by rfl) (by rfl) (by decide +kernel) (by decide +kernel) (List.forall_mem_cons.mpr ⟨rfl, List.forall_mem_cons.mpr ⟨rfl, List.forall_mem_cons.mpr ⟨rfl, List.forall_mem_nil _⟩⟩⟩) (List.forall_mem_cons.mpr ⟨⟨rfl, .inl rfl, fun h => absurd (show some NameKind.cell = some NameKind.local from h) (by decide)⟩, List.forall_mem_cons.mpr ⟨⟨rfl, .inl rfl, fun h => absurd (show some NameKind.cell = some NameKind.local from h) (by decide)⟩, List.forall_mem_cons.mpr ⟨⟨rfl, .inl rfl, fun h => absurd (show some NameKind.cell = some NameKind.local from h) (by decide)⟩, List.forall_mem_nil _⟩⟩⟩) (se_cell C "nets" _ (by rfl) (by rfl)) (fun C' base c => ⟨target_name _ (bind_local c (x := "one") (by rfl)), tests_one (sb_bool _ _ (sb_and_cons (sb_cmp .Lt _ _ (se_item _ (se_cell c "nets" _ (by rfl) (by rfl)) (se_local c "one" _ (by rfl) (by rfl)) (by intro _ _; rfl)) (se_int 16777215 _ _) (by rfl)) (sb_and_cons (sb_cmp .Eq _ _ (se_item _ (se_call c (x := "_law_home") ⟨_, G.recs _ rec_law_home, rfl⟩ (by rfl) (by rfl) ((fs_law_home G).mono (by decide)) (sa_cons (se_local c "one" _ (by rfl) (by rfl)) (sa_cons (se_cell c "ranges" _ (by rfl) (by rfl)) sa_nil (starEach_ns rfl)) (starEach_ns rfl)) (starEach_ns rfl)) (se_int 0 _ _) (by intro _ _; rfl)) (se_cell c "home" _ (by rfl) (by rfl)) (by rfl)) sb_and_nil))), (se_item _ (se_cell c "nets" _ (by rfl) (by rfl)) (se_local c "one" _ (by rfl) (by rfl)) (by intro _ _; rfl))⟩)
        · refine ss_one ?_
          exact ss1_ret _ (se_cmp .Eq _ (se_meth (T := "dict") (id := "dict.get") (by rfl) (by rfl) (by rfl) PySem.F.plainAttrs_dict PySem.F.slot_dict_get PySem.F.type_dict_get (rc := recvD) (fun R rv h => rcv_dict R rv h) (se_local C "told" _ (by rfl) (by rfl)) (sa_cons (se_cell C "home" _ (by rfl) (by rfl)) sa_nil (starEach_ns rfl)) sn_get1 (starEach_ns rfl) (by rfl)) (se_if _ (sb_bool _ _ (sb_and_cons (sb_val (se_local C "is_shown" _ (by rfl) (by rfl)) (by intro _; rfl)) (sb_and_cons (sb_cmp .NotEq _ _ (se_local C "peers" _ (by rfl) (by rfl)) (se_list _ (sl_nil _)) (by rfl)) sb_and_nil))) (se_callB C (loads_blt C (x := "max") (by rfl) (by rfl) G.m_max G.b_max) sn_max (sa_cons (se_local C "peers" _ (by rfl) (by rfl)) sa_nil (starEach_ns rfl)) (starEach_ns rfl) (by rfl)) (se_none _ _)) (by rfl))

theorem rec_law_lots_right : fnr 32 ∈ recsOf pw := List.mem_of_getElem? (show (recsOf pw)[22]? = some (fnr 32) by kernel_rfl)
theorem fs_law_lots_right (G : RootOk r) : FS prog w r 6 "_law_lots_right" T_law_lots_right := by
  refine fs_def (d := fnr 32) (G.recs _ rec_law_lots_right) (by kernel_rfl) ?_ (by kernel_rfl) (by kernel_rfl) (by kernel_rfl) (by kernel_rfl) ?_
  · intro us pm cd doc hl
    obtain ⟨u0, u1, u2, u3, rfl⟩ := len4 hl
    kernel_rfl
  · intro base pm cd doc L a C O
    refine ss_cons ?_ ?_
    · refine ss1_assign _ _ ?_ ?_ ?_
      · exact (bind_local C (x := "joined") (by rfl))
      · exact (se_callT C (loads_blt C (x := "dict") (by rfl) (by rfl) G.m_dict G.b_dict) sn_dictC (sa_cons (se_call C (x := "condensed_nets") ⟨_, G.recs _ rec_condensed_nets, rfl⟩ (by rfl) (by rfl) ((fs_condensed_nets G).mono (by decide)) (sa_cons (se_take _ _ (se_local C "rows" _ (by rfl) (by rfl)) (se_local C "cut" _ (by rfl) (by rfl))) (sa_cons (se_local C "ranges" _ (by rfl) (by rfl)) (sa_cons (se_int 4 _ _) sa_nil (starEach_ns rfl)) (starEach_ns rfl)) (starEach_ns rfl)) (starEach_ns rfl)) sa_nil (starEach_ns rfl)) (starEach_ns rfl) (by rfl))
      · rfl
    · refine ss_cons ?_ ?_
      · refine ss1_assign _ _ ?_ ?_ ?_
        · exact (bind_local C (x := "other") (by rfl))
        · exact (se_call C (x := "condensed_nets") ⟨_, G.recs _ rec_condensed_nets, rfl⟩ (by rfl) (by rfl) ((fs_condensed_nets G).mono (by decide)) (sa_cons (se_rev _ _ _ _ _ (se_drop _ _ (se_local C "rows" _ (by rfl) (by rfl)) (se_local C "cut" _ (by rfl) (by rfl)))) (sa_cons (se_local C "ranges" _ (by rfl) (by rfl)) (sa_cons (se_int 4 _ _) sa_nil (starEach_ns rfl)) (starEach_ns rfl)) (starEach_ns rfl)) (starEach_ns rfl))
        · rfl
      · refine ss_cons ?_ ?_
        · refine ss1_for _ (se_local C "other" _ (by rfl) (by rfl)) (target_name _ (bind_local C (x := "key") (by rfl))) ?_ (by intro _; rfl)
          · refine ss_one ?_
            exact ss1_set _ _ (se_callB C (loads_blt C (x := "max") (by rfl) (by rfl) G.m_max G.b_max) sn_max (sa_cons (se_item _ (se_local C "other" _ (by rfl) (by rfl)) (se_local C "key" _ (by rfl) (by rfl)) (by intro _ _; rfl)) (sa_cons (se_meth (T := "dict") (id := "dict.get") (by rfl) (by rfl) (by rfl) PySem.F.plainAttrs_dict PySem.F.slot_dict_get PySem.F.type_dict_get (rc := recvD) (fun R rv h => rcv_dict R rv h) (se_local C "joined" _ (by rfl) (by rfl)) (sa_cons (se_local C "key" _ (by rfl) (by rfl)) (sa_cons (se_int 0 _ _) sa_nil (starEach_ns rfl)) (starEach_ns rfl)) sn_get2 (starEach_ns rfl) (by rfl)) sa_nil (starEach_ns rfl)) (starEach_ns rfl)) (starEach_ns rfl) (by rfl)) (se_local C "joined" _ (by rfl) (by rfl)) (se_local C "key" _ (by rfl) (by rfl)) (by rfl)
        · refine ss_cons ?_ ?_
          · refine ss1_assign _ _ ?_ ?_ ?_
            · exact (bind_cell C O (x := "words") (by rfl) (by rfl))
            · exact (se_callT C (loads_blt C (x := "dict") (by rfl) (by rfl) G.m_dict G.b_dict) sn_dictC (sa_cons (se_local C "ranges" _ (by rfl) (by rfl)) sa_nil (starEach_ns rfl)) (starEach_ns rfl) (by rfl))
            · rfl
          · refine ss_cons ?_ ?_
            · exact ss1_assignLC C (cl := [(Str.ofString "words", L + 1)]) ["words"] (bind_local C (x := "shown") (by rfl)) (by rfl) (fun _ => rfl) (by rfl) (by rfl) (by decide +kernel) (by decide +kernel) (List.forall_mem_cons.mpr ⟨rfl, List.forall_mem_nil _⟩) (List.forall_mem_cons.mpr ⟨⟨rfl, .inl rfl, fun h => absurd (show some NameKind.cell = some NameKind.local from h) (by decide)⟩, List.forall_mem_nil _⟩) (se_call C (x := "active_ranges") ⟨_, G.recs _ rec_active_ranges, rfl⟩ (by rfl) (by rfl) ((fs_active_ranges G).mono (by decide)) (sa_cons (se_local C "rows" _ (by rfl) (by rfl)) (sa_cons (se_local C "ranges" _ (by rfl) (by rfl)) (sa_cons (se_int 4 _ _) sa_nil (starEach_ns rfl)) (starEach_ns rfl)) (starEach_ns rfl)) (starEach_ns rfl)) (fun C' base c => ⟨target_name _ (bind_local c (x := "one") (by rfl)), tests_one (sb_val (se_item _ (se_cell c "words" _ (by rfl) (by rfl)) (se_local c "one" _ (by rfl) (by rfl)) (by intro _ _; rfl)) (by intro _; rfl)), (se_local c "one" _ (by rfl) (by rfl))⟩)
            · refine ss_one ?_
              exact ss1_ret _ (se_and _ (se_cmp .Eq _ (se_local C "joined" _ (by rfl) (by rfl)) (se_local C "told" _ (by rfl) (by rfl)) (by rfl)) (se_bool1 _ (se_cmp .Eq _ (se_local C "shown" _ (by rfl) (by rfl)) (se_listcomp C (cl := [(Str.ofString "words", L + 1)]) ["words"] (fun _ => rfl) (by rfl) (by rfl) (by decide +kernel) (by decide +kernel) (List.forall_mem_cons.mpr ⟨rfl, List.forall_mem_nil _⟩) (List.forall_mem_cons.mpr ⟨⟨rfl, .inl rfl, fun h => absurd (show some NameKind.cell = some NameKind.local from h) (by decide)⟩, List.forall_mem_nil _⟩) (se_callB C (loads_blt C (x := "sorted") (by rfl) (by rfl) G.m_sorted G.b_sorted) sn_sorted (sa_cons (se_local C "told" _ (by rfl) (by rfl)) sa_nil (starEach_ns rfl)) (starEach_ns rfl) (by rfl)) (fun C' base c => ⟨target_name _ (bind_local c (x := "key") (by rfl)), tests_one (sb_cmp .In _ _ (se_local c "key" _ (by rfl) (by rfl)) (se_cell c "words" _ (by rfl) (by rfl)) (by rfl)), (se_local c "key" _ (by rfl) (by rfl))⟩)) (by rfl))))

theorem rec_law_further_right : fnr 33 ∈ recsOf pw := List.mem_of_getElem? (show (recsOf pw)[23]? = some (fnr 33) by kernel_rfl)
theorem fs_law_further_right (G : RootOk r) : FS prog w r 6 "_law_further_right" T_law_further_right := by
  refine fs_def (d := fnr 33) (G.recs _ rec_law_further_right) (by kernel_rfl) ?_ (by kernel_rfl) (by kernel_rfl) (by kernel_rfl) (by kernel_rfl) ?_
  · intro us pm cd doc hl
    obtain ⟨u0, u1, u2, u3, rfl⟩ := len4 hl
    kernel_rfl
  · intro base pm cd doc L a C O
    refine ss_cons ?_ ?_
    · exact ss1_assignT _ _ _ (.cons (bind_local C (x := "around") (by rfl)) (.cons (bind_local C (x := "is_shown") (by rfl)) .nil)) (se_call C (x := "_law_home") ⟨_, G.recs _ rec_law_home, rfl⟩ (by rfl) (by rfl) ((fs_law_home G).mono (by decide)) (sa_cons (se_cell C "further" _ (by rfl) (by rfl)) (sa_cons (se_local C "ranges" _ (by rfl) (by rfl)) sa_nil (starEach_ns rfl)) (starEach_ns rfl)) (starEach_ns rfl)) (by rfl) (by rfl)
    · refine ss_cons ?_ ?_
      · refine ss1_assign _ _ ?_ ?_ ?_
        · exact (bind_cell C O (x := "later") (by rfl) (by rfl))
        · exact (se_call C (x := "condensed_nets") ⟨_, G.recs _ rec_condensed_nets, rfl⟩ (by rfl) (by rfl) ((fs_condensed_nets G).mono (by decide)) (sa_cons (se_local C "rows" _ (by rfl) (by rfl)) (sa_cons (se_bin .Add _ (se_local C "ranges" _ (by rfl) (by rfl)) (se_list _ (sl_cons _ (se_tup _ _ (sl_cons _ (se_cell C "further" _ (by rfl) (by rfl)) (sl_cons _ (se_local C "is_shown" _ (by rfl) (by rfl)) (sl_nil _) (starEach_ns rfl)) (starEach_ns rfl))) (sl_nil _) (starEach_ns rfl)))) (sa_cons (se_int 4 _ _) sa_nil (starEach_ns rfl)) (starEach_ns rfl)) (starEach_ns rfl)) (starEach_ns rfl))
        · rfl
      · refine ss_cons ?_ ?_
        · exact ss1_assignT _ _ _ (.cons (bind_cell C O (x := "words") (by rfl) (by rfl)) (.cons (bind_local C (x := "moved") (by rfl)) .nil)) (se_tup _ _ (sl_cons _ (se_callT C (loads_blt C (x := "dict") (by rfl) (by rfl) G.m_dict G.b_dict) sn_dictC (sa_cons (se_local C "ranges" _ (by rfl) (by rfl)) sa_nil (starEach_ns rfl)) (starEach_ns rfl) (by rfl)) (sl_cons _ (se_list _ (sl_cons _ (se_cell C "further" _ (by rfl) (by rfl)) (sl_nil _) (starEach_ns rfl))) (sl_nil _) (starEach_ns rfl)) (starEach_ns rfl))) (by rfl) (by rfl)
        · refine ss_cons ?_ ?_
          · refine ss1_if _ (sb_cmp .In _ _ (se_local C "around" _ (by rfl) (by rfl)) (se_cell C "words" _ (by rfl) (by rfl)) (by rfl)) ?_ ?_
            · refine ss_one ?_
              exact ss1_expr _ (se_meth (T := "list") (id := "list.append") (by rfl) (by rfl) (by rfl) PySem.F.plainAttrs_list PySem.F.slot_list_append PySem.F.type_list_append (rc := recvL) (fun R rv h => rcv_list R rv h) (se_local C "moved" _ (by rfl) (by rfl)) (sa_cons (se_local C "around" _ (by rfl) (by rfl)) sa_nil (starEach_ns rfl)) sn_append (starEach_ns rfl) (by rfl)) (by rfl) (by rfl)
            · refine ss_one ?_
              refine ss1_assign _ _ ?_ ?_ ?_
              · exact (bind_local C (x := "moved") (by rfl))
              · exact (se_bin .Add _ (se_local C "moved" _ (by rfl) (by rfl)) (se_listcomp C (cl := [(Str.ofString "words", L + 1 + 1 + 1 + 1), (Str.ofString "further", L + 1)]) ["further", "words"] (fun _ => rfl) (by rfl) (by rfl) (by decide +kernel) (by decide +kernel) (List.forall_mem_cons.mpr ⟨rfl, List.forall_mem_cons.mpr ⟨rfl, List.forall_mem_nil _⟩⟩) (List.forall_mem_cons.mpr ⟨⟨rfl, .inl rfl, fun h => absurd (show some NameKind.cell = some NameKind.local from h) (by decide)⟩, List.forall_mem_cons.mpr ⟨⟨rfl, .inl rfl, fun h => absurd (show some NameKind.cell = some NameKind.local from h) (by decide)⟩, List.forall_mem_nil _⟩⟩) (se_cell C "told" _ (by rfl) (by rfl)) (fun C' base c => ⟨target_name _ (bind_local c (x := "key") (by rfl)), tests_one (sb_bool _ _ (sb_and_cons (sb_cmp .NotIn _ _ (se_local c "key" _ (by rfl) (by rfl)) (se_cell c "words" _ (by rfl) (by rfl)) (by rfl)) (sb_and_cons (sb_val (se_call c (x := "_law_is_in") ⟨_, G.recs _ rec_law_is_in, rfl⟩ (by rfl) (by rfl) ((fs_law_is_in G).mono (by decide)) (sa_cons (se_local c "key" _ (by rfl) (by rfl)) (sa_cons (se_cell c "further" _ (by rfl) (by rfl)) sa_nil (starEach_ns rfl)) (starEach_ns rfl)) (starEach_ns rfl)) (by intro _; rfl)) sb_and_nil))), (se_local c "key" _ (by rfl) (by rfl))⟩)))
              · rfl
          · refine ss_cons ?_ ?_
            · refine ss1_for _ (se_bin .Add _ (se_callT C (loads_blt C (x := "list") (by rfl) (by rfl) G.m_list G.b_list) sn_listC (sa_cons (se_cell C "told" _ (by rfl) (by rfl)) sa_nil (starEach_ns rfl)) (starEach_ns rfl) (by rfl)) (se_callT C (loads_blt C (x := "list") (by rfl) (by rfl) G.m_list G.b_list) sn_listC (sa_cons (se_cell C "later" _ (by rfl) (by rfl)) sa_nil (starEach_ns rfl)) (starEach_ns rfl) (by rfl))) (target_name _ (bind_local C (x := "key") (by rfl))) ?_ (by intro _; rfl)
              · refine ss_one ?_
                refine ss1_if _ (sb_bool _ _ (sb_and_cons (sb_cmp .NotIn _ _ (se_local C "key" _ (by rfl) (by rfl)) (se_local C "moved" _ (by rfl) (by rfl)) (by rfl)) (sb_and_cons (sb_cmp .NotEq _ _ (se_meth (T := "dict") (id := "dict.get") (by rfl) (by rfl) (by rfl) PySem.F.plainAttrs_dict PySem.F.slot_dict_get PySem.F.type_dict_get (rc := recvD) (fun R rv h => rcv_dict R rv h) (se_cell C "told" _ (by rfl) (by rfl)) (sa_cons (se_local C "key" _ (by rfl) (by rfl)) sa_nil (starEach_ns rfl)) sn_get1 (starEach_ns rfl) (by rfl)) (se_meth (T := "dict") (id := "dict.get") (by rfl) (by rfl) (by rfl) PySem.F.plainAttrs_dict PySem.F.slot_dict_get PySem.F.type_dict_get (rc := recvD) (fun R rv h => rcv_dict R rv h) (se_cell C "later" _ (by rfl) (by rfl)) (sa_cons (se_local C "key" _ (by rfl) (by rfl)) sa_nil (starEach_ns rfl)) sn_get1 (starEach_ns rfl) (by rfl)) (by rfl)) sb_and_nil))) ?_ ?_
                · refine ss_one ?_
                  exact ss1_ret _ (se_bool false _ _)
                · exact ss_nil
            · refine ss_cons ?_ ?_
              · exact ss1_assignLC C (cl := [(Str.ofString "words", L + 1 + 1 + 1 + 1), (Str.ofString "further", L + 1)]) ["further", "words"] (bind_local C (x := "inner") (by rfl)) (by rfl) (fun _ => rfl) (by rfl) (by rfl) (by decide +kernel) (by decide +kernel) (List.forall_mem_cons.mpr ⟨rfl, List.forall_mem_cons.mpr ⟨rfl, List.forall_mem_nil _⟩⟩) (List.forall_mem_cons.mpr ⟨⟨rfl, .inl rfl, fun h => absurd (show some NameKind.cell = some NameKind.local from h) (by decide)⟩, List.forall_mem_cons.mpr ⟨⟨rfl, .inl rfl, fun h => absurd (show some NameKind.cell = some NameKind.local from h) (by decide)⟩, List.forall_mem_nil _⟩⟩) (se_cell C "later" _ (by rfl) (by rfl)) (fun C' base c => ⟨target_name _ (bind_local c (x := "key") (by rfl)), tests_one (sb_bool _ _ (sb_and_cons (sb_cmp .NotIn _ _ (se_local c "key" _ (by rfl) (by rfl)) (se_cell c "words" _ (by rfl) (by rfl)) (by rfl)) (sb_and_cons (sb_cmp .NotEq _ _ (se_local c "key" _ (by rfl) (by rfl)) (se_cell c "further" _ (by rfl) (by rfl)) (by rfl)) (sb_and_cons (sb_val (se_call c (x := "_law_is_in") ⟨_, G.recs _ rec_law_is_in, rfl⟩ (by rfl) (by rfl) ((fs_law_is_in G).mono (by decide)) (sa_cons (se_local c "key" _ (by rfl) (by rfl)) (sa_cons (se_cell c "further" _ (by rfl) (by rfl)) sa_nil (starEach_ns rfl)) (starEach_ns rfl)) (starEach_ns rfl)) (by intro _; rfl)) sb_and_nil)))), (se_local c "key" _ (by rfl) (by rfl))⟩)
              · refine ss_one ?_
                exact ss1_ret _ (se_and _ (se_cmp .Eq _ (se_local C "inner" _ (by rfl) (by rfl)) (se_list _ (sl_nil _)) (by rfl)) (se_bool1 _ (se_cmp .Eq _ (se_callB C (loads_blt C (x := "max") (by rfl) (by rfl) G.m_max G.b_max) sn_max (sa_cons (se_listcomp C (cl := [(Str.ofString "later", L + 1 + 1 + 1)]) ["later"] (fun _ => rfl) (by rfl) (by rfl) (by decide +kernel) (by decide +kernel) (List.forall_mem_cons.mpr ⟨rfl, List.forall_mem_nil _⟩) (List.forall_mem_cons.mpr ⟨⟨rfl, .inl rfl, fun h => absurd (show some NameKind.cell = some NameKind.local from h) (by decide)⟩, List.forall_mem_nil _⟩) (se_local C "moved" _ (by rfl) (by rfl)) (fun C' base c => ⟨target_name _ (bind_local c (x := "key") (by rfl)), tests_nil, (se_meth (T := "dict") (id := "dict.get") (by rfl) (by rfl) (by rfl) PySem.F.plainAttrs_dict PySem.F.slot_dict_get PySem.F.type_dict_get (rc := recvD) (fun R rv h => rcv_dict R rv h) (se_cell c "later" _ (by rfl) (by rfl)) (sa_cons (se_local c "key" _ (by rfl) (by rfl)) (sa_cons (se_int 0 _ _) sa_nil (starEach_ns rfl)) (starEach_ns rfl)) sn_get2 (starEach_ns rfl) (by rfl))⟩)) sa_nil (starEach_ns rfl)) (starEach_ns rfl) (by rfl)) (se_callB C (loads_blt C (x := "max") (by rfl) (by rfl) G.m_max G.b_max) sn_max (sa_cons (se_listcomp C (cl := [(Str.ofString "told", L + 1 + 1)]) ["told"] (fun _ => rfl) (by rfl) (by rfl) (by decide +kernel) (by decide +kernel) (List.forall_mem_cons.mpr ⟨rfl, List.forall_mem_nil _⟩) (List.forall_mem_cons.mpr ⟨⟨rfl, .inl rfl, fun h => absurd (show some NameKind.cell = some NameKind.local from h) (by decide)⟩, List.forall_mem_nil _⟩) (se_local C "moved" _ (by rfl) (by rfl)) (fun C' base c => ⟨target_name _ (bind_local c (x := "key") (by rfl)), tests_nil, (se_meth (T := "dict") (id := "dict.get") (by rfl) (by rfl) (by rfl) PySem.F.plainAttrs_dict PySem.F.slot_dict_get PySem.F.type_dict_get (rc := recvD) (fun R rv h => rcv_dict R rv h) (se_cell c "told" _ (by rfl) (by rfl)) (sa_cons (se_local c "key" _ (by rfl) (by rfl)) (sa_cons (se_int 0 _ _) sa_nil (starEach_ns rfl)) (starEach_ns rfl)) sn_get2 (starEach_ns rfl) (by rfl))⟩)) sa_nil (starEach_ns rfl)) (starEach_ns rfl) (by rfl)) (by rfl))))

end
end Mine
end

section -- P5
set_option autoImplicit false
set_option linter.unusedVariables false
set_option maxRecDepth 100000
set_option maxHeartbeats 2000000
namespace Mine
section
variable {prog : Program} {w : World} {r : RootD}

theorem rec_law : fnr 34 ∈ recsOf pw := List.mem_of_getElem? (show (recsOf pw)[24]? = some (fnr 34) by kernel_rfl)
theorem fs_law (G : RootOk r) : FS prog w r 9 "law" T_law := by
  refine fs_def (d := fnr 34) (G.recs _ rec_law) (by kernel_rfl) ?_ (by kernel_rfl) (by kernel_rfl) (by kernel_rfl) (by kernel_rfl) ?_
  · intro us pm cd doc hl
    obtain ⟨u0, rfl⟩ := len1 hl
    kernel_rfl
  · intro base pm cd doc L a C O
    refine ss_cons ?_ ?_
    · exact ss1_assignT _ _ _ (.cons (bind_local C (x := "box") (by rfl)) (.cons (bind_local C (x := "ranges") (by rfl)) (.cons (bind_local C (x := "nets") (by rfl)) (.cons (bind_local C (x := "told") (by rfl)) .nil)))) (se_tup _ _ (sl_cons _ (se_list _ (sl_cons _ (se_callT C (loads_blt C (x := "list") (by rfl) (by rfl) G.m_list G.b_list) sn_listC (sa_cons (se_take _ _ (se_local C "script" _ (by rfl) (by rfl)) (se_int 48 _ _)) sa_nil (starEach_ns rfl)) (starEach_ns rfl) (by rfl)) (sl_cons _ (se_int 0 _ _) (sl_nil _) (starEach_ns rfl)) (starEach_ns rfl))) (sl_cons _ (se_list _ (sl_nil _)) (sl_cons _ (se_dict0 (.dT none []) (.inr (.inr rfl)) _) (sl_cons _ (se_dict0 (.dT none []) (.inr (.inr rfl)) _) (sl_nil _) (starEach_ns rfl)) (starEach_ns rfl)) (starEach_ns rfl)) (starEach_ns rfl))) (by rfl) (by rfl)
    · refine ss_cons ?_ ?_
      · refine ss1_forR _ (se_bin .Add _ (se_int 2 _ _) (se_call C (x := "_law_draw") ⟨_, G.recs _ rec_law_draw, rfl⟩ (by rfl) (by rfl) ((fs_law_draw G).mono (by decide)) (sa_cons (se_local C "box" _ (by rfl) (by rfl)) (sa_cons (se_int 2 _ _) sa_nil (starEach_ns rfl)) (starEach_ns rfl)) (starEach_ns rfl))) (target_name _ (bind_local C (x := "turn") (by rfl))) ?_ (by intro _; rfl) (range_call C (loads_blt C (x := "range") (by rfl) (by rfl) G.m_range G.b_range) (starEach_ns rfl))
        · refine ss_cons ?_ ?_
          · exact ss1_assignW2 _ _ _ (bind_local C (x := "wide") (by rfl)) (bind_local C (x := "is_shown") (by rfl)) (by decide) (se_tup _ _ (sl_cons _ (se_call C (x := "_law_prefix") ⟨_, G.recs _ rec_law_prefix, rfl⟩ (by rfl) (by rfl) ((fs_law_prefix G).mono (by decide)) (sa_cons (se_local C "box" _ (by rfl) (by rfl)) (sa_cons (se_call C (x := "_law_draw") ⟨_, G.recs _ rec_law_draw, rfl⟩ (by rfl) (by rfl) ((fs_law_draw G).mono (by decide)) (sa_cons (se_local C "box" _ (by rfl) (by rfl)) (sa_cons (se_int 4 _ _) sa_nil (starEach_ns rfl)) (starEach_ns rfl)) (starEach_ns rfl)) sa_nil (starEach_ns rfl)) (starEach_ns rfl)) (starEach_ns rfl)) (sl_cons _ (se_cmp .Gt _ (se_call C (x := "_law_draw") ⟨_, G.recs _ rec_law_draw, rfl⟩ (by rfl) (by rfl) ((fs_law_draw G).mono (by decide)) (sa_cons (se_local C "box" _ (by rfl) (by rfl)) (sa_cons (se_int 4 _ _) sa_nil (starEach_ns rfl)) (starEach_ns rfl)) (starEach_ns rfl)) (se_int 0 _ _) (by rfl)) (sl_nil _) (starEach_ns rfl)) (starEach_ns rfl))) (by rfl) (by rfl)
          · refine ss_one ?_
            refine ss1_if _ (sb_cmp .NotIn _ _ (se_local C "wide" _ (by rfl) (by rfl)) (se_callT C (loads_blt C (x := "dict") (by rfl) (by rfl) G.m_dict G.b_dict) sn_dictC (sa_cons (se_local C "ranges" _ (by rfl) (by rfl)) sa_nil (starEach_ns rfl)) (starEach_ns rfl) (by rfl)) (by rfl)) ?_ ?_
            · refine ss_one ?_
              exact ss1_expr _ (se_meth (T := "list") (id := "list.append") (by rfl) (by rfl) (by rfl) PySem.F.plainAttrs_list PySem.F.slot_list_append PySem.F.type_list_append (rc := recvL) (fun R rv h => rcv_list R rv h) (se_local C "ranges" _ (by rfl) (by rfl)) (sa_cons (se_tup _ _ (sl_cons _ (se_local C "wide" _ (by rfl) (by rfl)) (sl_cons _ (se_local C "is_shown" _ (by rfl) (by rfl)) (sl_nil _) (starEach_ns rfl)) (starEach_ns rfl))) sa_nil (starEach_ns rfl)) sn_append (starEach_ns rfl) (by rfl)) (by rfl) (by rfl)
            · exact ss_nil
      · refine ss_cons ?_ ?_
        · refine ss1_forR _ (se_int 7 _ _) (target_name _ (bind_local C (x := "turn") (by rfl))) ?_ (by intro _; rfl) (range_call C (loads_blt C (x := "range") (by rfl) (by rfl) G.m_range G.b_range) (starEach_ns rfl))
          · refine ss_cons ?_ ?_
            · refine ss1_assign _ _ ?_ ?_ ?_
              · exact (bind_local C (x := "form") (by rfl))
              · exact (se_if _ (sb_cmp .Gt _ _ (se_local C "turn" _ (by rfl) (by rfl)) (se_int 2 _ _) (by rfl)) (se_call C (x := "_law_draw") ⟨_, G.recs _ rec_law_draw, rfl⟩ (by rfl) (by rfl) ((fs_law_draw G).mono (by decide)) (sa_cons (se_local C "box" _ (by rfl) (by rfl)) (sa_cons (se_int 5 _ _) sa_nil (starEach_ns rfl)) (starEach_ns rfl)) (starEach_ns rfl)) (se_int 1 _ _))
              · rfl
            · refine ss_cons ?_ ?_
              · exact ss1_assignW2 _ _ _ (bind_local C (x := "prefix") (by rfl)) (bind_local C (x := "cost") (by rfl)) (by decide) (se_tup _ _ (sl_cons _ (se_call C (x := "_law_prefix") ⟨_, G.recs _ rec_law_prefix, rfl⟩ (by rfl) (by rfl) ((fs_law_prefix G).mono (by decide)) (sa_cons (se_local C "box" _ (by rfl) (by rfl)) (sa_cons (se_bin .Add _ (se_int 1 _ _) (se_call C (x := "_law_draw") ⟨_, G.recs _ rec_law_draw, rfl⟩ (by rfl) (by rfl) ((fs_law_draw G).mono (by decide)) (sa_cons (se_local C "box" _ (by rfl) (by rfl)) (sa_cons (se_int 3 _ _) sa_nil (starEach_ns rfl)) (starEach_ns rfl)) (starEach_ns rfl))) sa_nil (starEach_ns rfl)) (starEach_ns rfl)) (starEach_ns rfl)) (sl_cons _ (se_item _ (se_tup _ _ (sl_cons _ (se_int 1 _ _) (sl_cons _ (se_int 3 _ _) (sl_cons _ (se_int 4 _ _) (sl_cons _ (se_int 7 _ _) (sl_nil _) (starEach_ns rfl)) (starEach_ns rfl)) (starEach_ns rfl)) (starEach_ns rfl))) (se_call C (x := "_law_draw") ⟨_, G.recs _ rec_law_draw, rfl⟩ (by rfl) (by rfl) ((fs_law_draw G).mono (by decide)) (sa_cons (se_local C "box" _ (by rfl) (by rfl)) (sa_cons (se_int 4 _ _) sa_nil (starEach_ns rfl)) (starEach_ns rfl)) (starEach_ns rfl)) (by intro _ _; rfl)) (sl_nil _) (starEach_ns rfl)) (starEach_ns rfl))) (by rfl) (by rfl)
              · refine ss_cons ?_ ?_
                · refine ss1_if _ (sb_bool _ _ (sb_and_cons (sb_cmp .Gt _ _ (se_local C "form" _ (by rfl) (by rfl)) (se_int 2 _ _) (by rfl)) (sb_and_cons (sb_cmp .NotEq _ _ (se_local C "nets" _ (by rfl) (by rfl)) (se_dict0 (.dT none []) (.inr (.inr rfl)) _) (by rfl)) sb_and_nil))) ?_ ?_
                  · refine ss_cons ?_ ?_
                    · refine ss1_assign _ _ ?_ ?_ ?_
                      · exact (bind_local C (x := "prefix") (by rfl))
                      · exact (se_item _ (se_callB C (loads_blt C (x := "sorted") (by rfl) (by rfl) G.m_sorted G.b_sorted) sn_sorted (sa_cons (se_local C "nets" _ (by rfl) (by rfl)) sa_nil (starEach_ns rfl)) (starEach_ns rfl) (by rfl)) (se_call C (x := "_law_draw") ⟨_, G.recs _ rec_law_draw, rfl⟩ (by rfl) (by rfl) ((fs_law_draw G).mono (by decide)) (sa_cons (se_local C "box" _ (by rfl) (by rfl)) (sa_cons (se_callB C (loads_blt C (x := "len") (by rfl) (by rfl) G.m_len G.b_len) sn_len (sa_cons (se_local C "nets" _ (by rfl) (by rfl)) sa_nil (starEach_ns rfl)) (starEach_ns rfl) (by rfl)) sa_nil (starEach_ns rfl)) (starEach_ns rfl)) (starEach_ns rfl)) (by intro _ _; rfl))
                      · rfl
                    · refine ss_one ?_
                      exact ss1_expr _ (se_meth (T := "dict") (id := "dict.pop") (by rfl) (by rfl) (by rfl) PySem.F.plainAttrs_dict PySem.F.slot_dict_pop PySem.F.type_dict_pop (rc := recvD) (fun R rv h => rcv_dict R rv h) (se_local C "nets" _ (by rfl) (by rfl)) (sa_cons (se_local C "prefix" _ (by rfl) (by rfl)) sa_nil (starEach_ns rfl)) sn_pop1 (starEach_ns rfl) (by rfl)) (by rfl) (by rfl)
                  · refine ss_one ?_
                    exact ss1_set _ _ (se_if _ (sb_cmp .Gt _ _ (se_local C "form" _ (by rfl) (by rfl)) (se_int 0 _ _) (by rfl)) (se_local C "cost" _ (by rfl) (by rfl)) (se_int 16777215 _ _)) (se_local C "nets" _ (by rfl) (by rfl)) (se_local C "prefix" _ (by rfl) (by rfl)) (by rfl)
                · refine ss_cons ?_ ?_
                  · exact ss1_assignW2 _ _ _ (bind_local C (x := "before") (by rfl)) (bind_local C (x := "told") (by rfl)) (by decide) (se_tup _ _ (sl_cons _ (se_local C "told" _ (by rfl) (by rfl)) (sl_cons _ (se_call C (x := "_law_learned") ⟨_, G.recs _ rec_law_learned, rfl⟩ (by rfl) (by rfl) ((fs_law_learned G).mono (by decide)) (sa_cons (se_local C "nets" _ (by rfl) (by rfl)) (sa_cons (se_local C "ranges" _ (by rfl) (by rfl)) sa_nil (starEach_ns rfl)) (starEach_ns rfl)) (starEach_ns rfl)) (sl_nil _) (starEach_ns rfl)) (starEach_ns rfl))) (by rfl) (by rfl)
                  · refine ss_one ?_
                    refine ss1_if _ (sb_not _ _ (sb_val (se_call C (x := "_law_turned_right") ⟨_, G.recs _ rec_law_turned_right, rfl⟩ (by rfl) (by rfl) ((fs_law_turned_right G).mono (by decide)) (sa_cons (se_local C "before" _ (by rfl) (by rfl)) (sa_cons (se_local C "told" _ (by rfl) (by rfl)) (sa_cons (se_local C "prefix" _ (by rfl) (by rfl)) (sa_cons (se_local C "nets" _ (by rfl) (by rfl)) (sa_cons (se_local C "ranges" _ (by rfl) (by rfl)) sa_nil (starEach_ns rfl)) (starEach_ns rfl)) (starEach_ns rfl)) (starEach_ns rfl)) (starEach_ns rfl)) (starEach_ns rfl)) (by intro _; rfl))) ?_ ?_
                    · refine ss_one ?_
                      exact ss1_ret _ (se_bool false _ _)
                    · exact ss_nil
        · refine ss_cons ?_ ?_
          · exact ss1_assignLC C (cl := []) [] (bind_local C (x := "rows") (by rfl)) (by rfl) (fun _ => rfl) (by rfl) (by rfl) (by decide +kernel) (by decide +kernel) (List.forall_mem_nil _) (List.forall_mem_nil _) (se_call C (x := "_law_rows") ⟨_, G.recs _ rec_law_rows, rfl⟩ (by rfl) (by rfl) ((fs_law_rows G).mono (by decide)) (sa_cons (se_local C "nets" _ (by rfl) (by rfl)) sa_nil (starEach_ns rfl)) (starEach_ns rfl)) (fun C' base c => ⟨target_name _ (bind_local c (x := "row") (by rfl)), tests_one (sb_cmp .Lt _ _ (se_item _ (se_local c "row" _ (by rfl) (by rfl)) (se_int 2 _ _) (by intro _ _; rfl)) (se_int 16777215 _ _) (by rfl)), (se_local c "row" _ (by rfl) (by rfl))⟩)
          · refine ss_cons ?_ ?_
            · refine ss1_if _ (sb_cmp .Eq _ _ (se_local C "rows" _ (by rfl) (by rfl)) (se_list _ (sl_nil _)) (by rfl)) ?_ ?_
              · refine ss_one ?_
                exact ss1_ret _ (se_cmp .Eq _ (se_local C "told" _ (by rfl) (by rfl)) (se_dict0 (.dT none []) (.inr (.inr rfl)) _) (by rfl))
              · exact ss_nil
            · refine ss_cons ?_ ?_
              · refine ss1_if _ (sb_not _ _ (sb_val (se_call C (x := "_law_lots_right") ⟨_, G.recs _ rec_law_lots_right, rfl⟩ (by rfl) (by rfl) ((fs_law_lots_right G).mono (by decide)) (sa_cons (se_local C "rows" _ (by rfl) (by rfl)) (sa_cons (se_bin .Add _ (se_int 1 _ _) (se_call C (x := "_law_draw") ⟨_, G.recs _ rec_law_draw, rfl⟩ (by rfl) (by rfl) ((fs_law_draw G).mono (by decide)) (sa_cons (se_local C "box" _ (by rfl) (by rfl)) (sa_cons (se_int 3 _ _) sa_nil (starEach_ns rfl)) (starEach_ns rfl)) (starEach_ns rfl))) (sa_cons (se_local C "ranges" _ (by rfl) (by rfl)) (sa_cons (se_local C "told" _ (by rfl) (by rfl)) sa_nil (starEach_ns rfl)) (starEach_ns rfl)) (starEach_ns rfl)) (starEach_ns rfl)) (starEach_ns rfl)) (by intro _; rfl))) ?_ ?_
                · refine ss_one ?_
                  exact ss1_ret _ (se_bool false _ _)
                · exact ss_nil
              · refine ss_cons ?_ ?_
                · refine ss1_assign _ _ ?_ ?_ ?_
                  · exact (bind_local C (x := "base") (by rfl))
                  · exact (se_item _ (se_item _ (se_local C "rows" _ (by rfl) (by rfl)) (se_call C (x := "_law_draw") ⟨_, G.recs _ rec_law_draw, rfl⟩ (by rfl) (by rfl) ((fs_law_draw G).mono (by decide)) (sa_cons (se_local C "box" _ (by rfl) (by rfl)) (sa_cons (se_callB C (loads_blt C (x := "len") (by rfl) (by rfl) G.m_len G.b_len) sn_len (sa_cons (se_local C "rows" _ (by rfl) (by rfl)) sa_nil (starEach_ns rfl)) (starEach_ns rfl) (by rfl)) sa_nil (starEach_ns rfl)) (starEach_ns rfl)) (starEach_ns rfl)) (by intro _ _; rfl)) (se_int 0 _ _) (by intro _ _; rfl))
                  · rfl
                · refine ss_cons ?_ ?_
                  · refine ss1_assign _ _ ?_ ?_ ?_
                    · exact (bind_local C (x := "length") (by rfl))
                    · exact (se_bin .Add _ (se_int 1 _ _) (se_call C (x := "_law_draw") ⟨_, G.recs _ rec_law_draw, rfl⟩ (by rfl) (by rfl) ((fs_law_draw G).mono (by decide)) (sa_cons (se_local C "box" _ (by rfl) (by rfl)) (sa_cons (se_item _ (se_local C "base" _ (by rfl) (by rfl)) (se_int 1 _ _) (by intro _ _; rfl)) sa_nil (starEach_ns rfl)) (starEach_ns rfl)) (starEach_ns rfl)))
                    · rfl
                  · refine ss_cons ?_ ?_
                    · refine ss1_assign _ _ ?_ ?_ ?_
                      · exact (bind_local C (x := "further") (by rfl))
                      · exact (se_tup _ _ (sl_cons _ (se_bin .Mult _ (se_bin .FloorDiv _ (se_item _ (se_local C "base" _ (by rfl) (by rfl)) (se_int 0 _ _) (by intro _ _; rfl)) (se_bin .Pow _ (se_int 2 _ _) (se_bin .Sub _ (se_int 4 _ _) (se_local C "length" _ (by rfl) (by rfl))))) (se_bin .Pow _ (se_int 2 _ _) (se_bin .Sub _ (se_int 4 _ _) (se_local C "length" _ (by rfl) (by rfl))))) (sl_cons _ (se_local C "length" _ (by rfl) (by rfl)) (sl_nil _) (starEach_ns rfl)) (starEach_ns rfl)))
                      · rfl
                    · refine ss_cons ?_ ?_
                      · refine ss1_if _ (sb_cmp .In _ _ (se_local C "further" _ (by rfl) (by rfl)) (se_callT C (loads_blt C (x := "dict") (by rfl) (by rfl) G.m_dict G.b_dict) sn_dictC (sa_cons (se_local C "ranges" _ (by rfl) (by rfl)) sa_nil (starEach_ns rfl)) (starEach_ns rfl) (by rfl)) (by rfl)) ?_ ?_
                        · refine ss_one ?_
                          refine ss1_assign _ _ ?_ ?_ ?_
                          · exact (bind_local C (x := "further") (by rfl))
                          · exact (se_local C "base" _ (by rfl) (by rfl))
                          · rfl
                        · exact ss_nil
                      · refine ss_one ?_
                        exact ss1_ret _ (se_or _ (se_cmp .In _ (se_local C "further" _ (by rfl) (by rfl)) (se_callT C (loads_blt C (x := "dict") (by rfl) (by rfl) G.m_dict G.b_dict) sn_dictC (sa_cons (se_local C "ranges" _ (by rfl) (by rfl)) sa_nil (starEach_ns rfl)) (starEach_ns rfl) (by rfl)) (by rfl)) (se_bool1 _ (se_call C (x := "_law_further_right") ⟨_, G.recs _ rec_law_further_right, rfl⟩ (by rfl) (by rfl) ((fs_law_further_right G).mono (by decide)) (sa_cons (se_local C "rows" _ (by rfl) (by rfl)) (sa_cons (se_local C "further" _ (by rfl) (by rfl)) (sa_cons (se_local C "ranges" _ (by rfl) (by rfl)) (sa_cons (se_local C "told" _ (by rfl) (by rfl)) sa_nil (starEach_ns rfl)) (starEach_ns rfl)) (starEach_ns rfl)) (starEach_ns rfl)) (starEach_ns rfl))))

end
end Mine
end

section -- L1
set_option autoImplicit false
set_option linter.unusedVariables false
set_option maxRecDepth 100000
namespace Mine

/-! prefixes of length 0 to 3 on 4 bits -/
abbrev Px := Int × Int
noncomputable def allP : List Px := [(0, 0), (0, 1), (8, 1), (0, 2), (4, 2), (8, 2), (12, 2), (0, 3), (2, 3), (4, 3), (6, 3), (8, 3), (10, 3), (12, 3), (14, 3)]
noncomputable def msk (l : Int) : Int := (1 * 2 ^ l.toNat - 1) * 2 ^ (4 - l).toNat
noncomputable def cov (one other : Px) : Bool := decide (one.2 ≤ other.2) && decide (Builtin.bitAnd other.1 (msk one.2) = one.1)
noncomputable def inn (p wd : Px) : Bool := decide (wd.2 ≤ p.2) && decide (p.1.fdiv (2 ^ (4 - wd.2).toNat) = wd.1.fdiv (2 ^ (4 - wd.2).toNat))
noncomputable def pat (a l : Int) : Px := (Builtin.bitAnd a (msk l), l)
noncomputable def lastP (p : Px) : Int := Builtin.bitOr p.1 (1 * 2 ^ (4 : Int).toNat - 1 - msk p.2)

theorem inn_cov : ∀ p ∈ allP, ∀ q ∈ allP, inn p q = cov q p := by decide +kernel
theorem cov_refl : ∀ p ∈ allP, cov p p = true := by decide +kernel
theorem cov_trans : ∀ p ∈ allP, ∀ q ∈ allP, cov p q = true → ∀ r ∈ allP, cov q r = true → cov p r = true := by decide +kernel
theorem cov_nest : ∀ p ∈ allP, ∀ q ∈ allP, p.2 ≤ q.2 → ∀ r ∈ allP, cov p r = true → cov q r = true → cov p q = true := by decide +kernel
theorem cov_eq : ∀ p ∈ allP, ∀ q ∈ allP, p.2 = q.2 → ∀ r ∈ allP, cov p r = true → cov q r = true → p = q := by decide +kernel
theorem cov_len {p q : Px} (h : cov p q = true) : p.2 ≤ q.2 := by
  unfold cov at h; simp at h; exact h.1
theorem len_bd : ∀ p ∈ allP, 0 ≤ p.2 ∧ p.2 ≤ 3 := by decide +kernel
theorem pat_first : ∀ p ∈ allP, pat p.1 p.2 = p := by decide +kernel
theorem pat_last : ∀ p ∈ allP, pat (lastP p) p.2 = p := by decide +kernel
theorem first_ne_last : ∀ p ∈ allP, ∀ q ∈ allP, p.1 ≠ lastP q := by decide +kernel
theorem last_last : ∀ p ∈ allP, ∀ q ∈ allP, p.2 < q.2 → lastP p = lastP q → ∀ q' ∈ allP, q'.1 = q.1 → q'.2 < q.2 → False := by decide +kernel
theorem last_eq : ∀ p ∈ allP, ∀ q ∈ allP, p.2 = q.2 → lastP p = lastP q → p = q := by decide +kernel
theorem px_eq : ∀ p ∈ allP, ∀ q ∈ allP, p.2 = q.2 → p.1 = q.1 → p = q := by decide +kernel
theorem hash_inj : ∀ p ∈ allP, ∀ q ∈ allP, hashK p = hashK q → p = q := by decide +kernel
theorem id_bd : ∀ p ∈ allP, (0 ≤ p.1 ∧ p.1 < 16) ∧ (0 ≤ lastP p ∧ lastP p < 16) := by decide +kernel

theorem nodup_map_on {α β : Type} (f : α → β) : ∀ {l : List α}, l.Nodup → (∀ a ∈ l, ∀ b ∈ l, f a = f b → a = b) → (l.map f).Nodup
  | [], _, _ => by simp
  | a :: l, h, hi => by
    rw [List.map_cons, List.nodup_cons]
    rw [List.nodup_cons] at h
    refine ⟨fun m => ?_, nodup_map_on f h.2 fun x hx y hy => hi x (List.mem_cons_of_mem _ hx) y (List.mem_cons_of_mem _ hy)⟩
    obtain ⟨b, hb, e⟩ := List.mem_map.mp m
    exact h.1 (hi a List.mem_cons_self b (List.mem_cons_of_mem _ hb) e.symm ▸ hb)
theorem length_of_sub {α : Type} [DecidableEq α] : ∀ {l m : List α}, l.Nodup → (∀ a ∈ l, a ∈ m) → l.length ≤ m.length
  | [], m, _, _ => by simp
  | a :: l, m, h, hs => by
    rw [List.nodup_cons] at h
    have := length_of_sub (l := l) (m := m.erase a) h.2 fun b hb => (List.mem_erase_of_ne (fun q : b = a => h.1 (by rw [← q]; exact hb))).mpr (hs b (List.mem_cons_of_mem _ hb))
    rw [List.length_erase_of_mem (hs a List.mem_cons_self)] at this
    have : 0 < m.length := List.length_pos_of_mem (hs a List.mem_cons_self)
    simp only [List.length_cons]; omega
theorem hash_nodup {l : List Px} (h : l.Nodup) (hs : ∀ p ∈ l, p ∈ allP) : (l.map hashK).Nodup := nodup_map_on hashK h fun a ha b hb e => hash_inj a (hs a ha) b (hs b hb) e

/-! a range list, the range of a prefix -/
abbrev Rg := List (Px × Bool)
noncomputable def lessF (f : Option (Px × Bool)) (one : Px × Bool) : Bool := match f with
  | none => true
  | some g => decide (g.1.2 < one.1.2)
noncomputable def better (p : Px) (f : Option (Px × Bool)) (one : Px × Bool) : Option (Px × Bool) := if (cov one.1 p && lessF f one) = true then some one else f
noncomputable def rng (R : Rg) (p : Px) : Option (Px × Bool) := R.foldl (better p) none
noncomputable def hm (R : Rg) (p : Px) : Px := match rng R p with
  | none => p
  | some o => o.1
noncomputable def sh (R : Rg) (p : Px) : Bool := match rng R p with
  | none => true
  | some o => o.2
structure GoodR (R : Rg) : Prop where
  sub : ∀ o ∈ R, o.1 ∈ allP
  nodup : (R.map (·.1)).Nodup
noncomputable def Best (R : Rg) (p : Px) : Option (Px × Bool) → Prop
  | none => ∀ o ∈ R, cov o.1 p = false
  | some one => one ∈ R ∧ cov one.1 p = true ∧ ∀ o ∈ R, cov o.1 p = true → o.1.2 ≤ one.1.2

theorem better_best {L : Rg} {p : Px} {f : Option (Px × Bool)} (one : Px × Bool) (h : Best L p f) : Best (L ++ [one]) p (better p f one) := by
  unfold better
  cases hc : cov one.1 p with
  | false =>
    rw [if_neg (by simp)]
    cases f with
    | none =>
      intro o ho
      rcases List.mem_append.mp ho with ho | ho
      · exact h o ho
      · simp at ho; subst ho; exact hc
    | some g =>
      refine ⟨List.mem_append_left _ h.1, h.2.1, fun o ho hco => ?_⟩
      rcases List.mem_append.mp ho with ho | ho
      · exact h.2.2 o ho hco
      · simp at ho; subst ho; rw [hc] at hco; cases hco
  | true =>
    cases f with
    | none =>
      rw [if_pos (by simp [lessF])]
      refine ⟨by simp, hc, fun o ho hco => ?_⟩
      rcases List.mem_append.mp ho with ho | ho
      · rw [h o ho] at hco; cases hco
      · simp at ho; subst ho; exact Int.le_refl _
    | some g =>
      by_cases q : g.1.2 < one.1.2
      · rw [if_pos (by simp [lessF, q])]
        refine ⟨by simp, hc, fun o ho hco => ?_⟩
        rcases List.mem_append.mp ho with ho | ho
        · have := h.2.2 o ho hco; omega
        · simp at ho; subst ho; exact Int.le_refl _
      · rw [if_neg (by simp [lessF, q])]
        refine ⟨List.mem_append_left _ h.1, h.2.1, fun o ho hco => ?_⟩
        rcases List.mem_append.mp ho with ho | ho
        · exact h.2.2 o ho hco
        · simp at ho; subst ho; omega
theorem fold_best {p : Px} : ∀ (R L : Rg) (f : Option (Px × Bool)), Best L p f → Best (L ++ R) p (R.foldl (better p) f)
  | [], L, f, h => by simpa using h
  | one :: R, L, f, h => by
    have := fold_best R (L ++ [one]) _ (better_best one h)
    simpa using this
theorem rng_best (R : Rg) (p : Px) : Best R p (rng R p) := by
  have := fold_best (p := p) R [] none (fun o ho => absurd ho (by simp))
  simp only [List.nil_append] at this; exact this

theorem nodup_fst {α β : Type} : ∀ {l : List (α × β)}, (l.map (·.1)).Nodup → ∀ {a b : α × β}, a ∈ l → b ∈ l → a.1 = b.1 → a = b
  | [], _, _, _, ha, _, _ => absurd ha (by simp)
  | x :: l, h, a, b, ha, hb, e => by
    rw [List.map_cons, List.nodup_cons] at h
    rcases List.mem_cons.mp ha with q | ha' <;> rcases List.mem_cons.mp hb with q' | hb'
    · rw [q, q']
    · subst q; exact absurd (List.mem_map.mpr ⟨b, hb', e.symm⟩) h.1
    · subst q'; exact absurd (List.mem_map.mpr ⟨a, ha', e⟩) h.1
    · exact nodup_fst h.2 ha' hb' e

theorem best_uniq {R : Rg} (G : GoodR R) {p : Px} (hp : p ∈ allP) {f g : Option (Px × Bool)} (h : Best R p f) (h' : Best R p g) : f = g := by
  cases f with
  | none => cases g with
    | none => rfl
    | some b => have := h b h'.1; rw [h'.2.1] at this; cases this
  | some a => cases g with
    | none => have := h' a h.1; rw [h.2.1] at this; cases this
    | some b =>
      have e1 := h.2.2 b h'.1 h'.2.1
      have e2 := h'.2.2 a h.1 h.2.1
      have := cov_eq a.1 (G.sub a h.1) b.1 (G.sub b h'.1) (by omega) p hp h.2.1 h'.2.1
      rw [nodup_fst G.nodup h.1 h'.1 this]
theorem hm_none {R : Rg} {p : Px} (h : rng R p = none) : hm R p = p := by simp [hm, h]
theorem sh_none {R : Rg} {p : Px} (h : rng R p = none) : sh R p = true := by simp [sh, h]
theorem hm_some {R : Rg} {p : Px} {o : Px × Bool} (h : rng R p = some o) : hm R p = o.1 := by simp [hm, h]
theorem sh_some {R : Rg} {p : Px} {o : Px × Bool} (h : rng R p = some o) : sh R p = o.2 := by simp [sh, h]
theorem hm_all {R : Rg} (G : GoodR R) {p : Px} (hp : p ∈ allP) : hm R p ∈ allP := by
  have h := rng_best R p
  cases e : rng R p with
  | none => rw [hm_none e]; exact hp
  | some o => rw [e] at h; rw [hm_some e]; exact G.sub o h.1
theorem hm_cov {R : Rg} {p : Px} (hp : p ∈ allP) : cov (hm R p) p = true := by
  have h := rng_best R p
  cases e : rng R p with
  | none => rw [hm_none e]; exact cov_refl p hp
  | some o => rw [e] at h; rw [hm_some e]; exact h.2.1
/-- the home names what is shown -/
theorem sh_of_hm {R : Rg} (G : GoodR R) {p q : Px} (hp : p ∈ allP) (hq : q ∈ allP) (h : hm R p = hm R q) : sh R p = sh R q := by
  have bp := rng_best R p
  have bq := rng_best R q
  cases ep : rng R p with
  | none =>
    rw [ep] at bp
    cases eq : rng R q with
    | none => rw [sh_none ep, sh_none eq]
    | some o =>
      rw [eq] at bq
      rw [hm_none ep, hm_some eq] at h
      subst h
      have := bp o bq.1; rw [cov_refl _ hp] at this; cases this
  | some o =>
    rw [ep] at bp
    cases eq : rng R q with
    | none =>
      rw [eq] at bq
      rw [hm_some ep, hm_none eq] at h
      subst h
      have := bq o bp.1; rw [cov_refl _ hq] at this; cases this
    | some o' =>
      rw [eq] at bq
      rw [hm_some ep, hm_some eq] at h
      rw [sh_some ep, sh_some eq, nodup_fst G.nodup bp.1 bq.1 h]
/-- a home in the ranges is the range -/
theorem hm_in {R : Rg} (G : GoodR R) {p : Px} (hp : p ∈ allP) {b : Bool} (h : (hm R p, b) ∈ R) : rng R p = some (hm R p, b) := by
  have bp := rng_best R p
  cases ep : rng R p with
  | none =>
    rw [ep] at bp; rw [hm_none ep] at h
    have := bp _ h; rw [cov_refl _ hp] at this; cases this
  | some o =>
    rw [ep] at bp; rw [hm_some ep] at h ⊢
    rw [nodup_fst G.nodup bp.1 h rfl]

/-! assoc lists of ints -/
abbrev Ai := List (Px × Int)
noncomputable def iget : Ai → Px → Option Int
  | [], _ => none
  | (k', v) :: r, k => if k' = k then some v else iget r k
noncomputable def iput : Ai → Px → Int → Ai
  | [], k, v => [(k, v)]
  | (k', v') :: r, k, v => if k' = k then (k', v) :: r else (k', v') :: iput r k v
noncomputable def idel (es : Ai) (k : Px) : Ai := es.filter fun e => decide (e.1 ≠ k)
theorem dget_ti (es : Ai) (k : Px) : dget (es.map toTi) k = (iget es k).map V.int := by
  induction es with
  | nil => rfl
  | cons e r ih => obtain ⟨a, b⟩ := e; simp only [List.map_cons, toTi, dget, iget]; split <;> simp_all [toTi]
theorem dput_ti (es : Ai) (k : Px) (c : Int) : dput (es.map toTi) k (.int c) = (iput es k c).map toTi := by
  induction es with
  | nil => rfl
  | cons e r ih => obtain ⟨a, b⟩ := e; simp only [List.map_cons, toTi, dput, iput]; split <;> simp_all [toTi]
theorem ddel_ti (es : Ai) (k : Px) : ddel (es.map toTi) k = (idel es k).map toTi := by
  simp only [ddel, idel, List.filter_map]; rfl
theorem iget_put (es : Ai) (k k' : Px) (v : Int) : iget (iput es k v) k' = if k = k' then some v else iget es k' := by
  induction es with
  | nil => simp [iput, iget]
  | cons e r ih =>
    obtain ⟨a, b⟩ := e
    unfold iput
    by_cases h : a = k
    · subst h; simp only [if_true, iget]; by_cases q : a = k' <;> simp [q]
    · rw [if_neg h]; simp only [iget]
      by_cases q : a = k'
      · subst q; simp [Ne.symm h]
      · simp [q, ih]
theorem iput_keys (es : Ai) (k : Px) (v : Int) : ∀ a, a ∈ (iput es k v).map (·.1) ↔ a = k ∨ a ∈ es.map (·.1) := by
  induction es with
  | nil => intro a; simp [iput]
  | cons e r ih =>
    obtain ⟨a, b⟩ := e
    intro x
    unfold iput
    by_cases h : a = k
    · subst h; simp
    · rw [if_neg h, List.map_cons, List.mem_cons, ih x, List.map_cons, List.mem_cons]
      constructor <;> (rintro (h | h | h) <;> simp [h])
theorem iput_nodup {es : Ai} (h : (es.map (·.1)).Nodup) (k : Px) (v : Int) : ((iput es k v).map (·.1)).Nodup := by
  induction es with
  | nil => simp [iput]
  | cons e r ih =>
    obtain ⟨a, b⟩ := e
    rw [List.map_cons, List.nodup_cons] at h
    unfold iput
    by_cases q : a = k
    · subst q; simp only [if_true, List.map_cons, List.nodup_cons]; exact h
    · rw [if_neg q, List.map_cons, List.nodup_cons]
      refine ⟨fun m => ?_, ih h.2⟩
      rcases (iput_keys r k v a).mp m with m | m
      · exact q m
      · exact h.1 m
theorem iget_mem {es : Ai} (h : (es.map (·.1)).Nodup) {k : Px} {v : Int} : iget es k = some v ↔ (k, v) ∈ es := by
  induction es with
  | nil => simp [iget]
  | cons e r ih =>
    obtain ⟨a, b⟩ := e
    rw [List.map_cons, List.nodup_cons] at h
    unfold iget
    by_cases q : a = k
    · subst q
      rw [if_pos rfl]
      constructor
      · intro e; cases e; simp
      · intro m
        rcases List.mem_cons.mp m with m | m
        · cases m; rfl
        · exact absurd (List.mem_map.mpr ⟨_, m, rfl⟩) h.1
    · rw [if_neg q, ih h.2]
      constructor
      · intro m; exact List.mem_cons_of_mem _ m
      · intro m
        rcases List.mem_cons.mp m with m | m
        · cases m; exact absurd rfl q
        · exact m
theorem iget_none {es : Ai} {k : Px} : iget es k = none ↔ k ∉ es.map (·.1) := by
  induction es with
  | nil => simp [iget]
  | cons e r ih =>
    obtain ⟨a, b⟩ := e
    unfold iget
    by_cases q : a = k
    · subst q; simp
    · rw [if_neg q, ih, List.map_cons, List.mem_cons]
      constructor
      · rintro h (m | m)
        · exact q m.symm
        · exact h m
      · intro h m; exact h (.inr m)

/-! a best cost -/
noncomputable def BestIs (S : Px → Int → Prop) : Option Int → Prop
  | none => ∀ p c, ¬ S p c
  | some c => (∃ p, S p c) ∧ ∀ p d, S p d → d ≤ c
theorem BestIs.uniq {S S' : Px → Int → Prop} {o o' : Option Int} (h : BestIs S o) (h' : BestIs S' o') (e : ∀ p c, S p c ↔ S' p c) : o = o' := by
  cases o with
  | none => cases o' with
    | none => rfl
    | some c => obtain ⟨⟨p, q⟩, _⟩ := h'; exact absurd ((e p c).mpr q) (h p c)
  | some c => cases o' with
    | none => obtain ⟨⟨p, q⟩, _⟩ := h; exact absurd ((e p c).mp q) (h' p c)
    | some d =>
      obtain ⟨⟨p, q⟩, m⟩ := h
      obtain ⟨⟨p', q'⟩, m'⟩ := h'
      have := m p' d ((e _ _).mpr q')
      have := m' p c ((e _ _).mp q)
      congr; omega

/-! condensing, as it is computed -/
noncomputable def condStep (R : Rg) (es : Ai) (row : Px × Int) : Ai := if sh R row.1 = true then iput es (hm R row.1) (max row.2 ((iget es (hm R row.1)).getD 0)) else es
noncomputable def cond (R : Rg) (rows : Ai) : Ai := rows.foldl (condStep R) []
noncomputable def Sel (R : Rg) (rows : Ai) (k : Px) (p : Px) (c : Int) : Prop := (p, c) ∈ rows ∧ sh R p = true ∧ hm R p = k

structure CondOk (R : Rg) (L : Ai) (es : Ai) : Prop where
  nodup : (es.map (·.1)).Nodup
  sub : ∀ k ∈ es.map (·.1), ∃ row ∈ L, k = hm R row.1
  best : ∀ k, BestIs (Sel R L k) (iget es k)
theorem condStep_ok {R : Rg} {L es : Ai} {row : Px × Int} (h : CondOk R L es) (h0 : 0 ≤ row.2) : CondOk R (L ++ [row]) (condStep R es row) := by
  unfold condStep
  by_cases hs : sh R row.1 = true
  · rw [if_pos hs]
    refine ⟨iput_nodup h.nodup _ _, fun k hk => ?_, fun k => ?_⟩
    · rcases (iput_keys _ _ _ _).mp hk with rfl | hk
      · exact ⟨row, by simp, rfl⟩
      · obtain ⟨r, hr, e⟩ := h.sub k hk; exact ⟨r, List.mem_append_left _ hr, e⟩
    · rw [iget_put]
      have hb := h.best k
      by_cases hk : hm R row.1 = k
      · rw [if_pos hk]
        subst hk
        cases e : iget es (hm R row.1) with
        | none =>
          rw [e] at hb
          have hmx : max row.2 ((none : Option Int).getD 0) = row.2 := by simp; omega
          rw [hmx]
          refine ⟨⟨row.1, by simp, hs, rfl⟩, fun p d hd => ?_⟩
          obtain ⟨m, h1, h2⟩ := hd
          rcases List.mem_append.mp m with m | m
          · exact absurd ⟨m, h1, h2⟩ (hb p d)
          · simp at m; rw [← m]; exact Int.le_refl _
        | some c =>
          rw [e] at hb
          obtain ⟨⟨p, m, h1, h2⟩, hmax⟩ := hb
          show BestIs _ (some (max row.2 c))
          refine ⟨?_, fun p d hd => ?_⟩
          · rcases Int.le_total row.2 c with hl | hl
            · rw [Int.max_eq_right hl]; exact ⟨p, List.mem_append_left _ m, h1, h2⟩
            · rw [Int.max_eq_left hl]; exact ⟨row.1, by simp, hs, rfl⟩
          · obtain ⟨m, h1, h2⟩ := hd
            rcases List.mem_append.mp m with m | m
            · have := hmax p d ⟨m, h1, h2⟩; omega
            · simp at m
              have : d = row.2 := by rw [← m]
              omega
      · rw [if_neg hk]
        have e : ∀ p c, Sel R L k p c ↔ Sel R (L ++ [row]) k p c := fun p c => by
          constructor
          · rintro ⟨m, h1, h2⟩; exact ⟨List.mem_append_left _ m, h1, h2⟩
          · rintro ⟨m, h1, h2⟩
            rcases List.mem_append.mp m with m | m
            · exact ⟨m, h1, h2⟩
            · simp at m; rw [← m] at hk; exact absurd h2 hk
        revert hb
        cases iget es k with
        | none => exact fun hb p c q => hb p c ((e p c).mpr q)
        | some d => exact fun hb => ⟨let ⟨p, q⟩ := hb.1; ⟨p, (e _ _).mp q⟩, fun p c q => hb.2 p c ((e p c).mpr q)⟩
  · rw [if_neg hs]
    refine ⟨h.nodup, fun k hk => by obtain ⟨r, hr, e⟩ := h.sub k hk; exact ⟨r, List.mem_append_left _ hr, e⟩, fun k => ?_⟩
    have hb := h.best k
    have e : ∀ p c, Sel R L k p c ↔ Sel R (L ++ [row]) k p c := fun p c => by
      constructor
      · rintro ⟨m, h1, h2⟩; exact ⟨List.mem_append_left _ m, h1, h2⟩
      · rintro ⟨m, h1, h2⟩
        rcases List.mem_append.mp m with m | m
        · exact ⟨m, h1, h2⟩
        · simp at m; rw [← m] at hs; exact absurd h1 hs
    revert hb
    cases iget es k with
    | none => exact fun hb p c q => hb p c ((e p c).mpr q)
    | some d => exact fun hb => ⟨let ⟨p, q⟩ := hb.1; ⟨p, (e _ _).mp q⟩, fun p c q => hb.2 p c ((e p c).mpr q)⟩
theorem fold_cond {R : Rg} : ∀ (rows L es : Ai), CondOk R L es → (∀ row ∈ rows, 0 ≤ row.2) → CondOk R (L ++ rows) (rows.foldl (condStep R) es)
  | [], L, es, h, _ => by simpa using h
  | row :: rows, L, es, h, h0 => by
    have := fold_cond rows (L ++ [row]) _ (condStep_ok h (h0 row (by simp))) fun r hr => h0 r (List.mem_cons_of_mem _ hr)
    simpa using this
theorem cond_ok (R : Rg) (rows : Ai) (h0 : ∀ row ∈ rows, 0 ≤ row.2) : CondOk R rows (cond R rows) := by
  have := fold_cond (R := R) rows [] [] ⟨by simp, fun k hk => absurd hk (by simp), fun k p c q => absurd q.1 (by simp)⟩ h0
  simp only [List.nil_append] at this; exact this
end Mine
end

section -- L2
set_option autoImplicit false
set_option linter.unusedVariables false
set_option linter.unusedSimpArgs false
set_option maxRecDepth 100000
namespace Mine

theorem AE.set_app (x : String) (v : V) (η : AE) (y : String) : AE.set x v η y = if y = x then some v else η y := rfl
theorem capE_app (caps : List String) (η : AE) (x : String) : capE caps η x = if x ∈ caps then η x else none := rfl
theorem zero_le_lit (n : Nat) : ((0 : Int) ≤ (OfNat.ofNat (n + 1))) = True := eq_true (by exact Int.natCast_nonneg _)
theorem xor_false_l (b : Bool) : (false ^^ b) = b := by cases b <;> rfl
theorem xor_true_l (b : Bool) : (true ^^ b) = !b := by cases b <;> rfl
theorem pre_set {st st' : St} (h : st <+: st') {n : Nat} (hn : st.length ≤ n) (o : O) : st <+: st'.set n o := by
  obtain ⟨t, rfl⟩ := h
  rw [List.set_append_right _ _ hn]
  exact List.prefix_append _ _
theorem pre_app {st st' : St} (h : st <+: st') (l : List O) : st <+: st' ++ l := h.trans (List.prefix_append _ _)
theorem pre_len {st st' : St} (h : st <+: st') : st.length ≤ st'.length := h.length_le
theorem last_get (st : St) (o : O) : (st ++ [o])[st.length]? = some o := by simp
theorem lt_of_get {st : St} {n : Nat} {o : O} (h : st[n]? = some o) : n < st.length := (List.getElem?_eq_some_iff.mp h).1
theorem op_add (a b : Int) : intOp .Add a b = some (a + b) := rfl
theorem op_sub (a b : Int) : intOp .Sub a b = some (a - b) := rfl
theorem op_and (a b : Int) : intOp .BitAnd a b = some (Builtin.bitAnd a b) := rfl
theorem op_or (a b : Int) : intOp .BitOr a b = some (Builtin.bitOr a b) := rfl
theorem op_shl {a b : Int} (h0 : 0 ≤ b) (h1 : b ≤ 1000) (h : a.natAbs < 1000000) : intOp .LShift a b = some (a * 2 ^ b.toNat) := if_pos ⟨h0, h1, h⟩
theorem op_pow {a b : Int} (h0 : 0 ≤ b) (h1 : b ≤ 1000) (h : a.natAbs < 1000000) : intOp .Pow a b = some (a ^ b.toNat) := if_pos ⟨h0, h1, h⟩
theorem op_mul {a b : Int} (h : b.natAbs < 1000000) : intOp .Mult a b = some (a * b) := if_pos h
theorem op_div {a b : Int} (h0 : b ≠ 0) (h : b.natAbs < 1000000) : intOp .FloorDiv a b = some (a.fdiv b) := if_pos ⟨h0, h⟩
theorem op_mod {a b : Int} (h0 : b ≠ 0) : intOp .Mod a b = some (a.fmod b) := if_pos h0

theorem truthV_b (b : Bool) (st : St) (Q : Bool → St → Prop) : truthV (.bool b) st Q = Q b st := rfl
theorem wOrdV_ii (f : Int → Int → Bool) (a b : Int) (st : St) (Q : V → St → Prop) : wOrdV f (.int a) (.int b) st Q = Q (.bool (f a b)) st := rfl
theorem wBinV_ii (op : Operator) (a b : Int) (st : St) (Q : V → St → Prop) : wBinV op (.int a) (.int b) st Q = ∃ c, intOp op a b = some c ∧ Q (.int c) st := rfl
theorem wItemV_t (vs : List V) (i : Int) (st : St) (Q : V → St → Prop) : wItemV (.tup vs) (.int i) st Q = (0 ≤ i ∧ i < 1000 ∧ ∃ v, vs[i.toNat]? = some v ∧ Q v st) := rfl
theorem wEqV_ii (neg : Bool) (a b : Int) (st : St) (Q : V → St → Prop) : wEqV neg (.int a) (.int b) st Q = Q (.bool (neg ^^ decide (a = b))) st := rfl
theorem wEqV_ss (neg : Bool) (a b : String) (st : St) (Q : V → St → Prop) : wEqV neg (.str a) (.str b) st Q = (neg = false ∧ Q (.bool (decide (a = b))) st) := rfl
theorem wEqV_nn (neg : Bool) (st : St) (Q : V → St → Prop) : wEqV neg .none .none st Q = Q (.bool (neg ^^ true)) st := rfl
theorem wEqV_in (neg : Bool) (a : Int) (st : St) (Q : V → St → Prop) : wEqV neg (.int a) .none st Q = Q (.bool (neg ^^ false)) st := rfl
theorem wEqV_ni (neg : Bool) (a : Int) (st : St) (Q : V → St → Prop) : wEqV neg .none (.int a) st Q = Q (.bool (neg ^^ false)) st := rfl
theorem wEqV_ll (neg : Bool) (n m : Nat) (st : St) (Q : V → St → Prop) : wEqV neg (.loc n) (.loc m) st Q = wEqLoc neg n m st Q := rfl
theorem wIsV_n (neg : Bool) (v : V) (st : St) (Q : V → St → Prop) : wIsV neg v .none st Q = Q (.bool (neg ^^ v.isNone)) st := rfl
theorem eq_keyT {neg : Bool} {k l : Px} {st : St} {Q : V → St → Prop} (h : Q (.bool (neg ^^ decide (k = l))) st) : wEqV neg (keyT k) (keyT l) st Q := by
  refine ⟨[k.1, k.2], [l.1, l.2], rfl, rfl, ?_⟩
  have : decide ([k.1, k.2] = [l.1, l.2]) = decide (k = l) := by
    obtain ⟨a, b⟩ := k; obtain ⟨c, d⟩ := l
    simp [decide_eq_decide]
  rw [this]; exact h
theorem item_T {n : Nat} {k : Px} {st : St} {lk : Option Nat} {es : List (Px × V)} {v : V} {Q : V → St → Prop} (h : st[n]? = some (.dT lk es)) (g : dget es k = some v) (hq : Q v st) : wItemV (.loc n) (.tup [.int k.1, .int k.2]) st Q := .inr (.inr (.inl ⟨lk, k, es, v, rfl, h, g, hq⟩))
theorem item_S {n : Nat} {k : String} {st : St} {es : List (String × V)} {v : V} {Q : V → St → Prop} (h : st[n]? = some (.dS es)) (g : dget es k = some v) (hq : Q v st) : wItemV (.loc n) (.str k) st Q := .inr (.inr (.inr ⟨k, es, v, rfl, h, g, hq⟩))
theorem item_I {n : Nat} {k : Int} {st : St} {es : List (Int × V)} {v : V} {Q : V → St → Prop} (h : st[n]? = some (.dI es)) (g : dget es k = some v) (hq : Q v st) : wItemV (.loc n) (.int k) st Q := .inr (.inl ⟨k, es, v, rfl, h, g, hq⟩)
theorem item_L {n : Nat} {k : Int} {st : St} {xs : List V} {v : V} {Q : V → St → Prop} (h0 : 0 ≤ k) (h1 : k < 1000) (h : st[n]? = some (.list xs)) (g : xs[k.toNat]? = some v) (hq : Q v st) : wItemV (.loc n) (.int k) st Q := .inl ⟨k, xs, v, rfl, h0, h1, h, g, hq⟩
theorem in_T {neg : Bool} {m : Nat} {k : Px} {st : St} {lk : Option Nat} {es : List (Px × V)} {Q : V → St → Prop} (h : st[m]? = some (.dT lk es)) (hq : Q (.bool (neg ^^ (dget es k).isSome)) st) : wInV neg (.tup [.int k.1, .int k.2]) (.loc m) st Q := .inr (.inl ⟨lk, k, es, rfl, h, hq⟩)
theorem in_I {neg : Bool} {m : Nat} {k : Int} {st : St} {es : List (Int × V)} {Q : V → St → Prop} (h : st[m]? = some (.dI es)) (hq : Q (.bool (neg ^^ (dget es k).isSome)) st) : wInV neg (.int k) (.loc m) st Q := .inl ⟨k, es, rfl, h, hq⟩
theorem in_L {neg : Bool} {m : Nat} {k : Px} {st : St} {ks : List Px} {Q : V → St → Prop} (h : st[m]? = some (.list (ks.map keyT))) (hq : Q (.bool (neg ^^ decide (k ∈ ks))) st) : wInV neg (.tup [.int k.1, .int k.2]) (.loc m) st Q := .inr (.inr ⟨k, ks, rfl, h, hq⟩)
theorem get1_T {n : Nat} {st : St} {lk : Option Nat} {es : List (Px × V)} {p : Px} {Q : V → St → Prop} (h : st[n]? = some (.dT lk es)) (hq : Q ((dget es p).getD .none) st) : wGet1 [.loc n, .tup [.int p.1, .int p.2]] st Q := ⟨lk, _, p, rfl, h, hq⟩
noncomputable def AscP (l : List Px) : Prop := l.Pairwise fun x y => ltP x y = true
theorem asc_nodup {l : List Px} (h : AscP l) : l.Nodup := h.imp fun {x y} h e => by subst e; rw [lin_ltP.asym _ _ h] at h; cases h
theorem items_l {n : Nat} {st : St} {xs : List V} (h : st[n]? = some (.list xs)) : itemsV (.loc n) st = some xs := by
  delta itemsV; dsimp only; rw [h]
theorem items_t {n : Nat} {st : St} {lk : Option Nat} {es : List (Px × V)} (h : st[n]? = some (.dT lk es)) : itemsV (.loc n) st = some (es.map fun p => keyT p.1) := by
  delta itemsV; dsimp only; rw [h]
theorem items_i {n : Nat} {st : St} {es : List (Int × V)} (h : st[n]? = some (.dI es)) : itemsV (.loc n) st = some (es.map fun p => .int p.1) := by
  delta itemsV; dsimp only; rw [h]
theorem wMax_i (a b : Int) (st : St) (Q : V → St → Prop) : wMax [.int a, .int b] st Q = Q (.int (max a b)) st := rfl
theorem wMax_l (n : Nat) (st : St) (Q : V → St → Prop) : wMax [.loc n] st Q = ∃ ns : List Int, st[n]? = some (.list (ns.map V.int)) ∧ ns ≠ [] ∧ ns.length ≤ 1000 ∧ Q (.int (maxL ns)) st := rfl
theorem wMin_i (a b : Int) (st : St) (Q : V → St → Prop) : wMin [.int a, .int b] st Q = Q (.int (min a b)) st := rfl
theorem wAbs_i (a : Int) (st : St) (Q : V → St → Prop) : wAbs [.int a] st Q = Q (.int (if a < 0 then -a else a)) st := rfl
theorem wLen_l (n : Nat) (st : St) (Q : V → St → Prop) : wLen [.loc n] st Q = ((∃ xs, st[n]? = some (.list xs) ∧ xs.length ≤ 1000 ∧ Q (.int xs.length) st) ∨ (∃ lk es, st[n]? = some (.dT lk es) ∧ es.length ≤ 1000 ∧ Q (.int es.length) st)) := rfl
theorem wTupC_l (n : Nat) (st : St) (Q : V → St → Prop) : wTupC [.loc n] st Q = ∃ xs, st[n]? = some (.list xs) ∧ xs.length ≤ 1000 ∧ Q (.tup xs) st := rfl
theorem wAppend_l (n : Nat) (v : V) (st : St) (Q : V → St → Prop) : wAppend [.loc n, v] st Q = ∃ xs, st[n]? = some (.list xs) ∧ xs.length ≤ 1000 ∧ Q .none (st.set n (.list (xs ++ [v]))) := rfl
theorem wUpdate_l (n m : Nat) (st : St) (Q : V → St → Prop) : wUpdate [.loc n, .loc m] st Q = ∃ lk es, n ≠ m ∧ st[n]? = some (.dT none []) ∧ st[m]? = some (.dT lk es) ∧ es.length ≤ 1000 ∧ (es.map fun p => hashK p.1).Nodup ∧ Q .none (st.set n (.dT none es)) := rfl
theorem wTakeV_t (vs : List V) (k : Int) (st : St) (Q : V → St → Prop) : wTakeV (.tup vs) (.int k) st Q = (k = 5 ∧ vs.length = 7 ∧ Q (.tup (vs.take 5)) st) := rfl
theorem wIter_t (vs : List V) (st : St) (k : Option (Nat × O) → List V → St → (St → St) → Prop) : wIter (.tup vs) st k = k none vs st id := rfl
theorem wLoop_nil (wt : WT) (wb : WS) (src : Option (Nat × O)) (η : AE) (st : St) (Q : Fl → AE → St → Prop) : wLoop wt wb src [] η st Q = Q .next η st := rfl
theorem wLoop_cons (wt : WT) (wb : WS) (src : Option (Nat × O)) (v : V) (vs : List V) (η : AE) (st : St) (Q : Fl → AE → St → Prop) : wLoop wt wb src (v :: vs) η st Q = wt v η fun η₁ => wb η₁ st fun f η₂ st₂ => SrcOk src st₂ ∧ match f with
    | .ret u => Q (.ret u) η₂ st₂
    | _ => wLoop wt wb src vs η₂ st₂ Q := rfl
theorem sorted_T {n : Nat} {st : St} {lk : Option Nat} {es : List (Px × V)} {Q : V → St → Prop} (h : st[n]? = some (.dT lk es)) (hn : (es.map (·.1)).Nodup) (hl : es.length < 64)
    (hq : ∀ ks : List Px, AscP ks → ks.Perm (es.map (·.1)) → Q (.loc st.length) (st ++ [.list (ks.map keyT)])) : wSorted false [.loc n] st Q := by
  refine ⟨.loc n, es.map fun p => keyT p.1, rfl, items_t h, .inl ⟨es.map fun p : Px × V => p.1, by simp [Function.comp_def], hn, by simpa using hl, ?_⟩⟩
  have e : katRev false (sortBy ltP (es.map fun p : Px × V => p.1)) = sortBy ltP (es.map fun p : Px × V => p.1) := by simp [katRev]
  rw [e]
  exact hq _ (sortBy_asc lin_ltP _ hn) (sortBy_perm _)

/-- the transformers by what they say, and small laws, in one -/
theorem wS : type_of% (And.intro @wSeq.eq_1 (And.intro @wRet.eq_1 (And.intro @wAssign.eq_1 (And.intro @wIfS.eq_1 (And.intro @wCont.eq_1 (And.intro @wSkip.eq_1 (And.intro @wExprS.eq_1 (And.intro @wBin.eq_1 (And.intro @wCmp.eq_1 (And.intro @wTest.eq_1 (And.intro @wCons.eq_1 (And.intro @wNil.eq_1 (And.intro @wTup.eq_1 (And.intro @wArgs.eq_1 (And.intro @wItem.eq_1 (And.intro @wConst.eq_1 (And.intro @wVar.eq_1 (And.intro @wMeth.eq_1 (And.intro @wAssignT.eq_1 (And.intro @wNot.eq_1 (And.intro @wAndB.eq_1 (And.intro @wOrB.eq_1 (And.intro @wConstB.eq_1 (And.intro @wAndE.eq_1 (And.intro @wOrE.eq_1 (And.intro @wIf.eq_1 (And.intro @tName.eq_1 (And.intro @tTuple.eq_1 (And.intro @keyT.eq_1 (And.intro @wFun.eq_1 (And.intro @wEmptyDict.eq_1 (And.intro @wList.eq_1 (And.intro @wSetItem.eq_1 (And.intro @wFor.eq_1 (And.intro @wForR.eq_1 (And.intro @wListComp.eq_1 (And.intro @wCompE.eq_1 (And.intro @wComp.eq_1 (And.intro @wTake.eq_1 (And.intro @wDrop.eq_1 (And.intro @wRev.eq_1 (And.intro @setAll.eq_1 (And.intro @setAll.eq_2 (And.intro @Fl.toRet.eq_1 (And.intro @Fl.toRet.eq_2 (And.intro @Fl.toRet.eq_3 (And.intro @wCmpV.eq_1 (And.intro @wCmpV.eq_2 (And.intro @wCmpV.eq_3 (And.intro @wCmpV.eq_4 (And.intro @wCmpV.eq_5 (And.intro @wCmpV.eq_6 (And.intro @wCmpV.eq_7 (And.intro @wCmpV.eq_8 (And.intro @wCmpV.eq_9 (And.intro @wCmpV.eq_10 (And.intro @V.plain.eq_1 (And.intro @V.plain.eq_2 (And.intro @V.plain.eq_3 (And.intro @V.plain.eq_4 (And.intro @V.isNone.eq_1 (And.intro @V.isNone.eq_2 (And.intro @truthV_b (And.intro @wOrdV_ii (And.intro @wBinV_ii (And.intro @wItemV_t (And.intro @wEqV_ii (And.intro @wEqV_ss (And.intro @wEqV_nn (And.intro @wEqV_in (And.intro @wEqV_ni (And.intro @wEqV_ll (And.intro @wIsV_n (And.intro @AE.set_app (And.intro @capE_app (And.intro @exists_eq_left'.{1} (And.intro @exists_eq_left.{1} (And.intro @Option.some.injEq.{0} (And.intro @true_and (And.intro @and_true (And.intro @List.length_cons.{0} (And.intro @List.length_nil.{0} (And.intro @List.getElem?_cons_zero.{0} (And.intro @List.getElem?_cons_succ.{0} (And.intro @List.mem_cons.{0} (And.intro @List.not_mem_nil.{0} (And.intro @or_false (And.intro @false_or (And.intro @or_true (And.intro @true_or (And.intro @zero_le_lit (And.intro @Bool.false_eq_true (And.intro @Bool.not_true (And.intro @Bool.not_false (And.intro @Bool.true_bne (And.intro @Bool.false_bne (And.intro @Bool.false_xor (And.intro @Bool.true_xor (And.intro @decide_true (And.intro @decide_false (And.intro @Int.toNat_zero (And.intro @Int.toNat_one (And.intro @List.cons.injEq.{0} (And.intro @List.map_cons.{0,0} (And.intro @List.map_nil.{0,0} (And.intro @V.tup.injEq (And.intro @V.int.injEq (And.intro @V.loc.injEq (And.intro @xor_false_l @xor_true_l))))))))))))))))))))))))))))))))))))))))))))))))))))))))))))))))))))))))))))))))))))))))))))))))))))))))))))) :=
  (And.intro @wSeq.eq_1 (And.intro @wRet.eq_1 (And.intro @wAssign.eq_1 (And.intro @wIfS.eq_1 (And.intro @wCont.eq_1 (And.intro @wSkip.eq_1 (And.intro @wExprS.eq_1 (And.intro @wBin.eq_1 (And.intro @wCmp.eq_1 (And.intro @wTest.eq_1 (And.intro @wCons.eq_1 (And.intro @wNil.eq_1 (And.intro @wTup.eq_1 (And.intro @wArgs.eq_1 (And.intro @wItem.eq_1 (And.intro @wConst.eq_1 (And.intro @wVar.eq_1 (And.intro @wMeth.eq_1 (And.intro @wAssignT.eq_1 (And.intro @wNot.eq_1 (And.intro @wAndB.eq_1 (And.intro @wOrB.eq_1 (And.intro @wConstB.eq_1 (And.intro @wAndE.eq_1 (And.intro @wOrE.eq_1 (And.intro @wIf.eq_1 (And.intro @tName.eq_1 (And.intro @tTuple.eq_1 (And.intro @keyT.eq_1 (And.intro @wFun.eq_1 (And.intro @wEmptyDict.eq_1 (And.intro @wList.eq_1 (And.intro @wSetItem.eq_1 (And.intro @wFor.eq_1 (And.intro @wForR.eq_1 (And.intro @wListComp.eq_1 (And.intro @wCompE.eq_1 (And.intro @wComp.eq_1 (And.intro @wTake.eq_1 (And.intro @wDrop.eq_1 (And.intro @wRev.eq_1 (And.intro @setAll.eq_1 (And.intro @setAll.eq_2 (And.intro @Fl.toRet.eq_1 (And.intro @Fl.toRet.eq_2 (And.intro @Fl.toRet.eq_3 (And.intro @wCmpV.eq_1 (And.intro @wCmpV.eq_2 (And.intro @wCmpV.eq_3 (And.intro @wCmpV.eq_4 (And.intro @wCmpV.eq_5 (And.intro @wCmpV.eq_6 (And.intro @wCmpV.eq_7 (And.intro @wCmpV.eq_8 (And.intro @wCmpV.eq_9 (And.intro @wCmpV.eq_10 (And.intro @V.plain.eq_1 (And.intro @V.plain.eq_2 (And.intro @V.plain.eq_3 (And.intro @V.plain.eq_4 (And.intro @V.isNone.eq_1 (And.intro @V.isNone.eq_2 (And.intro @truthV_b (And.intro @wOrdV_ii (And.intro @wBinV_ii (And.intro @wItemV_t (And.intro @wEqV_ii (And.intro @wEqV_ss (And.intro @wEqV_nn (And.intro @wEqV_in (And.intro @wEqV_ni (And.intro @wEqV_ll (And.intro @wIsV_n (And.intro @AE.set_app (And.intro @capE_app (And.intro @exists_eq_left'.{1} (And.intro @exists_eq_left.{1} (And.intro @Option.some.injEq.{0} (And.intro @true_and (And.intro @and_true (And.intro @List.length_cons.{0} (And.intro @List.length_nil.{0} (And.intro @List.getElem?_cons_zero.{0} (And.intro @List.getElem?_cons_succ.{0} (And.intro @List.mem_cons.{0} (And.intro @List.not_mem_nil.{0} (And.intro @or_false (And.intro @false_or (And.intro @or_true (And.intro @true_or (And.intro @zero_le_lit (And.intro @Bool.false_eq_true (And.intro @Bool.not_true (And.intro @Bool.not_false (And.intro @Bool.true_bne (And.intro @Bool.false_bne (And.intro @Bool.false_xor (And.intro @Bool.true_xor (And.intro @decide_true (And.intro @decide_false (And.intro @Int.toNat_zero (And.intro @Int.toNat_one (And.intro @List.cons.injEq.{0} (And.intro @List.map_cons.{0,0} (And.intro @List.map_nil.{0,0} (And.intro @V.tup.injEq (And.intro @V.int.injEq (And.intro @V.loc.injEq (And.intro @xor_false_l @xor_true_l)))))))))))))))))))))))))))))))))))))))))))))))))))))))))))))))))))))))))))))))))))))))))))))))))))))))))))))

theorem mask_of_spec {l : Int} (h0 : 0 ≤ l) (h4 : l ≤ 4) {st : St} {Q : V → St → Prop} (h : Q (.int (msk l)) st) : T_mask_of [.int l, .int 4] st Q := by
  have e1 : intOp .LShift 1 l = some (1 * 2 ^ l.toNat) := op_shl h0 (by omega) (by decide)
  have e2 : intOp .LShift (1 * 2 ^ l.toNat - 1) (4 - l) = some (msk l) := by
    have : l = 0 ∨ l = 1 ∨ l = 2 ∨ l = 3 ∨ l = 4 := by omega
    rcases this with rfl | rfl | rfl | rfl | rfl <;> rfl
  ((try simp only [wS, Nat.reduceAdd, Nat.reduceLeDiff, String.reduceEq, ↓reduceIte, Int.reduceLE, Int.reduceLT, Int.reduceEq, Int.reduceToNat, Nat.reduceLT, Nat.reduceEqDiff, reduceCtorEq, T_mask_of, wb_mask_of, e1, op_sub, e2]); repeat ((with_reducible refine Mine.later ?_); try simp only [wS, Nat.reduceAdd, Nat.reduceLeDiff, String.reduceEq, ↓reduceIte, Int.reduceLE, Int.reduceLT, Int.reduceEq, Int.reduceToNat, Nat.reduceLT, Nat.reduceEqDiff, reduceCtorEq, T_mask_of, wb_mask_of, e1, op_sub, e2]))
  exact h
theorem prefix_at_spec {a l : Int} (h0 : 0 ≤ l) (h4 : l ≤ 4) {st : St} {Q : V → St → Prop} (h : Q (keyT (pat a l)) st) : T_prefix_at [.int a, .int l, .int 4] st Q := by
  ((try simp only [wS, Nat.reduceAdd, Nat.reduceLeDiff, String.reduceEq, ↓reduceIte, Int.reduceLE, Int.reduceLT, Int.reduceEq, Int.reduceToNat, Nat.reduceLT, Nat.reduceEqDiff, reduceCtorEq, T_prefix_at, wb_prefix_at]); repeat ((with_reducible refine Mine.later ?_); try simp only [wS, Nat.reduceAdd, Nat.reduceLeDiff, String.reduceEq, ↓reduceIte, Int.reduceLE, Int.reduceLT, Int.reduceEq, Int.reduceToNat, Nat.reduceLT, Nat.reduceEqDiff, reduceCtorEq, T_prefix_at, wb_prefix_at]))
  refine mask_of_spec h0 h4 ?_
  ((try simp only [wS, Nat.reduceAdd, Nat.reduceLeDiff, String.reduceEq, ↓reduceIte, Int.reduceLE, Int.reduceLT, Int.reduceEq, Int.reduceToNat, Nat.reduceLT, Nat.reduceEqDiff, reduceCtorEq, op_and]); repeat ((with_reducible refine Mine.later ?_); try simp only [wS, Nat.reduceAdd, Nat.reduceLeDiff, String.reduceEq, ↓reduceIte, Int.reduceLE, Int.reduceLT, Int.reduceEq, Int.reduceToNat, Nat.reduceLT, Nat.reduceEqDiff, reduceCtorEq, op_and]))
  exact h
theorem holds_spec {p : Px} (h0 : 0 ≤ p.2) (h4 : p.2 ≤ 4) {a : Int} {st : St} {Q : V → St → Prop} (h : Q (.bool (decide (Builtin.bitAnd a (msk p.2) = p.1))) st) : T_holds_address [keyT p, .int a, .int 4] st Q := by
  ((try simp only [wS, Nat.reduceAdd, Nat.reduceLeDiff, String.reduceEq, ↓reduceIte, Int.reduceLE, Int.reduceLT, Int.reduceEq, Int.reduceToNat, Nat.reduceLT, Nat.reduceEqDiff, reduceCtorEq, T_holds_address, wb_holds_address]); repeat ((with_reducible refine Mine.later ?_); try simp only [wS, Nat.reduceAdd, Nat.reduceLeDiff, String.reduceEq, ↓reduceIte, Int.reduceLE, Int.reduceLT, Int.reduceEq, Int.reduceToNat, Nat.reduceLT, Nat.reduceEqDiff, reduceCtorEq, T_holds_address, wb_holds_address]))
  refine mask_of_spec h0 h4 ?_
  ((try simp only [wS, Nat.reduceAdd, Nat.reduceLeDiff, String.reduceEq, ↓reduceIte, Int.reduceLE, Int.reduceLT, Int.reduceEq, Int.reduceToNat, Nat.reduceLT, Nat.reduceEqDiff, reduceCtorEq, op_and]); repeat ((with_reducible refine Mine.later ?_); try simp only [wS, Nat.reduceAdd, Nat.reduceLeDiff, String.reduceEq, ↓reduceIte, Int.reduceLE, Int.reduceLT, Int.reduceEq, Int.reduceToNat, Nat.reduceLT, Nat.reduceEqDiff, reduceCtorEq, op_and]))
  exact h
theorem covers_spec {p q : Px} (h0 : 0 ≤ p.2) (h4 : p.2 ≤ 4) {st : St} {Q : V → St → Prop} (h : Q (.bool (cov p q)) st) : T_covers [keyT p, keyT q, .int 4] st Q := by
  ((try simp only [wS, Nat.reduceAdd, Nat.reduceLeDiff, String.reduceEq, ↓reduceIte, Int.reduceLE, Int.reduceLT, Int.reduceEq, Int.reduceToNat, Nat.reduceLT, Nat.reduceEqDiff, reduceCtorEq, T_covers, wb_covers]); repeat ((with_reducible refine Mine.later ?_); try simp only [wS, Nat.reduceAdd, Nat.reduceLeDiff, String.reduceEq, ↓reduceIte, Int.reduceLE, Int.reduceLT, Int.reduceEq, Int.reduceToNat, Nat.reduceLT, Nat.reduceEqDiff, reduceCtorEq, T_covers, wb_covers]))
  unfold cov at h
  by_cases hl : p.2 ≤ q.2
  · simp only [hl, decide_true, if_true, Bool.true_and] at h ⊢
    exact holds_spec h0 h4 h
  · simp only [hl, decide_false, Bool.false_and] at h ⊢
    exact h
end Mine
end

section -- L3
set_option autoImplicit false
set_option linter.unusedVariables false
set_option linter.unusedSimpArgs false
set_option maxRecDepth 100000
namespace Mine

theorem loop_inv {α : Type} {rep : α → V} {wt : WT} {wb : WS} {src : Option (Nat × O)} {all : List α} (I : List α → AE → St → Prop)
    (step : ∀ L a r, all = L ++ a :: r → ∀ η st, I L η st → ∀ K : Fl → AE → St → Prop, (∀ f η' st', (f = .next ∨ f = .cont) → SrcOk src st' → I (L ++ [a]) η' st' → K f η' st') → wt (rep a) η fun η₁ => wb η₁ st K) :
    ∀ (xs L : List α), all = L ++ xs → ∀ η st (Q : Fl → AE → St → Prop), I L η st → (∀ η' st', I all η' st' → Q .next η' st') → wLoop wt wb src (xs.map rep) η st Q
  | [], L, e, η, st, Q, i, h => h η st (by simpa [e] using i)
  | a :: xs, L, e, η, st, Q, i, h => by
    refine step L a xs e η st i _ fun f η' st' hf hs hi => ⟨hs, ?_⟩
    rcases hf with rfl | rfl
    · exact loop_inv I step xs (L ++ [a]) (by simp [e]) η' st' Q hi h
    · exact loop_inv I step xs (L ++ [a]) (by simp [e]) η' st' Q hi h
theorem iter_list {n : Nat} {st : St} {xs : List V} {k : Option (Nat × O) → List V → St → (St → St) → Prop} (h : st[n]? = some (.list xs)) (hk : k (some (n, .list xs)) xs st id) : wIter (.loc n) st k := .inl ⟨xs, h, hk⟩
theorem iter_dict {n : Nat} {st : St} {es : List ((Int × Int) × V)} {k : Option (Nat × O) → List V → St → (St → St) → Prop} (h : st[n]? = some (.dT none es))
    (hk : ∀ ep, k (some (n, .dT (some ep) es)) (es.map fun p => keyT p.1) (st.set n (.dT (some ep) es)) fun st' => st'.set n (.dT none es)) : wIter (.loc n) st k := .inr ⟨es, h, hk⟩

noncomputable def rngV (o : Px × Bool) : V := .tup [keyT o.1, .bool o.2]
noncomputable def rngO : Option (Px × Bool) → V
  | none => .none
  | some o => rngV o

theorem range_of_spec {R : Rg} (G : GoodR R) {p : Px} {st : St} {m : Nat} (hm : st[m]? = some (.list (R.map rngV))) {Q : V → St → Prop} (h : Q (rngO (rng R p)) st) : T_range_of [keyT p, .loc m, .int 4] st Q := by
  ((try simp only [wS, Nat.reduceAdd, Nat.reduceLeDiff, String.reduceEq, ↓reduceIte, Int.reduceLE, Int.reduceLT, Int.reduceEq, Int.reduceToNat, Nat.reduceLT, Nat.reduceEqDiff, reduceCtorEq, T_range_of, wb_range_of]); repeat ((with_reducible refine Mine.later ?_); try simp only [wS, Nat.reduceAdd, Nat.reduceLeDiff, String.reduceEq, ↓reduceIte, Int.reduceLE, Int.reduceLT, Int.reduceEq, Int.reduceToNat, Nat.reduceLT, Nat.reduceEqDiff, reduceCtorEq, T_range_of, wb_range_of]))
  refine iter_list hm ?_
  refine loop_inv (all := R) (fun L η st' => st' = st ∧ η "found" = some (rngO (L.foldl (better p) none)) ∧ η "prefix" = some (keyT p) ∧ η "bits" = some (.int 4)) ?_ R [] rfl _ _ _ ⟨rfl, by ((try simp only [wS, Nat.reduceAdd, Nat.reduceLeDiff, String.reduceEq, ↓reduceIte, Int.reduceLE, Int.reduceLT, Int.reduceEq, Int.reduceToNat, Nat.reduceLT, Nat.reduceEqDiff, reduceCtorEq, rngO, List.foldl_nil]); repeat ((with_reducible refine Mine.later ?_); try simp only [wS, Nat.reduceAdd, Nat.reduceLeDiff, String.reduceEq, ↓reduceIte, Int.reduceLE, Int.reduceLT, Int.reduceEq, Int.reduceToNat, Nat.reduceLT, Nat.reduceEqDiff, reduceCtorEq, rngO, List.foldl_nil])), rfl, rfl⟩ ?_
  · rintro L a r e η st' ⟨rfl, h1, h2, h3⟩ K hK
    have ha : a.1 ∈ allP := G.sub a (by rw [e]; simp)
    ((try simp only [wS, Nat.reduceAdd, Nat.reduceLeDiff, String.reduceEq, ↓reduceIte, Int.reduceLE, Int.reduceLT, Int.reduceEq, Int.reduceToNat, Nat.reduceLT, Nat.reduceEqDiff, reduceCtorEq, rngV, h1, h2, h3]); repeat ((with_reducible refine Mine.later ?_); try simp only [wS, Nat.reduceAdd, Nat.reduceLeDiff, String.reduceEq, ↓reduceIte, Int.reduceLE, Int.reduceLT, Int.reduceEq, Int.reduceToNat, Nat.reduceLT, Nat.reduceEqDiff, reduceCtorEq, rngV, h1, h2, h3]))
    refine covers_spec (p := a.1) (q := p) (len_bd _ ha).1 (by have := (len_bd _ ha).2; omega) ?_
    have hb : (L ++ [a]).foldl (better p) none = better p (L.foldl (better p) none) a := by simp
    generalize hf : L.foldl (better p) none = f at h1 hb
    cases hc : cov a.1 p with
    | false =>
      ((try simp only [wS, Nat.reduceAdd, Nat.reduceLeDiff, String.reduceEq, ↓reduceIte, Int.reduceLE, Int.reduceLT, Int.reduceEq, Int.reduceToNat, Nat.reduceLT, Nat.reduceEqDiff, reduceCtorEq]); repeat ((with_reducible refine Mine.later ?_); try simp only [wS, Nat.reduceAdd, Nat.reduceLeDiff, String.reduceEq, ↓reduceIte, Int.reduceLE, Int.reduceLT, Int.reduceEq, Int.reduceToNat, Nat.reduceLT, Nat.reduceEqDiff, reduceCtorEq]))
      have e2 : better p f a = f := by unfold better; rw [if_neg (by simp [hc])]
      refine hK _ _ _ (.inl rfl) hm ⟨rfl, ?_, ?_, ?_⟩
      · ((try simp only [wS, Nat.reduceAdd, Nat.reduceLeDiff, String.reduceEq, ↓reduceIte, Int.reduceLE, Int.reduceLT, Int.reduceEq, Int.reduceToNat, Nat.reduceLT, Nat.reduceEqDiff, reduceCtorEq, h1, hb, e2]); repeat ((with_reducible refine Mine.later ?_); try simp only [wS, Nat.reduceAdd, Nat.reduceLeDiff, String.reduceEq, ↓reduceIte, Int.reduceLE, Int.reduceLT, Int.reduceEq, Int.reduceToNat, Nat.reduceLT, Nat.reduceEqDiff, reduceCtorEq, h1, hb, e2]))
      · ((try simp only [wS, Nat.reduceAdd, Nat.reduceLeDiff, String.reduceEq, ↓reduceIte, Int.reduceLE, Int.reduceLT, Int.reduceEq, Int.reduceToNat, Nat.reduceLT, Nat.reduceEqDiff, reduceCtorEq, h2]); repeat ((with_reducible refine Mine.later ?_); try simp only [wS, Nat.reduceAdd, Nat.reduceLeDiff, String.reduceEq, ↓reduceIte, Int.reduceLE, Int.reduceLT, Int.reduceEq, Int.reduceToNat, Nat.reduceLT, Nat.reduceEqDiff, reduceCtorEq, h2]))
      · ((try simp only [wS, Nat.reduceAdd, Nat.reduceLeDiff, String.reduceEq, ↓reduceIte, Int.reduceLE, Int.reduceLT, Int.reduceEq, Int.reduceToNat, Nat.reduceLT, Nat.reduceEqDiff, reduceCtorEq, h3]); repeat ((with_reducible refine Mine.later ?_); try simp only [wS, Nat.reduceAdd, Nat.reduceLeDiff, String.reduceEq, ↓reduceIte, Int.reduceLE, Int.reduceLT, Int.reduceEq, Int.reduceToNat, Nat.reduceLT, Nat.reduceEqDiff, reduceCtorEq, h3]))
    | true =>
      ((try simp only [wS, Nat.reduceAdd, Nat.reduceLeDiff, String.reduceEq, ↓reduceIte, Int.reduceLE, Int.reduceLT, Int.reduceEq, Int.reduceToNat, Nat.reduceLT, Nat.reduceEqDiff, reduceCtorEq, h1]); repeat ((with_reducible refine Mine.later ?_); try simp only [wS, Nat.reduceAdd, Nat.reduceLeDiff, String.reduceEq, ↓reduceIte, Int.reduceLE, Int.reduceLT, Int.reduceEq, Int.reduceToNat, Nat.reduceLT, Nat.reduceEqDiff, reduceCtorEq, h1]))
      cases f with
      | none =>
        ((try simp only [wS, Nat.reduceAdd, Nat.reduceLeDiff, String.reduceEq, ↓reduceIte, Int.reduceLE, Int.reduceLT, Int.reduceEq, Int.reduceToNat, Nat.reduceLT, Nat.reduceEqDiff, reduceCtorEq, rngO]); repeat ((with_reducible refine Mine.later ?_); try simp only [wS, Nat.reduceAdd, Nat.reduceLeDiff, String.reduceEq, ↓reduceIte, Int.reduceLE, Int.reduceLT, Int.reduceEq, Int.reduceToNat, Nat.reduceLT, Nat.reduceEqDiff, reduceCtorEq, rngO]))
        have e2 : better p none a = some a := by unfold better; rw [if_pos (by simp [hc, lessF])]
        refine hK _ _ _ (.inl rfl) hm ⟨rfl, ?_, ?_, ?_⟩
        · ((try simp only [wS, Nat.reduceAdd, Nat.reduceLeDiff, String.reduceEq, ↓reduceIte, Int.reduceLE, Int.reduceLT, Int.reduceEq, Int.reduceToNat, Nat.reduceLT, Nat.reduceEqDiff, reduceCtorEq, hb, e2, rngO, rngV]); repeat ((with_reducible refine Mine.later ?_); try simp only [wS, Nat.reduceAdd, Nat.reduceLeDiff, String.reduceEq, ↓reduceIte, Int.reduceLE, Int.reduceLT, Int.reduceEq, Int.reduceToNat, Nat.reduceLT, Nat.reduceEqDiff, reduceCtorEq, hb, e2, rngO, rngV]))
        · ((try simp only [wS, Nat.reduceAdd, Nat.reduceLeDiff, String.reduceEq, ↓reduceIte, Int.reduceLE, Int.reduceLT, Int.reduceEq, Int.reduceToNat, Nat.reduceLT, Nat.reduceEqDiff, reduceCtorEq, h2]); repeat ((with_reducible refine Mine.later ?_); try simp only [wS, Nat.reduceAdd, Nat.reduceLeDiff, String.reduceEq, ↓reduceIte, Int.reduceLE, Int.reduceLT, Int.reduceEq, Int.reduceToNat, Nat.reduceLT, Nat.reduceEqDiff, reduceCtorEq, h2]))
        · ((try simp only [wS, Nat.reduceAdd, Nat.reduceLeDiff, String.reduceEq, ↓reduceIte, Int.reduceLE, Int.reduceLT, Int.reduceEq, Int.reduceToNat, Nat.reduceLT, Nat.reduceEqDiff, reduceCtorEq, h3]); repeat ((with_reducible refine Mine.later ?_); try simp only [wS, Nat.reduceAdd, Nat.reduceLeDiff, String.reduceEq, ↓reduceIte, Int.reduceLE, Int.reduceLT, Int.reduceEq, Int.reduceToNat, Nat.reduceLT, Nat.reduceEqDiff, reduceCtorEq, h3]))
      | some g =>
        ((try simp only [wS, Nat.reduceAdd, Nat.reduceLeDiff, String.reduceEq, ↓reduceIte, Int.reduceLE, Int.reduceLT, Int.reduceEq, Int.reduceToNat, Nat.reduceLT, Nat.reduceEqDiff, reduceCtorEq, rngO, rngV]); repeat ((with_reducible refine Mine.later ?_); try simp only [wS, Nat.reduceAdd, Nat.reduceLeDiff, String.reduceEq, ↓reduceIte, Int.reduceLE, Int.reduceLT, Int.reduceEq, Int.reduceToNat, Nat.reduceLT, Nat.reduceEqDiff, reduceCtorEq, rngO, rngV]))
        by_cases hl : g.1.2 < a.1.2
        · ((try simp only [wS, Nat.reduceAdd, Nat.reduceLeDiff, String.reduceEq, ↓reduceIte, Int.reduceLE, Int.reduceLT, Int.reduceEq, Int.reduceToNat, Nat.reduceLT, Nat.reduceEqDiff, reduceCtorEq, hl]); repeat ((with_reducible refine Mine.later ?_); try simp only [wS, Nat.reduceAdd, Nat.reduceLeDiff, String.reduceEq, ↓reduceIte, Int.reduceLE, Int.reduceLT, Int.reduceEq, Int.reduceToNat, Nat.reduceLT, Nat.reduceEqDiff, reduceCtorEq, hl]))
          have e2 : better p (some g) a = some a := by unfold better; rw [if_pos (by simp [hc, lessF, hl])]
          refine hK _ _ _ (.inl rfl) hm ⟨rfl, ?_, ?_, ?_⟩
          · ((try simp only [wS, Nat.reduceAdd, Nat.reduceLeDiff, String.reduceEq, ↓reduceIte, Int.reduceLE, Int.reduceLT, Int.reduceEq, Int.reduceToNat, Nat.reduceLT, Nat.reduceEqDiff, reduceCtorEq, hb, e2, rngO, rngV]); repeat ((with_reducible refine Mine.later ?_); try simp only [wS, Nat.reduceAdd, Nat.reduceLeDiff, String.reduceEq, ↓reduceIte, Int.reduceLE, Int.reduceLT, Int.reduceEq, Int.reduceToNat, Nat.reduceLT, Nat.reduceEqDiff, reduceCtorEq, hb, e2, rngO, rngV]))
          · ((try simp only [wS, Nat.reduceAdd, Nat.reduceLeDiff, String.reduceEq, ↓reduceIte, Int.reduceLE, Int.reduceLT, Int.reduceEq, Int.reduceToNat, Nat.reduceLT, Nat.reduceEqDiff, reduceCtorEq, h2]); repeat ((with_reducible refine Mine.later ?_); try simp only [wS, Nat.reduceAdd, Nat.reduceLeDiff, String.reduceEq, ↓reduceIte, Int.reduceLE, Int.reduceLT, Int.reduceEq, Int.reduceToNat, Nat.reduceLT, Nat.reduceEqDiff, reduceCtorEq, h2]))
          · ((try simp only [wS, Nat.reduceAdd, Nat.reduceLeDiff, String.reduceEq, ↓reduceIte, Int.reduceLE, Int.reduceLT, Int.reduceEq, Int.reduceToNat, Nat.reduceLT, Nat.reduceEqDiff, reduceCtorEq, h3]); repeat ((with_reducible refine Mine.later ?_); try simp only [wS, Nat.reduceAdd, Nat.reduceLeDiff, String.reduceEq, ↓reduceIte, Int.reduceLE, Int.reduceLT, Int.reduceEq, Int.reduceToNat, Nat.reduceLT, Nat.reduceEqDiff, reduceCtorEq, h3]))
        · ((try simp only [wS, Nat.reduceAdd, Nat.reduceLeDiff, String.reduceEq, ↓reduceIte, Int.reduceLE, Int.reduceLT, Int.reduceEq, Int.reduceToNat, Nat.reduceLT, Nat.reduceEqDiff, reduceCtorEq, hl]); repeat ((with_reducible refine Mine.later ?_); try simp only [wS, Nat.reduceAdd, Nat.reduceLeDiff, String.reduceEq, ↓reduceIte, Int.reduceLE, Int.reduceLT, Int.reduceEq, Int.reduceToNat, Nat.reduceLT, Nat.reduceEqDiff, reduceCtorEq, hl]))
          have e2 : better p (some g) a = some g := by unfold better; rw [if_neg (by simp [hc, lessF, hl])]
          refine hK _ _ _ (.inl rfl) hm ⟨rfl, ?_, ?_, ?_⟩
          · ((try simp only [wS, Nat.reduceAdd, Nat.reduceLeDiff, String.reduceEq, ↓reduceIte, Int.reduceLE, Int.reduceLT, Int.reduceEq, Int.reduceToNat, Nat.reduceLT, Nat.reduceEqDiff, reduceCtorEq, hb, e2, h1]); repeat ((with_reducible refine Mine.later ?_); try simp only [wS, Nat.reduceAdd, Nat.reduceLeDiff, String.reduceEq, ↓reduceIte, Int.reduceLE, Int.reduceLT, Int.reduceEq, Int.reduceToNat, Nat.reduceLT, Nat.reduceEqDiff, reduceCtorEq, hb, e2, h1]))
          · ((try simp only [wS, Nat.reduceAdd, Nat.reduceLeDiff, String.reduceEq, ↓reduceIte, Int.reduceLE, Int.reduceLT, Int.reduceEq, Int.reduceToNat, Nat.reduceLT, Nat.reduceEqDiff, reduceCtorEq, h2]); repeat ((with_reducible refine Mine.later ?_); try simp only [wS, Nat.reduceAdd, Nat.reduceLeDiff, String.reduceEq, ↓reduceIte, Int.reduceLE, Int.reduceLT, Int.reduceEq, Int.reduceToNat, Nat.reduceLT, Nat.reduceEqDiff, reduceCtorEq, h2]))
          · ((try simp only [wS, Nat.reduceAdd, Nat.reduceLeDiff, String.reduceEq, ↓reduceIte, Int.reduceLE, Int.reduceLT, Int.reduceEq, Int.reduceToNat, Nat.reduceLT, Nat.reduceEqDiff, reduceCtorEq, h3]); repeat ((with_reducible refine Mine.later ?_); try simp only [wS, Nat.reduceAdd, Nat.reduceLeDiff, String.reduceEq, ↓reduceIte, Int.reduceLE, Int.reduceLT, Int.reduceEq, Int.reduceToNat, Nat.reduceLT, Nat.reduceEqDiff, reduceCtorEq, h3]))
  · rintro η' st' ⟨rfl, h1, h2, h3⟩
    ((try simp only [wS, Nat.reduceAdd, Nat.reduceLeDiff, String.reduceEq, ↓reduceIte, Int.reduceLE, Int.reduceLT, Int.reduceEq, Int.reduceToNat, Nat.reduceLT, Nat.reduceEqDiff, reduceCtorEq, h1, id]); repeat ((with_reducible refine Mine.later ?_); try simp only [wS, Nat.reduceAdd, Nat.reduceLeDiff, String.reduceEq, ↓reduceIte, Int.reduceLE, Int.reduceLT, Int.reduceEq, Int.reduceToNat, Nat.reduceLT, Nat.reduceEqDiff, reduceCtorEq, h1, id]))
    exact h

noncomputable def rowV (row : Px × Int) : V := .tup [keyT row.1, .str "intra", .int row.2, .int 0, .int 1, .tup []]
theorem set_last (st : St) (o o' : O) : (st ++ [o]).set st.length o' = st ++ [o'] := by
  rw [List.set_append_right _ _ (Nat.le_refl _), Nat.sub_self]; rfl
theorem getD_ti (es : Ai) (k : Px) (d : Int) : (dget (es.map toTi) k).getD (.int d) = .int ((iget es k).getD d) := by
  rw [dget_ti]; cases iget es k <;> rfl
theorem len_of_keys {es : Ai} (h : (es.map (·.1)).Nodup) (hs : ∀ k ∈ es.map (·.1), k ∈ allP) : es.length ≤ 15 := by
  have := length_of_sub h hs
  rw [List.length_map] at this; exact this
theorem CondOk.len {R : Rg} (G : GoodR R) {L es : Ai} (h : CondOk R L es) (hL : ∀ row ∈ L, row.1 ∈ allP) : es.length ≤ 15 :=
  len_of_keys h.nodup fun k hk => by obtain ⟨row, hr, e⟩ := h.sub k hk; exact e ▸ hm_all G (hL row hr)
theorem recvD_T {n : Nat} {st : St} {lk : Option Nat} {es : List (Px × V)} (h : st[n]? = some (.dT lk es)) : recvD (.loc n) st := ⟨n, rfl, .inl ⟨lk, es, h⟩⟩
theorem recvL_l {n : Nat} {st : St} {xs : List V} (h : st[n]? = some (.list xs)) : recvL (.loc n) st := ⟨n, xs, rfl, h⟩
theorem get2_ti {n : Nat} {st : St} {lk : Option Nat} {es : Ai} {p : Px} {d : Int} {Q : V → St → Prop} (h : st[n]? = some (.dT lk (es.map toTi))) (hq : Q (.int ((iget es p).getD d)) st) : wGet2 [.loc n, .tup [.int p.1, .int p.2], .int d] st Q :=
  ⟨lk, _, p, rfl, h, by rw [getD_ti]; exact hq⟩
theorem setV_ti {n : Nat} {st : St} {es : Ai} {p : Px} {c : Int} {Q : St → Prop} (h : st[n]? = some (.dT none (es.map toTi))) (hl : es.length ≤ 15) (hq : Q (st.set n (.dT none ((iput es p c).map toTi)))) : wSetV (.loc n) (.tup [.int p.1, .int p.2]) (.int c) st Q :=
  .inr (.inr ⟨p, _, rfl, by simp; omega, h, by rw [dput_ti]; exact hq⟩)

theorem pre_get1 {st : St} {n : Nat} {o : O} (l : List O) (h : st[n]? = some o) : (st ++ l)[n]? = some o := pre_get (List.prefix_append _ _) h

theorem condensed_spec {R : Rg} (G : GoodR R) {rows : Ai} (hr : ∀ row ∈ rows, row.1 ∈ allP ∧ 0 ≤ row.2) {st : St} {n m : Nat} (hn : st[n]? = some (.list (rows.map rowV))) (hm : st[m]? = some (.list (R.map rngV))) {Q : V → St → Prop}
    (h : Q (.loc st.length) (st ++ [.dT none ((cond R rows).map toTi)])) : T_condensed_nets [.loc n, .loc m, .int 4] st Q := by
  ((try simp only [wS, Nat.reduceAdd, Nat.reduceLeDiff, String.reduceEq, ↓reduceIte, Int.reduceLE, Int.reduceLT, Int.reduceEq, Int.reduceToNat, Nat.reduceLT, Nat.reduceEqDiff, reduceCtorEq, T_condensed_nets, wb_condensed_nets]); repeat ((with_reducible refine Mine.later ?_); try simp only [wS, Nat.reduceAdd, Nat.reduceLeDiff, String.reduceEq, ↓reduceIte, Int.reduceLE, Int.reduceLT, Int.reduceEq, Int.reduceToNat, Nat.reduceLT, Nat.reduceEqDiff, reduceCtorEq, T_condensed_nets, wb_condensed_nets]))
  refine iter_list (pre_get1 _ hn) ?_
  refine loop_inv (all := rows) (fun L η st' => st' = st ++ [.dT none ((L.foldl (condStep R) []).map toTi)] ∧ η "found" = some (.loc st.length) ∧ η "ranges" = some (.loc m) ∧ η "bits" = some (.int 4)) ?_ rows [] rfl _ _ _ ⟨by simp, rfl, rfl, rfl⟩ ?_
  · rintro L a r e η st' ⟨rfl, h1, h2, h3⟩ K hK
    have ha : a ∈ rows := by rw [e]; simp
    have hL : ∀ row ∈ L, row ∈ rows := fun row q => by rw [e]; exact List.mem_append_left _ q
    have ok : CondOk R L (L.foldl (condStep R) []) := cond_ok R L fun row q => (hr row (hL row q)).2
    have ol := ok.len G fun row q => (hr row (hL row q)).1
    have hb : (L ++ [a]).foldl (condStep R) [] = condStep R (L.foldl (condStep R) []) a := by simp
    generalize L.foldl (condStep R) [] = es at ok ol hb
    have hd : (st ++ [O.dT none (es.map toTi)])[st.length]? = some (.dT none (es.map toTi)) := last_get _ _
    ((try simp only [wS, Nat.reduceAdd, Nat.reduceLeDiff, String.reduceEq, ↓reduceIte, Int.reduceLE, Int.reduceLT, Int.reduceEq, Int.reduceToNat, Nat.reduceLT, Nat.reduceEqDiff, reduceCtorEq, rowV, h1, h2, h3]); repeat ((with_reducible refine Mine.later ?_); try simp only [wS, Nat.reduceAdd, Nat.reduceLeDiff, String.reduceEq, ↓reduceIte, Int.reduceLE, Int.reduceLT, Int.reduceEq, Int.reduceToNat, Nat.reduceLT, Nat.reduceEqDiff, reduceCtorEq, rowV, h1, h2, h3]))
    refine range_of_spec G (p := a.1) (pre_get1 _ hm) ?_
    cases hg : rng R a.1 with
    | none =>
      ((try simp only [wS, Nat.reduceAdd, Nat.reduceLeDiff, String.reduceEq, ↓reduceIte, Int.reduceLE, Int.reduceLT, Int.reduceEq, Int.reduceToNat, Nat.reduceLT, Nat.reduceEqDiff, reduceCtorEq, rngO, h1]); repeat ((with_reducible refine Mine.later ?_); try simp only [wS, Nat.reduceAdd, Nat.reduceLeDiff, String.reduceEq, ↓reduceIte, Int.reduceLE, Int.reduceLT, Int.reduceEq, Int.reduceToNat, Nat.reduceLT, Nat.reduceEqDiff, reduceCtorEq, rngO, h1]))
      refine ⟨recvD_T hd, get2_ti hd ?_⟩
      ((try simp only [wS, Nat.reduceAdd, Nat.reduceLeDiff, String.reduceEq, ↓reduceIte, Int.reduceLE, Int.reduceLT, Int.reduceEq, Int.reduceToNat, Nat.reduceLT, Nat.reduceEqDiff, reduceCtorEq, wMax_i, wMax_l]); repeat ((with_reducible refine Mine.later ?_); try simp only [wS, Nat.reduceAdd, Nat.reduceLeDiff, String.reduceEq, ↓reduceIte, Int.reduceLE, Int.reduceLT, Int.reduceEq, Int.reduceToNat, Nat.reduceLT, Nat.reduceEqDiff, reduceCtorEq, wMax_i, wMax_l]))
      refine setV_ti hd ol ?_
      rw [set_last]
      refine hK _ _ _ (.inl rfl) (pre_get1 _ hn) ⟨?_, ?_, ?_, ?_⟩
      · rw [hb]; unfold condStep; rw [sh_none hg, hm_none hg]; rfl
      all_goals ((try simp only [wS, Nat.reduceAdd, Nat.reduceLeDiff, String.reduceEq, ↓reduceIte, Int.reduceLE, Int.reduceLT, Int.reduceEq, Int.reduceToNat, Nat.reduceLT, Nat.reduceEqDiff, reduceCtorEq, h1, h2, h3]); repeat ((with_reducible refine Mine.later ?_); try simp only [wS, Nat.reduceAdd, Nat.reduceLeDiff, String.reduceEq, ↓reduceIte, Int.reduceLE, Int.reduceLT, Int.reduceEq, Int.reduceToNat, Nat.reduceLT, Nat.reduceEqDiff, reduceCtorEq, h1, h2, h3]))
    | some o =>
      ((try simp only [wS, Nat.reduceAdd, Nat.reduceLeDiff, String.reduceEq, ↓reduceIte, Int.reduceLE, Int.reduceLT, Int.reduceEq, Int.reduceToNat, Nat.reduceLT, Nat.reduceEqDiff, reduceCtorEq, rngO, rngV, h1]); repeat ((with_reducible refine Mine.later ?_); try simp only [wS, Nat.reduceAdd, Nat.reduceLeDiff, String.reduceEq, ↓reduceIte, Int.reduceLE, Int.reduceLT, Int.reduceEq, Int.reduceToNat, Nat.reduceLT, Nat.reduceEqDiff, reduceCtorEq, rngO, rngV, h1]))
      cases ho : o.2 with
      | true =>
        ((try simp only [wS, Nat.reduceAdd, Nat.reduceLeDiff, String.reduceEq, ↓reduceIte, Int.reduceLE, Int.reduceLT, Int.reduceEq, Int.reduceToNat, Nat.reduceLT, Nat.reduceEqDiff, reduceCtorEq, h1]); repeat ((with_reducible refine Mine.later ?_); try simp only [wS, Nat.reduceAdd, Nat.reduceLeDiff, String.reduceEq, ↓reduceIte, Int.reduceLE, Int.reduceLT, Int.reduceEq, Int.reduceToNat, Nat.reduceLT, Nat.reduceEqDiff, reduceCtorEq, h1]))
        refine ⟨recvD_T hd, get2_ti hd ?_⟩
        ((try simp only [wS, Nat.reduceAdd, Nat.reduceLeDiff, String.reduceEq, ↓reduceIte, Int.reduceLE, Int.reduceLT, Int.reduceEq, Int.reduceToNat, Nat.reduceLT, Nat.reduceEqDiff, reduceCtorEq, wMax_i, wMax_l]); repeat ((with_reducible refine Mine.later ?_); try simp only [wS, Nat.reduceAdd, Nat.reduceLeDiff, String.reduceEq, ↓reduceIte, Int.reduceLE, Int.reduceLT, Int.reduceEq, Int.reduceToNat, Nat.reduceLT, Nat.reduceEqDiff, reduceCtorEq, wMax_i, wMax_l]))
        refine setV_ti hd ol ?_
        rw [set_last]
        refine hK _ _ _ (.inl rfl) (pre_get1 _ hn) ⟨?_, ?_, ?_, ?_⟩
        · rw [hb]; unfold condStep; rw [sh_some hg, hm_some hg, ho]; rfl
        all_goals ((try simp only [wS, Nat.reduceAdd, Nat.reduceLeDiff, String.reduceEq, ↓reduceIte, Int.reduceLE, Int.reduceLT, Int.reduceEq, Int.reduceToNat, Nat.reduceLT, Nat.reduceEqDiff, reduceCtorEq, h1, h2, h3]); repeat ((with_reducible refine Mine.later ?_); try simp only [wS, Nat.reduceAdd, Nat.reduceLeDiff, String.reduceEq, ↓reduceIte, Int.reduceLE, Int.reduceLT, Int.reduceEq, Int.reduceToNat, Nat.reduceLT, Nat.reduceEqDiff, reduceCtorEq, h1, h2, h3]))
      | false =>
        ((try simp only [wS, Nat.reduceAdd, Nat.reduceLeDiff, String.reduceEq, ↓reduceIte, Int.reduceLE, Int.reduceLT, Int.reduceEq, Int.reduceToNat, Nat.reduceLT, Nat.reduceEqDiff, reduceCtorEq, h1]); repeat ((with_reducible refine Mine.later ?_); try simp only [wS, Nat.reduceAdd, Nat.reduceLeDiff, String.reduceEq, ↓reduceIte, Int.reduceLE, Int.reduceLT, Int.reduceEq, Int.reduceToNat, Nat.reduceLT, Nat.reduceEqDiff, reduceCtorEq, h1]))
        refine hK _ _ _ (.inl rfl) (pre_get1 _ hn) ⟨?_, ?_, ?_, ?_⟩
        · rw [hb]; unfold condStep; rw [sh_some hg, ho]; rfl
        all_goals ((try simp only [wS, Nat.reduceAdd, Nat.reduceLeDiff, String.reduceEq, ↓reduceIte, Int.reduceLE, Int.reduceLT, Int.reduceEq, Int.reduceToNat, Nat.reduceLT, Nat.reduceEqDiff, reduceCtorEq, h1, h2, h3]); repeat ((with_reducible refine Mine.later ?_); try simp only [wS, Nat.reduceAdd, Nat.reduceLeDiff, String.reduceEq, ↓reduceIte, Int.reduceLE, Int.reduceLT, Int.reduceEq, Int.reduceToNat, Nat.reduceLT, Nat.reduceEqDiff, reduceCtorEq, h1, h2, h3]))
  · rintro η' st' ⟨rfl, h1, h2, h3⟩
    ((try simp only [wS, Nat.reduceAdd, Nat.reduceLeDiff, String.reduceEq, ↓reduceIte, Int.reduceLE, Int.reduceLT, Int.reduceEq, Int.reduceToNat, Nat.reduceLT, Nat.reduceEqDiff, reduceCtorEq, h1, id]); repeat ((with_reducible refine Mine.later ?_); try simp only [wS, Nat.reduceAdd, Nat.reduceLeDiff, String.reduceEq, ↓reduceIte, Int.reduceLE, Int.reduceLT, Int.reduceEq, Int.reduceToNat, Nat.reduceLT, Nat.reduceEqDiff, reduceCtorEq, h1, id]))
    exact h
end Mine
end

section -- L4
set_option autoImplicit false
set_option linter.unusedVariables false
set_option linter.unusedSimpArgs false
set_option maxRecDepth 100000
namespace Mine

theorem comp_list {α : Type} {rep : α → V} {wt : WT} {wc : WB} {we : WE} {src : Option (Nat × O)} {all : List α} {st0 : St} (J : AE → Prop) (B : α → AE → Prop) (g : α → Bool) (f : α → V)
    (hsrc : ∀ st', st0 <+: st' → SrcOk src st')
    (htgt : ∀ a ∈ all, ∀ η, J η → ∀ K : AE → Prop, (∀ η₁, J η₁ → B a η₁ → K η₁) → wt (rep a) η K)
    (htest : ∀ a ∈ all, ∀ η, J η → B a η → ∀ st', st0 <+: st' → ∀ K : Bool → St → Prop, (∀ st'', st0 <+: st'' → K (g a) st'') → wc η st' K)
    (helt : ∀ a ∈ all, g a = true → ∀ η, J η → B a η → ∀ st', st0 <+: st' → ∀ K : V → St → Prop, (∀ st'', st0 <+: st'' → K (f a) st'') → we η st' K) :
    ∀ (xs : List α) (acc : List V) (η : AE) (st : St) (Q : O → St → Prop), (∀ a ∈ xs, a ∈ all) → acc.length + xs.length ≤ 1000 → J η → st0 <+: st →
      (∀ st', st0 <+: st' → Q (.list (acc ++ (xs.filter g).map f)) st') → wCompI wt wc (emList we) src (xs.map rep) (.list acc) η st Q
  | [], acc, η, st, Q, _, _, _, hp, h => by
    have := h st hp
    rw [List.filter_nil, List.map_nil, List.append_nil] at this; exact this
  | a :: xs, acc, η, st, Q, hm, hl, hj, hp, h => by
    have ha := hm a List.mem_cons_self
    have hx : ∀ b ∈ xs, b ∈ all := fun b hb => hm b (List.mem_cons_of_mem _ hb)
    refine htgt a ha η hj _ fun η₁ j1 b1 => htest a ha η₁ j1 b1 st hp _ fun st1 p1 => ?_
    by_cases hg : g a = true
    · rw [if_pos hg]
      refine helt a ha hg η₁ j1 b1 st1 p1 _ fun st2 p2 => ⟨acc, rfl, by simp at hl; omega, hsrc _ p2, ?_⟩
      refine comp_list J B g f hsrc htgt htest helt xs (acc ++ [f a]) η₁ st2 Q hx (by simp at hl ⊢; omega) j1 p2 fun st' p' => ?_
      have := h st' p'
      rw [List.filter_cons_of_pos hg, List.map_cons] at this
      rw [List.append_assoc]; exact this
    · rw [if_neg hg]
      refine ⟨hsrc _ p1, ?_⟩
      refine comp_list J B g f hsrc htgt htest helt xs acc η₁ st1 Q hx (by simp at hl ⊢; omega) j1 p1 fun st' p' => ?_
      have := h st' p'
      rw [List.filter_cons_of_neg hg] at this
      exact this

/-- a comprehension over a list of things, one name bound -/
theorem comp_name {α : Type} {rep : α → V} {x : String} {wt : WT} {wc : WB} {we : WE} {src : Option (Nat × O)} {all : List α} {η : AE} {st : St} {Q : O → St → Prop} (hwt : wt = fun v η K => K (AE.set x v η)) (g : α → Bool) (f : α → V)
    (hsrc : ∀ st', st <+: st' → SrcOk src st') (hl : all.length ≤ 1000)
    (htest : ∀ a ∈ all, ∀ η', (∀ y, y ≠ x → η' y = η y) → η' x = some (rep a) → ∀ st', st <+: st' → ∀ K : Bool → St → Prop, (∀ st'', st <+: st'' → K (g a) st'') → wc η' st' K)
    (helt : ∀ a ∈ all, g a = true → ∀ η', (∀ y, y ≠ x → η' y = η y) → η' x = some (rep a) → ∀ st', st <+: st' → ∀ K : V → St → Prop, (∀ st'', st <+: st'' → K (f a) st'') → we η' st' K)
    (h : ∀ st', st <+: st' → Q (.list ((all.filter g).map f)) st') : wCompI wt wc (emList we) src (all.map rep) (.list []) η st Q := by
  subst hwt
  refine comp_list (all := all) (st0 := st) (fun η' => ∀ y, y ≠ x → η' y = η y) (fun a η' => η' x = some (rep a)) g f hsrc ?_ htest helt all [] η st Q (fun _ h => h) (by simpa using hl) (fun _ _ => rfl) (List.prefix_refl _) (fun st' p => by simpa using h st' p)
  intro a _ η' j K hK
  exact hK _ (fun y hy => by simp only [AE.set_app, hy, if_false]; exact j y hy) (by simp [AE.set_app])
theorem unlock {st st' : St} {n : Nat} {o o' : O} (h : st[n]? = some o) (hp : st.set n o' <+: st') : st <+: st'.set n o := by
  obtain ⟨t, rfl⟩ := hp
  have hl := lt_of_get h
  rw [List.set_append_left _ _ (by simpa using hl), List.set_set]
  have : st.set n o = st := by
    rw [List.getElem?_eq_some_iff] at h
    obtain ⟨hl, rfl⟩ := h
    exact List.set_getElem_self hl
  rw [this]
  exact List.prefix_append _ _
theorem set_ne {st : St} {n m : Nat} {o o' : O} (h : st[m]? = some o) (hne : n ≠ m) : (st.set n o')[m]? = some o := by rw [List.getElem?_set_ne hne]; exact h
theorem set_eq {st : St} {n : Nat} {o o' : O} (h : st[n]? = some o) : (st.set n o')[n]? = some o' := by rw [List.getElem?_set_self (lt_of_get h)]

theorem is_in_spec {p q : Px} (h0 : 0 ≤ q.2) (h4 : q.2 ≤ 4) {st : St} {Q : V → St → Prop} (h : Q (.bool (inn p q)) st) : T_law_is_in [keyT p, keyT q] st Q := by
  ((try simp only [wS, Nat.reduceAdd, Nat.reduceLeDiff, String.reduceEq, ↓reduceIte, Int.reduceLE, Int.reduceLT, Int.reduceEq, Int.reduceToNat, Nat.reduceLT, Nat.reduceEqDiff, reduceCtorEq, T_law_is_in, wb_law_is_in]); repeat ((with_reducible refine Mine.later ?_); try simp only [wS, Nat.reduceAdd, Nat.reduceLeDiff, String.reduceEq, ↓reduceIte, Int.reduceLE, Int.reduceLT, Int.reduceEq, Int.reduceToNat, Nat.reduceLT, Nat.reduceEqDiff, reduceCtorEq, T_law_is_in, wb_law_is_in]))
  unfold inn at h
  have e1 : intOp .Pow 2 (4 - q.2) = some (2 ^ (4 - q.2).toNat) := op_pow (by omega) (by omega) (by decide)
  have hq : q.2 = 0 ∨ q.2 = 1 ∨ q.2 = 2 ∨ q.2 = 3 ∨ q.2 = 4 := by omega
  have e2 : ∀ a : Int, intOp .FloorDiv a (2 ^ (4 - q.2).toNat) = some (a.fdiv (2 ^ (4 - q.2).toNat)) := fun a => by
    refine op_div ?_ ?_ <;> (rcases hq with e | e | e | e | e <;> rw [e] <;> decide)
  by_cases hl : q.2 ≤ p.2
  · ((try simp only [wS, Nat.reduceAdd, Nat.reduceLeDiff, String.reduceEq, ↓reduceIte, Int.reduceLE, Int.reduceLT, Int.reduceEq, Int.reduceToNat, Nat.reduceLT, Nat.reduceEqDiff, reduceCtorEq, hl, op_sub, e1, e2]); repeat ((with_reducible refine Mine.later ?_); try simp only [wS, Nat.reduceAdd, Nat.reduceLeDiff, String.reduceEq, ↓reduceIte, Int.reduceLE, Int.reduceLT, Int.reduceEq, Int.reduceToNat, Nat.reduceLT, Nat.reduceEqDiff, reduceCtorEq, hl, op_sub, e1, e2]))
    simp only [hl, decide_true, Bool.true_and] at h
    exact h
  · ((try simp only [wS, Nat.reduceAdd, Nat.reduceLeDiff, String.reduceEq, ↓reduceIte, Int.reduceLE, Int.reduceLT, Int.reduceEq, Int.reduceToNat, Nat.reduceLT, Nat.reduceEqDiff, reduceCtorEq, hl]); repeat ((with_reducible refine Mine.later ?_); try simp only [wS, Nat.reduceAdd, Nat.reduceLeDiff, String.reduceEq, ↓reduceIte, Int.reduceLE, Int.reduceLT, Int.reduceEq, Int.reduceToNat, Nat.reduceLT, Nat.reduceEqDiff, reduceCtorEq, hl]))
    simp only [hl, decide_false, Bool.false_and] at h
    exact h

theorem GoodR.len {R : Rg} (G : GoodR R) : R.length ≤ 15 := by
  have := length_of_sub G.nodup fun k hk => by
    obtain ⟨o, ho, e⟩ := List.mem_map.mp hk; exact e ▸ G.sub o ho
  rw [List.length_map] at this; exact this
theorem home_spec {R : Rg} (G : GoodR R) {p : Px} (hp : p ∈ allP) {st : St} {m : Nat} (hm : st[m]? = some (.list (R.map rngV))) {Q : V → St → Prop}
    (h : ∀ st', st <+: st' → Q (.tup [keyT (Mine.hm R p), .bool (sh R p)]) st') : T_law_home [keyT p, .loc m] st Q := by
  have hRl := G.len
  ((try simp only [wS, Nat.reduceAdd, Nat.reduceLeDiff, String.reduceEq, ↓reduceIte, Int.reduceLE, Int.reduceLT, Int.reduceEq, Int.reduceToNat, Nat.reduceLT, Nat.reduceEqDiff, reduceCtorEq, T_law_home, wb_law_home, wListComp, wCompE, wComp]); repeat ((with_reducible refine Mine.later ?_); try simp only [wS, Nat.reduceAdd, Nat.reduceLeDiff, String.reduceEq, ↓reduceIte, Int.reduceLE, Int.reduceLT, Int.reduceEq, Int.reduceToNat, Nat.reduceLT, Nat.reduceEqDiff, reduceCtorEq, T_law_home, wb_law_home, wListComp, wCompE, wComp]))
  refine iter_list hm ?_
  refine comp_name (x := "one") (all := R) rfl (fun o => cov o.1 p) rngV (fun st' p' => pre_get p' hm) (by omega) ?_ ?_ ?_
  · intro a ha η' hη hx st' p' K hK
    have h1 : η' "prefix" = some (keyT p) := by rw [hη _ (by decide)]; ((try simp only [wS, Nat.reduceAdd, Nat.reduceLeDiff, String.reduceEq, ↓reduceIte, Int.reduceLE, Int.reduceLT, Int.reduceEq, Int.reduceToNat, Nat.reduceLT, Nat.reduceEqDiff, reduceCtorEq]); repeat ((with_reducible refine Mine.later ?_); try simp only [wS, Nat.reduceAdd, Nat.reduceLeDiff, String.reduceEq, ↓reduceIte, Int.reduceLE, Int.reduceLT, Int.reduceEq, Int.reduceToNat, Nat.reduceLT, Nat.reduceEqDiff, reduceCtorEq]))
    ((try simp only [wS, Nat.reduceAdd, Nat.reduceLeDiff, String.reduceEq, ↓reduceIte, Int.reduceLE, Int.reduceLT, Int.reduceEq, Int.reduceToNat, Nat.reduceLT, Nat.reduceEqDiff, reduceCtorEq, hx, h1, rngV]); repeat ((with_reducible refine Mine.later ?_); try simp only [wS, Nat.reduceAdd, Nat.reduceLeDiff, String.reduceEq, ↓reduceIte, Int.reduceLE, Int.reduceLT, Int.reduceEq, Int.reduceToNat, Nat.reduceLT, Nat.reduceEqDiff, reduceCtorEq, hx, h1, rngV]))
    have hl := len_bd _ (G.sub a ha)
    refine is_in_spec (p := p) (q := a.1) hl.1 (by omega) ?_
    rw [inn_cov p hp a.1 (G.sub a ha)]
    exact hK _ p'
  · intro a ha _ η' hη hx st' p' K hK
    ((try simp only [wS, Nat.reduceAdd, Nat.reduceLeDiff, String.reduceEq, ↓reduceIte, Int.reduceLE, Int.reduceLT, Int.reduceEq, Int.reduceToNat, Nat.reduceLT, Nat.reduceEqDiff, reduceCtorEq, hx]); repeat ((with_reducible refine Mine.later ?_); try simp only [wS, Nat.reduceAdd, Nat.reduceLeDiff, String.reduceEq, ↓reduceIte, Int.reduceLE, Int.reduceLT, Int.reduceEq, Int.reduceToNat, Nat.reduceLT, Nat.reduceEqDiff, reduceCtorEq, hx]))
    exact hK _ p'
  intro st1 p1
  ((try simp only [wS, Nat.reduceAdd, Nat.reduceLeDiff, String.reduceEq, ↓reduceIte, Int.reduceLE, Int.reduceLT, Int.reduceEq, Int.reduceToNat, Nat.reduceLT, Nat.reduceEqDiff, reduceCtorEq, id]); repeat ((with_reducible refine Mine.later ?_); try simp only [wS, Nat.reduceAdd, Nat.reduceLeDiff, String.reduceEq, ↓reduceIte, Int.reduceLE, Int.reduceLT, Int.reduceEq, Int.reduceToNat, Nat.reduceLT, Nat.reduceEqDiff, reduceCtorEq, id]))
  generalize hA : R.filter (fun o => cov o.1 p) = Ar
  have hAm : ∀ o, o ∈ Ar ↔ o ∈ R ∧ cov o.1 p = true := fun o => by rw [← hA]; simp
  have hAl : Ar.length ≤ 15 := by rw [← hA]; exact Nat.le_trans (List.length_filter_le _ _) hRl
  refine iter_list (last_get _ _) ?_
  have hg0 := last_get st1 (.list (Ar.map rngV))
  refine loop_inv (all := Ar) (fun L η st' => st1 ++ [.list (Ar.map rngV)] <+: st' ∧ ∃ hh s, η "home" = some (keyT hh) ∧ η "is_shown" = some (.bool s) ∧ η "around" = some (.loc st1.length) ∧
    ((hh = p ∧ s = true ∧ ∀ o ∈ L, o.1.2 ≠ maxL (Ar.map fun o => o.1.2)) ∨ (∃ o ∈ L, o.1.2 = maxL (Ar.map fun o => o.1.2) ∧ hh = o.1 ∧ s = o.2))) ?_ Ar [] rfl _ _ _ ⟨List.prefix_refl _, p, true, rfl, rfl, rfl, .inl ⟨rfl, rfl, fun o ho => absurd ho (by simp)⟩⟩ ?_
  · rintro L a r e η st' ⟨p', hh, s, h1, h2, h3, h4⟩ K hK
    have haA : a ∈ Ar := by rw [e]; simp
    refine ⟨[keyT a.1, .bool a.2], rfl, rfl, ?_⟩
    ((try simp only [wS, Nat.reduceAdd, Nat.reduceLeDiff, String.reduceEq, ↓reduceIte, Int.reduceLE, Int.reduceLT, Int.reduceEq, Int.reduceToNat, Nat.reduceLT, Nat.reduceEqDiff, reduceCtorEq, h3]); repeat ((with_reducible refine Mine.later ?_); try simp only [wS, Nat.reduceAdd, Nat.reduceLeDiff, String.reduceEq, ↓reduceIte, Int.reduceLE, Int.reduceLT, Int.reduceEq, Int.reduceToNat, Nat.reduceLT, Nat.reduceEqDiff, reduceCtorEq, h3]))
    refine iter_list (pre_get p' hg0) ?_
    refine comp_name (x := "one") (all := Ar) rfl (fun o => true) (fun o => .int o.1.2) (fun st'' p'' => pre_get p'' (pre_get p' hg0)) (by omega) ?_ ?_ ?_
    · intro o ho η' hη hx st'' p'' K hK
      exact hK _ p''
    · intro o ho _ η' hη hx st'' p'' K hK
      ((try simp only [wS, Nat.reduceAdd, Nat.reduceLeDiff, String.reduceEq, ↓reduceIte, Int.reduceLE, Int.reduceLT, Int.reduceEq, Int.reduceToNat, Nat.reduceLT, Nat.reduceEqDiff, reduceCtorEq, hx, rngV]); repeat ((with_reducible refine Mine.later ?_); try simp only [wS, Nat.reduceAdd, Nat.reduceLeDiff, String.reduceEq, ↓reduceIte, Int.reduceLE, Int.reduceLT, Int.reduceEq, Int.reduceToNat, Nat.reduceLT, Nat.reduceEqDiff, reduceCtorEq, hx, rngV]))
      exact hK _ p''
    intro st2 p2
    ((try simp only [wS, Nat.reduceAdd, Nat.reduceLeDiff, String.reduceEq, ↓reduceIte, Int.reduceLE, Int.reduceLT, Int.reduceEq, Int.reduceToNat, Nat.reduceLT, Nat.reduceEqDiff, reduceCtorEq, id, wMax_i, wMax_l]); repeat ((with_reducible refine Mine.later ?_); try simp only [wS, Nat.reduceAdd, Nat.reduceLeDiff, String.reduceEq, ↓reduceIte, Int.reduceLE, Int.reduceLT, Int.reduceEq, Int.reduceToNat, Nat.reduceLT, Nat.reduceEqDiff, reduceCtorEq, id, wMax_i, wMax_l]))
    refine ⟨Ar.map fun o => o.1.2, ?_, ?_, ?_, ?_⟩
    · rw [last_get, List.filter_eq_self.mpr (fun _ _ => rfl), List.map_map]; rfl
    · intro q; simp at q; rw [q] at haA; simp at haA
    · simp; omega
    have p3 : st1 ++ [O.list (Ar.map rngV)] <+: st2 ++ [O.list (((Ar.filter fun o => true)).map fun o => V.int o.1.2)] := pre_app (p'.trans p2) _
    by_cases hmx : a.1.2 = maxL (Ar.map fun o => o.1.2)
    · ((try simp only [wS, Nat.reduceAdd, Nat.reduceLeDiff, String.reduceEq, ↓reduceIte, Int.reduceLE, Int.reduceLT, Int.reduceEq, Int.reduceToNat, Nat.reduceLT, Nat.reduceEqDiff, reduceCtorEq, decide_eq_true hmx]); repeat ((with_reducible refine Mine.later ?_); try simp only [wS, Nat.reduceAdd, Nat.reduceLeDiff, String.reduceEq, ↓reduceIte, Int.reduceLE, Int.reduceLT, Int.reduceEq, Int.reduceToNat, Nat.reduceLT, Nat.reduceEqDiff, reduceCtorEq, decide_eq_true hmx]))
      refine (hK _ _ _ (.inl rfl) (pre_get p3 hg0) ⟨p3, a.1, a.2, rfl, rfl, h3, .inr ⟨a, by simp, hmx, rfl, rfl⟩⟩)
    · ((try simp only [wS, Nat.reduceAdd, Nat.reduceLeDiff, String.reduceEq, ↓reduceIte, Int.reduceLE, Int.reduceLT, Int.reduceEq, Int.reduceToNat, Nat.reduceLT, Nat.reduceEqDiff, reduceCtorEq, decide_eq_false hmx]); repeat ((with_reducible refine Mine.later ?_); try simp only [wS, Nat.reduceAdd, Nat.reduceLeDiff, String.reduceEq, ↓reduceIte, Int.reduceLE, Int.reduceLT, Int.reduceEq, Int.reduceToNat, Nat.reduceLT, Nat.reduceEqDiff, reduceCtorEq, decide_eq_false hmx]))
      refine hK _ _ _ (.inl rfl) (pre_get p3 hg0) ⟨p3, hh, s, h1, h2, h3, ?_⟩
      rcases h4 with ⟨e1, e2, e3⟩ | ⟨o, ho, e1, e2⟩
      · refine .inl ⟨e1, e2, fun o ho => ?_⟩
        rcases List.mem_append.mp ho with ho | ho
        · exact e3 o ho
        · simp at ho; subst ho; exact hmx
      · exact .inr ⟨o, List.mem_append_left _ ho, e1, e2⟩
  · rintro η' st' ⟨p', hh, s, h1, h2, h3, h4⟩
    ((try simp only [wS, Nat.reduceAdd, Nat.reduceLeDiff, String.reduceEq, ↓reduceIte, Int.reduceLE, Int.reduceLT, Int.reduceEq, Int.reduceToNat, Nat.reduceLT, Nat.reduceEqDiff, reduceCtorEq, h1, h2, id]); repeat ((with_reducible refine Mine.later ?_); try simp only [wS, Nat.reduceAdd, Nat.reduceLeDiff, String.reduceEq, ↓reduceIte, Int.reduceLE, Int.reduceLT, Int.reduceEq, Int.reduceToNat, Nat.reduceLT, Nat.reduceEqDiff, reduceCtorEq, h1, h2, id]))
    have hb : hh = Mine.hm R p ∧ s = sh R p := by
      rcases h4 with ⟨e1, e2, e3⟩ | ⟨o, ho, e1, e2, e3⟩
      · have : Ar = [] := by
          cases hq : Ar with
          | nil => rfl
          | cons x xs =>
            have := maxL_mem (l := Ar.map fun o => o.1.2) (by rw [hq]; simp)
            obtain ⟨o, ho, e⟩ := List.mem_map.mp this
            exact absurd e (e3 o ho)
        have hn : rng R p = none := best_uniq G hp (rng_best R p) (g := none) fun o ho => by
          cases hc : cov o.1 p with
          | false => rfl
          | true => have := (hAm o).mpr ⟨ho, hc⟩; rw [‹Ar = []›] at this; simp at this
        rw [hm_none hn, sh_none hn]; exact ⟨e1, e2⟩
      · have hn : rng R p = some o := best_uniq G hp (rng_best R p) (g := some o) ⟨((hAm o).mp ho).1, ((hAm o).mp ho).2, fun o' ho' hc => by
          rw [e1]; exact maxL_le (List.mem_map.mpr ⟨o', (hAm o').mpr ⟨ho', hc⟩, rfl⟩)⟩
        rw [hm_some hn, sh_some hn]; exact ⟨e2, e3⟩
    rw [hb.1, hb.2]
    exact h _ ((p1.trans (List.prefix_append _ _)).trans p')
end Mine
end

section -- L5
set_option autoImplicit false
set_option linter.unusedVariables false
set_option linter.unusedSimpArgs false
set_option maxRecDepth 100000
namespace Mine

structure GoodN (nets : Ai) : Prop where
  nodup : (nets.map (·.1)).Nodup
  sub : ∀ e ∈ nets, e.1 ∈ allP ∧ 1 ≤ e.1.2
  cost : ∀ e ∈ nets, 0 ≤ e.2 ∧ e.2 ≤ 16777215
theorem GoodN.len {nets : Ai} (N : GoodN nets) : nets.length ≤ 15 := len_of_keys N.nodup fun k hk => by
  obtain ⟨o, ho, e⟩ := List.mem_map.mp hk; exact e ▸ (N.sub o ho).1
theorem toTi_keys (es : Ai) : (es.map toTi).map (·.1) = es.map (·.1) := by simp [Function.comp_def, toTi]
theorem map_iget {nets : Ai} (h : (nets.map (·.1)).Nodup) : (nets.map (·.1)).map (fun k => (k, (iget nets k).getD 0)) = nets := by
  rw [List.map_map]
  refine (List.map_congr_left fun e he => ?_).trans (List.map_id _)
  show (e.1, (iget nets e.1).getD 0) = id e
  rw [(iget_mem h (k := e.1) (v := e.2)).mpr he]; rfl

theorem rows_spec {nets : Ai} (N : GoodN nets) {n : Nat} {st : St} {lk : Option Nat} (hn : st[n]? = some (.dT lk (nets.map toTi))) {Q : V → St → Prop}
    (h : ∀ st' (rows : Ai), st <+: st' → rows.Perm nets → AscP (rows.map (·.1)) → Q (.loc st'.length) (st' ++ [.list (rows.map rowV)])) : T_law_rows [.loc n] st Q := by
  ((try simp only [wS, Nat.reduceAdd, Nat.reduceLeDiff, String.reduceEq, ↓reduceIte, Int.reduceLE, Int.reduceLT, Int.reduceEq, Int.reduceToNat, Nat.reduceLT, Nat.reduceEqDiff, reduceCtorEq, T_law_rows, wb_law_rows]); repeat ((with_reducible refine Mine.later ?_); try simp only [wS, Nat.reduceAdd, Nat.reduceLeDiff, String.reduceEq, ↓reduceIte, Int.reduceLE, Int.reduceLT, Int.reduceEq, Int.reduceToNat, Nat.reduceLT, Nat.reduceEqDiff, reduceCtorEq, T_law_rows, wb_law_rows]))
  refine sorted_T hn (by rw [toTi_keys]; exact N.nodup) (by have := N.len; simp; omega) fun ks ha hp => ?_
  rw [toTi_keys] at hp
  refine iter_list (last_get _ _) ?_
  have hl : ks.length ≤ 15 := by have := hp.length_eq; rw [List.length_map] at this; have := N.len; omega
  refine comp_name (x := "prefix") (all := ks) rfl (fun _ => true) (fun k => rowV (k, (iget nets k).getD 0)) (fun st' p' => pre_get p' (last_get _ _)) (by omega) ?_ ?_ ?_
  · intro a _ η' hη hx st' p' K hK
    exact hK _ p'
  · intro a ha' _ η' hη hx st' p' K hK
    have h1 : η' "nets" = some (.loc n) := by rw [hη _ (by decide)]; ((try simp only [wS, Nat.reduceAdd, Nat.reduceLeDiff, String.reduceEq, ↓reduceIte, Int.reduceLE, Int.reduceLT, Int.reduceEq, Int.reduceToNat, Nat.reduceLT, Nat.reduceEqDiff, reduceCtorEq]); repeat ((with_reducible refine Mine.later ?_); try simp only [wS, Nat.reduceAdd, Nat.reduceLeDiff, String.reduceEq, ↓reduceIte, Int.reduceLE, Int.reduceLT, Int.reduceEq, Int.reduceToNat, Nat.reduceLT, Nat.reduceEqDiff, reduceCtorEq]))
    ((try simp only [wS, Nat.reduceAdd, Nat.reduceLeDiff, String.reduceEq, ↓reduceIte, Int.reduceLE, Int.reduceLT, Int.reduceEq, Int.reduceToNat, Nat.reduceLT, Nat.reduceEqDiff, reduceCtorEq, hx, h1]); repeat ((with_reducible refine Mine.later ?_); try simp only [wS, Nat.reduceAdd, Nat.reduceLeDiff, String.reduceEq, ↓reduceIte, Int.reduceLE, Int.reduceLT, Int.reduceEq, Int.reduceToNat, Nat.reduceLT, Nat.reduceEqDiff, reduceCtorEq, hx, h1]))
    refine item_T (k := a) (v := .int ((iget nets a).getD 0)) (pre_get p' (pre_get1 _ hn)) ?_ ?_
    · rw [dget_ti]
      have : a ∈ nets.map (·.1) := hp.mem_iff.mp ha'
      obtain ⟨e, he, q⟩ := List.mem_map.mp this
      rw [(iget_mem N.nodup (k := a) (v := e.2)).mpr (by rw [← q]; exact he)]; rfl
    · exact hK _ p'
  intro st' p'
  ((try simp only [wS, Nat.reduceAdd, Nat.reduceLeDiff, String.reduceEq, ↓reduceIte, Int.reduceLE, Int.reduceLT, Int.reduceEq, Int.reduceToNat, Nat.reduceLT, Nat.reduceEqDiff, reduceCtorEq, id]); repeat ((with_reducible refine Mine.later ?_); try simp only [wS, Nat.reduceAdd, Nat.reduceLeDiff, String.reduceEq, ↓reduceIte, Int.reduceLE, Int.reduceLT, Int.reduceEq, Int.reduceToNat, Nat.reduceLT, Nat.reduceEqDiff, reduceCtorEq, id]))
  rw [List.filter_eq_self.mpr (fun _ _ => rfl)]
  have := h st' (ks.map fun k => (k, (iget nets k).getD 0)) ((List.prefix_append _ _).trans p') ?_ ?_
  · rw [List.map_map] at this; exact this
  · have := hp.map (fun k => (k, (iget nets k).getD 0)); rw [map_iget N.nodup] at this; exact this
  · rw [List.map_map]; have : ((fun x : Px × Int => x.1) ∘ fun k => (k, (iget nets k).getD 0)) = id := rfl
    rw [this, List.map_id]; exact ha

section
variable {es : List (Px × V)}
theorem dput_keys (es : List (Px × V)) (k : Px) (v : V) : ∀ a, a ∈ (dput es k v).map (·.1) ↔ a = k ∨ a ∈ es.map (·.1) := fun a => by
  by_cases h : k ∈ es.map (·.1)
  · rw [dput_keys_old v h]
    constructor
    · exact .inr
    · rintro (rfl | q)
      · exact h
      · exact q
  · rw [dput_keys_new v h]; simp [or_comm]
theorem dput_nodup {es : List (Px × V)} (hn : (es.map (·.1)).Nodup) (k : Px) (v : V) : ((dput es k v).map (·.1)).Nodup := by
  by_cases h : k ∈ es.map (·.1)
  · rw [dput_keys_old v h]; exact hn
  · rw [dput_keys_new v h, List.map_append, List.nodup_append]
    refine ⟨hn, by simp, fun a ha b hb => ?_⟩
    simp at hb; subst hb; exact fun e => h (e ▸ ha)
end
theorem len_of_keysV {es : List (Px × V)} (h : (es.map (·.1)).Nodup) (hs : ∀ k ∈ es.map (·.1), k ∈ allP) : es.length ≤ 15 := by
  have := length_of_sub h hs
  rw [List.length_map] at this; exact this
theorem setV_T {n : Nat} {st : St} {es : List (Px × V)} {p : Px} {v : V} {Q : St → Prop} (h : st[n]? = some (.dT none es)) (hl : es.length ≤ 1000) (hq : Q (st.set n (.dT none (dput es p v)))) : wSetV (.loc n) (.tup [.int p.1, .int p.2]) v st Q :=
  .inr (.inr ⟨p, _, rfl, hl, h, hq⟩)

theorem active_spec {R : Rg} (G : GoodR R) {rows : Ai} {st : St} {n m : Nat} (hn : st[n]? = some (.list (rows.map rowV))) (hm : st[m]? = some (.list (R.map rngV))) {Q : V → St → Prop}
    (h : ∀ st' ks, st <+: st' → AscP ks → (∀ k, k ∈ ks ↔ ∃ row ∈ rows, ∃ o, rng R row.1 = some o ∧ o.1 = k) → Q (.loc st'.length) (st' ++ [.list (ks.map keyT)])) : T_active_ranges [.loc n, .loc m, .int 4] st Q := by
  ((try simp only [wS, Nat.reduceAdd, Nat.reduceLeDiff, String.reduceEq, ↓reduceIte, Int.reduceLE, Int.reduceLT, Int.reduceEq, Int.reduceToNat, Nat.reduceLT, Nat.reduceEqDiff, reduceCtorEq, T_active_ranges, wb_active_ranges]); repeat ((with_reducible refine Mine.later ?_); try simp only [wS, Nat.reduceAdd, Nat.reduceLeDiff, String.reduceEq, ↓reduceIte, Int.reduceLE, Int.reduceLT, Int.reduceEq, Int.reduceToNat, Nat.reduceLT, Nat.reduceEqDiff, reduceCtorEq, T_active_ranges, wb_active_ranges]))
  refine iter_list (pre_get1 _ hn) ?_
  refine loop_inv (all := rows) (fun L η st' => (∃ es : List (Px × V), st' = st ++ [.dT none es] ∧ (es.map (·.1)).Nodup ∧ ∀ k, k ∈ es.map (·.1) ↔ ∃ row ∈ L, ∃ o, rng R row.1 = some o ∧ o.1 = k) ∧ η "found" = some (.loc st.length) ∧ η "ranges" = some (.loc m) ∧ η "bits" = some (.int 4)) ?_ rows [] rfl _ _ _ ⟨⟨[], rfl, by simp, by simp⟩, rfl, rfl, rfl⟩ ?_
  · rintro L a r e η st' ⟨⟨es, rfl, hd, hk⟩, h1, h2, h3⟩ K hK
    ((try simp only [wS, Nat.reduceAdd, Nat.reduceLeDiff, String.reduceEq, ↓reduceIte, Int.reduceLE, Int.reduceLT, Int.reduceEq, Int.reduceToNat, Nat.reduceLT, Nat.reduceEqDiff, reduceCtorEq, rowV, h1, h2, h3]); repeat ((with_reducible refine Mine.later ?_); try simp only [wS, Nat.reduceAdd, Nat.reduceLeDiff, String.reduceEq, ↓reduceIte, Int.reduceLE, Int.reduceLT, Int.reduceEq, Int.reduceToNat, Nat.reduceLT, Nat.reduceEqDiff, reduceCtorEq, rowV, h1, h2, h3]))
    refine range_of_spec G (p := a.1) (pre_get1 _ hm) ?_
    cases hg : rng R a.1 with
    | none =>
      ((try simp only [wS, Nat.reduceAdd, Nat.reduceLeDiff, String.reduceEq, ↓reduceIte, Int.reduceLE, Int.reduceLT, Int.reduceEq, Int.reduceToNat, Nat.reduceLT, Nat.reduceEqDiff, reduceCtorEq, rngO, h1]); repeat ((with_reducible refine Mine.later ?_); try simp only [wS, Nat.reduceAdd, Nat.reduceLeDiff, String.reduceEq, ↓reduceIte, Int.reduceLE, Int.reduceLT, Int.reduceEq, Int.reduceToNat, Nat.reduceLT, Nat.reduceEqDiff, reduceCtorEq, rngO, h1]))
      refine hK _ _ _ (.inl rfl) (pre_get1 _ hn) ⟨⟨es, rfl, hd, fun k => ?_⟩, ?_, ?_, ?_⟩
      · rw [hk k]
        constructor
        · rintro ⟨row, hr, q⟩; exact ⟨row, List.mem_append_left _ hr, q⟩
        · rintro ⟨row, hr, o, q1, q2⟩
          rcases List.mem_append.mp hr with hr | hr
          · exact ⟨row, hr, o, q1, q2⟩
          · simp at hr; subst hr; rw [hg] at q1; cases q1
      all_goals ((try simp only [wS, Nat.reduceAdd, Nat.reduceLeDiff, String.reduceEq, ↓reduceIte, Int.reduceLE, Int.reduceLT, Int.reduceEq, Int.reduceToNat, Nat.reduceLT, Nat.reduceEqDiff, reduceCtorEq, h1, h2, h3]); repeat ((with_reducible refine Mine.later ?_); try simp only [wS, Nat.reduceAdd, Nat.reduceLeDiff, String.reduceEq, ↓reduceIte, Int.reduceLE, Int.reduceLT, Int.reduceEq, Int.reduceToNat, Nat.reduceLT, Nat.reduceEqDiff, reduceCtorEq, h1, h2, h3]))
    | some o =>
      ((try simp only [wS, Nat.reduceAdd, Nat.reduceLeDiff, String.reduceEq, ↓reduceIte, Int.reduceLE, Int.reduceLT, Int.reduceEq, Int.reduceToNat, Nat.reduceLT, Nat.reduceEqDiff, reduceCtorEq, rngO, rngV, h1]); repeat ((with_reducible refine Mine.later ?_); try simp only [wS, Nat.reduceAdd, Nat.reduceLeDiff, String.reduceEq, ↓reduceIte, Int.reduceLE, Int.reduceLT, Int.reduceEq, Int.reduceToNat, Nat.reduceLT, Nat.reduceEqDiff, reduceCtorEq, rngO, rngV, h1]))
      have hl : es.length ≤ 15 := len_of_keysV hd fun k q => by
        obtain ⟨row, _, o, q1, rfl⟩ := (hk k).mp q
        have := rng_best R row.1; rw [q1] at this; exact G.sub o this.1
      refine setV_T (p := o.1) (last_get _ _) (by omega) ?_
      rw [set_last]
      refine hK _ _ _ (.inl rfl) (pre_get1 _ hn) ⟨⟨_, rfl, dput_nodup hd _ _, fun k => ?_⟩, ?_, ?_, ?_⟩
      · rw [dput_keys, hk k]
        constructor
        · rintro (rfl | ⟨row, hr, q⟩)
          · exact ⟨a, by simp, o, hg, rfl⟩
          · exact ⟨row, List.mem_append_left _ hr, q⟩
        · rintro ⟨row, hr, o', q1, q2⟩
          rcases List.mem_append.mp hr with hr | hr
          · exact .inr ⟨row, hr, o', q1, q2⟩
          · simp at hr; subst hr; rw [hg] at q1; cases q1; exact .inl q2.symm
      all_goals ((try simp only [wS, Nat.reduceAdd, Nat.reduceLeDiff, String.reduceEq, ↓reduceIte, Int.reduceLE, Int.reduceLT, Int.reduceEq, Int.reduceToNat, Nat.reduceLT, Nat.reduceEqDiff, reduceCtorEq, h1, h2, h3]); repeat ((with_reducible refine Mine.later ?_); try simp only [wS, Nat.reduceAdd, Nat.reduceLeDiff, String.reduceEq, ↓reduceIte, Int.reduceLE, Int.reduceLT, Int.reduceEq, Int.reduceToNat, Nat.reduceLT, Nat.reduceEqDiff, reduceCtorEq, h1, h2, h3]))
  · rintro η' st' ⟨⟨es, rfl, hd, hk⟩, h1, h2, h3⟩
    ((try simp only [wS, Nat.reduceAdd, Nat.reduceLeDiff, String.reduceEq, ↓reduceIte, Int.reduceLE, Int.reduceLT, Int.reduceEq, Int.reduceToNat, Nat.reduceLT, Nat.reduceEqDiff, reduceCtorEq, h1, id]); repeat ((with_reducible refine Mine.later ?_); try simp only [wS, Nat.reduceAdd, Nat.reduceLeDiff, String.reduceEq, ↓reduceIte, Int.reduceLE, Int.reduceLT, Int.reduceEq, Int.reduceToNat, Nat.reduceLT, Nat.reduceEqDiff, reduceCtorEq, h1, id]))
    have hl : es.length ≤ 15 := len_of_keysV hd fun k q => by
      obtain ⟨row, _, o, q1, rfl⟩ := (hk k).mp q
      have := rng_best R row.1; rw [q1] at this; exact G.sub o this.1
    refine sorted_T (last_get _ _) hd (by omega) fun ks ha hp => ?_
    exact h _ ks (List.prefix_append _ _) ha fun k => by rw [hp.mem_iff]; exact hk k
end Mine
end

section -- L6
set_option autoImplicit false
set_option linter.unusedVariables false
set_option linter.unusedSimpArgs false
set_option maxRecDepth 100000
namespace Mine

noncomputable def reach (nets : Ai) : Ai := nets.filter fun e => decide (e.2 < 16777215)
abbrev Told (R : Rg) (nets es : Ai) : Prop := CondOk R (reach nets) es
structure GoodW' (rows : Ai) : Prop where
  sub : ∀ e ∈ rows, e.1 ∈ allP
  cost : ∀ e ∈ rows, 0 ≤ e.2

theorem best_some {S : Px → Int → Prop} {o : Option Int} (h : BestIs S o) {p : Px} {c : Int} (hs : S p c) : ∃ d, o = some d ∧ c ≤ d := by
  cases o with
  | none => exact absurd hs (h p c)
  | some d => exact ⟨d, rfl, h.2 p c hs⟩
theorem CondOk.key {R : Rg} {rows es : Ai} (h : CondOk R rows es) (k : Px) : k ∈ es.map (·.1) ↔ ∃ p c, Sel R rows k p c := by
  have hb := h.best k
  constructor
  · intro m
    cases e : iget es k with
    | none => exact absurd m (iget_none.mp e)
    | some c => rw [e] at hb; exact let ⟨p, q⟩ := hb.1; ⟨p, c, q⟩
  · rintro ⟨p, c, q⟩
    obtain ⟨d, e, _⟩ := best_some hb q
    refine Classical.byContradiction fun m => ?_
    rw [iget_none.mpr m] at e; cases e
theorem CondOk.same {R R' : Rg} {rows rows' es es' : Ai} (h : CondOk R rows es) (h' : CondOk R' rows' es') {k : Px} (e : ∀ p c, Sel R rows k p c ↔ Sel R' rows' k p c) : iget es k = iget es' k := (h.best k).uniq (h'.best k) e
theorem CondOk.val {R : Rg} {rows es : Ai} (h : CondOk R rows es) (hr : ∀ e ∈ rows, 0 ≤ e.2) (k : Px) : 0 ≤ (iget es k).getD 0 := by
  have hb := h.best k
  cases e : iget es k with
  | none => exact Int.le_refl _
  | some c => rw [e] at hb; obtain ⟨⟨p, m, _⟩, _⟩ := hb; exact hr _ m
theorem CondOk.subP {R : Rg} (G : GoodR R) {rows es : Ai} (h : CondOk R rows es) (hr : ∀ e ∈ rows, e.1 ∈ allP) : ∀ k ∈ es.map (·.1), k ∈ allP := fun k hk => by
  obtain ⟨row, m, e⟩ := h.sub k hk; exact e ▸ hm_all G (hr row m)

/-! one turn -/
theorem turn_keeps {R : Rg} (G : GoodR R) {p : Px} {nets0 nets es0 es : Ai} (T0 : Told R nets0 es0) (T : Told R nets es) (hd : ∀ q c, q ≠ p → ((q, c) ∈ nets0 ↔ (q, c) ∈ nets)) {k : Px} (hk : k ≠ hm R p) : iget es0 k = iget es k := by
  refine T0.same T fun q c => ?_
  unfold Sel reach
  simp only [List.mem_filter, decide_eq_true_eq]
  by_cases hq : q = p
  · subst hq
    constructor <;> rintro ⟨_, _, h⟩ <;> exact absurd h.symm hk
  · rw [hd q c hq]
theorem peers_best {R : Rg} (G : GoodR R) {p : Px} (hp : p ∈ allP) {nets es : Ai} (N : GoodN nets) (T : Told R nets es) {cs : List Int}
    (hcs : cs = (nets.filter fun e => decide (e.2 < 16777215) && decide (hm R e.1 = hm R p)).map fun e => e.2) :
    iget es (hm R p) = if sh R p = true ∧ cs ≠ [] then some (maxL cs) else none := by
  have hm' : ∀ c, c ∈ cs ↔ ∃ q, (q, c) ∈ nets ∧ c < 16777215 ∧ hm R q = hm R p := fun c => by
    rw [hcs]
    simp only [List.mem_map, List.mem_filter, Bool.and_eq_true, decide_eq_true_eq]
    constructor
    · rintro ⟨e, ⟨h1, h2, h3⟩, rfl⟩; exact ⟨e.1, h1, h2, h3⟩
    · rintro ⟨q, h1, h2, h3⟩; exact ⟨(q, c), ⟨h1, h2, h3⟩, rfl⟩
  have hb := T.best (hm R p)
  refine BestIs.uniq hb (S' := Sel R (reach nets) (hm R p)) ?_ fun _ _ => Iff.rfl
  have hsel : ∀ q c, Sel R (reach nets) (hm R p) q c ↔ (q, c) ∈ nets ∧ c < 16777215 ∧ hm R q = hm R p ∧ sh R p = true := fun q c => by
    unfold Sel reach
    simp only [List.mem_filter, decide_eq_true_eq]
    constructor
    · rintro ⟨⟨h1, h2⟩, h3, h4⟩; exact ⟨h1, h2, h4, by rw [← sh_of_hm G ((N.sub _ h1).1) hp h4]; exact h3⟩
    · rintro ⟨h1, h2, h3, h4⟩; exact ⟨⟨h1, h2⟩, by rw [sh_of_hm G ((N.sub _ h1).1) hp h3]; exact h4, h3⟩
  by_cases h : sh R p = true ∧ cs ≠ []
  · rw [if_pos h]
    refine ⟨?_, fun q c hq => ?_⟩
    · obtain ⟨q, h1, h2, h3⟩ := (hm' _).mp (maxL_mem h.2)
      exact ⟨q, (hsel _ _).mpr ⟨h1, h2, h3, h.1⟩⟩
    · obtain ⟨h1, h2, h3, _⟩ := (hsel _ _).mp hq
      exact maxL_le ((hm' c).mpr ⟨q, h1, h2, h3⟩)
  · rw [if_neg h]
    intro q c hq
    obtain ⟨h1, h2, h3, h4⟩ := (hsel _ _).mp hq
    refine h ⟨h4, fun e => ?_⟩
    have := (hm' c).mpr ⟨q, h1, h2, h3⟩
    rw [e] at this; simp at this

/-! two lots -/
noncomputable def omax : Option Int → Option Int → Option Int
  | o, none => o
  | o, some b => some (max b (o.getD 0))
theorem omax_best {S S' : Px → Int → Prop} {o o' : Option Int} (h : BestIs S o) (h' : BestIs S' o') (h0 : ∀ p c, S' p c → 0 ≤ c) : BestIs (fun p c => S p c ∨ S' p c) (omax o o') := by
  cases o' with
  | none =>
    cases o with
    | none =>
      rintro p c (q | q)
      · exact h p c q
      · exact h' p c q
    | some a =>
      refine ⟨let ⟨p, q⟩ := h.1; ⟨p, .inl q⟩, ?_⟩
      rintro p c (q | q)
      · exact h.2 p c q
      · exact absurd q (h' p c)
  | some b =>
    obtain ⟨⟨p, q⟩, m⟩ := h'
    have hb0 := h0 p b q
    cases o with
    | none =>
      have e : omax none (some b) = some b := by show some (max b 0) = _; rw [Int.max_eq_left hb0]
      rw [e]
      refine ⟨⟨p, .inr q⟩, ?_⟩
      rintro p' c (q' | q')
      · exact absurd q' (h p' c)
      · exact m p' c q'
    | some a =>
      show BestIs _ (some (max b a))
      obtain ⟨⟨p2, q2⟩, m2⟩ := h
      refine ⟨?_, ?_⟩
      · rcases Int.le_total a b with hl | hl
        · rw [Int.max_eq_left hl]; exact ⟨p, .inr q⟩
        · rw [Int.max_eq_right hl]; exact ⟨p2, .inl q2⟩
      · rintro p' c (q' | q')
        · have := m2 p' c q'; omega
        · have := m p' c q'; omega
theorem iget_append (a b : Ai) (k : Px) : iget (a ++ b) k = match iget a k with
    | some c => some c
    | none => iget b k := by
  induction a with
  | nil => rfl
  | cons e r ih =>
    obtain ⟨x, y⟩ := e
    simp only [List.cons_append, iget]
    by_cases h : x = k
    · simp [h]
    · simp [h, ih]
theorem omax_step {es js L : Ai} {k0 : Px} {c : Int} (hj : ∀ k, iget js k = omax (iget es k) (iget L k)) (hn : k0 ∉ L.map (·.1)) (k : Px) :
    iget (iput js k0 (max c ((iget js k0).getD 0))) k = omax (iget es k) (iget (L ++ [(k0, c)]) k) := by
  rw [iget_put, iget_append]
  by_cases h : k0 = k
  · subst h
    rw [if_pos rfl, iget_none.mpr hn, hj k0, iget_none.mpr hn]
    simp [iget, omax]
  · rw [if_neg h, hj k]
    cases iget L k with
    | none => simp [iget, h]
    | some d => rfl
theorem same_dict {ks ls : Ai} (hk : (ks.map (·.1)).Nodup) (hl : (ls.map (·.1)).Nodup) (h : ∀ k, iget ks k = iget ls k) : dEq ks ls = true := by
  have hm : ∀ e, e ∈ ks ↔ e ∈ ls := fun e => by
    rw [← iget_mem hk (k := e.1) (v := e.2), ← iget_mem hl (k := e.1) (v := e.2), h]
  have n : ∀ {l : Ai}, (l.map (·.1)).Nodup → l.Nodup := fun {l} h => List.Pairwise.of_map (·.1) (fun a b q e => q (e ▸ rfl)) h
  have hp : ks.Perm ls := (List.perm_ext_iff_of_nodup (n hk) (n hl)).mpr hm
  unfold dEq
  rw [Bool.and_eq_true]
  exact ⟨by simpa using hp.length_eq, List.all_eq_true.mpr fun e he => decide_eq_true ((hm e).mp he)⟩
theorem shown_same {R : Rg} (G : GoodR R) {rows es : Ai} (hr : ∀ e ∈ rows, e.1 ∈ allP) (T : CondOk R rows es) {ks ts : List Px} (ak : AscP ks) (at' : AscP ts) (hk : ∀ k, k ∈ ks ↔ ∃ row ∈ rows, ∃ o, rng R row.1 = some o ∧ o.1 = k)
    (ht : ts.Perm (es.map (·.1))) : ks.filter (fun k => decide ((k, true) ∈ R)) = ts.filter (fun k => decide (k ∈ R.map (·.1))) := by
  have a1 : AscP (ks.filter fun k => decide ((k, true) ∈ R)) := ak.filter _
  have a2 : AscP (ts.filter fun k => decide (k ∈ R.map (·.1))) := at'.filter _
  refine asc_uniq lin_ltP ((List.perm_ext_iff_of_nodup (asc_nodup a1) (asc_nodup a2)).mpr fun k => ?_) a1 a2
  simp only [List.mem_filter, decide_eq_true_eq]
  rw [ht.mem_iff, T.key k, hk k]
  constructor
  · rintro ⟨⟨row, m, o, h1, rfl⟩, h2⟩
    have hb := rng_best R row.1
    rw [h1] at hb
    have e := nodup_fst G.nodup hb.1 h2 rfl
    refine ⟨⟨row.1, row.2, m, ?_, hm_some h1⟩, List.mem_map.mpr ⟨_, h2, rfl⟩⟩
    rw [sh_some h1, e]
  · rintro ⟨⟨p, c, m, h1, h2⟩, h3⟩
    obtain ⟨o, ho, e⟩ := List.mem_map.mp h3
    have hi := hm_in G (hr _ m) (b := o.2) (by rw [h2, ← e]; exact ho)
    rw [sh_some hi] at h1
    refine ⟨⟨(p, c), m, _, hi, h2⟩, ?_⟩
    have : o = (k, true) := Prod.ext e h1
    rw [← this]; exact ho

/-! a further range -/
section
variable {R : Rg} {f : Px} {rows told later : Ai}
theorem further_rng (G : GoodR R) (hf : f ∈ allP) {p : Px} (hp : p ∈ allP) :
    (rng (R ++ [(f, sh R f)]) p = rng R p ∧ ¬ (cov f p = true ∧ rng R p = none)) ∨ (rng (R ++ [(f, sh R f)]) p = some (f, sh R f) ∧ cov f p = true ∧ rng R p = rng R f) := by
  have e : rng (R ++ [(f, sh R f)]) p = better p (rng R p) (f, sh R f) := by unfold rng; rw [List.foldl_append]; rfl
  rw [e]; unfold better
  by_cases h : (cov f p && lessF (rng R p) (f, sh R f)) = true
  · right
    rw [if_pos h]
    rw [Bool.and_eq_true] at h
    refine ⟨rfl, h.1, ?_⟩
    have hb := rng_best R p
    refine best_uniq G hf ?_ (rng_best R f)
    cases hr : rng R p with
    | none =>
      rw [hr] at hb
      intro o ho
      cases hc : cov o.1 f with
      | false => rfl
      | true => have := hb o ho; rw [cov_trans o.1 (G.sub o ho) f hf hc p hp h.1] at this; cases this
    | some g =>
      rw [hr] at hb h
      have hl : g.1.2 < f.2 := by simpa [lessF] using h.2
      refine ⟨hb.1, cov_nest g.1 (G.sub g hb.1) f hf (by omega) p hp hb.2.1 h.1, fun o ho hc => ?_⟩
      exact hb.2.2 o ho (cov_trans o.1 (G.sub o ho) f hf hc p hp h.1)
  · left
    rw [if_neg h]
    refine ⟨rfl, fun q => h ?_⟩
    rw [q.1, q.2]; rfl
theorem hm_congr {R R' : Rg} {p : Px} (h : rng R' p = rng R p) : hm R' p = hm R p := by unfold hm; rw [h]
theorem sh_congr {R R' : Rg} {p q : Px} (h : rng R' p = rng R q) : sh R' p = sh R q := by unfold sh; rw [h]

/-- the keys that may change -/
noncomputable def movedL (R : Rg) (f : Px) (told : Ai) : List Px := if hm R f ∈ R.map (·.1) then [f, hm R f] else f :: (told.map (·.1)).filter fun k => !decide (k ∈ R.map (·.1)) && inn k f
structure FurIn (R : Rg) (f : Px) (rows told later : Ai) : Prop where
  G : GoodR R
  hf : f ∈ allP
  new : f ∉ R.map (·.1)
  sub : ∀ e ∈ rows, e.1 ∈ allP
  cost : ∀ e ∈ rows, 0 ≤ e.2
  T : CondOk R rows told
  L : CondOk (R ++ [(f, sh R f)]) rows later
theorem f_moved : f ∈ movedL R f told := by unfold movedL; split <;> simp
/-- where a row goes -/
theorem FurIn.goes (F : FurIn R f rows told later) {p : Px} {c : Int} (m : (p, c) ∈ rows) :
    (hm (R ++ [(f, sh R f)]) p = hm R p ∧ sh (R ++ [(f, sh R f)]) p = sh R p) ∨ (hm (R ++ [(f, sh R f)]) p = f ∧ sh (R ++ [(f, sh R f)]) p = sh R p ∧ (sh R p = true → hm R p ∈ movedL R f told)) := by
  have hp := F.sub _ m
  rcases further_rng F.G F.hf hp with ⟨h, _⟩ | ⟨h1, h2, h3⟩
  · exact .inl ⟨hm_congr h, sh_congr h⟩
  · refine .inr ⟨hm_some h1, by rw [sh_some h1]; exact (sh_congr h3).symm, fun hs => ?_⟩
    unfold movedL
    have hb := rng_best R f
    cases hr : rng R f with
    | some g =>
      rw [hr] at hb h3
      rw [hm_some h3, hm_some hr, if_pos (List.mem_map.mpr ⟨g, hb.1, rfl⟩)]; simp
    | none =>
      rw [hr] at h3
      rw [hm_none h3, hm_none hr, if_neg F.new]
      refine List.mem_cons_of_mem _ (List.mem_filter.mpr ⟨?_, ?_⟩)
      · exact (F.T.key p).mpr ⟨p, c, m, hs, hm_none h3⟩
      · rw [inn_cov p hp f F.hf, h2]
        have hb' := rng_best R p
        rw [h3] at hb'
        have : p ∉ R.map (·.1) := fun q => by
          obtain ⟨o, ho, e⟩ := List.mem_map.mp q
          have := hb' o ho
          rw [e, cov_refl p hp] at this; cases this
        simp [this]
theorem FurIn.keeps (F : FurIn R f rows told later) {k : Px} (hk : k ∉ movedL R f told) : iget told k = iget later k := by
  refine F.T.same F.L fun p c => ?_
  unfold Sel
  constructor
  · rintro ⟨m, h1, h2⟩
    rcases F.goes m with ⟨e1, e2⟩ | ⟨e1, e2, e3⟩
    · exact ⟨m, by rw [e2]; exact h1, by rw [e1]; exact h2⟩
    · exact absurd (h2 ▸ e3 h1) hk
  · rintro ⟨m, h1, h2⟩
    rcases F.goes m with ⟨e1, e2⟩ | ⟨e1, e2, e3⟩
    · exact ⟨m, by rw [← e2]; exact h1, by rw [← e1]; exact h2⟩
    · exact absurd (by rw [← h2, e1]; exact f_moved) hk
theorem FurIn.inner (F : FurIn R f rows told later) {k : Px} (hk : k ∈ later.map (·.1)) (h1 : k ∉ R.map (·.1)) (h2 : k ≠ f) (h3 : inn k f = true) : False := by
  obtain ⟨row, m, e⟩ := F.L.sub k hk
  have hp := F.sub _ m
  rcases further_rng F.G F.hf hp with ⟨h, hn⟩ | ⟨h, _⟩
  · rw [hm_congr h] at e
    have hb := rng_best R row.1
    cases hr : rng R row.1 with
    | some g => rw [hr] at hb; rw [hm_some hr] at e; exact h1 (List.mem_map.mpr ⟨g, hb.1, e.symm⟩)
    | none =>
      rw [hm_none hr] at e
      refine hn ⟨?_, hr⟩
      rw [← e, ← inn_cov k (by rw [e]; exact hp) f F.hf]; exact h3
  · rw [hm_some h] at e; exact h2 e
theorem FurIn.maxes (F : FurIn R f rows told later) : maxL ((movedL R f told).map fun k => (iget later k).getD 0) = maxL ((movedL R f told).map fun k => (iget told k).getD 0) := by
  have key : ∀ {R1 R2 : Rg} {e1 e2 : Ai}, CondOk R1 rows e1 → CondOk R2 rows e2 → (∀ p c, (p, c) ∈ rows → sh R1 p = true → hm R1 p ∈ movedL R f told → sh R2 p = true ∧ hm R2 p ∈ movedL R f told) →
      maxL ((movedL R f told).map fun k => (iget e1 k).getD 0) ≤ maxL ((movedL R f told).map fun k => (iget e2 k).getD 0) := fun {R1 R2 e1 e2} C1 C2 h => by
    have ne : ((movedL R f told).map fun k => (iget e1 k).getD 0) ≠ [] := fun q => by
      have := List.mem_map_of_mem (f := fun k => (iget e1 k).getD 0) (f_moved (R := R) (f := f) (told := told)); rw [q] at this; simp at this
    obtain ⟨k, hk, e⟩ := List.mem_map.mp (maxL_mem ne)
    rw [← e]
    have hb := C1.best k
    cases hi : iget e1 k with
    | none =>
      refine Int.le_trans (C2.val F.cost f) (maxL_le (List.mem_map.mpr ⟨f, f_moved, rfl⟩))
    | some c =>
      rw [hi] at hb
      obtain ⟨⟨p, m, s1, s2⟩, _⟩ := hb
      obtain ⟨t1, t2⟩ := h p c m s1 (s2 ▸ hk)
      obtain ⟨d, g1, g2⟩ := best_some (C2.best (hm R2 p)) ⟨m, t1, rfl⟩
      refine Int.le_trans g2 (maxL_le (List.mem_map.mpr ⟨_, t2, by rw [g1]; rfl⟩))
  refine Int.le_antisymm (key F.L F.T fun p c m h1 h2 => ?_) (key F.T F.L fun p c m h1 h2 => ?_)
  · rcases F.goes m with ⟨e1, e2⟩ | ⟨e1, e2, e3⟩
    · exact ⟨by rw [← e2]; exact h1, by rw [← e1]; exact h2⟩
    · exact ⟨by rw [← e2]; exact h1, e3 (by rw [← e2]; exact h1)⟩
  · rcases F.goes m with ⟨e1, e2⟩ | ⟨e1, e2, e3⟩
    · exact ⟨by rw [e2]; exact h1, by rw [e1]; exact h2⟩
    · exact ⟨by rw [e2]; exact h1, by rw [e1]; exact f_moved⟩
theorem GoodR.further (G : GoodR R) (hf : f ∈ allP) (new : f ∉ R.map (·.1)) (b : Bool) : GoodR (R ++ [(f, b)]) := by
  refine ⟨fun o ho => ?_, ?_⟩
  · rcases List.mem_append.mp ho with ho | ho
    · exact G.sub o ho
    · simp at ho; subst ho; exact hf
  · rw [List.map_append, List.nodup_append]
    refine ⟨G.nodup, by simp, fun a ha c hc => ?_⟩
    simp at hc; subst hc; exact fun e => new (e ▸ ha)
end
end Mine
end

section -- L7
set_option autoImplicit false
set_option linter.unusedVariables false
set_option linter.unusedSimpArgs false
set_option maxRecDepth 100000
namespace Mine

noncomputable def optV : Option Int → V
  | none => .none
  | some c => .int c
theorem get1_ti {n : Nat} {st : St} {lk : Option Nat} {es : Ai} {p : Px} {Q : V → St → Prop} (h : st[n]? = some (.dT lk (es.map toTi))) (hq : Q (optV (iget es p)) st) : wGet1 [.loc n, .tup [.int p.1, .int p.2]] st Q :=
  get1_T h (by rw [dget_ti]; revert hq; cases iget es p <;> exact id)
theorem eq_opt {neg : Bool} {o o' : Option Int} {st : St} {Q : V → St → Prop} (h : Q (.bool (neg ^^ decide (o = o'))) st) : wEqV neg (optV o) (optV o') st Q := by
  cases o <;> cases o' <;> simp only [optV, wEqV_ii, wEqV_nn, wEqV_in, wEqV_ni] <;> simpa using h
theorem listC_T {n : Nat} {st : St} {lk : Option Nat} {es : Ai} {Q : V → St → Prop} (h : st[n]? = some (.dT lk (es.map toTi))) (hl : es.length ≤ 15) (hq : Q (.loc st.length) (st ++ [.list ((es.map (·.1)).map keyT)])) : wListC [.loc n] st Q :=
  ⟨.loc n, (es.map toTi).map fun p => keyT p.1, rfl, items_t h, by simp; omega, by
    have : ((es.map toTi).map fun p => keyT p.1) = (es.map (·.1)).map keyT := by simp [Function.comp_def, toTi]
    rw [this]; exact hq⟩
theorem add_LL {n m : Nat} {st : St} {xs ys : List V} {Q : V → St → Prop} (h : st[n]? = some (.list xs)) (h' : st[m]? = some (.list ys)) (hl : xs.length + ys.length ≤ 1000) (hq : Q (.loc st.length) (st ++ [.list (xs ++ ys)])) : wBinV .Add (.loc n) (.loc m) st Q :=
  ⟨rfl, xs, ys, h, h', hl, hq⟩
theorem dictC_T {n : Nat} {st : St} {lk : Option Nat} {es : Ai} {Q : V → St → Prop} (h : st[n]? = some (.dT lk (es.map toTi))) (hn : (es.map (·.1)).Nodup) (hs : ∀ k ∈ es.map (·.1), k ∈ allP) (hq : Q (.loc st.length) (st ++ [.dT none (es.map toTi)])) : wDictC [.loc n] st Q :=
  .inl ⟨lk, _, h, by have := len_of_keys hn hs; simp; omega, by
    have := hash_nodup hn hs
    rw [List.map_map] at this ⊢; exact this, hq⟩
noncomputable def wordsV (R : Rg) : List (Px × V) := R.map fun o => (o.1, .bool o.2)
theorem putAll_new : ∀ (ps es : List (Px × V)), ((es ++ ps).map (·.1)).Nodup → putAll ps es = es ++ ps
  | [], es, _ => by simp [putAll]
  | p :: r, es, h => by
    have hp : p.1 ∉ es.map (·.1) := fun m => by
      rw [List.map_append, List.nodup_append] at h
      exact h.2.2 _ m p.1 (by simp) rfl
    unfold putAll
    rw [dput_keys_new p.2 hp, putAll_new r (es ++ [(p.1, p.2)]) (by simpa using h)]
    simp
theorem dictC_R {R : Rg} (G : GoodR R) {n : Nat} {st : St} {Q : V → St → Prop} (h : st[n]? = some (.list (R.map rngV))) (hq : Q (.loc st.length) (st ++ [.dT none (wordsV R)])) : wDictC [.loc n] st Q :=
  .inr ⟨wordsV R, by rw [h]; simp [wordsV, Function.comp_def, rngV], by have := G.len; simp [wordsV]; omega, by
    rw [putAll_new _ _ (by simpa [wordsV, Function.comp_def] using G.nodup)]; exact hq⟩
theorem words_get {R : Rg} (G : GoodR R) {k : Px} {b : Bool} (h : (k, b) ∈ R) : dget (wordsV R) k = some (.bool b) :=
  dget_of_mem (by simpa [wordsV, Function.comp_def] using G.nodup) (List.mem_map.mpr ⟨(k, b), h, rfl⟩)
theorem words_in {R : Rg} {k : Px} : (dget (wordsV R) k).isSome = decide (k ∈ R.map (·.1)) := by
  have : (dget (wordsV R) k = none) ↔ k ∉ R.map (·.1) := by rw [dget_none]; simp [wordsV, Function.comp_def]
  by_cases h : k ∈ R.map (·.1)
  · rw [decide_eq_true h]
    cases e : dget (wordsV R) k with
    | none => exact absurd h (this.mp e)
    | some v => rfl
  · rw [decide_eq_false h, this.mpr h]; rfl
theorem set_self {st : St} {n : Nat} {o : O} (h : st[n]? = some o) : st.set n o = st := by
  rw [List.getElem?_eq_some_iff] at h
  obtain ⟨hl, rfl⟩ := h
  exact List.set_getElem_self hl

theorem turned_spec {R : Rg} (G : GoodR R) {p : Px} (hp : p ∈ allP) {nets0 nets es0 es : Ai} (N0 : GoodN nets0) (N : GoodN nets) (T0 : Told R nets0 es0) (T : Told R nets es) (hd : ∀ q c, q ≠ p → ((q, c) ∈ nets0 ↔ (q, c) ∈ nets))
    {b t n m : Nat} {st : St} (hb : st[b]? = some (.dT none (es0.map toTi))) (ht : st[t]? = some (.dT none (es.map toTi))) (hn : st[n]? = some (.dT none (nets.map toTi))) (hm : st[m]? = some (.list (R.map rngV))) {Q : V → St → Prop}
    (h : ∀ st', st <+: st' → Q (.bool true) st') : T_law_turned_right [.loc b, .loc t, keyT p, .loc n, .loc m] st Q := by
  have l0 := T0.len G fun row hr => (N0.sub row (List.mem_filter.mp hr).1).1
  have l1 := T.len G fun row hr => (N.sub row (List.mem_filter.mp hr).1).1
  ((try simp only [wS, Nat.reduceAdd, Nat.reduceLeDiff, String.reduceEq, ↓reduceIte, Int.reduceLE, Int.reduceLT, Int.reduceEq, Int.reduceToNat, Nat.reduceLT, Nat.reduceEqDiff, reduceCtorEq, T_law_turned_right, wb_law_turned_right]); repeat ((with_reducible refine Mine.later ?_); try simp only [wS, Nat.reduceAdd, Nat.reduceLeDiff, String.reduceEq, ↓reduceIte, Int.reduceLE, Int.reduceLT, Int.reduceEq, Int.reduceToNat, Nat.reduceLT, Nat.reduceEqDiff, reduceCtorEq, T_law_turned_right, wb_law_turned_right]))
  refine home_spec G hp hm fun st1 p1 => ?_
  ((try simp only [wS, Nat.reduceAdd, Nat.reduceLeDiff, String.reduceEq, ↓reduceIte, Int.reduceLE, Int.reduceLT, Int.reduceEq, Int.reduceToNat, Nat.reduceLT, Nat.reduceEqDiff, reduceCtorEq]); repeat ((with_reducible refine Mine.later ?_); try simp only [wS, Nat.reduceAdd, Nat.reduceLeDiff, String.reduceEq, ↓reduceIte, Int.reduceLE, Int.reduceLT, Int.reduceEq, Int.reduceToNat, Nat.reduceLT, Nat.reduceEqDiff, reduceCtorEq]))
  refine listC_T (pre_get p1 hb) l0 ?_
  refine listC_T (pre_get1 _ (pre_get p1 ht)) l1 ?_
  refine add_LL (pre_get1 _ (last_get _ _)) (last_get _ _) (by simp; omega) ?_
  rw [← List.map_append]
  have hg := last_get (st1 ++ [O.list ((es0.map (·.1)).map keyT)] ++ [O.list ((es.map (·.1)).map keyT)]) (O.list ((es0.map (·.1) ++ es.map (·.1)).map keyT))
  have p2 : st <+: st1 ++ [O.list ((es0.map (·.1)).map keyT)] ++ [O.list ((es.map (·.1)).map keyT)] ++ [O.list ((es0.map (·.1) ++ es.map (·.1)).map keyT)] := pre_app (pre_app (pre_app p1 _) _) _
  generalize (st1 ++ [O.list ((es0.map (·.1)).map keyT)] ++ [O.list ((es.map (·.1)).map keyT)] ++ [O.list ((es0.map (·.1) ++ es.map (·.1)).map keyT)]) = st2 at hg p2
  generalize (st1 ++ [O.list ((es0.map (·.1)).map keyT)] ++ [O.list ((es.map (·.1)).map keyT)]).length = kl at hg
  refine iter_list hg ?_
  refine loop_inv (all := es0.map (·.1) ++ es.map (·.1)) (fun L η st' => st' = st2 ∧ η "home" = some (keyT (Mine.hm R p)) ∧ η "is_shown" = some (.bool (sh R p)) ∧ η "before" = some (.loc b) ∧ η "told" = some (.loc t) ∧ η "nets" = some (.loc n) ∧ η "ranges" = some (.loc m)) ?_ _ [] rfl _ _ _ ⟨rfl, rfl, rfl, rfl, rfl, rfl, rfl⟩ ?_
  · intro L a r e η st' hz9 K hK
    obtain ⟨rfl, hz9⟩ := hz9
    refine conj6 hz9 ?_
    clear hz9; intro h1 h2 h3 h4 h5 h6
    have hKn : K .next (AE.set "key" (keyT a) η) st' := hK _ _ _ (.inl rfl) hg ⟨rfl, h1, h2, h3, h4, h5, h6⟩
    ((try simp only [wS, Nat.reduceAdd, Nat.reduceLeDiff, String.reduceEq, ↓reduceIte, Int.reduceLE, Int.reduceLT, Int.reduceEq, Int.reduceToNat, Nat.reduceLT, Nat.reduceEqDiff, reduceCtorEq, h1]); repeat ((with_reducible refine Mine.later ?_); try simp only [wS, Nat.reduceAdd, Nat.reduceLeDiff, String.reduceEq, ↓reduceIte, Int.reduceLE, Int.reduceLT, Int.reduceEq, Int.reduceToNat, Nat.reduceLT, Nat.reduceEqDiff, reduceCtorEq, h1]))
    refine eq_keyT (k := a) (l := Mine.hm R p) ?_
    by_cases q : a = Mine.hm R p
    · ((try simp only [wS, Nat.reduceAdd, Nat.reduceLeDiff, String.reduceEq, ↓reduceIte, Int.reduceLE, Int.reduceLT, Int.reduceEq, Int.reduceToNat, Nat.reduceLT, Nat.reduceEqDiff, reduceCtorEq, decide_eq_true q]); repeat ((with_reducible refine Mine.later ?_); try simp only [wS, Nat.reduceAdd, Nat.reduceLeDiff, String.reduceEq, ↓reduceIte, Int.reduceLE, Int.reduceLT, Int.reduceEq, Int.reduceToNat, Nat.reduceLT, Nat.reduceEqDiff, reduceCtorEq, decide_eq_true q]))
      exact hKn
    · ((try simp only [wS, Nat.reduceAdd, Nat.reduceLeDiff, String.reduceEq, ↓reduceIte, Int.reduceLE, Int.reduceLT, Int.reduceEq, Int.reduceToNat, Nat.reduceLT, Nat.reduceEqDiff, reduceCtorEq, decide_eq_false q, h3, h4]); repeat ((with_reducible refine Mine.later ?_); try simp only [wS, Nat.reduceAdd, Nat.reduceLeDiff, String.reduceEq, ↓reduceIte, Int.reduceLE, Int.reduceLT, Int.reduceEq, Int.reduceToNat, Nat.reduceLT, Nat.reduceEqDiff, reduceCtorEq, decide_eq_false q, h3, h4]))
      refine ⟨recvD_T (pre_get p2 hb), get1_ti (pre_get p2 hb) ?_⟩
      refine ⟨recvD_T (pre_get p2 ht), get1_ti (pre_get p2 ht) ?_⟩
      refine eq_opt ?_
      ((try simp only [wS, Nat.reduceAdd, Nat.reduceLeDiff, String.reduceEq, ↓reduceIte, Int.reduceLE, Int.reduceLT, Int.reduceEq, Int.reduceToNat, Nat.reduceLT, Nat.reduceEqDiff, reduceCtorEq, decide_eq_true (turn_keeps G T0 T hd q)]); repeat ((with_reducible refine Mine.later ?_); try simp only [wS, Nat.reduceAdd, Nat.reduceLeDiff, String.reduceEq, ↓reduceIte, Int.reduceLE, Int.reduceLT, Int.reduceEq, Int.reduceToNat, Nat.reduceLT, Nat.reduceEqDiff, reduceCtorEq, decide_eq_true (turn_keeps G T0 T hd q)]))
      exact hKn
  · intro η st' hz9
    obtain ⟨rfl, hz9⟩ := hz9
    refine conj6 hz9 ?_
    clear hz9; intro h1 h2 h3 h4 h5 h6
    ((try simp only [wS, Nat.reduceAdd, Nat.reduceLeDiff, String.reduceEq, ↓reduceIte, Int.reduceLE, Int.reduceLT, Int.reduceEq, Int.reduceToNat, Nat.reduceLT, Nat.reduceEqDiff, reduceCtorEq, h1, h2, h3, h4, h5, h6, id]); repeat ((with_reducible refine Mine.later ?_); try simp only [wS, Nat.reduceAdd, Nat.reduceLeDiff, String.reduceEq, ↓reduceIte, Int.reduceLE, Int.reduceLT, Int.reduceEq, Int.reduceToNat, Nat.reduceLT, Nat.reduceEqDiff, reduceCtorEq, h1, h2, h3, h4, h5, h6, id]))
    refine iter_dict (pre_get p2 hn) fun ep => ?_
    have hk : ((nets.map toTi).map fun p => keyT p.1) = nets.map fun e => keyT e.1 := by simp [Function.comp_def, toTi]
    rw [hk]
    have hnm : n ≠ m := fun e => by subst e; rw [hn] at hm; cases hm
    refine comp_name (x := "one") (all := nets) rfl (fun e => decide (e.2 < 16777215) && decide (Mine.hm R e.1 = Mine.hm R p)) (fun e => .int e.2) (fun st' p' => pre_get p' (set_eq (pre_get p2 hn))) (by have := N.len; omega) ?_ ?_ ?_
    · intro a ha η' hη hx st' p' K hK
      have g1 : η' "home" = some (keyT (Mine.hm R p)) := by rw [hη _ (by decide)]; ((try simp only [wS, Nat.reduceAdd, Nat.reduceLeDiff, String.reduceEq, ↓reduceIte, Int.reduceLE, Int.reduceLT, Int.reduceEq, Int.reduceToNat, Nat.reduceLT, Nat.reduceEqDiff, reduceCtorEq, h1]); repeat ((with_reducible refine Mine.later ?_); try simp only [wS, Nat.reduceAdd, Nat.reduceLeDiff, String.reduceEq, ↓reduceIte, Int.reduceLE, Int.reduceLT, Int.reduceEq, Int.reduceToNat, Nat.reduceLT, Nat.reduceEqDiff, reduceCtorEq, h1]))
      have g2 : η' "nets" = some (.loc n) := by rw [hη _ (by decide)]; ((try simp only [wS, Nat.reduceAdd, Nat.reduceLeDiff, String.reduceEq, ↓reduceIte, Int.reduceLE, Int.reduceLT, Int.reduceEq, Int.reduceToNat, Nat.reduceLT, Nat.reduceEqDiff, reduceCtorEq, h5]); repeat ((with_reducible refine Mine.later ?_); try simp only [wS, Nat.reduceAdd, Nat.reduceLeDiff, String.reduceEq, ↓reduceIte, Int.reduceLE, Int.reduceLT, Int.reduceEq, Int.reduceToNat, Nat.reduceLT, Nat.reduceEqDiff, reduceCtorEq, h5]))
      have g3 : η' "ranges" = some (.loc m) := by rw [hη _ (by decide)]; ((try simp only [wS, Nat.reduceAdd, Nat.reduceLeDiff, String.reduceEq, ↓reduceIte, Int.reduceLE, Int.reduceLT, Int.reduceEq, Int.reduceToNat, Nat.reduceLT, Nat.reduceEqDiff, reduceCtorEq, h6]); repeat ((with_reducible refine Mine.later ?_); try simp only [wS, Nat.reduceAdd, Nat.reduceLeDiff, String.reduceEq, ↓reduceIte, Int.reduceLE, Int.reduceLT, Int.reduceEq, Int.reduceToNat, Nat.reduceLT, Nat.reduceEqDiff, reduceCtorEq, h6]))
      ((try simp only [wS, Nat.reduceAdd, Nat.reduceLeDiff, String.reduceEq, ↓reduceIte, Int.reduceLE, Int.reduceLT, Int.reduceEq, Int.reduceToNat, Nat.reduceLT, Nat.reduceEqDiff, reduceCtorEq, hx, g1, g2, g3]); repeat ((with_reducible refine Mine.later ?_); try simp only [wS, Nat.reduceAdd, Nat.reduceLeDiff, String.reduceEq, ↓reduceIte, Int.reduceLE, Int.reduceLT, Int.reduceEq, Int.reduceToNat, Nat.reduceLT, Nat.reduceEqDiff, reduceCtorEq, hx, g1, g2, g3]))
      refine item_T (k := a.1) (v := .int a.2) (pre_get p' (set_eq (pre_get p2 hn))) (by rw [dget_ti, (iget_mem N.nodup (k := a.1) (v := a.2)).mpr ha]; rfl) ?_
      ((try simp only [wS, Nat.reduceAdd, Nat.reduceLeDiff, String.reduceEq, ↓reduceIte, Int.reduceLE, Int.reduceLT, Int.reduceEq, Int.reduceToNat, Nat.reduceLT, Nat.reduceEqDiff, reduceCtorEq]); repeat ((with_reducible refine Mine.later ?_); try simp only [wS, Nat.reduceAdd, Nat.reduceLeDiff, String.reduceEq, ↓reduceIte, Int.reduceLE, Int.reduceLT, Int.reduceEq, Int.reduceToNat, Nat.reduceLT, Nat.reduceEqDiff, reduceCtorEq]))
      by_cases q : a.2 < 16777215
      · ((try simp only [wS, Nat.reduceAdd, Nat.reduceLeDiff, String.reduceEq, ↓reduceIte, Int.reduceLE, Int.reduceLT, Int.reduceEq, Int.reduceToNat, Nat.reduceLT, Nat.reduceEqDiff, reduceCtorEq, decide_eq_true q]); repeat ((with_reducible refine Mine.later ?_); try simp only [wS, Nat.reduceAdd, Nat.reduceLeDiff, String.reduceEq, ↓reduceIte, Int.reduceLE, Int.reduceLT, Int.reduceEq, Int.reduceToNat, Nat.reduceLT, Nat.reduceEqDiff, reduceCtorEq, decide_eq_true q]))
        refine home_spec G (N.sub a ha).1 (pre_get p' (set_ne (pre_get p2 hm) hnm)) fun st3 p3 => ?_
        ((try simp only [wS, Nat.reduceAdd, Nat.reduceLeDiff, String.reduceEq, ↓reduceIte, Int.reduceLE, Int.reduceLT, Int.reduceEq, Int.reduceToNat, Nat.reduceLT, Nat.reduceEqDiff, reduceCtorEq]); repeat ((with_reducible refine Mine.later ?_); try simp only [wS, Nat.reduceAdd, Nat.reduceLeDiff, String.reduceEq, ↓reduceIte, Int.reduceLE, Int.reduceLT, Int.reduceEq, Int.reduceToNat, Nat.reduceLT, Nat.reduceEqDiff, reduceCtorEq]))
        refine eq_keyT (k := Mine.hm R a.1) (l := Mine.hm R p) ?_
        have := hK st3 (p'.trans p3)
        by_cases q' : Mine.hm R a.1 = Mine.hm R p
        · ((try simp only [wS, Nat.reduceAdd, Nat.reduceLeDiff, String.reduceEq, ↓reduceIte, Int.reduceLE, Int.reduceLT, Int.reduceEq, Int.reduceToNat, Nat.reduceLT, Nat.reduceEqDiff, reduceCtorEq, decide_eq_true q']); repeat ((with_reducible refine Mine.later ?_); try simp only [wS, Nat.reduceAdd, Nat.reduceLeDiff, String.reduceEq, ↓reduceIte, Int.reduceLE, Int.reduceLT, Int.reduceEq, Int.reduceToNat, Nat.reduceLT, Nat.reduceEqDiff, reduceCtorEq, decide_eq_true q']))
          simpa [q, q'] using this
        · ((try simp only [wS, Nat.reduceAdd, Nat.reduceLeDiff, String.reduceEq, ↓reduceIte, Int.reduceLE, Int.reduceLT, Int.reduceEq, Int.reduceToNat, Nat.reduceLT, Nat.reduceEqDiff, reduceCtorEq, decide_eq_false q']); repeat ((with_reducible refine Mine.later ?_); try simp only [wS, Nat.reduceAdd, Nat.reduceLeDiff, String.reduceEq, ↓reduceIte, Int.reduceLE, Int.reduceLT, Int.reduceEq, Int.reduceToNat, Nat.reduceLT, Nat.reduceEqDiff, reduceCtorEq, decide_eq_false q']))
          simpa [q, q'] using this
      · ((try simp only [wS, Nat.reduceAdd, Nat.reduceLeDiff, String.reduceEq, ↓reduceIte, Int.reduceLE, Int.reduceLT, Int.reduceEq, Int.reduceToNat, Nat.reduceLT, Nat.reduceEqDiff, reduceCtorEq, decide_eq_false q]); repeat ((with_reducible refine Mine.later ?_); try simp only [wS, Nat.reduceAdd, Nat.reduceLeDiff, String.reduceEq, ↓reduceIte, Int.reduceLE, Int.reduceLT, Int.reduceEq, Int.reduceToNat, Nat.reduceLT, Nat.reduceEqDiff, reduceCtorEq, decide_eq_false q]))
        have := hK st' p'
        simpa [q] using this
    · intro a ha _ η' hη hx st' p' K hK
      have g2 : η' "nets" = some (.loc n) := by rw [hη _ (by decide)]; ((try simp only [wS, Nat.reduceAdd, Nat.reduceLeDiff, String.reduceEq, ↓reduceIte, Int.reduceLE, Int.reduceLT, Int.reduceEq, Int.reduceToNat, Nat.reduceLT, Nat.reduceEqDiff, reduceCtorEq, h5]); repeat ((with_reducible refine Mine.later ?_); try simp only [wS, Nat.reduceAdd, Nat.reduceLeDiff, String.reduceEq, ↓reduceIte, Int.reduceLE, Int.reduceLT, Int.reduceEq, Int.reduceToNat, Nat.reduceLT, Nat.reduceEqDiff, reduceCtorEq, h5]))
      ((try simp only [wS, Nat.reduceAdd, Nat.reduceLeDiff, String.reduceEq, ↓reduceIte, Int.reduceLE, Int.reduceLT, Int.reduceEq, Int.reduceToNat, Nat.reduceLT, Nat.reduceEqDiff, reduceCtorEq, hx, g2]); repeat ((with_reducible refine Mine.later ?_); try simp only [wS, Nat.reduceAdd, Nat.reduceLeDiff, String.reduceEq, ↓reduceIte, Int.reduceLE, Int.reduceLT, Int.reduceEq, Int.reduceToNat, Nat.reduceLT, Nat.reduceEqDiff, reduceCtorEq, hx, g2]))
      refine item_T (k := a.1) (v := .int a.2) (pre_get p' (set_eq (pre_get p2 hn))) (by rw [dget_ti, (iget_mem N.nodup (k := a.1) (v := a.2)).mpr ha]; rfl) ?_
      exact hK _ p'
    intro st3 p3
    have p4 : st <+: st3.set n (.dT none (nets.map toTi)) := p2.trans (unlock (pre_get p2 hn) p3)
    ((try simp only [wS, Nat.reduceAdd, Nat.reduceLeDiff, String.reduceEq, ↓reduceIte, Int.reduceLE, Int.reduceLT, Int.reduceEq, Int.reduceToNat, Nat.reduceLT, Nat.reduceEqDiff, reduceCtorEq, h1, h2, h4]); repeat ((with_reducible refine Mine.later ?_); try simp only [wS, Nat.reduceAdd, Nat.reduceLeDiff, String.reduceEq, ↓reduceIte, Int.reduceLE, Int.reduceLT, Int.reduceEq, Int.reduceToNat, Nat.reduceLT, Nat.reduceEqDiff, reduceCtorEq, h1, h2, h4]))
    generalize st3.set n (.dT none (nets.map toTi)) = st4 at p4
    have hpl := last_get st4 (.list ((nets.filter fun e => decide (e.2 < 16777215) && decide (Mine.hm R e.1 = Mine.hm R p)).map fun e => V.int e.2))
    have hcs := peers_best G hp N T rfl
    generalize hcs' : ((nets.filter fun e => decide (e.2 < 16777215) && decide (Mine.hm R e.1 = Mine.hm R p)).map fun e => e.2) = cs at hcs
    have hcsV : ((nets.filter fun e => decide (e.2 < 16777215) && decide (Mine.hm R e.1 = Mine.hm R p)).map fun e => V.int e.2) = cs.map V.int := by rw [← hcs']; simp [Function.comp_def]
    rw [hcsV] at hpl ⊢
    have hcl : cs.length ≤ 15 := by
      rw [← hcs', List.length_map]; exact Nat.le_trans (List.length_filter_le _ _) N.len
    refine ⟨recvD_T (pre_get1 _ (pre_get p4 ht)), get1_ti (p := Mine.hm R p) (pre_get1 _ (pre_get p4 ht)) ?_⟩
    rw [hcs]
    cases hs : sh R p with
    | false =>
      ((try simp only [wS, Nat.reduceAdd, Nat.reduceLeDiff, String.reduceEq, ↓reduceIte, Int.reduceLE, Int.reduceLT, Int.reduceEq, Int.reduceToNat, Nat.reduceLT, Nat.reduceEqDiff, reduceCtorEq]); repeat ((with_reducible refine Mine.later ?_); try simp only [wS, Nat.reduceAdd, Nat.reduceLeDiff, String.reduceEq, ↓reduceIte, Int.reduceLE, Int.reduceLT, Int.reduceEq, Int.reduceToNat, Nat.reduceLT, Nat.reduceEqDiff, reduceCtorEq]))
      refine eq_opt (o' := none) ?_
      ((try simp only [wS, Nat.reduceAdd, Nat.reduceLeDiff, String.reduceEq, ↓reduceIte, Int.reduceLE, Int.reduceLT, Int.reduceEq, Int.reduceToNat, Nat.reduceLT, Nat.reduceEqDiff, reduceCtorEq]); repeat ((with_reducible refine Mine.later ?_); try simp only [wS, Nat.reduceAdd, Nat.reduceLeDiff, String.reduceEq, ↓reduceIte, Int.reduceLE, Int.reduceLT, Int.reduceEq, Int.reduceToNat, Nat.reduceLT, Nat.reduceEqDiff, reduceCtorEq]))
      exact h _ (pre_app p4 _)
    | true =>
      ((try simp only [wS, Nat.reduceAdd, Nat.reduceLeDiff, String.reduceEq, ↓reduceIte, Int.reduceLE, Int.reduceLT, Int.reduceEq, Int.reduceToNat, Nat.reduceLT, Nat.reduceEqDiff, reduceCtorEq]); repeat ((with_reducible refine Mine.later ?_); try simp only [wS, Nat.reduceAdd, Nat.reduceLeDiff, String.reduceEq, ↓reduceIte, Int.reduceLE, Int.reduceLT, Int.reduceEq, Int.reduceToNat, Nat.reduceLT, Nat.reduceEqDiff, reduceCtorEq]))
      refine .inl ⟨cs.map V.int, pre_get1 _ hpl, last_get _ _, ?_⟩
      by_cases hc : cs = []
      · rw [show (cs.map V.int).isEmpty = true by simp [hc]]
        ((try simp only [wS, Nat.reduceAdd, Nat.reduceLeDiff, String.reduceEq, ↓reduceIte, Int.reduceLE, Int.reduceLT, Int.reduceEq, Int.reduceToNat, Nat.reduceLT, Nat.reduceEqDiff, reduceCtorEq]); repeat ((with_reducible refine Mine.later ?_); try simp only [wS, Nat.reduceAdd, Nat.reduceLeDiff, String.reduceEq, ↓reduceIte, Int.reduceLE, Int.reduceLT, Int.reduceEq, Int.reduceToNat, Nat.reduceLT, Nat.reduceEqDiff, reduceCtorEq]))
        refine eq_opt (o' := none) ?_
        simp only [hc, ne_eq, not_true_eq_false, and_false, if_false, decide_true, xor_false_l]
        exact h _ (pre_app (pre_app p4 _) _)
      · rw [show (cs.map V.int).isEmpty = false by simpa using hc]
        ((try simp only [wS, Nat.reduceAdd, Nat.reduceLeDiff, String.reduceEq, ↓reduceIte, Int.reduceLE, Int.reduceLT, Int.reduceEq, Int.reduceToNat, Nat.reduceLT, Nat.reduceEqDiff, reduceCtorEq]); repeat ((with_reducible refine Mine.later ?_); try simp only [wS, Nat.reduceAdd, Nat.reduceLeDiff, String.reduceEq, ↓reduceIte, Int.reduceLE, Int.reduceLT, Int.reduceEq, Int.reduceToNat, Nat.reduceLT, Nat.reduceEqDiff, reduceCtorEq]))
        refine ⟨cs, pre_get1 _ hpl, hc, by omega, ?_⟩
        refine eq_opt (o' := some (maxL cs)) ?_
        simp only [hc, ne_eq, not_false_eq_true, and_self, if_true, decide_true, xor_false_l]
        exact h _ (pre_app (pre_app p4 _) _)
end Mine
end

section -- L8
set_option autoImplicit false
set_option linter.unusedVariables false
set_option linter.unusedSimpArgs false
set_option maxRecDepth 100000
namespace Mine

theorem lots_spec {R : Rg} (G : GoodR R) {rows es : Ai} (hr : ∀ row ∈ rows, row.1 ∈ allP ∧ 0 ≤ row.2) (hrl : rows.length ≤ 15) (T : CondOk R rows es) {cut : Int} (h0 : 0 ≤ cut)
    {r t m : Nat} {st : St} (hrw : st[r]? = some (.list (rows.map rowV))) (ht : st[t]? = some (.dT none (es.map toTi))) (hm : st[m]? = some (.list (R.map rngV))) {Q : V → St → Prop}
    (h : ∀ st', st <+: st' → Q (.bool true) st') : T_law_lots_right [.loc r, .int cut, .loc m, .loc t] st Q := by
  have hT : ∀ row ∈ rows.take cut.toNat, row.1 ∈ allP ∧ 0 ≤ row.2 := fun row q => hr row (List.mem_of_mem_take q)
  have hD : ∀ row ∈ (rows.drop cut.toNat).reverse, row.1 ∈ allP ∧ 0 ≤ row.2 := fun row q => hr row (List.mem_of_mem_drop (List.mem_reverse.mp q))
  have C1 := cond_ok R (rows.take cut.toNat) fun row q => (hT row q).2
  have C2 := cond_ok R ((rows.drop cut.toNat).reverse) fun row q => (hD row q).2
  have S1 := C1.subP G fun row q => (hT row q).1
  have S2 := C2.subP G fun row q => (hD row q).1
  have Se := T.subP G fun row q => (hr row q).1
  ((try simp only [wS, Nat.reduceAdd, Nat.reduceLeDiff, String.reduceEq, ↓reduceIte, Int.reduceLE, Int.reduceLT, Int.reduceEq, Int.reduceToNat, Nat.reduceLT, Nat.reduceEqDiff, reduceCtorEq, T_law_lots_right, wb_law_lots_right]); repeat ((with_reducible refine Mine.later ?_); try simp only [wS, Nat.reduceAdd, Nat.reduceLeDiff, String.reduceEq, ↓reduceIte, Int.reduceLE, Int.reduceLT, Int.reduceEq, Int.reduceToNat, Nat.reduceLT, Nat.reduceEqDiff, reduceCtorEq, T_law_lots_right, wb_law_lots_right]))
  refine ⟨h0, _, .inl hrw, by simp; omega, ?_⟩
  rw [← List.map_take]
  refine condensed_spec G hT (last_get _ _) (pre_get1 _ hm) ?_
  refine dictC_T (last_get _ _) C1.nodup S1 ?_
  have hj := last_get (st ++ [O.list ((rows.take cut.toNat).map rowV)] ++ [O.dT none ((cond R (rows.take cut.toNat)).map toTi)]) (O.dT none ((cond R (rows.take cut.toNat)).map toTi))
  have p3 : st <+: st ++ [O.list ((rows.take cut.toNat).map rowV)] ++ [O.dT none ((cond R (rows.take cut.toNat)).map toTi)] ++ [O.dT none ((cond R (rows.take cut.toNat)).map toTi)] := pre_app (pre_app (pre_app (List.prefix_refl _) _) _) _
  have hjl : st.length ≤ (st ++ [O.list ((rows.take cut.toNat).map rowV)] ++ [O.dT none ((cond R (rows.take cut.toNat)).map toTi)]).length := by simp
  generalize (st ++ [O.list ((rows.take cut.toNat).map rowV)] ++ [O.dT none ((cond R (rows.take cut.toNat)).map toTi)] ++ [O.dT none ((cond R (rows.take cut.toNat)).map toTi)]) = st3 at hj p3
  generalize (st ++ [O.list ((rows.take cut.toNat).map rowV)] ++ [O.dT none ((cond R (rows.take cut.toNat)).map toTi)]).length = j at hj hjl
  generalize cond R (rows.take cut.toNat) = es1 at hj C1 S1
  ((try simp only [wS, Nat.reduceAdd, Nat.reduceLeDiff, String.reduceEq, ↓reduceIte, Int.reduceLE, Int.reduceLT, Int.reduceEq, Int.reduceToNat, Nat.reduceLT, Nat.reduceEqDiff, reduceCtorEq]); repeat ((with_reducible refine Mine.later ?_); try simp only [wS, Nat.reduceAdd, Nat.reduceLeDiff, String.reduceEq, ↓reduceIte, Int.reduceLE, Int.reduceLT, Int.reduceEq, Int.reduceToNat, Nat.reduceLT, Nat.reduceEqDiff, reduceCtorEq]))
  refine ⟨h0, _, pre_get p3 hrw, by simp; omega, ?_⟩
  rw [← List.map_drop]
  refine ⟨_, last_get _ _, by simp; omega, ?_⟩
  rw [← List.map_reverse]
  refine condensed_spec G hD (last_get _ _) (pre_get1 _ (pre_get1 _ (pre_get p3 hm))) ?_
  have ho := last_get (st3 ++ [O.list ((rows.drop cut.toNat).map rowV)] ++ [O.list ((rows.drop cut.toNat).reverse.map rowV)]) (O.dT none ((cond R (rows.drop cut.toNat).reverse).map toTi))
  have p6 : st3 <+: st3 ++ [O.list ((rows.drop cut.toNat).map rowV)] ++ [O.list ((rows.drop cut.toNat).reverse.map rowV)] ++ [O.dT none ((cond R (rows.drop cut.toNat).reverse).map toTi)] := pre_app (pre_app (pre_app (List.prefix_refl _) _) _) _
  have hol : st3.length ≤ (st3 ++ [O.list ((rows.drop cut.toNat).map rowV)] ++ [O.list ((rows.drop cut.toNat).reverse.map rowV)]).length := by simp
  generalize (st3 ++ [O.list ((rows.drop cut.toNat).map rowV)] ++ [O.list ((rows.drop cut.toNat).reverse.map rowV)] ++ [O.dT none ((cond R (rows.drop cut.toNat).reverse).map toTi)]) = st6 at ho p6
  generalize (st3 ++ [O.list ((rows.drop cut.toNat).map rowV)] ++ [O.list ((rows.drop cut.toNat).reverse.map rowV)]).length = o at ho hol
  generalize hos : cond R (rows.drop cut.toNat).reverse = os at ho C2 S2
  have hjo : j ≠ o := by have := lt_of_get hj; omega
  have hso : st.length ≤ o := by have := pre_len p3; omega
  ((try simp only [wS, Nat.reduceAdd, Nat.reduceLeDiff, String.reduceEq, ↓reduceIte, Int.reduceLE, Int.reduceLT, Int.reduceEq, Int.reduceToNat, Nat.reduceLT, Nat.reduceEqDiff, reduceCtorEq]); repeat ((with_reducible refine Mine.later ?_); try simp only [wS, Nat.reduceAdd, Nat.reduceLeDiff, String.reduceEq, ↓reduceIte, Int.reduceLE, Int.reduceLT, Int.reduceEq, Int.reduceToNat, Nat.reduceLT, Nat.reduceEqDiff, reduceCtorEq]))
  refine iter_dict ho fun ep => ?_
  have hk : ((os.map toTi).map fun p => keyT p.1) = os.map fun e => keyT e.1 := by simp [Function.comp_def, toTi]
  rw [hk]
  refine loop_inv (all := os) (fun L η st' => ∃ js : Ai, st <+: st' ∧ st'[o]? = some (.dT (some ep) (os.map toTi)) ∧ st'[j]? = some (.dT none (js.map toTi)) ∧ (js.map (·.1)).Nodup ∧ (∀ k ∈ js.map (·.1), k ∈ allP) ∧ (∀ k, iget js k = omax (iget es1 k) (iget L k)) ∧
    η "joined" = some (.loc j) ∧ η "other" = some (.loc o) ∧ η "rows" = some (.loc r) ∧ η "ranges" = some (.loc m) ∧ η "told" = some (.loc t)) ?_ os [] rfl _ _ _
    ⟨es1, pre_set (p3.trans p6) hso _, set_eq ho, set_ne (pre_get p6 hj) hjo.symm, C1.nodup, S1, fun k => rfl, rfl, rfl, rfl, rfl, rfl⟩ ?_
  · intro L a r' e η st' hz9 K hK
    obtain ⟨js, hz9⟩ := hz9
    refine conj11 hz9 ?_
    clear hz9; intro i1 i2 i3 i4 i5 i6 h1 h2 h3 h4 h5
    have ha : a ∈ os := by rw [e]; simp
    have hn : a.1 ∉ L.map (·.1) := fun q => by
      have := C2.nodup
      rw [e, List.map_append, List.nodup_append] at this
      exact this.2.2 _ q a.1 (by simp) rfl
    ((try simp only [wS, Nat.reduceAdd, Nat.reduceLeDiff, String.reduceEq, ↓reduceIte, Int.reduceLE, Int.reduceLT, Int.reduceEq, Int.reduceToNat, Nat.reduceLT, Nat.reduceEqDiff, reduceCtorEq, h1, h2]); repeat ((with_reducible refine Mine.later ?_); try simp only [wS, Nat.reduceAdd, Nat.reduceLeDiff, String.reduceEq, ↓reduceIte, Int.reduceLE, Int.reduceLT, Int.reduceEq, Int.reduceToNat, Nat.reduceLT, Nat.reduceEqDiff, reduceCtorEq, h1, h2]))
    refine item_T (k := a.1) (v := .int a.2) i2 (by rw [dget_ti, (iget_mem C2.nodup (k := a.1) (v := a.2)).mpr ha]; rfl) ?_
    refine ⟨recvD_T i3, get2_ti i3 ?_⟩
    ((try simp only [wS, Nat.reduceAdd, Nat.reduceLeDiff, String.reduceEq, ↓reduceIte, Int.reduceLE, Int.reduceLT, Int.reduceEq, Int.reduceToNat, Nat.reduceLT, Nat.reduceEqDiff, reduceCtorEq, wMax_i, wMax_l]); repeat ((with_reducible refine Mine.later ?_); try simp only [wS, Nat.reduceAdd, Nat.reduceLeDiff, String.reduceEq, ↓reduceIte, Int.reduceLE, Int.reduceLT, Int.reduceEq, Int.reduceToNat, Nat.reduceLT, Nat.reduceEqDiff, reduceCtorEq, wMax_i, wMax_l]))
    refine setV_ti i3 (len_of_keys i4 i5) ?_
    refine hK _ _ _ (.inl rfl) (set_ne i2 hjo) ⟨_, pre_set i1 hjl _, set_ne i2 hjo, set_eq i3, iput_nodup i4 _ _, fun k q => ?_, omax_step i6 hn, h1, h2, h3, h4, h5⟩
    rcases (iput_keys _ _ _ _).mp q with rfl | q
    · exact S2 _ (List.mem_map.mpr ⟨a, ha, rfl⟩)
    · exact i5 k q
  · intro η st' hz9
    obtain ⟨js, hz9⟩ := hz9
    refine conj11 hz9 ?_
    clear hz9; intro i1 i2 i3 i4 i5 i6 h1 h2 h3 h4 h5
    have p7 := pre_set i1 hso (O.dT none (os.map toTi))
    have j7 := set_ne (o' := O.dT none (os.map toTi)) i3 hjo.symm
    ((try simp only [wS, Nat.reduceAdd, Nat.reduceLeDiff, String.reduceEq, ↓reduceIte, Int.reduceLE, Int.reduceLT, Int.reduceEq, Int.reduceToNat, Nat.reduceLT, Nat.reduceEqDiff, reduceCtorEq, h1, h2, h3, h4, h5]); repeat ((with_reducible refine Mine.later ?_); try simp only [wS, Nat.reduceAdd, Nat.reduceLeDiff, String.reduceEq, ↓reduceIte, Int.reduceLE, Int.reduceLT, Int.reduceEq, Int.reduceToNat, Nat.reduceLT, Nat.reduceEqDiff, reduceCtorEq, h1, h2, h3, h4, h5]))
    generalize st'.set o (O.dT none (os.map toTi)) = st7 at p7 j7 ⊢
    have same : dEq js es = true := by
      refine same_dict i4 T.nodup fun k => ?_
      rw [i6 k]
      refine BestIs.uniq (omax_best (C1.best k) (C2.best k) fun p c q => (hD _ q.1).2) (T.best k) fun p c => ?_
      unfold Sel
      rw [List.mem_reverse]
      have : (p, c) ∈ rows ↔ (p, c) ∈ rows.take cut.toNat ∨ (p, c) ∈ rows.drop cut.toNat := by
        rw [← List.mem_append, List.take_append_drop]
      rw [this]
      constructor
      · rintro (⟨a, b⟩ | ⟨a, b⟩)
        · exact ⟨.inl a, b⟩
        · exact ⟨.inr a, b⟩
      · rintro ⟨a | a, b⟩
        · exact .inl ⟨a, b⟩
        · exact .inr ⟨a, b⟩
    refine dictC_R G (pre_get p7 hm) ?_
    ((try simp only [wS, Nat.reduceAdd, Nat.reduceLeDiff, String.reduceEq, ↓reduceIte, Int.reduceLE, Int.reduceLT, Int.reduceEq, Int.reduceToNat, Nat.reduceLT, Nat.reduceEqDiff, reduceCtorEq, h1, h2, h3, h4, h5]); repeat ((with_reducible refine Mine.later ?_); try simp only [wS, Nat.reduceAdd, Nat.reduceLeDiff, String.reduceEq, ↓reduceIte, Int.reduceLE, Int.reduceLT, Int.reduceEq, Int.reduceToNat, Nat.reduceLT, Nat.reduceEqDiff, reduceCtorEq, h1, h2, h3, h4, h5]))
    refine active_spec G (pre_get1 _ (pre_get p7 hrw)) (pre_get1 _ (pre_get p7 hm)) fun st8 ks p8 ak hks => ?_
    have hwl := last_get st7 (O.dT none (wordsV R))
    refine iter_list (last_get _ _) ?_
    have hksl : ks.length ≤ 15 := length_of_sub (asc_nodup ak) (m := allP) fun k q => by
      obtain ⟨row, _, o, q1, rfl⟩ := (hks k).mp q
      have := rng_best R row.1; rw [q1] at this; exact G.sub o this.1
    refine comp_name (x := "one") (all := ks) rfl (fun k => decide ((k, true) ∈ R)) keyT (fun st' p' => pre_get p' (last_get _ _)) (by omega) ?_ ?_ ?_
    · intro a ha η' hη hx st' p' K hK
      have g1 : η' "words" = some (.loc st7.length) := by rw [hη _ (by decide)]; ((try simp only [wS, Nat.reduceAdd, Nat.reduceLeDiff, String.reduceEq, ↓reduceIte, Int.reduceLE, Int.reduceLT, Int.reduceEq, Int.reduceToNat, Nat.reduceLT, Nat.reduceEqDiff, reduceCtorEq]); repeat ((with_reducible refine Mine.later ?_); try simp only [wS, Nat.reduceAdd, Nat.reduceLeDiff, String.reduceEq, ↓reduceIte, Int.reduceLE, Int.reduceLT, Int.reduceEq, Int.reduceToNat, Nat.reduceLT, Nat.reduceEqDiff, reduceCtorEq]))
      ((try simp only [wS, Nat.reduceAdd, Nat.reduceLeDiff, String.reduceEq, ↓reduceIte, Int.reduceLE, Int.reduceLT, Int.reduceEq, Int.reduceToNat, Nat.reduceLT, Nat.reduceEqDiff, reduceCtorEq, hx, g1]); repeat ((with_reducible refine Mine.later ?_); try simp only [wS, Nat.reduceAdd, Nat.reduceLeDiff, String.reduceEq, ↓reduceIte, Int.reduceLE, Int.reduceLT, Int.reduceEq, Int.reduceToNat, Nat.reduceLT, Nat.reduceEqDiff, reduceCtorEq, hx, g1]))
      obtain ⟨row, _, o', q1, rfl⟩ := (hks a).mp ha
      have hb := rng_best R row.1; rw [q1] at hb
      refine item_T (k := o'.1) (v := .bool o'.2) (pre_get p' (pre_get1 _ (pre_get p8 hwl))) (words_get G hb.1) ?_
      ((try simp only [wS, Nat.reduceAdd, Nat.reduceLeDiff, String.reduceEq, ↓reduceIte, Int.reduceLE, Int.reduceLT, Int.reduceEq, Int.reduceToNat, Nat.reduceLT, Nat.reduceEqDiff, reduceCtorEq]); repeat ((with_reducible refine Mine.later ?_); try simp only [wS, Nat.reduceAdd, Nat.reduceLeDiff, String.reduceEq, ↓reduceIte, Int.reduceLE, Int.reduceLT, Int.reduceEq, Int.reduceToNat, Nat.reduceLT, Nat.reduceEqDiff, reduceCtorEq]))
      have e : o'.2 = decide ((o'.1, true) ∈ R) := by
        cases hb2 : o'.2 with
        | true => exact (decide_eq_true (by rw [← hb2]; exact hb.1)).symm
        | false => exact (decide_eq_false fun q => by have := nodup_fst G.nodup hb.1 q rfl; rw [this] at hb2; cases hb2).symm
      rw [e]; exact hK _ p'
    · intro a ha _ η' hη hx st' p' K hK
      ((try simp only [wS, Nat.reduceAdd, Nat.reduceLeDiff, String.reduceEq, ↓reduceIte, Int.reduceLE, Int.reduceLT, Int.reduceEq, Int.reduceToNat, Nat.reduceLT, Nat.reduceEqDiff, reduceCtorEq, hx]); repeat ((with_reducible refine Mine.later ?_); try simp only [wS, Nat.reduceAdd, Nat.reduceLeDiff, String.reduceEq, ↓reduceIte, Int.reduceLE, Int.reduceLT, Int.reduceEq, Int.reduceToNat, Nat.reduceLT, Nat.reduceEqDiff, reduceCtorEq, hx]))
      exact hK _ p'
    intro st9 p9
    have p9' : st7 ++ [O.dT none (wordsV R)] <+: st9 := p8.trans ((List.prefix_append _ _).trans p9)
    have p10 : st <+: st9 ++ [O.list ((ks.filter fun k => decide ((k, true) ∈ R)).map keyT)] := pre_app (p7.trans ((List.prefix_append _ _).trans p9')) _
    have j10 := pre_get1 [O.list ((ks.filter fun k => decide ((k, true) ∈ R)).map keyT)] (pre_get p9' (pre_get1 _ j7))
    have w10 := pre_get1 [O.list ((ks.filter fun k => decide ((k, true) ∈ R)).map keyT)] (pre_get p9' hwl)
    have s10 := last_get st9 (O.list ((ks.filter fun k => decide ((k, true) ∈ R)).map keyT))
    ((try simp only [wS, Nat.reduceAdd, Nat.reduceLeDiff, String.reduceEq, ↓reduceIte, Int.reduceLE, Int.reduceLT, Int.reduceEq, Int.reduceToNat, Nat.reduceLT, Nat.reduceEqDiff, reduceCtorEq, h1, h5, id]); repeat ((with_reducible refine Mine.later ?_); try simp only [wS, Nat.reduceAdd, Nat.reduceLeDiff, String.reduceEq, ↓reduceIte, Int.reduceLE, Int.reduceLT, Int.reduceEq, Int.reduceToNat, Nat.reduceLT, Nat.reduceEqDiff, reduceCtorEq, h1, h5, id]))
    generalize st9 ++ [O.list ((ks.filter fun k => decide ((k, true) ∈ R)).map keyT)] = st10 at p10 j10 w10 s10
    refine .inr (.inr ⟨none, none, js, es, j10, pre_get p10 ht, ?_⟩)
    ((try simp only [wS, Nat.reduceAdd, Nat.reduceLeDiff, String.reduceEq, ↓reduceIte, Int.reduceLE, Int.reduceLT, Int.reduceEq, Int.reduceToNat, Nat.reduceLT, Nat.reduceEqDiff, reduceCtorEq, same]); repeat ((with_reducible refine Mine.later ?_); try simp only [wS, Nat.reduceAdd, Nat.reduceLeDiff, String.reduceEq, ↓reduceIte, Int.reduceLE, Int.reduceLT, Int.reduceEq, Int.reduceToNat, Nat.reduceLT, Nat.reduceEqDiff, reduceCtorEq, same]))
    have htl := T.len G fun row q => (hr row q).1
    refine sorted_T (pre_get p10 ht) (by rw [toTi_keys]; exact T.nodup) (by simp; omega) fun ts ats hts => ?_
    rw [toTi_keys] at hts
    refine iter_list (last_get _ _) ?_
    refine comp_name (x := "key") (all := ts) rfl (fun k => decide (k ∈ R.map (·.1))) keyT (fun st' p' => pre_get p' (last_get _ _)) (by have := hts.length_eq; rw [List.length_map] at this; omega) ?_ ?_ ?_
    · intro a ha η' hη hx st' p' K hK
      have g1 : η' "words" = some (.loc st7.length) := by rw [hη _ (by decide)]; ((try simp only [wS, Nat.reduceAdd, Nat.reduceLeDiff, String.reduceEq, ↓reduceIte, Int.reduceLE, Int.reduceLT, Int.reduceEq, Int.reduceToNat, Nat.reduceLT, Nat.reduceEqDiff, reduceCtorEq]); repeat ((with_reducible refine Mine.later ?_); try simp only [wS, Nat.reduceAdd, Nat.reduceLeDiff, String.reduceEq, ↓reduceIte, Int.reduceLE, Int.reduceLT, Int.reduceEq, Int.reduceToNat, Nat.reduceLT, Nat.reduceEqDiff, reduceCtorEq]))
      ((try simp only [wS, Nat.reduceAdd, Nat.reduceLeDiff, String.reduceEq, ↓reduceIte, Int.reduceLE, Int.reduceLT, Int.reduceEq, Int.reduceToNat, Nat.reduceLT, Nat.reduceEqDiff, reduceCtorEq, hx, g1]); repeat ((with_reducible refine Mine.later ?_); try simp only [wS, Nat.reduceAdd, Nat.reduceLeDiff, String.reduceEq, ↓reduceIte, Int.reduceLE, Int.reduceLT, Int.reduceEq, Int.reduceToNat, Nat.reduceLT, Nat.reduceEqDiff, reduceCtorEq, hx, g1]))
      refine in_T (k := a) (pre_get p' (pre_get1 _ w10)) ?_
      rw [words_in]
      ((try simp only [wS, Nat.reduceAdd, Nat.reduceLeDiff, String.reduceEq, ↓reduceIte, Int.reduceLE, Int.reduceLT, Int.reduceEq, Int.reduceToNat, Nat.reduceLT, Nat.reduceEqDiff, reduceCtorEq]); repeat ((with_reducible refine Mine.later ?_); try simp only [wS, Nat.reduceAdd, Nat.reduceLeDiff, String.reduceEq, ↓reduceIte, Int.reduceLE, Int.reduceLT, Int.reduceEq, Int.reduceToNat, Nat.reduceLT, Nat.reduceEqDiff, reduceCtorEq]))
      exact hK _ p'
    · intro a ha _ η' hη hx st' p' K hK
      ((try simp only [wS, Nat.reduceAdd, Nat.reduceLeDiff, String.reduceEq, ↓reduceIte, Int.reduceLE, Int.reduceLT, Int.reduceEq, Int.reduceToNat, Nat.reduceLT, Nat.reduceEqDiff, reduceCtorEq, hx]); repeat ((with_reducible refine Mine.later ?_); try simp only [wS, Nat.reduceAdd, Nat.reduceLeDiff, String.reduceEq, ↓reduceIte, Int.reduceLE, Int.reduceLT, Int.reduceEq, Int.reduceToNat, Nat.reduceLT, Nat.reduceEqDiff, reduceCtorEq, hx]))
      exact hK _ p'
    intro st11 p11
    ((try simp only [wS, Nat.reduceAdd, Nat.reduceLeDiff, String.reduceEq, ↓reduceIte, Int.reduceLE, Int.reduceLT, Int.reduceEq, Int.reduceToNat, Nat.reduceLT, Nat.reduceEqDiff, reduceCtorEq, id]); repeat ((with_reducible refine Mine.later ?_); try simp only [wS, Nat.reduceAdd, Nat.reduceLeDiff, String.reduceEq, ↓reduceIte, Int.reduceLE, Int.reduceLT, Int.reduceEq, Int.reduceToNat, Nat.reduceLT, Nat.reduceEqDiff, reduceCtorEq, id]))
    refine .inr (.inl ⟨_, _, pre_get1 _ (pre_get p11 (pre_get1 _ s10)), last_get _ _, ?_, ?_⟩)
    · exact Nat.le_trans (List.length_filter_le _ _) (by omega)
    · rw [shown_same G (fun row q => (hr row q).1) T ak ats hks hts]
      ((try simp only [wS, Nat.reduceAdd, Nat.reduceLeDiff, String.reduceEq, ↓reduceIte, Int.reduceLE, Int.reduceLT, Int.reduceEq, Int.reduceToNat, Nat.reduceLT, Nat.reduceEqDiff, reduceCtorEq]); repeat ((with_reducible refine Mine.later ?_); try simp only [wS, Nat.reduceAdd, Nat.reduceLeDiff, String.reduceEq, ↓reduceIte, Int.reduceLE, Int.reduceLT, Int.reduceEq, Int.reduceToNat, Nat.reduceLT, Nat.reduceEqDiff, reduceCtorEq]))
      exact h _ (pre_app (p10.trans ((List.prefix_append _ _).trans p11)) _)
end Mine
end

section -- L9
set_option autoImplicit false
set_option linter.unusedVariables false
set_option linter.unusedSimpArgs false
set_option maxRecDepth 100000
namespace Mine

noncomputable def wb_fur_rest : WS := (wSeq (wFor (wBin .Add (wArgs (wCons (wVar "told") wNil) wListC) (wArgs (wCons (wVar "later") wNil) wListC)) (tName "key") (wIfS (wAndB (wTest (wCmp .NotIn (wVar "key") (wVar "moved"))) (wAndB (wTest (wCmp .NotEq (wMeth recvD (wVar "told") (wCons (wVar "key") wNil) wGet1) (wMeth recvD (wVar "later") (wCons (wVar "key") wNil) wGet1))) (wConstB true))) (wLater (wRet (wConst (.bool false)))) wSkip)) (wLater (wSeq (wAssign "inner" (wListComp (wVar "later") ["further", "words"] (tName "key") (wAndB (wTest (wCmp .NotIn (wVar "key") (wVar "words"))) (wAndB (wTest (wCmp .NotEq (wVar "key") (wVar "further"))) (wAndB (wTest (wArgs (wCons (wVar "key") (wCons (wVar "further") wNil)) T_law_is_in)) (wConstB true)))) (wVar "key"))) (wLater (wRet (wAndE (wCmp .Eq (wVar "inner") (wList wNil)) (wCmp .Eq (wArgs (wCons (wListComp (wVar "moved") ["later"] (tName "key") (wConstB true) (wMeth recvD (wVar "later") (wCons (wVar "key") (wCons (wConst (.int 0)) wNil)) wGet2)) wNil) wMax) (wArgs (wCons (wListComp (wVar "moved") ["told"] (tName "key") (wConstB true) (wMeth recvD (wVar "told") (wCons (wVar "key") (wCons (wConst (.int 0)) wNil)) wGet2)) wNil) wMax))))))))
theorem fur_split : wb_law_further_right = (wSeq (wAssignT ["around", "is_shown"] (wArgs (wCons (wVar "further") (wCons (wVar "ranges") wNil)) T_law_home)) (wLater (wSeq (wAssign "later" (wArgs (wCons (wVar "rows") (wCons (wBin .Add (wVar "ranges") (wList (wCons (wTup (wCons (wVar "further") (wCons (wVar "is_shown") wNil))) wNil))) (wCons (wConst (.int 4)) wNil))) T_condensed_nets)) (wLater (wSeq (wAssignT ["words", "moved"] (wTup (wCons (wArgs (wCons (wVar "ranges") wNil) wDictC) (wCons (wList (wCons (wVar "further") wNil)) wNil)))) (wLater (wSeq (wIfS (wTest (wCmp .In (wVar "around") (wVar "words"))) (wLater (wExprS (wMeth recvL (wVar "moved") (wCons (wVar "around") wNil) wAppend))) (wLater (wAssign "moved" (wBin .Add (wVar "moved") (wListComp (wVar "told") ["further", "words"] (tName "key") (wAndB (wTest (wCmp .NotIn (wVar "key") (wVar "words"))) (wAndB (wTest (wArgs (wCons (wVar "key") (wCons (wVar "further") wNil)) T_law_is_in)) (wConstB true))) (wVar "key")))))) (wLater wb_fur_rest)))))))) := rfl
theorem fur_rest_spec {R : Rg} {f : Px} {rows told later : Ai} (F : FurIn R f rows told later) {t l v w : Nat} {st : St} (ht : st[t]? = some (.dT none (told.map toTi))) (hl : st[l]? = some (.dT none (later.map toTi)))
    (hv : st[v]? = some (.list ((movedL R f told).map keyT))) (hw : st[w]? = some (.dT none (wordsV R))) {η : AE} (e1 : η "told" = some (.loc t)) (e2 : η "later" = some (.loc l)) (e3 : η "moved" = some (.loc v)) (e4 : η "words" = some (.loc w)) (e5 : η "further" = some (keyT f)) (hlw : l ≠ w)
    {Q : Fl → AE → St → Prop} (h : ∀ η' st', st <+: st' → Q (.ret (.bool true)) η' st') : wb_fur_rest η st Q := by
  have lt := F.T.len F.G F.sub
  have ll := F.L.len (F.G.further F.hf F.new _) F.sub
  have lv : (movedL R f told).length ≤ 20 := by
    unfold movedL; split
    · simp
    · have := List.length_filter_le (fun k => !decide (k ∈ R.map (·.1)) && inn k f) (told.map (·.1))
      rw [List.length_map] at this
      simp only [List.length_cons]; omega
  ((try simp only [wS, Nat.reduceAdd, Nat.reduceLeDiff, String.reduceEq, ↓reduceIte, Int.reduceLE, Int.reduceLT, Int.reduceEq, Int.reduceToNat, Nat.reduceLT, Nat.reduceEqDiff, reduceCtorEq, wb_fur_rest, e1, e2]); repeat ((with_reducible refine Mine.later ?_); try simp only [wS, Nat.reduceAdd, Nat.reduceLeDiff, String.reduceEq, ↓reduceIte, Int.reduceLE, Int.reduceLT, Int.reduceEq, Int.reduceToNat, Nat.reduceLT, Nat.reduceEqDiff, reduceCtorEq, wb_fur_rest, e1, e2]))
  refine listC_T ht lt ?_
  refine listC_T (pre_get1 _ hl) ll ?_
  refine add_LL (pre_get1 _ (last_get _ _)) (last_get _ _) (by simp; omega) ?_
  rw [← List.map_append]
  have hg := last_get (st ++ [O.list ((told.map (·.1)).map keyT)] ++ [O.list ((later.map (·.1)).map keyT)]) (O.list ((told.map (·.1) ++ later.map (·.1)).map keyT))
  have p2 : st <+: st ++ [O.list ((told.map (·.1)).map keyT)] ++ [O.list ((later.map (·.1)).map keyT)] ++ [O.list ((told.map (·.1) ++ later.map (·.1)).map keyT)] := pre_app (pre_app (pre_app (List.prefix_refl _) _) _) _
  generalize (st ++ [O.list ((told.map (·.1)).map keyT)] ++ [O.list ((later.map (·.1)).map keyT)] ++ [O.list ((told.map (·.1) ++ later.map (·.1)).map keyT)]) = st2 at hg p2
  generalize (st ++ [O.list ((told.map (·.1)).map keyT)] ++ [O.list ((later.map (·.1)).map keyT)]).length = kl at hg
  refine iter_list hg ?_
  refine loop_inv (all := told.map (·.1) ++ later.map (·.1)) (fun L η st' => st' = st2 ∧ η "told" = some (.loc t) ∧ η "later" = some (.loc l) ∧ η "moved" = some (.loc v) ∧ η "words" = some (.loc w) ∧ η "further" = some (keyT f)) ?_ _ [] rfl _ _ _ ⟨rfl, e1, e2, e3, e4, e5⟩ ?_
  · intro L a r e η st' hz9 K hK
    obtain ⟨rfl, hz9⟩ := hz9
    refine conj5 hz9 ?_
    clear hz9; intro h1 h2 h3 h4 h5
    have hKn : K .next (AE.set "key" (keyT a) η) st' := hK _ _ _ (.inl rfl) hg ⟨rfl, h1, h2, h3, h4, h5⟩
    ((try simp only [wS, Nat.reduceAdd, Nat.reduceLeDiff, String.reduceEq, ↓reduceIte, Int.reduceLE, Int.reduceLT, Int.reduceEq, Int.reduceToNat, Nat.reduceLT, Nat.reduceEqDiff, reduceCtorEq, h3]); repeat ((with_reducible refine Mine.later ?_); try simp only [wS, Nat.reduceAdd, Nat.reduceLeDiff, String.reduceEq, ↓reduceIte, Int.reduceLE, Int.reduceLT, Int.reduceEq, Int.reduceToNat, Nat.reduceLT, Nat.reduceEqDiff, reduceCtorEq, h3]))
    refine in_L (k := a) (pre_get p2 hv) ?_
    by_cases q : a ∈ movedL R f told
    · ((try simp only [wS, Nat.reduceAdd, Nat.reduceLeDiff, String.reduceEq, ↓reduceIte, Int.reduceLE, Int.reduceLT, Int.reduceEq, Int.reduceToNat, Nat.reduceLT, Nat.reduceEqDiff, reduceCtorEq, decide_eq_true q]); repeat ((with_reducible refine Mine.later ?_); try simp only [wS, Nat.reduceAdd, Nat.reduceLeDiff, String.reduceEq, ↓reduceIte, Int.reduceLE, Int.reduceLT, Int.reduceEq, Int.reduceToNat, Nat.reduceLT, Nat.reduceEqDiff, reduceCtorEq, decide_eq_true q]))
      exact hKn
    · ((try simp only [wS, Nat.reduceAdd, Nat.reduceLeDiff, String.reduceEq, ↓reduceIte, Int.reduceLE, Int.reduceLT, Int.reduceEq, Int.reduceToNat, Nat.reduceLT, Nat.reduceEqDiff, reduceCtorEq, decide_eq_false q, h1, h2]); repeat ((with_reducible refine Mine.later ?_); try simp only [wS, Nat.reduceAdd, Nat.reduceLeDiff, String.reduceEq, ↓reduceIte, Int.reduceLE, Int.reduceLT, Int.reduceEq, Int.reduceToNat, Nat.reduceLT, Nat.reduceEqDiff, reduceCtorEq, decide_eq_false q, h1, h2]))
      refine ⟨recvD_T (pre_get p2 ht), get1_ti (pre_get p2 ht) ?_⟩
      refine ⟨recvD_T (pre_get p2 hl), get1_ti (pre_get p2 hl) ?_⟩
      refine eq_opt ?_
      ((try simp only [wS, Nat.reduceAdd, Nat.reduceLeDiff, String.reduceEq, ↓reduceIte, Int.reduceLE, Int.reduceLT, Int.reduceEq, Int.reduceToNat, Nat.reduceLT, Nat.reduceEqDiff, reduceCtorEq, decide_eq_true (F.keeps q)]); repeat ((with_reducible refine Mine.later ?_); try simp only [wS, Nat.reduceAdd, Nat.reduceLeDiff, String.reduceEq, ↓reduceIte, Int.reduceLE, Int.reduceLT, Int.reduceEq, Int.reduceToNat, Nat.reduceLT, Nat.reduceEqDiff, reduceCtorEq, decide_eq_true (F.keeps q)]))
      exact hKn
  · intro η st' hz9
    obtain ⟨rfl, hz9⟩ := hz9
    refine conj5 hz9 ?_
    clear hz9; intro h1 h2 h3 h4 h5
    ((try simp only [wS, Nat.reduceAdd, Nat.reduceLeDiff, String.reduceEq, ↓reduceIte, Int.reduceLE, Int.reduceLT, Int.reduceEq, Int.reduceToNat, Nat.reduceLT, Nat.reduceEqDiff, reduceCtorEq, h1, h2, h3, h4, h5, id]); repeat ((with_reducible refine Mine.later ?_); try simp only [wS, Nat.reduceAdd, Nat.reduceLeDiff, String.reduceEq, ↓reduceIte, Int.reduceLE, Int.reduceLT, Int.reduceEq, Int.reduceToNat, Nat.reduceLT, Nat.reduceEqDiff, reduceCtorEq, h1, h2, h3, h4, h5, id]))
    refine iter_dict (pre_get p2 hl) fun ep => ?_
    have hk : ((later.map toTi).map fun p => keyT p.1) = (later.map (·.1)).map keyT := by simp [Function.comp_def, toTi]
    rw [hk]
    have hin := len_bd f F.hf
    have hemp : (later.map (·.1)).filter (fun k => !decide (k ∈ R.map (·.1)) && (!decide (k = f) && inn k f)) = [] := by
      refine List.filter_eq_nil_iff.mpr fun k hk q => ?_
      simp only [Bool.and_eq_true, Bool.not_eq_true', decide_eq_false_iff_not] at q
      exact F.inner hk q.1 q.2.1 q.2.2
    refine comp_name (x := "key") (rep := keyT) (all := List.map (fun e : Px × Int => e.1) later) rfl (fun k => !decide (k ∈ R.map (·.1)) && (!decide (k = f) && inn k f)) keyT (fun st' p' => pre_get p' (set_eq (pre_get p2 hl))) (by simp; omega) ?_ ?_ ?_
    · intro a ha η' hη hx st' p' K hK
      have g1 : η' "words" = some (.loc w) := by rw [hη _ (by decide)]; ((try simp only [wS, Nat.reduceAdd, Nat.reduceLeDiff, String.reduceEq, ↓reduceIte, Int.reduceLE, Int.reduceLT, Int.reduceEq, Int.reduceToNat, Nat.reduceLT, Nat.reduceEqDiff, reduceCtorEq, h4]); repeat ((with_reducible refine Mine.later ?_); try simp only [wS, Nat.reduceAdd, Nat.reduceLeDiff, String.reduceEq, ↓reduceIte, Int.reduceLE, Int.reduceLT, Int.reduceEq, Int.reduceToNat, Nat.reduceLT, Nat.reduceEqDiff, reduceCtorEq, h4]))
      have g2 : η' "further" = some (keyT f) := by rw [hη _ (by decide)]; ((try simp only [wS, Nat.reduceAdd, Nat.reduceLeDiff, String.reduceEq, ↓reduceIte, Int.reduceLE, Int.reduceLT, Int.reduceEq, Int.reduceToNat, Nat.reduceLT, Nat.reduceEqDiff, reduceCtorEq, h5]); repeat ((with_reducible refine Mine.later ?_); try simp only [wS, Nat.reduceAdd, Nat.reduceLeDiff, String.reduceEq, ↓reduceIte, Int.reduceLE, Int.reduceLT, Int.reduceEq, Int.reduceToNat, Nat.reduceLT, Nat.reduceEqDiff, reduceCtorEq, h5]))
      ((try simp only [wS, Nat.reduceAdd, Nat.reduceLeDiff, String.reduceEq, ↓reduceIte, Int.reduceLE, Int.reduceLT, Int.reduceEq, Int.reduceToNat, Nat.reduceLT, Nat.reduceEqDiff, reduceCtorEq, hx, g1, g2]); repeat ((with_reducible refine Mine.later ?_); try simp only [wS, Nat.reduceAdd, Nat.reduceLeDiff, String.reduceEq, ↓reduceIte, Int.reduceLE, Int.reduceLT, Int.reduceEq, Int.reduceToNat, Nat.reduceLT, Nat.reduceEqDiff, reduceCtorEq, hx, g1, g2]))
      refine in_T (k := a) (pre_get p' (set_ne (pre_get p2 hw) hlw)) ?_
      rw [words_in]
      have := hK st' p'
      by_cases q : a ∈ R.map (·.1)
      · simp only [decide_eq_true q, Bool.not_true, Bool.false_and] at this
        ((try simp only [wS, Nat.reduceAdd, Nat.reduceLeDiff, String.reduceEq, ↓reduceIte, Int.reduceLE, Int.reduceLT, Int.reduceEq, Int.reduceToNat, Nat.reduceLT, Nat.reduceEqDiff, reduceCtorEq, decide_eq_true q]); repeat ((with_reducible refine Mine.later ?_); try simp only [wS, Nat.reduceAdd, Nat.reduceLeDiff, String.reduceEq, ↓reduceIte, Int.reduceLE, Int.reduceLT, Int.reduceEq, Int.reduceToNat, Nat.reduceLT, Nat.reduceEqDiff, reduceCtorEq, decide_eq_true q]))
        exact this
      · simp only [decide_eq_false q, Bool.not_false, Bool.true_and] at this
        ((try simp only [wS, Nat.reduceAdd, Nat.reduceLeDiff, String.reduceEq, ↓reduceIte, Int.reduceLE, Int.reduceLT, Int.reduceEq, Int.reduceToNat, Nat.reduceLT, Nat.reduceEqDiff, reduceCtorEq, decide_eq_false q]); repeat ((with_reducible refine Mine.later ?_); try simp only [wS, Nat.reduceAdd, Nat.reduceLeDiff, String.reduceEq, ↓reduceIte, Int.reduceLE, Int.reduceLT, Int.reduceEq, Int.reduceToNat, Nat.reduceLT, Nat.reduceEqDiff, reduceCtorEq, decide_eq_false q]))
        refine eq_keyT (k := a) (l := f) ?_
        by_cases q' : a = f
        · simp only [decide_eq_true q', Bool.not_true, Bool.false_and] at this
          ((try simp only [wS, Nat.reduceAdd, Nat.reduceLeDiff, String.reduceEq, ↓reduceIte, Int.reduceLE, Int.reduceLT, Int.reduceEq, Int.reduceToNat, Nat.reduceLT, Nat.reduceEqDiff, reduceCtorEq, decide_eq_true q']); repeat ((with_reducible refine Mine.later ?_); try simp only [wS, Nat.reduceAdd, Nat.reduceLeDiff, String.reduceEq, ↓reduceIte, Int.reduceLE, Int.reduceLT, Int.reduceEq, Int.reduceToNat, Nat.reduceLT, Nat.reduceEqDiff, reduceCtorEq, decide_eq_true q']))
          exact this
        · simp only [decide_eq_false q', Bool.not_false, Bool.true_and] at this
          ((try simp only [wS, Nat.reduceAdd, Nat.reduceLeDiff, String.reduceEq, ↓reduceIte, Int.reduceLE, Int.reduceLT, Int.reduceEq, Int.reduceToNat, Nat.reduceLT, Nat.reduceEqDiff, reduceCtorEq, decide_eq_false q']); repeat ((with_reducible refine Mine.later ?_); try simp only [wS, Nat.reduceAdd, Nat.reduceLeDiff, String.reduceEq, ↓reduceIte, Int.reduceLE, Int.reduceLT, Int.reduceEq, Int.reduceToNat, Nat.reduceLT, Nat.reduceEqDiff, reduceCtorEq, decide_eq_false q']))
          refine is_in_spec (p := a) (q := f) hin.1 (by omega) ?_
          cases hi : inn a f <;> rw [hi] at this <;> ((try simp only [wS, Nat.reduceAdd, Nat.reduceLeDiff, String.reduceEq, ↓reduceIte, Int.reduceLE, Int.reduceLT, Int.reduceEq, Int.reduceToNat, Nat.reduceLT, Nat.reduceEqDiff, reduceCtorEq]); repeat ((with_reducible refine Mine.later ?_); try simp only [wS, Nat.reduceAdd, Nat.reduceLeDiff, String.reduceEq, ↓reduceIte, Int.reduceLE, Int.reduceLT, Int.reduceEq, Int.reduceToNat, Nat.reduceLT, Nat.reduceEqDiff, reduceCtorEq])) <;> exact this
    · intro a ha _ η' hη hx st' p' K hK
      ((try simp only [wS, Nat.reduceAdd, Nat.reduceLeDiff, String.reduceEq, ↓reduceIte, Int.reduceLE, Int.reduceLT, Int.reduceEq, Int.reduceToNat, Nat.reduceLT, Nat.reduceEqDiff, reduceCtorEq, hx]); repeat ((with_reducible refine Mine.later ?_); try simp only [wS, Nat.reduceAdd, Nat.reduceLeDiff, String.reduceEq, ↓reduceIte, Int.reduceLE, Int.reduceLT, Int.reduceEq, Int.reduceToNat, Nat.reduceLT, Nat.reduceEqDiff, reduceCtorEq, hx]))
      exact hK _ p'
    intro st3 p3
    have p4 : st <+: st3.set l (.dT none (later.map toTi)) := p2.trans (unlock (pre_get p2 hl) p3)
    rw [hemp]
    ((try simp only [wS, Nat.reduceAdd, Nat.reduceLeDiff, String.reduceEq, ↓reduceIte, Int.reduceLE, Int.reduceLT, Int.reduceEq, Int.reduceToNat, Nat.reduceLT, Nat.reduceEqDiff, reduceCtorEq, h1, h2, h3]); repeat ((with_reducible refine Mine.later ?_); try simp only [wS, Nat.reduceAdd, Nat.reduceLeDiff, String.reduceEq, ↓reduceIte, Int.reduceLE, Int.reduceLT, Int.reduceEq, Int.reduceToNat, Nat.reduceLT, Nat.reduceEqDiff, reduceCtorEq, h1, h2, h3]))
    generalize st3.set l (.dT none (later.map toTi)) = st4 at p4
    refine .inl ⟨[], pre_get1 _ (last_get _ _), last_get _ _, ?_⟩
    ((try simp only [wS, Nat.reduceAdd, Nat.reduceLeDiff, String.reduceEq, ↓reduceIte, Int.reduceLE, Int.reduceLT, Int.reduceEq, Int.reduceToNat, Nat.reduceLT, Nat.reduceEqDiff, reduceCtorEq, List.isEmpty_nil, List.append_assoc]); repeat ((with_reducible refine Mine.later ?_); try simp only [wS, Nat.reduceAdd, Nat.reduceLeDiff, String.reduceEq, ↓reduceIte, Int.reduceLE, Int.reduceLT, Int.reduceEq, Int.reduceToNat, Nat.reduceLT, Nat.reduceEqDiff, reduceCtorEq, List.isEmpty_nil, List.append_assoc]))
    have p5 : st <+: st4 ++ ([O.list []] ++ [O.list []]) := pre_app p4 _
    generalize st4 ++ ([O.list []] ++ [O.list []]) = st5 at p5
    refine iter_list (pre_get p5 hv) ?_
    refine comp_name (x := "key") (all := movedL R f told) rfl (fun k => true) (fun k => .int ((iget later k).getD 0)) (fun st' p' => pre_get p' (pre_get p5 hv)) (by omega) ?_ ?_ ?_
    · intro a ha η' hη hx st' p' K hK
      exact hK _ p'
    · intro a ha _ η' hη hx st' p' K hK
      have g1 : η' "later" = some (.loc l) := by rw [hη _ (by decide)]; ((try simp only [wS, Nat.reduceAdd, Nat.reduceLeDiff, String.reduceEq, ↓reduceIte, Int.reduceLE, Int.reduceLT, Int.reduceEq, Int.reduceToNat, Nat.reduceLT, Nat.reduceEqDiff, reduceCtorEq, h2]); repeat ((with_reducible refine Mine.later ?_); try simp only [wS, Nat.reduceAdd, Nat.reduceLeDiff, String.reduceEq, ↓reduceIte, Int.reduceLE, Int.reduceLT, Int.reduceEq, Int.reduceToNat, Nat.reduceLT, Nat.reduceEqDiff, reduceCtorEq, h2]))
      ((try simp only [wS, Nat.reduceAdd, Nat.reduceLeDiff, String.reduceEq, ↓reduceIte, Int.reduceLE, Int.reduceLT, Int.reduceEq, Int.reduceToNat, Nat.reduceLT, Nat.reduceEqDiff, reduceCtorEq, hx, g1]); repeat ((with_reducible refine Mine.later ?_); try simp only [wS, Nat.reduceAdd, Nat.reduceLeDiff, String.reduceEq, ↓reduceIte, Int.reduceLE, Int.reduceLT, Int.reduceEq, Int.reduceToNat, Nat.reduceLT, Nat.reduceEqDiff, reduceCtorEq, hx, g1]))
      exact ⟨recvD_T (pre_get p' (pre_get p5 hl)), get2_ti (p := a) (pre_get p' (pre_get p5 hl)) (hK _ p')⟩
    intro st6 p6
    have ne : ∀ e : Ai, (movedL R f told).map (fun k => (iget e k).getD 0) ≠ [] := fun e q => by
      have := List.mem_map_of_mem (f := fun k => (iget e k).getD 0) (f_moved (R := R) (f := f) (told := told)); rw [q] at this; simp at this
    rw [List.filter_eq_self.mpr (fun _ _ => rfl)]
    ((try simp only [wS, Nat.reduceAdd, Nat.reduceLeDiff, String.reduceEq, ↓reduceIte, Int.reduceLE, Int.reduceLT, Int.reduceEq, Int.reduceToNat, Nat.reduceLT, Nat.reduceEqDiff, reduceCtorEq, wMax_i, wMax_l, id]); repeat ((with_reducible refine Mine.later ?_); try simp only [wS, Nat.reduceAdd, Nat.reduceLeDiff, String.reduceEq, ↓reduceIte, Int.reduceLE, Int.reduceLT, Int.reduceEq, Int.reduceToNat, Nat.reduceLT, Nat.reduceEqDiff, reduceCtorEq, wMax_i, wMax_l, id]))
    refine ⟨(movedL R f told).map fun k => (iget later k).getD 0, by rw [last_get, List.map_map]; rfl, ne _, by simp; omega, ?_⟩
    have p7 := p5.trans (p6.trans (List.prefix_append st6 [O.list ((movedL R f told).map fun k => V.int ((iget later k).getD 0))]))
    generalize st6 ++ [O.list ((movedL R f told).map fun k => V.int ((iget later k).getD 0))] = st7 at p7
    refine iter_list (pre_get p7 hv) ?_
    refine comp_name (x := "key") (all := movedL R f told) rfl (fun k => true) (fun k => .int ((iget told k).getD 0)) (fun st' p' => pre_get p' (pre_get p7 hv)) (by omega) ?_ ?_ ?_
    · intro a ha η' hη hx st' p' K hK
      exact hK _ p'
    · intro a ha _ η' hη hx st' p' K hK
      have g1 : η' "told" = some (.loc t) := by rw [hη _ (by decide)]; ((try simp only [wS, Nat.reduceAdd, Nat.reduceLeDiff, String.reduceEq, ↓reduceIte, Int.reduceLE, Int.reduceLT, Int.reduceEq, Int.reduceToNat, Nat.reduceLT, Nat.reduceEqDiff, reduceCtorEq, h1]); repeat ((with_reducible refine Mine.later ?_); try simp only [wS, Nat.reduceAdd, Nat.reduceLeDiff, String.reduceEq, ↓reduceIte, Int.reduceLE, Int.reduceLT, Int.reduceEq, Int.reduceToNat, Nat.reduceLT, Nat.reduceEqDiff, reduceCtorEq, h1]))
      ((try simp only [wS, Nat.reduceAdd, Nat.reduceLeDiff, String.reduceEq, ↓reduceIte, Int.reduceLE, Int.reduceLT, Int.reduceEq, Int.reduceToNat, Nat.reduceLT, Nat.reduceEqDiff, reduceCtorEq, hx, g1]); repeat ((with_reducible refine Mine.later ?_); try simp only [wS, Nat.reduceAdd, Nat.reduceLeDiff, String.reduceEq, ↓reduceIte, Int.reduceLE, Int.reduceLT, Int.reduceEq, Int.reduceToNat, Nat.reduceLT, Nat.reduceEqDiff, reduceCtorEq, hx, g1]))
      exact ⟨recvD_T (pre_get p' (pre_get p7 ht)), get2_ti (p := a) (pre_get p' (pre_get p7 ht)) (hK _ p')⟩
    intro st8 p8
    rw [List.filter_eq_self.mpr (fun _ _ => rfl)]
    ((try simp only [wS, Nat.reduceAdd, Nat.reduceLeDiff, String.reduceEq, ↓reduceIte, Int.reduceLE, Int.reduceLT, Int.reduceEq, Int.reduceToNat, Nat.reduceLT, Nat.reduceEqDiff, reduceCtorEq, id]); repeat ((with_reducible refine Mine.later ?_); try simp only [wS, Nat.reduceAdd, Nat.reduceLeDiff, String.reduceEq, ↓reduceIte, Int.reduceLE, Int.reduceLT, Int.reduceEq, Int.reduceToNat, Nat.reduceLT, Nat.reduceEqDiff, reduceCtorEq, id]))
    refine ⟨(movedL R f told).map fun k => (iget told k).getD 0, by rw [last_get, List.map_map]; rfl, ne _, by simp; omega, ?_⟩
    ((try simp only [wS, Nat.reduceAdd, Nat.reduceLeDiff, String.reduceEq, ↓reduceIte, Int.reduceLE, Int.reduceLT, Int.reduceEq, Int.reduceToNat, Nat.reduceLT, Nat.reduceEqDiff, reduceCtorEq, decide_eq_true F.maxes]); repeat ((with_reducible refine Mine.later ?_); try simp only [wS, Nat.reduceAdd, Nat.reduceLeDiff, String.reduceEq, ↓reduceIte, Int.reduceLE, Int.reduceLT, Int.reduceEq, Int.reduceToNat, Nat.reduceLT, Nat.reduceEqDiff, reduceCtorEq, decide_eq_true F.maxes]))
    exact h _ _ (pre_app (p7.trans p8) _)

theorem further_spec {R : Rg} {f : Px} {rows told : Ai} (G : GoodR R) (hf : f ∈ allP) (new : f ∉ R.map (·.1)) (hr : ∀ row ∈ rows, row.1 ∈ allP ∧ 0 ≤ row.2) (T : CondOk R rows told)
    {r t m : Nat} {st : St} (hrw : st[r]? = some (.list (rows.map rowV))) (ht : st[t]? = some (.dT none (told.map toTi))) (hm : st[m]? = some (.list (R.map rngV))) {Q : V → St → Prop}
    (h : ∀ st', st <+: st' → Q (.bool true) st') : T_law_further_right [.loc r, keyT f, .loc m, .loc t] st Q := by
  have lR := G.len
  have G' := G.further hf new (sh R f)
  have L := cond_ok (R ++ [(f, sh R f)]) rows fun row q => (hr row q).2
  have F : FurIn R f rows told (cond (R ++ [(f, sh R f)]) rows) := ⟨G, hf, new, fun e q => (hr e q).1, fun e q => (hr e q).2, T, L⟩
  have lt := T.len G F.sub
  ((try simp only [wS, Nat.reduceAdd, Nat.reduceLeDiff, String.reduceEq, ↓reduceIte, Int.reduceLE, Int.reduceLT, Int.reduceEq, Int.reduceToNat, Nat.reduceLT, Nat.reduceEqDiff, reduceCtorEq, T_law_further_right, fur_split]); repeat ((with_reducible refine Mine.later ?_); try simp only [wS, Nat.reduceAdd, Nat.reduceLeDiff, String.reduceEq, ↓reduceIte, Int.reduceLE, Int.reduceLT, Int.reduceEq, Int.reduceToNat, Nat.reduceLT, Nat.reduceEqDiff, reduceCtorEq, T_law_further_right, fur_split]))
  refine home_spec G hf hm fun st1 p1 => ?_
  ((try simp only [wS, Nat.reduceAdd, Nat.reduceLeDiff, String.reduceEq, ↓reduceIte, Int.reduceLE, Int.reduceLT, Int.reduceEq, Int.reduceToNat, Nat.reduceLT, Nat.reduceEqDiff, reduceCtorEq]); repeat ((with_reducible refine Mine.later ?_); try simp only [wS, Nat.reduceAdd, Nat.reduceLeDiff, String.reduceEq, ↓reduceIte, Int.reduceLE, Int.reduceLT, Int.reduceEq, Int.reduceToNat, Nat.reduceLT, Nat.reduceEqDiff, reduceCtorEq]))
  refine add_LL (pre_get1 _ (pre_get p1 hm)) (last_get _ _) (by simp; omega) ?_
  have eR : R.map rngV ++ [V.tup [V.tup [V.int f.1, V.int f.2], V.bool (sh R f)]] = (R ++ [(f, sh R f)]).map rngV := by simp [rngV, keyT]
  rw [eR]
  refine condensed_spec G' hr (pre_get1 _ (pre_get1 _ (pre_get p1 hrw))) (last_get _ _) ?_
  have hl := last_get (st1 ++ [O.list [V.tup [V.tup [V.int f.1, V.int f.2], V.bool (sh R f)]]] ++ [O.list ((R ++ [(f, sh R f)]).map rngV)]) (O.dT none ((cond (R ++ [(f, sh R f)]) rows).map toTi))
  have p2 : st <+: st1 ++ [O.list [V.tup [V.tup [V.int f.1, V.int f.2], V.bool (sh R f)]]] ++ [O.list ((R ++ [(f, sh R f)]).map rngV)] ++ [O.dT none ((cond (R ++ [(f, sh R f)]) rows).map toTi)] := pre_app (pre_app (pre_app p1 _) _) _
  generalize (st1 ++ [O.list [V.tup [V.tup [V.int f.1, V.int f.2], V.bool (sh R f)]]] ++ [O.list ((R ++ [(f, sh R f)]).map rngV)] ++ [O.dT none ((cond (R ++ [(f, sh R f)]) rows).map toTi)]) = st2 at hl p2
  generalize (st1 ++ [O.list [V.tup [V.tup [V.int f.1, V.int f.2], V.bool (sh R f)]]] ++ [O.list ((R ++ [(f, sh R f)]).map rngV)]).length = l at hl
  ((try simp only [wS, Nat.reduceAdd, Nat.reduceLeDiff, String.reduceEq, ↓reduceIte, Int.reduceLE, Int.reduceLT, Int.reduceEq, Int.reduceToNat, Nat.reduceLT, Nat.reduceEqDiff, reduceCtorEq]); repeat ((with_reducible refine Mine.later ?_); try simp only [wS, Nat.reduceAdd, Nat.reduceLeDiff, String.reduceEq, ↓reduceIte, Int.reduceLE, Int.reduceLT, Int.reduceEq, Int.reduceToNat, Nat.reduceLT, Nat.reduceEqDiff, reduceCtorEq]))
  refine dictC_R G (pre_get p2 hm) ?_
  have hw := last_get st2 (O.dT none (wordsV R))
  have hlw : l ≠ st2.length := by have := lt_of_get hl; omega
  ((try simp only [wS, Nat.reduceAdd, Nat.reduceLeDiff, String.reduceEq, ↓reduceIte, Int.reduceLE, Int.reduceLT, Int.reduceEq, Int.reduceToNat, Nat.reduceLT, Nat.reduceEqDiff, reduceCtorEq]); repeat ((with_reducible refine Mine.later ?_); try simp only [wS, Nat.reduceAdd, Nat.reduceLeDiff, String.reduceEq, ↓reduceIte, Int.reduceLE, Int.reduceLT, Int.reduceEq, Int.reduceToNat, Nat.reduceLT, Nat.reduceEqDiff, reduceCtorEq]))
  refine in_T (k := Mine.hm R f) (pre_get1 _ hw) ?_
  rw [words_in]
  by_cases q : Mine.hm R f ∈ R.map (·.1)
  · ((try simp only [wS, Nat.reduceAdd, Nat.reduceLeDiff, String.reduceEq, ↓reduceIte, Int.reduceLE, Int.reduceLT, Int.reduceEq, Int.reduceToNat, Nat.reduceLT, Nat.reduceEqDiff, reduceCtorEq, decide_eq_true q]); repeat ((with_reducible refine Mine.later ?_); try simp only [wS, Nat.reduceAdd, Nat.reduceLeDiff, String.reduceEq, ↓reduceIte, Int.reduceLE, Int.reduceLT, Int.reduceEq, Int.reduceToNat, Nat.reduceLT, Nat.reduceEqDiff, reduceCtorEq, decide_eq_true q]))
    refine ⟨recvL_l (last_get _ _), ?_⟩
    ((try simp only [wS, Nat.reduceAdd, Nat.reduceLeDiff, String.reduceEq, ↓reduceIte, Int.reduceLE, Int.reduceLT, Int.reduceEq, Int.reduceToNat, Nat.reduceLT, Nat.reduceEqDiff, reduceCtorEq, wAppend_l]); repeat ((with_reducible refine Mine.later ?_); try simp only [wS, Nat.reduceAdd, Nat.reduceLeDiff, String.reduceEq, ↓reduceIte, Int.reduceLE, Int.reduceLT, Int.reduceEq, Int.reduceToNat, Nat.reduceLT, Nat.reduceEqDiff, reduceCtorEq, wAppend_l]))
    refine ⟨_, last_get _ _, by simp, ?_⟩
    rw [set_last]
    have eM : [V.tup [V.int f.1, V.int f.2]] ++ [V.tup [V.int (Mine.hm R f).1, V.int (Mine.hm R f).2]] = (movedL R f told).map keyT := by unfold movedL; rw [if_pos q]; rfl
    rw [eM]
    refine fur_rest_spec F (t := t) (l := l) (w := st2.length) (v := (st2 ++ [O.dT none (wordsV R)]).length) (pre_get1 _ (pre_get1 _ (pre_get p2 ht))) (pre_get1 _ (pre_get1 _ hl)) (last_get _ _) (pre_get1 _ hw) rfl rfl rfl rfl rfl hlw fun η' st' p' => ?_
    ((try simp only [wS, Nat.reduceAdd, Nat.reduceLeDiff, String.reduceEq, ↓reduceIte, Int.reduceLE, Int.reduceLT, Int.reduceEq, Int.reduceToNat, Nat.reduceLT, Nat.reduceEqDiff, reduceCtorEq]); repeat ((with_reducible refine Mine.later ?_); try simp only [wS, Nat.reduceAdd, Nat.reduceLeDiff, String.reduceEq, ↓reduceIte, Int.reduceLE, Int.reduceLT, Int.reduceEq, Int.reduceToNat, Nat.reduceLT, Nat.reduceEqDiff, reduceCtorEq]))
    exact h _ ((pre_app (pre_app p2 _) _).trans p')
  · ((try simp only [wS, Nat.reduceAdd, Nat.reduceLeDiff, String.reduceEq, ↓reduceIte, Int.reduceLE, Int.reduceLT, Int.reduceEq, Int.reduceToNat, Nat.reduceLT, Nat.reduceEqDiff, reduceCtorEq, decide_eq_false q]); repeat ((with_reducible refine Mine.later ?_); try simp only [wS, Nat.reduceAdd, Nat.reduceLeDiff, String.reduceEq, ↓reduceIte, Int.reduceLE, Int.reduceLT, Int.reduceEq, Int.reduceToNat, Nat.reduceLT, Nat.reduceEqDiff, reduceCtorEq, decide_eq_false q]))
    refine iter_dict (pre_get1 _ (pre_get1 _ (pre_get p2 ht))) fun ep => ?_
    have hk : ((told.map toTi).map fun p => keyT p.1) = (told.map fun e => e.1).map keyT := by simp [Function.comp_def, toTi]
    rw [hk]
    have hlw : l ≠ st2.length := by have := lt_of_get hl; omega
    have htw : t ≠ st2.length := by have := lt_of_get ht; have := pre_len p2; omega
    have hin := len_bd f hf
    have h3 := pre_get1 [O.list [V.tup [V.int f.1, V.int f.2]]] (pre_get1 [O.dT none (wordsV R)] (pre_get p2 ht))
    have hmv := last_get (st2 ++ [O.dT none (wordsV R)]) (O.list [V.tup [V.int f.1, V.int f.2]])
    have htm : t ≠ (st2 ++ [O.dT none (wordsV R)]).length := by have := lt_of_get ht; have := pre_len p2; simp; omega
    refine comp_name (x := "key") (rep := keyT) (all := List.map (fun e : Px × Int => e.1) told) rfl (fun k => !decide (k ∈ R.map (·.1)) && inn k f) keyT (fun st' p' => pre_get p' (set_eq h3)) (by simp; omega) ?_ ?_ ?_
    · intro a ha η' hη hx st' p' K hK
      have g1 : η' "words" = some (.loc st2.length) := by rw [hη _ (by decide)]; ((try simp only [wS, Nat.reduceAdd, Nat.reduceLeDiff, String.reduceEq, ↓reduceIte, Int.reduceLE, Int.reduceLT, Int.reduceEq, Int.reduceToNat, Nat.reduceLT, Nat.reduceEqDiff, reduceCtorEq]); repeat ((with_reducible refine Mine.later ?_); try simp only [wS, Nat.reduceAdd, Nat.reduceLeDiff, String.reduceEq, ↓reduceIte, Int.reduceLE, Int.reduceLT, Int.reduceEq, Int.reduceToNat, Nat.reduceLT, Nat.reduceEqDiff, reduceCtorEq]))
      have g2 : η' "further" = some (keyT f) := by rw [hη _ (by decide)]; ((try simp only [wS, Nat.reduceAdd, Nat.reduceLeDiff, String.reduceEq, ↓reduceIte, Int.reduceLE, Int.reduceLT, Int.reduceEq, Int.reduceToNat, Nat.reduceLT, Nat.reduceEqDiff, reduceCtorEq]); repeat ((with_reducible refine Mine.later ?_); try simp only [wS, Nat.reduceAdd, Nat.reduceLeDiff, String.reduceEq, ↓reduceIte, Int.reduceLE, Int.reduceLT, Int.reduceEq, Int.reduceToNat, Nat.reduceLT, Nat.reduceEqDiff, reduceCtorEq]))
      ((try simp only [wS, Nat.reduceAdd, Nat.reduceLeDiff, String.reduceEq, ↓reduceIte, Int.reduceLE, Int.reduceLT, Int.reduceEq, Int.reduceToNat, Nat.reduceLT, Nat.reduceEqDiff, reduceCtorEq, hx, g1, g2]); repeat ((with_reducible refine Mine.later ?_); try simp only [wS, Nat.reduceAdd, Nat.reduceLeDiff, String.reduceEq, ↓reduceIte, Int.reduceLE, Int.reduceLT, Int.reduceEq, Int.reduceToNat, Nat.reduceLT, Nat.reduceEqDiff, reduceCtorEq, hx, g1, g2]))
      refine in_T (k := a) (pre_get p' (set_ne (pre_get1 _ hw) htw)) ?_
      rw [words_in]
      have := hK st' p'
      by_cases q : a ∈ R.map (·.1)
      · simp only [decide_eq_true q, Bool.not_true, Bool.false_and] at this
        ((try simp only [wS, Nat.reduceAdd, Nat.reduceLeDiff, String.reduceEq, ↓reduceIte, Int.reduceLE, Int.reduceLT, Int.reduceEq, Int.reduceToNat, Nat.reduceLT, Nat.reduceEqDiff, reduceCtorEq, decide_eq_true q]); repeat ((with_reducible refine Mine.later ?_); try simp only [wS, Nat.reduceAdd, Nat.reduceLeDiff, String.reduceEq, ↓reduceIte, Int.reduceLE, Int.reduceLT, Int.reduceEq, Int.reduceToNat, Nat.reduceLT, Nat.reduceEqDiff, reduceCtorEq, decide_eq_true q]))
        exact this
      · simp only [decide_eq_false q, Bool.not_false, Bool.true_and] at this
        ((try simp only [wS, Nat.reduceAdd, Nat.reduceLeDiff, String.reduceEq, ↓reduceIte, Int.reduceLE, Int.reduceLT, Int.reduceEq, Int.reduceToNat, Nat.reduceLT, Nat.reduceEqDiff, reduceCtorEq, decide_eq_false q]); repeat ((with_reducible refine Mine.later ?_); try simp only [wS, Nat.reduceAdd, Nat.reduceLeDiff, String.reduceEq, ↓reduceIte, Int.reduceLE, Int.reduceLT, Int.reduceEq, Int.reduceToNat, Nat.reduceLT, Nat.reduceEqDiff, reduceCtorEq, decide_eq_false q]))
        refine is_in_spec (p := a) (q := f) hin.1 (by omega) ?_
        cases hi : inn a f <;> rw [hi] at this <;> ((try simp only [wS, Nat.reduceAdd, Nat.reduceLeDiff, String.reduceEq, ↓reduceIte, Int.reduceLE, Int.reduceLT, Int.reduceEq, Int.reduceToNat, Nat.reduceLT, Nat.reduceEqDiff, reduceCtorEq]); repeat ((with_reducible refine Mine.later ?_); try simp only [wS, Nat.reduceAdd, Nat.reduceLeDiff, String.reduceEq, ↓reduceIte, Int.reduceLE, Int.reduceLT, Int.reduceEq, Int.reduceToNat, Nat.reduceLT, Nat.reduceEqDiff, reduceCtorEq])) <;> exact this
    · intro a ha _ η' hη hx st' p' K hK
      ((try simp only [wS, Nat.reduceAdd, Nat.reduceLeDiff, String.reduceEq, ↓reduceIte, Int.reduceLE, Int.reduceLT, Int.reduceEq, Int.reduceToNat, Nat.reduceLT, Nat.reduceEqDiff, reduceCtorEq, hx]); repeat ((with_reducible refine Mine.later ?_); try simp only [wS, Nat.reduceAdd, Nat.reduceLeDiff, String.reduceEq, ↓reduceIte, Int.reduceLE, Int.reduceLT, Int.reduceEq, Int.reduceToNat, Nat.reduceLT, Nat.reduceEqDiff, reduceCtorEq, hx]))
      exact hK _ p'
    intro st3 p3
    have p4 := unlock h3 p3
    ((try simp only [wS, Nat.reduceAdd, Nat.reduceLeDiff, String.reduceEq, ↓reduceIte, Int.reduceLE, Int.reduceLT, Int.reduceEq, Int.reduceToNat, Nat.reduceLT, Nat.reduceEqDiff, reduceCtorEq]); repeat ((with_reducible refine Mine.later ?_); try simp only [wS, Nat.reduceAdd, Nat.reduceLeDiff, String.reduceEq, ↓reduceIte, Int.reduceLE, Int.reduceLT, Int.reduceEq, Int.reduceToNat, Nat.reduceLT, Nat.reduceEqDiff, reduceCtorEq]))
    generalize st3.set t (.dT none (told.map toTi)) = st4 at p4
    have eM : [V.tup [V.int f.1, V.int f.2]] ++ (((told.map fun e => e.1).filter fun k => !decide (k ∈ R.map (·.1)) && inn k f).map keyT) = (movedL R f told).map keyT := by unfold movedL; rw [if_neg q]; rfl
    refine add_LL (pre_get1 _ (pre_get p4 hmv)) (last_get _ _) ?_ ?_
    · exact Nat.le_trans (Nat.add_le_add_left (by rw [List.length_map]; exact List.length_filter_le _ _) 1) (by simp; omega)
    rw [eM]
    refine fur_rest_spec F (t := t) (l := l) (w := st2.length) (pre_get1 _ (pre_get1 _ (pre_get p4 h3))) (pre_get1 _ (pre_get1 _ (pre_get p4 (pre_get1 _ (pre_get1 _ hl))))) (last_get _ _) (pre_get1 _ (pre_get1 _ (pre_get p4 (pre_get1 _ hw)))) rfl rfl rfl rfl rfl hlw fun η' st' p' => ?_
    ((try simp only [wS, Nat.reduceAdd, Nat.reduceLeDiff, String.reduceEq, ↓reduceIte, Int.reduceLE, Int.reduceLT, Int.reduceEq, Int.reduceToNat, Nat.reduceLT, Nat.reduceEqDiff, reduceCtorEq]); repeat ((with_reducible refine Mine.later ?_); try simp only [wS, Nat.reduceAdd, Nat.reduceLeDiff, String.reduceEq, ↓reduceIte, Int.reduceLE, Int.reduceLT, Int.reduceEq, Int.reduceToNat, Nat.reduceLT, Nat.reduceEqDiff, reduceCtorEq]))
    exact h _ ((pre_app (pre_app ((pre_app (pre_app p2 _) _).trans p4) _) _).trans p')
end Mine
end

section -- L10
set_option autoImplicit false
set_option linter.unusedVariables false
set_option linter.unusedSimpArgs false
set_option maxRecDepth 100000
namespace Mine

theorem in_none {k : List V} {st : St} {Q : V → St → Prop} (h : Q (.bool true) st) : wInV true (.tup k) (.tup []) st Q := h
theorem set_app_ne {st : St} {n m : Nat} {o o' : O} (l : List O) (h : st[m]? = some o) (hne : n ≠ m) : ((st ++ l).set n o')[m]? = some o := set_ne (pre_get1 _ h) hne

noncomputable def bestV (c : Int) : V := .tup [.int c, .tup [.int 9]]
theorem put_best_spec {n : Nat} {p : Px} {c : Int} {es : List (Px × V)} {st : St} (hn : st[n]? = some (.dT none es)) (hl : es.length ≤ 1000) (hp : p ∉ es.map (·.1)) {Q : V → St → Prop}
    (h : Q .none ((st ++ [O.list [.int 9]]).set n (O.dT none (es ++ [(p, bestV c)])))) : T_put_best [.loc n, keyT p, .int c, .tup [.int 9]] st Q := by
  ((try simp only [wS, Nat.reduceAdd, Nat.reduceLeDiff, String.reduceEq, ↓reduceIte, Int.reduceLE, Int.reduceLT, Int.reduceEq, Int.reduceToNat, Nat.reduceLT, Nat.reduceEqDiff, reduceCtorEq, T_put_best, wb_put_best]); repeat ((with_reducible refine Mine.later ?_); try simp only [wS, Nat.reduceAdd, Nat.reduceLeDiff, String.reduceEq, ↓reduceIte, Int.reduceLE, Int.reduceLT, Int.reduceEq, Int.reduceToNat, Nat.reduceLT, Nat.reduceEqDiff, reduceCtorEq, T_put_best, wb_put_best]))
  refine ⟨recvD_T hn, get1_T (p := p) hn ?_⟩
  rw [dget_none.mpr hp]
  ((try simp only [wS, Nat.reduceAdd, Nat.reduceLeDiff, String.reduceEq, ↓reduceIte, Int.reduceLE, Int.reduceLT, Int.reduceEq, Int.reduceToNat, Nat.reduceLT, Nat.reduceEqDiff, reduceCtorEq, Option.getD_none]); repeat ((with_reducible refine Mine.later ?_); try simp only [wS, Nat.reduceAdd, Nat.reduceLeDiff, String.reduceEq, ↓reduceIte, Int.reduceLE, Int.reduceLT, Int.reduceEq, Int.reduceToNat, Nat.reduceLT, Nat.reduceEqDiff, reduceCtorEq, Option.getD_none]))
  refine ⟨.tup [.int 9], [.int 9], rfl, rfl, .inr ⟨[9], rfl, by simp, by simp, ?_⟩⟩
  ((try simp only [wS, Nat.reduceAdd, Nat.reduceLeDiff, String.reduceEq, ↓reduceIte, Int.reduceLE, Int.reduceLT, Int.reduceEq, Int.reduceToNat, Nat.reduceLT, Nat.reduceEqDiff, reduceCtorEq, wTupC_l]); repeat ((with_reducible refine Mine.later ?_); try simp only [wS, Nat.reduceAdd, Nat.reduceLeDiff, String.reduceEq, ↓reduceIte, Int.reduceLE, Int.reduceLT, Int.reduceEq, Int.reduceToNat, Nat.reduceLT, Nat.reduceEqDiff, reduceCtorEq, wTupC_l]))
  refine ⟨[.int 9], last_get _ _, by simp, ?_⟩
  refine setV_T (p := p) (pre_get1 _ hn) hl ?_
  rw [dput_keys_new _ hp]
  exact h

/-- what is told of a prefix: the prefix, its number, its cost -/
abbrev Tell := Px × Int × Int
noncomputable def bodyV (x : Tell) : V := .tup [.str "summary", .int x.1.2, .int x.2.2]
noncomputable def entryV : V := .tup [.int 2, .tup [.int 9], .int 1]
noncomputable def lineV (x : Tell) : V := .tup [.tup [.int 0, .int 2, .int 3, .int x.2.1, .int 5, .int 1, .int 1], bodyV x]
noncomputable def countV (x : Tell) : V := .tup [.int x.2.1, bodyV x, entryV]
theorem and11 : Builtin.bitAnd 1 1 = 1 := by decide +kernel

theorem counting_spec {xs : List Tell} (hc : ∀ x ∈ xs, x.2.2 < 16777215) (hxl : xs.length ≤ 15) {n rt : Nat} {st : St} (hn : st[n]? = some (.list (xs.map lineV))) (hrt : st[rt]? = some (.dI [(5, entryV)])) {Q : V → St → Prop}
    (h : Q (.loc st.length) (st ++ [.list (xs.map countV)])) : T_counting_rows [.loc n, .int 3, .loc rt, .int 6] st Q := by
  ((try simp only [wS, Nat.reduceAdd, Nat.reduceLeDiff, String.reduceEq, ↓reduceIte, Int.reduceLE, Int.reduceLT, Int.reduceEq, Int.reduceToNat, Nat.reduceLT, Nat.reduceEqDiff, reduceCtorEq, T_counting_rows, wb_counting_rows]); repeat ((with_reducible refine Mine.later ?_); try simp only [wS, Nat.reduceAdd, Nat.reduceLeDiff, String.reduceEq, ↓reduceIte, Int.reduceLE, Int.reduceLT, Int.reduceEq, Int.reduceToNat, Nat.reduceLT, Nat.reduceEqDiff, reduceCtorEq, T_counting_rows, wb_counting_rows]))
  refine iter_list (pre_get1 _ hn) ?_
  refine loop_inv (all := xs) (fun L η st' => st' = st ++ [.list (L.map countV)] ∧ η "found" = some (.loc st.length) ∧ η "kind" = some (.int 3) ∧ η "routers" = some (.loc rt) ∧ η "own" = some (.int 6)) ?_ xs [] rfl _ _ _ ⟨rfl, rfl, rfl, rfl, rfl⟩ ?_
  · intro L a r e η st' hz9 K hK
    obtain ⟨rfl, hz9⟩ := hz9
    refine conj4 hz9 ?_
    clear hz9; intro h1 h2 h3 h4
    have ha : a ∈ xs := by rw [e]; simp
    have hca := hc a ha
    refine ⟨[.tup [.int 0, .int 2, .int 3, .int a.2.1, .int 5, .int 1, .int 1], bodyV a], rfl, rfl, ?_⟩
    ((try simp only [wS, Nat.reduceAdd, Nat.reduceLeDiff, String.reduceEq, ↓reduceIte, Int.reduceLE, Int.reduceLT, Int.reduceEq, Int.reduceToNat, Nat.reduceLT, Nat.reduceEqDiff, reduceCtorEq, wTakeV_t, List.take_succ_cons, List.take_zero]); repeat ((with_reducible refine Mine.later ?_); try simp only [wS, Nat.reduceAdd, Nat.reduceLeDiff, String.reduceEq, ↓reduceIte, Int.reduceLE, Int.reduceLT, Int.reduceEq, Int.reduceToNat, Nat.reduceLT, Nat.reduceEqDiff, reduceCtorEq, wTakeV_t, List.take_succ_cons, List.take_zero]))
    ((try simp only [wS, Nat.reduceAdd, Nat.reduceLeDiff, String.reduceEq, ↓reduceIte, Int.reduceLE, Int.reduceLT, Int.reduceEq, Int.reduceToNat, Nat.reduceLT, Nat.reduceEqDiff, reduceCtorEq, h2, h3, h4, bodyV, decide_eq_false (show ¬ (16777215 ≤ a.2.2) by omega)]); repeat ((with_reducible refine Mine.later ?_); try simp only [wS, Nat.reduceAdd, Nat.reduceLeDiff, String.reduceEq, ↓reduceIte, Int.reduceLE, Int.reduceLT, Int.reduceEq, Int.reduceToNat, Nat.reduceLT, Nat.reduceEqDiff, reduceCtorEq, h2, h3, h4, bodyV, decide_eq_false (show ¬ (16777215 ≤ a.2.2) by omega)]))
    refine in_I (pre_get1 _ hrt) ?_
    ((try simp only [wS, Nat.reduceAdd, Nat.reduceLeDiff, String.reduceEq, ↓reduceIte, Int.reduceLE, Int.reduceLT, Int.reduceEq, Int.reduceToNat, Nat.reduceLT, Nat.reduceEqDiff, reduceCtorEq, dget, Option.isSome_some]); repeat ((with_reducible refine Mine.later ?_); try simp only [wS, Nat.reduceAdd, Nat.reduceLeDiff, String.reduceEq, ↓reduceIte, Int.reduceLE, Int.reduceLT, Int.reduceEq, Int.reduceToNat, Nat.reduceLT, Nat.reduceEqDiff, reduceCtorEq, dget, Option.isSome_some]))
    refine item_I (v := entryV) (pre_get1 _ hrt) rfl ?_
    ((try simp only [wS, Nat.reduceAdd, Nat.reduceLeDiff, String.reduceEq, ↓reduceIte, Int.reduceLE, Int.reduceLT, Int.reduceEq, Int.reduceToNat, Nat.reduceLT, Nat.reduceEqDiff, reduceCtorEq, entryV, op_and, and11, h1, h3]); repeat ((with_reducible refine Mine.later ?_); try simp only [wS, Nat.reduceAdd, Nat.reduceLeDiff, String.reduceEq, ↓reduceIte, Int.reduceLE, Int.reduceLT, Int.reduceEq, Int.reduceToNat, Nat.reduceLT, Nat.reduceEqDiff, reduceCtorEq, entryV, op_and, and11, h1, h3]))
    refine ⟨recvL_l (last_get _ _), ?_⟩
    refine item_I (v := entryV) (pre_get1 _ hrt) rfl ?_
    ((try simp only [wS, Nat.reduceAdd, Nat.reduceLeDiff, String.reduceEq, ↓reduceIte, Int.reduceLE, Int.reduceLT, Int.reduceEq, Int.reduceToNat, Nat.reduceLT, Nat.reduceEqDiff, reduceCtorEq, wAppend_l]); repeat ((with_reducible refine Mine.later ?_); try simp only [wS, Nat.reduceAdd, Nat.reduceLeDiff, String.reduceEq, ↓reduceIte, Int.reduceLE, Int.reduceLT, Int.reduceEq, Int.reduceToNat, Nat.reduceLT, Nat.reduceEqDiff, reduceCtorEq, wAppend_l]))
    refine ⟨_, last_get _ _, ?_, ?_⟩
    · have : L.length ≤ xs.length := by rw [e]; simp
      simp; omega
    rw [set_last]
    refine hK _ _ _ (.inl rfl) (pre_get1 _ hn) ⟨?_, ?_, ?_, ?_, ?_⟩
    · rw [List.map_append]; rfl
    all_goals ((try simp only [wS, Nat.reduceAdd, Nat.reduceLeDiff, String.reduceEq, ↓reduceIte, Int.reduceLE, Int.reduceLT, Int.reduceEq, Int.reduceToNat, Nat.reduceLT, Nat.reduceEqDiff, reduceCtorEq, h1, h2, h3, h4]); repeat ((with_reducible refine Mine.later ?_); try simp only [wS, Nat.reduceAdd, Nat.reduceLeDiff, String.reduceEq, ↓reduceIte, Int.reduceLE, Int.reduceLT, Int.reduceEq, Int.reduceToNat, Nat.reduceLT, Nat.reduceEqDiff, reduceCtorEq, h1, h2, h3, h4]))
  · intro η st' hz9
    obtain ⟨rfl, hz9⟩ := hz9
    refine conj4 hz9 ?_
    clear hz9; intro h1 h2 h3 h4
    ((try simp only [wS, Nat.reduceAdd, Nat.reduceLeDiff, String.reduceEq, ↓reduceIte, Int.reduceLE, Int.reduceLT, Int.reduceEq, Int.reduceToNat, Nat.reduceLT, Nat.reduceEqDiff, reduceCtorEq, h1, id]); repeat ((with_reducible refine Mine.later ?_); try simp only [wS, Nat.reduceAdd, Nat.reduceLeDiff, String.reduceEq, ↓reduceIte, Int.reduceLE, Int.reduceLT, Int.reduceEq, Int.reduceToNat, Nat.reduceLT, Nat.reduceEqDiff, reduceCtorEq, h1, id]))
    exact h

noncomputable def foundV (x : Tell) : Px × V := (x.1, bestV (2 + x.2.2))
theorem inter_spec {xs : List Tell} (hc : ∀ x ∈ xs, x.2.2 < 16777215) (hxl : xs.length ≤ 15) (hp : ∀ x ∈ xs, 0 ≤ x.1.2 ∧ x.1.2 ≤ 4 ∧ pat x.2.1 x.1.2 = x.1) (hnd : (xs.map (·.1)).Nodup)
    {n rt : Nat} {st : St} (hn : st[n]? = some (.list (xs.map lineV))) (hrt : st[rt]? = some (.dI [(5, entryV)])) {Q : V → St → Prop}
    (h : ∀ st', st <+: st' → st'[st.length]? = some (.dT none (xs.map foundV)) → Q (.loc st.length) st') : T_inter_nets [.loc n, .loc rt, .int 6, .tup [], .int 4] st Q := by
  ((try simp only [wS, Nat.reduceAdd, Nat.reduceLeDiff, String.reduceEq, ↓reduceIte, Int.reduceLE, Int.reduceLT, Int.reduceEq, Int.reduceToNat, Nat.reduceLT, Nat.reduceEqDiff, reduceCtorEq, T_inter_nets, wb_inter_nets]); repeat ((with_reducible refine Mine.later ?_); try simp only [wS, Nat.reduceAdd, Nat.reduceLeDiff, String.reduceEq, ↓reduceIte, Int.reduceLE, Int.reduceLT, Int.reduceEq, Int.reduceToNat, Nat.reduceLT, Nat.reduceEqDiff, reduceCtorEq, T_inter_nets, wb_inter_nets]))
  refine counting_spec hc hxl (pre_get1 _ hn) (pre_get1 _ hrt) ?_
  have hcl := last_get (st ++ [O.dT none []]) (O.list (xs.map countV))
  have hd := pre_get1 [O.list (xs.map countV)] (last_get st (O.dT none []))
  have hne : st.length ≠ (st ++ [O.dT none []]).length := by simp
  have p0 : st <+: st ++ [O.dT none []] ++ [O.list (xs.map countV)] := pre_app (pre_app (List.prefix_refl _) _) _
  generalize st ++ [O.dT none []] ++ [O.list (xs.map countV)] = st1 at hcl hd p0
  generalize (st ++ [O.dT none []]).length = cl at hcl hne
  refine iter_list hcl ?_
  refine loop_inv (all := xs) (fun L η st' => st <+: st' ∧ st'[st.length]? = some (.dT none (L.map foundV)) ∧ st'[cl]? = some (.list (xs.map countV)) ∧ η "found" = some (.loc st.length) ∧ η "ranges" = some (.tup []) ∧ η "bits" = some (.int 4)) ?_ xs [] rfl _ _ _ ⟨p0, hd, hcl, rfl, rfl, rfl⟩ ?_
  · intro L a r e η st' hz9 K hK
    refine conj6 hz9 ?_
    clear hz9; intro i1 i2 i3 h1 h2 h3
    have ha : a ∈ xs := by rw [e]; simp
    obtain ⟨q1, q2, q3⟩ := hp a ha
    refine ⟨[.int a.2.1, bodyV a, entryV], rfl, rfl, ?_⟩
    ((try simp only [wS, Nat.reduceAdd, Nat.reduceLeDiff, String.reduceEq, ↓reduceIte, Int.reduceLE, Int.reduceLT, Int.reduceEq, Int.reduceToNat, Nat.reduceLT, Nat.reduceEqDiff, reduceCtorEq, bodyV, h3]); repeat ((with_reducible refine Mine.later ?_); try simp only [wS, Nat.reduceAdd, Nat.reduceLeDiff, String.reduceEq, ↓reduceIte, Int.reduceLE, Int.reduceLT, Int.reduceEq, Int.reduceToNat, Nat.reduceLT, Nat.reduceEqDiff, reduceCtorEq, bodyV, h3]))
    refine prefix_at_spec q1 q2 ?_
    rw [q3]
    ((try simp only [wS, Nat.reduceAdd, Nat.reduceLeDiff, String.reduceEq, ↓reduceIte, Int.reduceLE, Int.reduceLT, Int.reduceEq, Int.reduceToNat, Nat.reduceLT, Nat.reduceEqDiff, reduceCtorEq, h1, h2]); repeat ((with_reducible refine Mine.later ?_); try simp only [wS, Nat.reduceAdd, Nat.reduceLeDiff, String.reduceEq, ↓reduceIte, Int.reduceLE, Int.reduceLT, Int.reduceEq, Int.reduceToNat, Nat.reduceLT, Nat.reduceEqDiff, reduceCtorEq, h1, h2]))
    ((try simp only [wS, Nat.reduceAdd, Nat.reduceLeDiff, String.reduceEq, ↓reduceIte, Int.reduceLE, Int.reduceLT, Int.reduceEq, Int.reduceToNat, Nat.reduceLT, Nat.reduceEqDiff, reduceCtorEq, entryV, op_add]); repeat ((with_reducible refine Mine.later ?_); try simp only [wS, Nat.reduceAdd, Nat.reduceLeDiff, String.reduceEq, ↓reduceIte, Int.reduceLE, Int.reduceLT, Int.reduceEq, Int.reduceToNat, Nat.reduceLT, Nat.reduceEqDiff, reduceCtorEq, entryV, op_add]))
    have hnew : a.1 ∉ (L.map foundV).map (·.1) := fun m => by
      rw [e, List.map_append, List.nodup_append] at hnd
      have : a.1 ∈ L.map (·.1) := by simpa [foundV, Function.comp_def] using m
      exact hnd.2.2 _ this a.1 (by simp) rfl
    have hLl : L.length ≤ 15 := by have : L.length ≤ xs.length := by (rw [e]; simp)
                                   omega
    refine in_none ?_
    ((try simp only [wS, Nat.reduceAdd, Nat.reduceLeDiff, String.reduceEq, ↓reduceIte, Int.reduceLE, Int.reduceLT, Int.reduceEq, Int.reduceToNat, Nat.reduceLT, Nat.reduceEqDiff, reduceCtorEq, h1, h2, entryV, op_add]); repeat ((with_reducible refine Mine.later ?_); try simp only [wS, Nat.reduceAdd, Nat.reduceLeDiff, String.reduceEq, ↓reduceIte, Int.reduceLE, Int.reduceLT, Int.reduceEq, Int.reduceToNat, Nat.reduceLT, Nat.reduceEqDiff, reduceCtorEq, h1, h2, entryV, op_add]))
    refine put_best_spec (p := a.1) i2 (by simp; omega) hnew ?_
    ((try simp only [wS, Nat.reduceAdd, Nat.reduceLeDiff, String.reduceEq, ↓reduceIte, Int.reduceLE, Int.reduceLT, Int.reduceEq, Int.reduceToNat, Nat.reduceLT, Nat.reduceEqDiff, reduceCtorEq]); repeat ((with_reducible refine Mine.later ?_); try simp only [wS, Nat.reduceAdd, Nat.reduceLeDiff, String.reduceEq, ↓reduceIte, Int.reduceLE, Int.reduceLT, Int.reduceEq, Int.reduceToNat, Nat.reduceLT, Nat.reduceEqDiff, reduceCtorEq]))
    have hF : List.map foundV (L ++ [a]) = L.map foundV ++ [(a.1, bestV (2 + a.2.2))] := by rw [List.map_append]; rfl
    refine hK _ _ _ (.inl rfl) (set_app_ne _ i3 hne) ⟨pre_set (pre_app i1 _) (Nat.le_refl _) _, ?_, set_app_ne _ i3 hne, ?_, ?_, ?_⟩
    · rw [hF]; exact set_eq (pre_get1 _ i2)
    all_goals ((try simp only [wS, Nat.reduceAdd, Nat.reduceLeDiff, String.reduceEq, ↓reduceIte, Int.reduceLE, Int.reduceLT, Int.reduceEq, Int.reduceToNat, Nat.reduceLT, Nat.reduceEqDiff, reduceCtorEq, h1, h2, h3]); repeat ((with_reducible refine Mine.later ?_); try simp only [wS, Nat.reduceAdd, Nat.reduceLeDiff, String.reduceEq, ↓reduceIte, Int.reduceLE, Int.reduceLT, Int.reduceEq, Int.reduceToNat, Nat.reduceLT, Nat.reduceEqDiff, reduceCtorEq, h1, h2, h3]))
  · intro η st' hz9
    refine conj6 hz9 ?_
    clear hz9; intro i1 i2 i3 h1 h2 h3
    ((try simp only [wS, Nat.reduceAdd, Nat.reduceLeDiff, String.reduceEq, ↓reduceIte, Int.reduceLE, Int.reduceLT, Int.reduceEq, Int.reduceToNat, Nat.reduceLT, Nat.reduceEqDiff, reduceCtorEq, h1, id]); repeat ((with_reducible refine Mine.later ?_); try simp only [wS, Nat.reduceAdd, Nat.reduceLeDiff, String.reduceEq, ↓reduceIte, Int.reduceLE, Int.reduceLT, Int.reduceEq, Int.reduceToNat, Nat.reduceLT, Nat.reduceEqDiff, reduceCtorEq, h1, id]))
    exact h _ i1 i2
end Mine
end

section -- L11
set_option autoImplicit false
set_option linter.unusedVariables false
set_option linter.unusedSimpArgs false
set_option maxRecDepth 100000
namespace Mine

noncomputable def dbl (K : Ai) (p : Px) : Bool := K.any fun q => decide (q.1.1 = p.1) && decide (q.1.2 < p.2)
noncomputable def idK (K : Ai) (p : Px) : Int := if dbl K p = true then lastP p else p.1
theorem dbl_true {K : Ai} {p : Px} (hK : ∀ k ∈ K.map (·.1), k ∈ allP) (h : dbl K p = true) : ∃ q ∈ allP, q.1 = p.1 ∧ q.2 < p.2 := by
  obtain ⟨q, hq, h⟩ := List.any_eq_true.mp h
  simp only [Bool.and_eq_true, decide_eq_true_eq] at h
  exact ⟨q.1, hK _ (List.mem_map.mpr ⟨q, hq, rfl⟩), h⟩
theorem dbl_false {K : Ai} {p q : Px} (h : dbl K p = false) (hq : q ∈ K.map (·.1)) (e : q.1 = p.1) : ¬ q.2 < p.2 := fun hl => by
  obtain ⟨x, hx, rfl⟩ := List.mem_map.mp hq
  have : dbl K p = true := List.any_eq_true.mpr ⟨x, hx, by simp [e, hl]⟩
  rw [this] at h; cases h
theorem idK_inj {K : Ai} (hK : ∀ k ∈ K.map (·.1), k ∈ allP) {p q : Px} (hp : p ∈ K.map (·.1)) (hq : q ∈ K.map (·.1)) (h : idK K p = idK K q) : p = q := by
  have ap := hK p hp
  have aq := hK q hq
  unfold idK at h
  cases dp : dbl K p with
  | false =>
    cases dq : dbl K q with
    | false =>
      simp only [dp, dq] at h
      have h : p.1 = q.1 := h
      rcases Int.lt_trichotomy p.2 q.2 with l | l | l
      · exact absurd l (dbl_false dq hp h)
      · exact px_eq p ap q aq l h
      · exact absurd l (dbl_false dp hq h.symm)
    | true =>
      simp only [dp, dq] at h
      exact absurd h (first_ne_last p ap q aq)
  | true =>
    cases dq : dbl K q with
    | false =>
      simp only [dp, dq] at h
      exact absurd (show lastP p = q.1 from h).symm (first_ne_last q aq p ap)
    | true =>
      simp only [dp, dq] at h
      have h : lastP p = lastP q := h
      obtain ⟨x, ax, x1, x2⟩ := dbl_true hK dp
      obtain ⟨y, ay, y1, y2⟩ := dbl_true hK dq
      rcases Int.lt_trichotomy p.2 q.2 with l | l | l
      · exact (last_last p ap q aq l h y ay y1 y2).elim
      · exact last_eq p ap q aq l h
      · exact (last_last q aq p ap l h.symm x ax x1 x2).elim
theorem idK_pat {K : Ai} {p : Px} (hp : p ∈ allP) : pat (idK K p) p.2 = p := by
  unfold idK
  split
  · exact pat_last p hp
  · exact pat_first p hp

theorem op_or' (a b : Int) : intOp .BitOr a b = some (Builtin.bitOr a b) := rfl
theorem id_for_spec {K : Ai} (hnd : (K.map (·.1)).Nodup) (hK : ∀ k ∈ K.map (·.1), k ∈ allP) {p : Px} (hp : p ∈ allP) {tk : List (Int × V)} (hnew : idK K p ∉ tk.map (·.1)) {n t : Nat} {st : St} (hn : st[n]? = some (.dT none (K.map toTi))) (ht : st[t]? = some (.dI tk)) {Q : V → St → Prop}
    (h : ∀ st', st <+: st' → Q (.int (idK K p)) st') : T_id_for [keyT p, .loc n, .loc t, .int 4] st Q := by
  have hb := len_bd p hp
  have kl := len_of_keys hnd hK
  have e1 : intOp .LShift 1 4 = some (1 * 2 ^ (4 : Int).toNat) := op_shl (by decide) (by decide) (by decide)
  ((try simp only [wS, Nat.reduceAdd, Nat.reduceLeDiff, String.reduceEq, ↓reduceIte, Int.reduceLE, Int.reduceLT, Int.reduceEq, Int.reduceToNat, Nat.reduceLT, Nat.reduceEqDiff, reduceCtorEq, T_id_for, wb_id_for, e1, op_sub]); repeat ((with_reducible refine Mine.later ?_); try simp only [wS, Nat.reduceAdd, Nat.reduceLeDiff, String.reduceEq, ↓reduceIte, Int.reduceLE, Int.reduceLT, Int.reduceEq, Int.reduceToNat, Nat.reduceLT, Nat.reduceEqDiff, reduceCtorEq, T_id_for, wb_id_for, e1, op_sub]))
  refine mask_of_spec hb.1 (by omega) ?_
  ((try simp only [wS, Nat.reduceAdd, Nat.reduceLeDiff, String.reduceEq, ↓reduceIte, Int.reduceLE, Int.reduceLT, Int.reduceEq, Int.reduceToNat, Nat.reduceLT, Nat.reduceEqDiff, reduceCtorEq, op_sub, op_or]); repeat ((with_reducible refine Mine.later ?_); try simp only [wS, Nat.reduceAdd, Nat.reduceLeDiff, String.reduceEq, ↓reduceIte, Int.reduceLE, Int.reduceLT, Int.reduceEq, Int.reduceToNat, Nat.reduceLT, Nat.reduceEqDiff, reduceCtorEq, op_sub, op_or]))
  refine iter_dict hn fun ep => ?_
  have hk : ((K.map toTi).map fun p => keyT p.1) = K.map fun e => keyT e.1 := by simp [Function.comp_def, toTi]
  rw [hk]
  refine comp_name (x := "other") (all := K) rfl (fun _ => true) (fun q => .bool (decide (q.1.1 = p.1) && decide (q.1.2 < p.2))) (fun st' p' => pre_get p' (set_eq hn)) (by omega) ?_ ?_ ?_
  · intro a ha η' hη hx st' p' K hK
    exact hK _ p'
  · intro a ha _ η' hη hx st' p' K hK
    have g1 : η' "prefix" = some (keyT p) := by rw [hη _ (by decide)]; ((try simp only [wS, Nat.reduceAdd, Nat.reduceLeDiff, String.reduceEq, ↓reduceIte, Int.reduceLE, Int.reduceLT, Int.reduceEq, Int.reduceToNat, Nat.reduceLT, Nat.reduceEqDiff, reduceCtorEq]); repeat ((with_reducible refine Mine.later ?_); try simp only [wS, Nat.reduceAdd, Nat.reduceLeDiff, String.reduceEq, ↓reduceIte, Int.reduceLE, Int.reduceLT, Int.reduceEq, Int.reduceToNat, Nat.reduceLT, Nat.reduceEqDiff, reduceCtorEq]))
    have := hK _ p'
    ((try simp only [wS, Nat.reduceAdd, Nat.reduceLeDiff, String.reduceEq, ↓reduceIte, Int.reduceLE, Int.reduceLT, Int.reduceEq, Int.reduceToNat, Nat.reduceLT, Nat.reduceEqDiff, reduceCtorEq, hx, g1]); repeat ((with_reducible refine Mine.later ?_); try simp only [wS, Nat.reduceAdd, Nat.reduceLeDiff, String.reduceEq, ↓reduceIte, Int.reduceLE, Int.reduceLT, Int.reduceEq, Int.reduceToNat, Nat.reduceLT, Nat.reduceEqDiff, reduceCtorEq, hx, g1]))
    by_cases q : a.1.1 = p.1
    · simp only [decide_eq_true q, Bool.true_and] at this
      ((try simp only [wS, Nat.reduceAdd, Nat.reduceLeDiff, String.reduceEq, ↓reduceIte, Int.reduceLE, Int.reduceLT, Int.reduceEq, Int.reduceToNat, Nat.reduceLT, Nat.reduceEqDiff, reduceCtorEq, decide_eq_true q]); repeat ((with_reducible refine Mine.later ?_); try simp only [wS, Nat.reduceAdd, Nat.reduceLeDiff, String.reduceEq, ↓reduceIte, Int.reduceLE, Int.reduceLT, Int.reduceEq, Int.reduceToNat, Nat.reduceLT, Nat.reduceEqDiff, reduceCtorEq, decide_eq_true q]))
      exact this
    · simp only [decide_eq_false q, Bool.false_and] at this
      ((try simp only [wS, Nat.reduceAdd, Nat.reduceLeDiff, String.reduceEq, ↓reduceIte, Int.reduceLE, Int.reduceLT, Int.reduceEq, Int.reduceToNat, Nat.reduceLT, Nat.reduceEqDiff, reduceCtorEq, decide_eq_false q]); repeat ((with_reducible refine Mine.later ?_); try simp only [wS, Nat.reduceAdd, Nat.reduceLeDiff, String.reduceEq, ↓reduceIte, Int.reduceLE, Int.reduceLT, Int.reduceEq, Int.reduceToNat, Nat.reduceLT, Nat.reduceEqDiff, reduceCtorEq, decide_eq_false q]))
      exact this
  intro st1 p1
  have p2 := unlock hn p1
  rw [List.filter_eq_self.mpr (fun _ _ => rfl)]
  ((try simp only [wS, Nat.reduceAdd, Nat.reduceLeDiff, String.reduceEq, ↓reduceIte, Int.reduceLE, Int.reduceLT, Int.reduceEq, Int.reduceToNat, Nat.reduceLT, Nat.reduceEqDiff, reduceCtorEq]); repeat ((with_reducible refine Mine.later ?_); try simp only [wS, Nat.reduceAdd, Nat.reduceLeDiff, String.reduceEq, ↓reduceIte, Int.reduceLE, Int.reduceLT, Int.reduceEq, Int.reduceToNat, Nat.reduceLT, Nat.reduceEqDiff, reduceCtorEq]))
  generalize st1.set n (.dT none (K.map toTi)) = st2 at p2
  refine ⟨K.map fun q => decide (q.1.1 = p.1) && decide (q.1.2 < p.2), by rw [last_get, List.map_map]; rfl, ?_⟩
  have hd : (K.map fun q => decide (q.1.1 = p.1) && decide (q.1.2 < p.2)).any id = dbl K p := by unfold dbl; rw [List.any_map]; rfl
  rw [hd]
  have ht2 := pre_get1 [O.list (K.map fun q => V.bool (decide (q.1.1 = p.1) && decide (q.1.2 < p.2)))] (pre_get p2 ht)
  have hno : (dget tk (idK K p)).isSome = false := by rw [dget_none.mpr hnew]; rfl
  have hQ := h _ (pre_app p2 [O.list (K.map fun q => V.bool (decide (q.1.1 = p.1) && decide (q.1.2 < p.2)))])
  unfold idK at hno hQ
  cases hdb : dbl K p with
  | true =>
    rw [hdb] at hno hQ
    simp only [wS, Nat.reduceAdd, Nat.reduceLeDiff, String.reduceEq, ↓reduceIte, Int.reduceLE, Int.reduceLT, Int.reduceEq, Int.reduceToNat, Nat.reduceLT, Nat.reduceEqDiff, reduceCtorEq, wLoop_nil, wLoop_cons, wIter_t] at hno hQ ⊢
    ((try simp only [wS, Nat.reduceAdd, Nat.reduceLeDiff, String.reduceEq, ↓reduceIte, Int.reduceLE, Int.reduceLT, Int.reduceEq, Int.reduceToNat, Nat.reduceLT, Nat.reduceEqDiff, reduceCtorEq, wLoop_nil, wLoop_cons, wIter_t]); repeat ((with_reducible refine Mine.later ?_); try simp only [wS, Nat.reduceAdd, Nat.reduceLeDiff, String.reduceEq, ↓reduceIte, Int.reduceLE, Int.reduceLT, Int.reduceEq, Int.reduceToNat, Nat.reduceLT, Nat.reduceEqDiff, reduceCtorEq, wLoop_nil, wLoop_cons, wIter_t]))
    refine in_I ht2 ?_
    rw [show lastP p = Builtin.bitOr p.1 (1 * 2 ^ (4 : Int).toNat - 1 - msk p.2) from rfl] at hno hQ
    simp only [Int.reduceToNat] at hno hQ
    rw [hno]
    ((try simp only [wS, Nat.reduceAdd, Nat.reduceLeDiff, String.reduceEq, ↓reduceIte, Int.reduceLE, Int.reduceLT, Int.reduceEq, Int.reduceToNat, Nat.reduceLT, Nat.reduceEqDiff, reduceCtorEq]); repeat ((with_reducible refine Mine.later ?_); try simp only [wS, Nat.reduceAdd, Nat.reduceLeDiff, String.reduceEq, ↓reduceIte, Int.reduceLE, Int.reduceLT, Int.reduceEq, Int.reduceToNat, Nat.reduceLT, Nat.reduceEqDiff, reduceCtorEq]))
    exact ⟨trivial, hQ⟩
  | false =>
    rw [hdb] at hno hQ
    simp only [wS, Nat.reduceAdd, Nat.reduceLeDiff, String.reduceEq, ↓reduceIte, Int.reduceLE, Int.reduceLT, Int.reduceEq, Int.reduceToNat, Nat.reduceLT, Nat.reduceEqDiff, reduceCtorEq, wLoop_nil, wLoop_cons, wIter_t] at hno hQ ⊢
    ((try simp only [wS, Nat.reduceAdd, Nat.reduceLeDiff, String.reduceEq, ↓reduceIte, Int.reduceLE, Int.reduceLT, Int.reduceEq, Int.reduceToNat, Nat.reduceLT, Nat.reduceEqDiff, reduceCtorEq, wLoop_nil, wLoop_cons, wIter_t]); repeat ((with_reducible refine Mine.later ?_); try simp only [wS, Nat.reduceAdd, Nat.reduceLeDiff, String.reduceEq, ↓reduceIte, Int.reduceLE, Int.reduceLT, Int.reduceEq, Int.reduceToNat, Nat.reduceLT, Nat.reduceEqDiff, reduceCtorEq, wLoop_nil, wLoop_cons, wIter_t]))
    refine in_I ht2 ?_
    rw [hno]
    ((try simp only [wS, Nat.reduceAdd, Nat.reduceLeDiff, String.reduceEq, ↓reduceIte, Int.reduceLE, Int.reduceLT, Int.reduceEq, Int.reduceToNat, Nat.reduceLT, Nat.reduceEqDiff, reduceCtorEq]); repeat ((with_reducible refine Mine.later ?_); try simp only [wS, Nat.reduceAdd, Nat.reduceLeDiff, String.reduceEq, ↓reduceIte, Int.reduceLE, Int.reduceLT, Int.reduceEq, Int.reduceToNat, Nat.reduceLT, Nat.reduceEqDiff, reduceCtorEq]))
    exact ⟨trivial, hQ⟩
end Mine
end

section -- L12
set_option autoImplicit false
set_option linter.unusedVariables false
set_option linter.unusedSimpArgs false
set_option maxRecDepth 100000
namespace Mine

theorem sorted_Lr {n : Nat} {st : St} {ks : List Px} {Q : V → St → Prop} (h : st[n]? = some (.list (ks.map keyT))) (hn : ks.Nodup) (hl : ks.length < 64)
    (hq : ∀ ks' : List Px, ks'.Perm ks → Q (.loc st.length) (st ++ [.list (ks'.map keyT)])) : wSorted true [.loc n] st Q := by
  refine ⟨.loc n, ks.map keyT, rfl, items_l h, .inl ⟨ks, rfl, hn, hl, ?_⟩⟩
  have e : katRev true (sortBy ltP ks) = (sortBy ltP ks).reverse := by simp [katRev]
  rw [e]
  exact hq _ ((List.reverse_perm _).trans (sortBy_perm _))
theorem setV_I {n : Nat} {st : St} {es : List (Int × V)} {i : Int} {v : V} {Q : St → Prop} (h : st[n]? = some (.dI es)) (hl : es.length ≤ 1000) (hq : Q (st.set n (.dI (dput es i v)))) : wSetV (.loc n) (.int i) v st Q :=
  .inr (.inl ⟨i, es, rfl, hl, h, hq⟩)
noncomputable def swp (p : Px) : Px := (p.2, p.1)
theorem swp_swp (p : Px) : swp (swp p) = p := rfl

theorem numbered_spec {K : Ai} (hnd : (K.map (·.1)).Nodup) (hK : ∀ k ∈ K.map (·.1), k ∈ allP) {n : Nat} {st : St} (hn : st[n]? = some (.dT none (K.map toTi))) {Q : V → St → Prop}
    (h : ∀ st' (ps : List Px), st <+: st' → ps.Perm (K.map (·.1)) → st'[st.length]? = some (.dT none (ps.map fun p => (p, .int (idK K p)))) → Q (.loc st.length) st') : T_numbered_nets [.loc n, .int 4] st Q := by
  have kl := len_of_keys hnd hK
  ((try simp only [wS, Nat.reduceAdd, Nat.reduceLeDiff, String.reduceEq, ↓reduceIte, Int.reduceLE, Int.reduceLT, Int.reduceEq, Int.reduceToNat, Nat.reduceLT, Nat.reduceEqDiff, reduceCtorEq, T_numbered_nets, wb_numbered_nets]); repeat ((with_reducible refine Mine.later ?_); try simp only [wS, Nat.reduceAdd, Nat.reduceLeDiff, String.reduceEq, ↓reduceIte, Int.reduceLE, Int.reduceLT, Int.reduceEq, Int.reduceToNat, Nat.reduceLT, Nat.reduceEqDiff, reduceCtorEq, T_numbered_nets, wb_numbered_nets]))
  have hf := pre_get1 [O.dI []] (last_get st (O.dT none []))
  have htk := last_get (st ++ [O.dT none []]) (O.dI [])
  have hft : st.length ≠ (st ++ [O.dT none []]).length := by simp
  have htl : st.length ≤ (st ++ [O.dT none []]).length := by simp
  have p0 : st <+: st ++ [O.dT none []] ++ [O.dI []] := pre_app (pre_app (List.prefix_refl _) _) _
  generalize st ++ [O.dT none []] ++ [O.dI []] = st1 at hf htk p0
  generalize (st ++ [O.dT none []]).length = tk at htk hft htl
  have hn1 := pre_get p0 hn
  refine iter_dict hn1 fun ep => ?_
  have hk : ((K.map toTi).map fun p => keyT p.1) = K.map fun e => keyT e.1 := by simp [Function.comp_def, toTi]
  rw [hk]
  refine comp_name (x := "prefix") (all := K) rfl (fun _ => true) (fun q => keyT (swp q.1)) (fun st' p' => pre_get p' (set_eq hn1)) (by omega) ?_ ?_ ?_
  · intro a ha η' hη hx st' p' K hK
    exact hK _ p'
  · intro a ha _ η' hη hx st' p' K hK
    ((try simp only [wS, Nat.reduceAdd, Nat.reduceLeDiff, String.reduceEq, ↓reduceIte, Int.reduceLE, Int.reduceLT, Int.reduceEq, Int.reduceToNat, Nat.reduceLT, Nat.reduceEqDiff, reduceCtorEq, hx]); repeat ((with_reducible refine Mine.later ?_); try simp only [wS, Nat.reduceAdd, Nat.reduceLeDiff, String.reduceEq, ↓reduceIte, Int.reduceLE, Int.reduceLT, Int.reduceEq, Int.reduceToNat, Nat.reduceLT, Nat.reduceEqDiff, reduceCtorEq, hx]))
    exact hK _ p'
  intro st2 p2
  have p3 := unlock hn1 p2
  rw [List.filter_eq_self.mpr (fun _ _ => rfl)]
  ((try simp only [wS, Nat.reduceAdd, Nat.reduceLeDiff, String.reduceEq, ↓reduceIte, Int.reduceLE, Int.reduceLT, Int.reduceEq, Int.reduceToNat, Nat.reduceLT, Nat.reduceEqDiff, reduceCtorEq]); repeat ((with_reducible refine Mine.later ?_); try simp only [wS, Nat.reduceAdd, Nat.reduceLeDiff, String.reduceEq, ↓reduceIte, Int.reduceLE, Int.reduceLT, Int.reduceEq, Int.reduceToNat, Nat.reduceLT, Nat.reduceEqDiff, reduceCtorEq]))
  generalize st2.set n (.dT none (K.map toTi)) = st3 at p3
  have hm : (K.map fun q => V.tup [V.int (swp q.1).1, V.int (swp q.1).2]) = (K.map fun q => swp q.1).map keyT := by rw [List.map_map]; rfl
  have hm' : (K.map fun q => swp q.1) = (K.map (·.1)).map swp := by rw [List.map_map]; rfl
  rw [hm]
  refine sorted_Lr (last_get _ _) ?_ (by simp; omega) fun ss hss => ?_
  · rw [hm']; exact nodup_map_on _ hnd fun a _ b _ e => by rw [← swp_swp a, e, swp_swp]
  rw [hm'] at hss
  have hsk : (ss.map swp).Perm (K.map (·.1)) := by
    have := hss.map swp
    rw [List.map_map] at this
    have e : (swp ∘ swp) = id := rfl
    rw [e, List.map_id] at this; exact this
  have hsl := last_get (st3 ++ [O.list ((K.map fun q => swp q.1).map keyT)]) (O.list (ss.map keyT))
  have p4 : st1 <+: st3 ++ [O.list ((K.map fun q => swp q.1).map keyT)] ++ [O.list (ss.map keyT)] := pre_app (pre_app p3 _) _
  have hsf : st1.length ≤ (st3 ++ [O.list ((K.map fun q => swp q.1).map keyT)]).length := by have := pre_len p3; simp; omega
  generalize st3 ++ [O.list ((K.map fun q => swp q.1).map keyT)] ++ [O.list (ss.map keyT)] = st4 at hsl p4
  generalize (st3 ++ [O.list ((K.map fun q => swp q.1).map keyT)]).length = sl at hsl hsf
  have hfl := lt_of_get hf
  have htl' := lt_of_get htk
  have hssl : ss.length ≤ 15 := by have := hss.length_eq; simp at this; omega
  refine iter_list hsl ?_
  refine loop_inv (all := ss) (fun L η st' => st <+: st' ∧ st'[st.length]? = some (.dT none (L.map fun s => (swp s, .int (idK K (swp s))))) ∧ st'[tk]? = some (.dI (L.map fun s => (idK K (swp s), .bool true))) ∧ st'[sl]? = some (.list (ss.map keyT)) ∧
    η "found" = some (.loc st.length) ∧ η "taken" = some (.loc tk) ∧ η "nets" = some (.loc n) ∧ η "bits" = some (.int 4)) ?_ ss [] rfl _ _ _ ⟨p0.trans p4, pre_get p4 hf, pre_get p4 htk, hsl, rfl, rfl, rfl, rfl⟩ ?_
  · intro L a r e η st' hz9 Kq hKq
    refine conj8 hz9 ?_
    clear hz9; intro i1 i2 i3 i4 h1 h2 h3 h4
    have ha : a ∈ ss := by rw [e]; simp
    have hLl : L.length ≤ 15 := by have : L.length ≤ ss.length := by (rw [e]; simp)
                                   omega
    have hak : swp a ∈ K.map (·.1) := hsk.mem_iff.mp (List.mem_map.mpr ⟨a, ha, rfl⟩)
    have hssn : ss.Nodup := hss.nodup_iff.mpr (nodup_map_on _ hnd fun a _ b _ e => by rw [← swp_swp a, e, swp_swp])
    have haL : a ∉ L := fun m => by
      rw [e, List.nodup_append] at hssn
      exact hssn.2.2 a m a (by simp) rfl
    have hLk : ∀ s ∈ L, swp s ∈ K.map (·.1) := fun s hs => hsk.mem_iff.mp (List.mem_map.mpr ⟨s, by rw [e]; exact List.mem_append_left _ hs, rfl⟩)
    refine ⟨[.int a.1, .int a.2], rfl, rfl, ?_⟩
    ((try simp only [wS, Nat.reduceAdd, Nat.reduceLeDiff, String.reduceEq, ↓reduceIte, Int.reduceLE, Int.reduceLT, Int.reduceEq, Int.reduceToNat, Nat.reduceLT, Nat.reduceEqDiff, reduceCtorEq, h2, h3, h4]); repeat ((with_reducible refine Mine.later ?_); try simp only [wS, Nat.reduceAdd, Nat.reduceLeDiff, String.reduceEq, ↓reduceIte, Int.reduceLE, Int.reduceLT, Int.reduceEq, Int.reduceToNat, Nat.reduceLT, Nat.reduceEqDiff, reduceCtorEq, h2, h3, h4]))
    have hnew : idK K (swp a) ∉ (L.map fun s => (idK K (swp s), V.bool true)).map (·.1) := fun m => by
      rw [List.map_map] at m
      obtain ⟨s, hs, q⟩ := List.mem_map.mp m
      have := idK_inj hK (hLk s hs) hak q
      rw [← swp_swp s, this, swp_swp] at hs
      exact haL hs
    refine id_for_spec (p := swp a) hnd hK (hK _ hak) hnew (pre_get i1 hn) i3 fun st5 p5 => ?_
    ((try simp only [wS, Nat.reduceAdd, Nat.reduceLeDiff, String.reduceEq, ↓reduceIte, Int.reduceLE, Int.reduceLT, Int.reduceEq, Int.reduceToNat, Nat.reduceLT, Nat.reduceEqDiff, reduceCtorEq, h1, h2]); repeat ((with_reducible refine Mine.later ?_); try simp only [wS, Nat.reduceAdd, Nat.reduceLeDiff, String.reduceEq, ↓reduceIte, Int.reduceLE, Int.reduceLT, Int.reduceEq, Int.reduceToNat, Nat.reduceLT, Nat.reduceEqDiff, reduceCtorEq, h1, h2]))
    refine setV_I (pre_get p5 i3) (by simp; omega) ?_
    rw [dput_keys_new _ hnew]
    have hnew2 : swp a ∉ (L.map fun s => (swp s, V.int (idK K (swp s)))).map (·.1) := fun m => by
      rw [List.map_map] at m
      obtain ⟨s, hs, q⟩ := List.mem_map.mp m
      have q : swp s = swp a := q
      rw [← swp_swp s, q, swp_swp] at hs
      exact haL hs
    ((try simp only [wS, Nat.reduceAdd, Nat.reduceLeDiff, String.reduceEq, ↓reduceIte, Int.reduceLE, Int.reduceLT, Int.reduceEq, Int.reduceToNat, Nat.reduceLT, Nat.reduceEqDiff, reduceCtorEq, h1, h2]); repeat ((with_reducible refine Mine.later ?_); try simp only [wS, Nat.reduceAdd, Nat.reduceLeDiff, String.reduceEq, ↓reduceIte, Int.reduceLE, Int.reduceLT, Int.reduceEq, Int.reduceToNat, Nat.reduceLT, Nat.reduceEqDiff, reduceCtorEq, h1, h2]))
    refine setV_T (p := swp a) (set_ne (pre_get p5 i2) hft.symm) (by simp; omega) ?_
    rw [dput_keys_new _ hnew2]
    have hsl1 : tk ≠ sl := by omega
    have hsl2 : st.length ≠ sl := by omega
    refine hKq _ _ _ (.inl rfl) (set_ne (set_ne (pre_get p5 i4) hsl1) hsl2) ⟨pre_set (pre_set (i1.trans p5) htl _) (Nat.le_refl _) _, ?_, ?_, set_ne (set_ne (pre_get p5 i4) hsl1) hsl2, ?_, ?_, ?_, ?_⟩
    · rw [set_eq (set_ne (pre_get p5 i2) hft.symm), List.map_append]; rfl
    · rw [set_ne (set_eq (pre_get p5 i3)) hft, List.map_append]; rfl
    all_goals ((try simp only [wS, Nat.reduceAdd, Nat.reduceLeDiff, String.reduceEq, ↓reduceIte, Int.reduceLE, Int.reduceLT, Int.reduceEq, Int.reduceToNat, Nat.reduceLT, Nat.reduceEqDiff, reduceCtorEq, h1, h2, h3, h4]); repeat ((with_reducible refine Mine.later ?_); try simp only [wS, Nat.reduceAdd, Nat.reduceLeDiff, String.reduceEq, ↓reduceIte, Int.reduceLE, Int.reduceLT, Int.reduceEq, Int.reduceToNat, Nat.reduceLT, Nat.reduceEqDiff, reduceCtorEq, h1, h2, h3, h4]))
  · intro η st' hz9
    refine conj8 hz9 ?_
    clear hz9; intro i1 i2 i3 i4 h1 h2 h3 h4
    ((try simp only [wS, Nat.reduceAdd, Nat.reduceLeDiff, String.reduceEq, ↓reduceIte, Int.reduceLE, Int.reduceLT, Int.reduceEq, Int.reduceToNat, Nat.reduceLT, Nat.reduceEqDiff, reduceCtorEq, h1, id]); repeat ((with_reducible refine Mine.later ?_); try simp only [wS, Nat.reduceAdd, Nat.reduceLeDiff, String.reduceEq, ↓reduceIte, Int.reduceLE, Int.reduceLT, Int.reduceEq, Int.reduceToNat, Nat.reduceLT, Nat.reduceEqDiff, reduceCtorEq, h1, id]))
    refine h _ (ss.map swp) i1 hsk ?_
    rw [i2, List.map_map]; rfl
end Mine
end

section -- L13
set_option autoImplicit false
set_option linter.unusedVariables false
set_option linter.unusedSimpArgs false
set_option maxRecDepth 100000
namespace Mine

noncomputable def wb_nf2 : WS := (wSeq (wExprS (wMeth recvD (wVar "found") (wCons (wVar "own") wNil) wUpdate)) (wLater (wRet (wVar "found"))))
noncomputable def wb_nf1 : WS := (wSeq (wFor (wArgs (wCons (wVar "lots") wNil) (wSorted false)) (tName "other") (wSeq (wAssign "told" (wArgs (wCons (wItem (wVar "lots") (wVar "other")) (wCons (wItem (wItem (wVar "areas") (wVar "other")) (wConst (.str "ranges"))) (wCons (wVar "bits") wNil))) T_condensed_nets)) (wLater (wFor (wVar "told") (tName "prefix") (wSetItem (wArgs (wCons (wItem (wVar "told") (wVar "prefix")) (wCons (wMeth recvD (wVar "own") (wCons (wVar "prefix") (wCons (wConst (.int 16777215)) wNil)) wGet2) wNil)) wMin) (wVar "own") (wVar "prefix")))))) (wLater wb_nf2))
theorem nf_split : wb_nets_for = (wSeq (wAssignT ["found", "own", "lots"] (wTup (wCons (wEmptyDict (.dT none [])) (wCons (wEmptyDict (.dT none [])) (wCons (wEmptyDict (.dI [])) wNil))))) (wLater (wSeq (wFor (wArgs (wCons (wVar "table") wNil) (wSorted false)) (tName "prefix") (wSeq (wAssign "route" (wItem (wVar "table") (wVar "prefix"))) (wLater (wSeq (wIfS (wOrB (wTest (wCmp .Eq (wItem (wVar "route") (wConst (.int 4))) (wVar "area"))) (wOrB (wTest (wCmp .GtE (wItem (wVar "route") (wConst (.int 2))) (wConst (.int 16777215)))) (wConstB false))) wCont wSkip) (wLater (wIfS (wTest (wCmp .Eq (wItem (wVar "route") (wConst (.int 1))) (wConst (.str "intra")))) (wLater (wExprS (wMeth recvL (wMeth recvD (wVar "lots") (wCons (wItem (wVar "route") (wConst (.int 4))) (wCons (wList wNil) wNil)) wSetDef) (wCons (wVar "route") wNil) wAppend))) (wLater (wIfS (wAndB (wTest (wCmp .Eq (wItem (wVar "route") (wConst (.int 1))) (wConst (.str "inter")))) (wAndB (wTest (wCmp .NotEq (wVar "area") (wConst (.int 0)))) (wConstB true))) (wLater (wSetItem (wItem (wVar "route") (wConst (.int 2))) (wVar "found") (wVar "prefix"))) wSkip)))))))) (wLater wb_nf1)))) := rfl

theorem nf2_spec {η : AE} {st : St} {fd ow : Nat} {es : Ai} (hn : (es.map (·.1)).Nodup) (hs : ∀ k ∈ es.map (·.1), k ∈ allP) (e1 : η "found" = some (.loc fd)) (e2 : η "own" = some (.loc ow)) (hne : fd ≠ ow)
    (hf : st[fd]? = some (.dT none [])) (ho : st[ow]? = some (.dT none (es.map toTi))) {Q : Fl → AE → St → Prop} (h : ∀ η', Q (.ret (.loc fd)) η' (st.set fd (.dT none (es.map toTi)))) : wb_nf2 η st Q := by
  ((try simp only [wS, Nat.reduceAdd, Nat.reduceLeDiff, String.reduceEq, ↓reduceIte, Int.reduceLE, Int.reduceLT, Int.reduceEq, Int.reduceToNat, Nat.reduceLT, Nat.reduceEqDiff, reduceCtorEq, wb_nf2, e1, e2, wUpdate_l]); repeat ((with_reducible refine Mine.later ?_); try simp only [wS, Nat.reduceAdd, Nat.reduceLeDiff, String.reduceEq, ↓reduceIte, Int.reduceLE, Int.reduceLT, Int.reduceEq, Int.reduceToNat, Nat.reduceLT, Nat.reduceEqDiff, reduceCtorEq, wb_nf2, e1, e2, wUpdate_l]))
  refine ⟨recvD_T hf, none, _, hne, hf, ho, by have := len_of_keys hn hs; simp; omega, ?_, by ((try simp only [wS, Nat.reduceAdd, Nat.reduceLeDiff, String.reduceEq, ↓reduceIte, Int.reduceLE, Int.reduceLT, Int.reduceEq, Int.reduceToNat, Nat.reduceLT, Nat.reduceEqDiff, reduceCtorEq, e1]); repeat ((with_reducible refine Mine.later ?_); try simp only [wS, Nat.reduceAdd, Nat.reduceLeDiff, String.reduceEq, ↓reduceIte, Int.reduceLE, Int.reduceLT, Int.reduceEq, Int.reduceToNat, Nat.reduceLT, Nat.reduceEqDiff, reduceCtorEq, e1])); exact h _⟩
  have := hash_nodup hn hs
  rw [List.map_map] at this ⊢; exact this

theorem sorted_I0 {n : Nat} {st : St} {Q : V → St → Prop} (h : st[n]? = some (.dI [])) (hq : Q (.loc st.length) (st ++ [.list []])) : wSorted false [.loc n] st Q :=
  ⟨.loc n, [], rfl, items_i h, .inr ⟨[], rfl, by simp, by simp, hq⟩⟩
theorem sorted_I1 {n : Nat} {st : St} {k : Int} {v : V} {Q : V → St → Prop} (h : st[n]? = some (.dI [(k, v)])) (hq : Q (.loc st.length) (st ++ [.list [.int k]])) : wSorted false [.loc n] st Q :=
  ⟨.loc n, [.int k], rfl, items_i h, .inr ⟨[k], rfl, by simp, by simp, hq⟩⟩

structure AreasOk (st : St) (ar : Nat) (m : Nat) : Prop where
  a : ∃ a0 a1, st[ar]? = some (.dI [(0, .loc a0), (1, .loc a1)]) ∧ st[a0]? = some (.dS [("stub", .bool false), ("ranges", .tup [])]) ∧ st[a1]? = some (.dS [("stub", .bool false), ("ranges", .loc m)])
theorem AreasOk.pre {st st' : St} {ar m : Nat} (h : AreasOk st ar m) (p : st <+: st') : AreasOk st' ar m := by
  obtain ⟨a0, a1, h1, h2, h3⟩ := h.a
  exact ⟨a0, a1, pre_get p h1, pre_get p h2, pre_get p h3⟩

theorem cond_cost {R : Rg} {rows : Ai} (h0 : ∀ e ∈ rows, 0 ≤ e.2) (h : ∀ e ∈ rows, e.2 < 16777215) {k : Px} {c : Int} (hc : (k, c) ∈ cond R rows) : c ≤ 16777215 := by
  have ok := cond_ok R rows h0
  have hb := ok.best k
  rw [(iget_mem ok.nodup).mpr hc] at hb
  obtain ⟨⟨p, m, _⟩, _⟩ := hb
  have := h _ m
  have : c < 16777215 := this
  omega

theorem nf1_spec {R : Rg} (G : GoodR R) {rl : Ai} (hr : ∀ e ∈ rl, e.1 ∈ allP ∧ 0 ≤ e.2) (hc : ∀ e ∈ rl, e.2 < 16777215) {η : AE} {st0 st : St} {fd ow lt ar m : Nat} (e1 : η "found" = some (.loc fd)) (e2 : η "own" = some (.loc ow)) (e3 : η "lots" = some (.loc lt)) (e4 : η "areas" = some (.loc ar)) (e5 : η "bits" = some (.int 4))
    (hf : st[fd]? = some (.dT none [])) (ho : st[ow]? = some (.dT none [])) (hl : (rl = [] ∧ st[lt]? = some (.dI [])) ∨ (∃ ll, st[lt]? = some (.dI [(1, .loc ll)]) ∧ st[ll]? = some (.list (rl.map rowV))))
    (hne : fd ≠ ow) (hp : st0 <+: st) (hfl : st0.length ≤ fd) (hol : st0.length ≤ ow) (ha : AreasOk st ar m) (hm : st[m]? = some (.list (R.map rngV))) {Q : Fl → AE → St → Prop}
    (h : ∀ η' st', st0 <+: st' → st'[fd]? = some (.dT none ((cond R rl).map toTi)) → Q (.ret (.loc fd)) η' st') : wb_nf1 η st Q := by
  have ok := cond_ok R rl fun e q => (hr e q).2
  have Sb := ok.subP G fun e q => (hr e q).1
  rcases hl with ⟨rfl, hl⟩ | ⟨ll, hl, hll⟩
  · ((try simp only [wS, Nat.reduceAdd, Nat.reduceLeDiff, String.reduceEq, ↓reduceIte, Int.reduceLE, Int.reduceLT, Int.reduceEq, Int.reduceToNat, Nat.reduceLT, Nat.reduceEqDiff, reduceCtorEq, wb_nf1, e3]); repeat ((with_reducible refine Mine.later ?_); try simp only [wS, Nat.reduceAdd, Nat.reduceLeDiff, String.reduceEq, ↓reduceIte, Int.reduceLE, Int.reduceLT, Int.reduceEq, Int.reduceToNat, Nat.reduceLT, Nat.reduceEqDiff, reduceCtorEq, wb_nf1, e3]))
    refine sorted_I0 hl ?_
    refine iter_list (last_get _ _) ?_
    ((try simp only [wS, Nat.reduceAdd, Nat.reduceLeDiff, String.reduceEq, ↓reduceIte, Int.reduceLE, Int.reduceLT, Int.reduceEq, Int.reduceToNat, Nat.reduceLT, Nat.reduceEqDiff, reduceCtorEq, wLoop_nil, wLoop_cons, id]); repeat ((with_reducible refine Mine.later ?_); try simp only [wS, Nat.reduceAdd, Nat.reduceLeDiff, String.reduceEq, ↓reduceIte, Int.reduceLE, Int.reduceLT, Int.reduceEq, Int.reduceToNat, Nat.reduceLT, Nat.reduceEqDiff, reduceCtorEq, wLoop_nil, wLoop_cons, id]))
    refine nf2_spec (es := []) (by simp) (by simp) e1 e2 hne (pre_get1 _ hf) (pre_get1 _ ho) fun η' => ?_
    exact h _ _ (pre_set (pre_app hp _) hfl _) (set_eq (pre_get1 _ hf))
  · ((try simp only [wS, Nat.reduceAdd, Nat.reduceLeDiff, String.reduceEq, ↓reduceIte, Int.reduceLE, Int.reduceLT, Int.reduceEq, Int.reduceToNat, Nat.reduceLT, Nat.reduceEqDiff, reduceCtorEq, wb_nf1, e3]); repeat ((with_reducible refine Mine.later ?_); try simp only [wS, Nat.reduceAdd, Nat.reduceLeDiff, String.reduceEq, ↓reduceIte, Int.reduceLE, Int.reduceLT, Int.reduceEq, Int.reduceToNat, Nat.reduceLT, Nat.reduceEqDiff, reduceCtorEq, wb_nf1, e3]))
    refine sorted_I1 hl ?_
    have hsl := last_get st (O.list [.int 1])
    refine iter_list hsl ?_
    obtain ⟨a0, a1, g1, g2, g3⟩ := ha.a
    ((try simp only [wS, Nat.reduceAdd, Nat.reduceLeDiff, String.reduceEq, ↓reduceIte, Int.reduceLE, Int.reduceLT, Int.reduceEq, Int.reduceToNat, Nat.reduceLT, Nat.reduceEqDiff, reduceCtorEq, wLoop_nil, wLoop_cons, id, e3, e4, e5]); repeat ((with_reducible refine Mine.later ?_); try simp only [wS, Nat.reduceAdd, Nat.reduceLeDiff, String.reduceEq, ↓reduceIte, Int.reduceLE, Int.reduceLT, Int.reduceEq, Int.reduceToNat, Nat.reduceLT, Nat.reduceEqDiff, reduceCtorEq, wLoop_nil, wLoop_cons, id, e3, e4, e5]))
    refine item_I (v := .loc ll) (pre_get1 _ hl) rfl ?_
    refine item_I (v := .loc a1) (pre_get1 _ g1) rfl ?_
    refine item_S (v := .loc m) (pre_get1 _ g3) rfl ?_
    refine condensed_spec G hr (pre_get1 _ hll) (pre_get1 _ hm) ?_
    generalize hcs : cond R rl = cs at ok Sb h
    have hd := last_get (st ++ [O.list [.int 1]]) (O.dT none (cs.map toTi))
    have hdl : st.length < (st ++ [O.list [.int 1]]).length := by simp
    have p1 : st <+: st ++ [O.list [.int 1]] ++ [O.dT none (cs.map toTi)] := pre_app (pre_app (List.prefix_refl _) _) _
    have hsl := pre_get1 [O.dT none (cs.map toTi)] hsl
    generalize st ++ [O.list [.int 1]] ++ [O.dT none (cs.map toTi)] = st1 at hd p1 hsl
    generalize (st ++ [O.list [.int 1]]).length = dl at hd hdl
    have hfl' := lt_of_get hf
    have hol' := lt_of_get ho
    ((try simp only [wS, Nat.reduceAdd, Nat.reduceLeDiff, String.reduceEq, ↓reduceIte, Int.reduceLE, Int.reduceLT, Int.reduceEq, Int.reduceToNat, Nat.reduceLT, Nat.reduceEqDiff, reduceCtorEq, e3, e4, e5]); repeat ((with_reducible refine Mine.later ?_); try simp only [wS, Nat.reduceAdd, Nat.reduceLeDiff, String.reduceEq, ↓reduceIte, Int.reduceLE, Int.reduceLT, Int.reduceEq, Int.reduceToNat, Nat.reduceLT, Nat.reduceEqDiff, reduceCtorEq, e3, e4, e5]))
    refine iter_dict hd fun ep => ?_
    have hk : ((cs.map toTi).map fun p => keyT p.1) = cs.map fun e => keyT e.1 := by simp [Function.comp_def, toTi]
    rw [hk]
    refine loop_inv (all := cs) (fun L η st' => st0 <+: st' ∧ st'[dl]? = some (.dT (some ep) (cs.map toTi)) ∧ st'[fd]? = some (.dT none []) ∧ st'[ow]? = some (.dT none (L.map toTi)) ∧ st'[st.length]? = some (.list [.int 1]) ∧
      η "found" = some (.loc fd) ∧ η "own" = some (.loc ow) ∧ η "told" = some (.loc dl)) ?_ cs [] rfl _ _ _
      ⟨pre_set (hp.trans p1) (by omega) _, set_eq hd, set_ne (pre_get p1 hf) (by omega), set_ne (pre_get p1 ho) (by omega), set_ne hsl (by omega), e1, e2, rfl⟩ ?_
    · intro L a r e η st' hz9 K hK
      refine conj8 hz9 ?_
      clear hz9; intro i1 i2 i3 i4 i5 h1 h2 h3
      have haC : a ∈ cs := by rw [e]; simp
      have hn : a.1 ∉ L.map (·.1) := fun q => by
        have := ok.nodup
        rw [e, List.map_append, List.nodup_append] at this
        exact this.2.2 _ q a.1 (by simp) rfl
      have hLl : L.length ≤ 15 := by have : L.length ≤ cs.length := by (rw [e]; simp)
                                     have := len_of_keys ok.nodup Sb; omega
      have hac : a.2 ≤ 16777215 := cond_cost (R := R) (fun e q => (hr e q).2) hc (k := a.1) (by rw [hcs]; exact haC)
      ((try simp only [wS, Nat.reduceAdd, Nat.reduceLeDiff, String.reduceEq, ↓reduceIte, Int.reduceLE, Int.reduceLT, Int.reduceEq, Int.reduceToNat, Nat.reduceLT, Nat.reduceEqDiff, reduceCtorEq, h2, h3]); repeat ((with_reducible refine Mine.later ?_); try simp only [wS, Nat.reduceAdd, Nat.reduceLeDiff, String.reduceEq, ↓reduceIte, Int.reduceLE, Int.reduceLT, Int.reduceEq, Int.reduceToNat, Nat.reduceLT, Nat.reduceEqDiff, reduceCtorEq, h2, h3]))
      refine item_T (k := a.1) (v := .int a.2) i2 (by rw [dget_ti, (iget_mem ok.nodup (k := a.1) (v := a.2)).mpr haC]; rfl) ?_
      refine ⟨recvD_T i4, get2_ti i4 ?_⟩
      rw [iget_none.mpr hn]
      ((try simp only [wS, Nat.reduceAdd, Nat.reduceLeDiff, String.reduceEq, ↓reduceIte, Int.reduceLE, Int.reduceLT, Int.reduceEq, Int.reduceToNat, Nat.reduceLT, Nat.reduceEqDiff, reduceCtorEq, wMin_i, Option.getD_none, h2]); repeat ((with_reducible refine Mine.later ?_); try simp only [wS, Nat.reduceAdd, Nat.reduceLeDiff, String.reduceEq, ↓reduceIte, Int.reduceLE, Int.reduceLT, Int.reduceEq, Int.reduceToNat, Nat.reduceLT, Nat.reduceEqDiff, reduceCtorEq, wMin_i, Option.getD_none, h2]))
      rw [Int.min_eq_left hac]
      refine setV_T (p := a.1) i4 (by simp; omega) ?_
      rw [dput_keys_new _ (by rw [toTi_keys]; exact hn)]
      refine hK _ _ _ (.inl rfl) (set_ne i2 (by omega)) ⟨pre_set i1 hol _, set_ne i2 (by omega), set_ne i3 hne.symm, ?_, set_ne i5 (by omega), ?_, ?_, ?_⟩
      · rw [set_eq i4, List.map_append]; rfl
      all_goals ((try simp only [wS, Nat.reduceAdd, Nat.reduceLeDiff, String.reduceEq, ↓reduceIte, Int.reduceLE, Int.reduceLT, Int.reduceEq, Int.reduceToNat, Nat.reduceLT, Nat.reduceEqDiff, reduceCtorEq, h1, h2, h3]); repeat ((with_reducible refine Mine.later ?_); try simp only [wS, Nat.reduceAdd, Nat.reduceLeDiff, String.reduceEq, ↓reduceIte, Int.reduceLE, Int.reduceLT, Int.reduceEq, Int.reduceToNat, Nat.reduceLT, Nat.reduceEqDiff, reduceCtorEq, h1, h2, h3]))
    · intro η st' hz9
      refine conj8 hz9 ?_
      clear hz9; intro i1 i2 i3 i4 i5 h1 h2 h3
      ((try simp only [wS, Nat.reduceAdd, Nat.reduceLeDiff, String.reduceEq, ↓reduceIte, Int.reduceLE, Int.reduceLT, Int.reduceEq, Int.reduceToNat, Nat.reduceLT, Nat.reduceEqDiff, reduceCtorEq, SrcOk]); repeat ((with_reducible refine Mine.later ?_); try simp only [wS, Nat.reduceAdd, Nat.reduceLeDiff, String.reduceEq, ↓reduceIte, Int.reduceLE, Int.reduceLT, Int.reduceEq, Int.reduceToNat, Nat.reduceLT, Nat.reduceEqDiff, reduceCtorEq, SrcOk]))
      refine ⟨set_ne i5 (by omega), ?_⟩
      refine nf2_spec ok.nodup Sb h1 h2 hne (set_ne i3 (by omega)) (set_ne i4 (by omega)) fun η' => ?_
      exact h _ _ (pre_set (pre_set i1 (by have := pre_len hp; omega) _) hfl _) (set_eq (set_ne i3 (by omega)))
end Mine
end

section -- L14
set_option autoImplicit false
set_option linter.unusedVariables false
set_option linter.unusedSimpArgs false
set_option maxRecDepth 100000
namespace Mine

noncomputable def costOf (rows : Ai) (a : Px) : Int := (iget rows a).getD 0
noncomputable def withC (rows : Ai) (L : List Px) : Ai := L.map fun a => (a, costOf rows a)
noncomputable def tableV (rows : Ai) : List (Px × V) := rows.map fun e => (e.1, rowV e)
theorem costOf_mem {rows : Ai} (N : GoodN rows) {a : Px} (h : a ∈ rows.map (·.1)) : (a, costOf rows a) ∈ rows := by
  obtain ⟨e, he, q⟩ := List.mem_map.mp h
  have q : e.1 = a := q
  subst q
  have := (iget_mem N.nodup (k := e.1) (v := e.2)).mpr he
  unfold costOf; rw [this]; exact he
theorem table_get {rows : Ai} (N : GoodN rows) {a : Px} (h : a ∈ rows.map (·.1)) : dget (tableV rows) a = some (rowV (a, costOf rows a)) :=
  dget_of_mem (by simpa [tableV, Function.comp_def] using N.nodup) (List.mem_map.mpr ⟨_, costOf_mem N h, rfl⟩)
theorem withC_perm {rows : Ai} (N : GoodN rows) {ks : List Px} (h : ks.Perm (rows.map (·.1))) : (withC rows ks).Perm rows := by
  have := h.map (fun k => (k, (iget rows k).getD 0)); rw [map_iget N.nodup] at this; exact this
theorem reach_snoc (L : Ai) (e : Px × Int) : reach (L ++ [e]) = if e.2 < 16777215 then reach L ++ [e] else reach L := by
  unfold reach
  rw [List.filter_append]
  by_cases h : e.2 < 16777215
  · rw [if_pos h, List.filter_cons_of_pos (by simpa using h)]; rfl
  · rw [if_neg h, List.filter_cons_of_neg (by simpa using h)]; simp

theorem nets_for_spec {R : Rg} (G : GoodR R) {rows : Ai} (N : GoodN rows) {ar tb m : Nat} {st : St} (ha : AreasOk st ar m) (htb : st[tb]? = some (.dT none (tableV rows))) (hm : st[m]? = some (.list (R.map rngV))) {Q : V → St → Prop}
    (h : ∀ st' (L : Ai), st <+: st' → L.Perm (reach rows) → st'[st.length]? = some (.dT none ((cond R L).map toTi)) → Q (.loc st.length) st') : T_nets_for [.int 0, .loc ar, .loc tb, .int 4] st Q := by
  have nl := N.len
  ((try simp only [wS, Nat.reduceAdd, Nat.reduceLeDiff, String.reduceEq, ↓reduceIte, Int.reduceLE, Int.reduceLT, Int.reduceEq, Int.reduceToNat, Nat.reduceLT, Nat.reduceEqDiff, reduceCtorEq, T_nets_for, nf_split, List.append_assoc]); repeat ((with_reducible refine Mine.later ?_); try simp only [wS, Nat.reduceAdd, Nat.reduceLeDiff, String.reduceEq, ↓reduceIte, Int.reduceLE, Int.reduceLT, Int.reduceEq, Int.reduceToNat, Nat.reduceLT, Nat.reduceEqDiff, reduceCtorEq, T_nets_for, nf_split, List.append_assoc]))
  have hf := pre_get1 [O.dT none [], O.dI []] (last_get st (O.dT none []))
  have ho : (st ++ [O.dT none []] ++ [O.dT none [], O.dI []])[st.length + 1]? = some (.dT none []) := by
    rw [List.append_assoc, List.getElem?_append_right (by omega)]; simp
  have hl : (st ++ [O.dT none []] ++ [O.dT none [], O.dI []])[st.length + 2]? = some (.dI []) := by
    rw [List.append_assoc, List.getElem?_append_right (by omega)]; simp
  have p0 : st <+: st ++ [O.dT none []] ++ [O.dT none [], O.dI []] := pre_app (pre_app (List.prefix_refl _) _) _
  have e1 : (st ++ [O.dT none []]).length = st.length + 1 := by simp
  have e2 : (st ++ ([O.dT none []] ++ [O.dT none []])).length = st.length + 2 := by simp
  have e3 : st ++ ([O.dT none []] ++ ([O.dT none []] ++ [O.dI []])) = st ++ [O.dT none []] ++ [O.dT none [], O.dI []] := by simp
  simp only [e1, e2, e3]
  generalize st ++ [O.dT none []] ++ [O.dT none [], O.dI []] = st1 at hf ho hl p0
  refine sorted_T (pre_get p0 htb) (by simpa [tableV, Function.comp_def] using N.nodup) (by simp [tableV]; omega) fun ks ak hks => ?_
  have hks : ks.Perm (rows.map (·.1)) := by simpa [tableV, Function.comp_def] using hks
  have hsl := last_get st1 (O.list (ks.map keyT))
  have hlb := lt_of_get hl
  refine iter_list hsl ?_
  refine loop_inv (all := ks) (fun L η st' => st <+: st' ∧ st'[st.length]? = some (.dT none []) ∧ st'[st.length + 1]? = some (.dT none []) ∧ st'[st1.length]? = some (.list (ks.map keyT)) ∧
    ((reach (withC rows L) = [] ∧ st'[st.length + 2]? = some (.dI [])) ∨ (∃ ll, st1.length < ll ∧ st'[st.length + 2]? = some (.dI [(1, .loc ll)]) ∧ st'[ll]? = some (.list ((reach (withC rows L)).map rowV)))) ∧
    η "found" = some (.loc st.length) ∧ η "own" = some (.loc (st.length + 1)) ∧ η "lots" = some (.loc (st.length + 2)) ∧ η "areas" = some (.loc ar) ∧ η "table" = some (.loc tb) ∧ η "bits" = some (.int 4) ∧ η "area" = some (.int 0)) ?_ ks [] rfl _ _ _
    ⟨pre_app p0 _, pre_get1 _ hf, pre_get1 _ ho, hsl, .inl ⟨rfl, pre_get1 _ hl⟩, rfl, rfl, rfl, rfl, rfl, rfl, rfl⟩ ?_
  · intro L a r e η st' hz9 K hK
    refine conj12 hz9 ?_
    clear hz9; intro i1 i2 i3 i4 i5 h1 h2 h3 h4 h5 h6 h7
    have haR : a ∈ rows.map (·.1) := hks.mem_iff.mp (by rw [e]; simp)
    have hw : withC rows (L ++ [a]) = withC rows L ++ [(a, costOf rows a)] := by simp [withC]
    have hlen : (reach (withC rows L)).length ≤ 15 := by
      refine Nat.le_trans (List.length_filter_le _ _) ?_
      have : (withC rows L).length ≤ ks.length := by simp [withC, e]
      have := hks.length_eq; rw [List.length_map] at this; omega
    ((try simp only [wS, Nat.reduceAdd, Nat.reduceLeDiff, String.reduceEq, ↓reduceIte, Int.reduceLE, Int.reduceLT, Int.reduceEq, Int.reduceToNat, Nat.reduceLT, Nat.reduceEqDiff, reduceCtorEq, h5]); repeat ((with_reducible refine Mine.later ?_); try simp only [wS, Nat.reduceAdd, Nat.reduceLeDiff, String.reduceEq, ↓reduceIte, Int.reduceLE, Int.reduceLT, Int.reduceEq, Int.reduceToNat, Nat.reduceLT, Nat.reduceEqDiff, reduceCtorEq, h5]))
    refine item_T (k := a) (pre_get i1 htb) (table_get N haR) ?_
    ((try simp only [wS, Nat.reduceAdd, Nat.reduceLeDiff, String.reduceEq, ↓reduceIte, Int.reduceLE, Int.reduceLT, Int.reduceEq, Int.reduceToNat, Nat.reduceLT, Nat.reduceEqDiff, reduceCtorEq, rowV, h7]); repeat ((with_reducible refine Mine.later ?_); try simp only [wS, Nat.reduceAdd, Nat.reduceLeDiff, String.reduceEq, ↓reduceIte, Int.reduceLE, Int.reduceLT, Int.reduceEq, Int.reduceToNat, Nat.reduceLT, Nat.reduceEqDiff, reduceCtorEq, rowV, h7]))
    by_cases hc : costOf rows a < 16777215
    · have hrs : reach (withC rows (L ++ [a])) = reach (withC rows L) ++ [(a, costOf rows a)] := by rw [hw, reach_snoc, if_pos hc]
      ((try simp only [wS, Nat.reduceAdd, Nat.reduceLeDiff, String.reduceEq, ↓reduceIte, Int.reduceLE, Int.reduceLT, Int.reduceEq, Int.reduceToNat, Nat.reduceLT, Nat.reduceEqDiff, reduceCtorEq, decide_eq_false (show ¬ (16777215 ≤ costOf rows a) by omega), h3]); repeat ((with_reducible refine Mine.later ?_); try simp only [wS, Nat.reduceAdd, Nat.reduceLeDiff, String.reduceEq, ↓reduceIte, Int.reduceLE, Int.reduceLT, Int.reduceEq, Int.reduceToNat, Nat.reduceLT, Nat.reduceEqDiff, reduceCtorEq, decide_eq_false (show ¬ (16777215 ≤ costOf rows a) by omega), h3]))
      rcases i5 with ⟨j1, j2⟩ | ⟨ll, j0, j1, j2⟩
      · refine ⟨⟨_, rfl, .inr (.inl ⟨_, j2⟩)⟩, ?_⟩
        refine ⟨[], pre_get1 _ j2, by simp, ?_⟩
        have hlt := lt_of_get j2
        have hlt4 := lt_of_get i4
        have ne1 : st.length + 2 ≠ st'.length := by omega
        have hnl := set_ne (o' := O.dI (dput [] 1 (V.loc st'.length))) (last_get st' (O.list [])) ne1
        refine ⟨recvL_l hnl, ?_⟩
        ((try simp only [wS, Nat.reduceAdd, Nat.reduceLeDiff, String.reduceEq, ↓reduceIte, Int.reduceLE, Int.reduceLT, Int.reduceEq, Int.reduceToNat, Nat.reduceLT, Nat.reduceEqDiff, reduceCtorEq, wAppend_l]); repeat ((with_reducible refine Mine.later ?_); try simp only [wS, Nat.reduceAdd, Nat.reduceLeDiff, String.reduceEq, ↓reduceIte, Int.reduceLE, Int.reduceLT, Int.reduceEq, Int.reduceToNat, Nat.reduceLT, Nat.reduceEqDiff, reduceCtorEq, wAppend_l]))
        refine ⟨[], hnl, by simp, ?_⟩
        have q : ∀ {n o}, n ≠ st.length + 2 → st'[n]? = some o → (((st' ++ [O.list []]).set (st.length + 2) (O.dI (dput [] 1 (V.loc st'.length)))).set st'.length (O.list ([] ++ [rowV (a, costOf rows a)])))[n]? = some o := fun {n o} hne hg =>
          set_ne (set_ne (pre_get1 _ hg) hne.symm) (by have := lt_of_get hg; omega)
        refine hK _ _ _ (.inl rfl) (q (by omega) i4) ⟨pre_set (pre_set (pre_app i1 _) (by omega) _) (by have := pre_len i1; omega) _, q (by omega) i2, q (by omega) i3, q (by omega) i4, .inr ⟨st'.length, by omega, ?_, ?_⟩, ?_, ?_, ?_, ?_, ?_, ?_, ?_⟩
        · exact set_ne (set_eq (pre_get1 _ j2)) ne1.symm
        · rw [set_eq hnl, hrs, j1]; rfl
        all_goals ((try simp only [wS, Nat.reduceAdd, Nat.reduceLeDiff, String.reduceEq, ↓reduceIte, Int.reduceLE, Int.reduceLT, Int.reduceEq, Int.reduceToNat, Nat.reduceLT, Nat.reduceEqDiff, reduceCtorEq, h1, h2, h3, h4, h5, h6, h7]); repeat ((with_reducible refine Mine.later ?_); try simp only [wS, Nat.reduceAdd, Nat.reduceLeDiff, String.reduceEq, ↓reduceIte, Int.reduceLE, Int.reduceLT, Int.reduceEq, Int.reduceToNat, Nat.reduceLT, Nat.reduceEqDiff, reduceCtorEq, h1, h2, h3, h4, h5, h6, h7]))
      · refine ⟨⟨_, rfl, .inr (.inl ⟨_, j1⟩)⟩, ?_⟩
        refine ⟨[(1, .loc ll)], pre_get1 _ j1, by simp, ?_⟩
        have hnl := pre_get1 [O.list []] j2
        ((try simp only [wS, Nat.reduceAdd, Nat.reduceLeDiff, String.reduceEq, ↓reduceIte, Int.reduceLE, Int.reduceLT, Int.reduceEq, Int.reduceToNat, Nat.reduceLT, Nat.reduceEqDiff, reduceCtorEq, dget]); repeat ((with_reducible refine Mine.later ?_); try simp only [wS, Nat.reduceAdd, Nat.reduceLeDiff, String.reduceEq, ↓reduceIte, Int.reduceLE, Int.reduceLT, Int.reduceEq, Int.reduceToNat, Nat.reduceLT, Nat.reduceEqDiff, reduceCtorEq, dget]))
        refine ⟨recvL_l hnl, ?_⟩
        ((try simp only [wS, Nat.reduceAdd, Nat.reduceLeDiff, String.reduceEq, ↓reduceIte, Int.reduceLE, Int.reduceLT, Int.reduceEq, Int.reduceToNat, Nat.reduceLT, Nat.reduceEqDiff, reduceCtorEq, wAppend_l]); repeat ((with_reducible refine Mine.later ?_); try simp only [wS, Nat.reduceAdd, Nat.reduceLeDiff, String.reduceEq, ↓reduceIte, Int.reduceLE, Int.reduceLT, Int.reduceEq, Int.reduceToNat, Nat.reduceLT, Nat.reduceEqDiff, reduceCtorEq, wAppend_l]))
        refine ⟨_, hnl, by simp; omega, ?_⟩
        have q : ∀ {n o}, n ≤ st1.length → st'[n]? = some o → ((st' ++ [O.list []]).set ll (O.list ((reach (withC rows L)).map rowV ++ [rowV (a, costOf rows a)])))[n]? = some o := fun {n o} hne hg =>
          set_ne (pre_get1 _ hg) (by omega)
        refine hK _ _ _ (.inl rfl) (q (by omega) i4) ⟨pre_set (pre_app i1 _) (by omega) _, q (by omega) i2, q (by omega) i3, q (by omega) i4, .inr ⟨ll, j0, q (by omega) j1, ?_⟩, ?_, ?_, ?_, ?_, ?_, ?_, ?_⟩
        · rw [set_eq hnl, hrs, List.map_append]; rfl
        all_goals ((try simp only [wS, Nat.reduceAdd, Nat.reduceLeDiff, String.reduceEq, ↓reduceIte, Int.reduceLE, Int.reduceLT, Int.reduceEq, Int.reduceToNat, Nat.reduceLT, Nat.reduceEqDiff, reduceCtorEq, h1, h2, h3, h4, h5, h6, h7]); repeat ((with_reducible refine Mine.later ?_); try simp only [wS, Nat.reduceAdd, Nat.reduceLeDiff, String.reduceEq, ↓reduceIte, Int.reduceLE, Int.reduceLT, Int.reduceEq, Int.reduceToNat, Nat.reduceLT, Nat.reduceEqDiff, reduceCtorEq, h1, h2, h3, h4, h5, h6, h7]))
    · have hrs : reach (withC rows (L ++ [a])) = reach (withC rows L) := by rw [hw, reach_snoc, if_neg hc]
      ((try simp only [wS, Nat.reduceAdd, Nat.reduceLeDiff, String.reduceEq, ↓reduceIte, Int.reduceLE, Int.reduceLT, Int.reduceEq, Int.reduceToNat, Nat.reduceLT, Nat.reduceEqDiff, reduceCtorEq, decide_eq_true (show 16777215 ≤ costOf rows a by omega)]); repeat ((with_reducible refine Mine.later ?_); try simp only [wS, Nat.reduceAdd, Nat.reduceLeDiff, String.reduceEq, ↓reduceIte, Int.reduceLE, Int.reduceLT, Int.reduceEq, Int.reduceToNat, Nat.reduceLT, Nat.reduceEqDiff, reduceCtorEq, decide_eq_true (show 16777215 ≤ costOf rows a by omega)]))
      refine hK _ _ _ (.inr rfl) i4 ⟨i1, i2, i3, i4, by rw [hrs]; exact i5, ?_, ?_, ?_, ?_, ?_, ?_, ?_⟩
      all_goals ((try simp only [wS, Nat.reduceAdd, Nat.reduceLeDiff, String.reduceEq, ↓reduceIte, Int.reduceLE, Int.reduceLT, Int.reduceEq, Int.reduceToNat, Nat.reduceLT, Nat.reduceEqDiff, reduceCtorEq, h1, h2, h3, h4, h5, h6, h7]); repeat ((with_reducible refine Mine.later ?_); try simp only [wS, Nat.reduceAdd, Nat.reduceLeDiff, String.reduceEq, ↓reduceIte, Int.reduceLE, Int.reduceLT, Int.reduceEq, Int.reduceToNat, Nat.reduceLT, Nat.reduceEqDiff, reduceCtorEq, h1, h2, h3, h4, h5, h6, h7]))
  · intro η st' hz9
    refine conj12 hz9 ?_
    clear hz9; intro i1 i2 i3 i4 i5 h1 h2 h3 h4 h5 h6 h7
    ((try simp only [wS, Nat.reduceAdd, Nat.reduceLeDiff, String.reduceEq, ↓reduceIte, Int.reduceLE, Int.reduceLT, Int.reduceEq, Int.reduceToNat, Nat.reduceLT, Nat.reduceEqDiff, reduceCtorEq, id]); repeat ((with_reducible refine Mine.later ?_); try simp only [wS, Nat.reduceAdd, Nat.reduceLeDiff, String.reduceEq, ↓reduceIte, Int.reduceLE, Int.reduceLT, Int.reduceEq, Int.reduceToNat, Nat.reduceLT, Nat.reduceEqDiff, reduceCtorEq, id]))
    have hP := withC_perm N hks
    have hR : (reach (withC rows ks)).Perm (reach rows) := hP.filter _
    have hmem : ∀ x ∈ reach (withC rows ks), x ∈ rows ∧ x.2 < 16777215 := fun x hx => by
      have := hR.mem_iff.mp hx
      unfold reach at this
      simpa using this
    refine nf1_spec G (rl := reach (withC rows ks)) (fun x hx => ⟨(N.sub x (hmem x hx).1).1, (N.cost x (hmem x hx).1).1⟩) (fun x hx => (hmem x hx).2) h1 h2 h3 h4 h6 i2 i3 ?_ (by omega) i1 (by omega) (by omega) (ha.pre i1) (pre_get i1 hm) fun η' st'' p'' hg => ?_
    · rcases i5 with ⟨j1, j2⟩ | ⟨ll, _, j1, j2⟩
      · exact .inl ⟨j1, j2⟩
      · exact .inr ⟨ll, j1, j2⟩
    · ((try simp only [wS, Nat.reduceAdd, Nat.reduceLeDiff, String.reduceEq, ↓reduceIte, Int.reduceLE, Int.reduceLT, Int.reduceEq, Int.reduceToNat, Nat.reduceLT, Nat.reduceEqDiff, reduceCtorEq]); repeat ((with_reducible refine Mine.later ?_); try simp only [wS, Nat.reduceAdd, Nat.reduceLeDiff, String.reduceEq, ↓reduceIte, Int.reduceLE, Int.reduceLT, Int.reduceEq, Int.reduceToNat, Nat.reduceLT, Nat.reduceEqDiff, reduceCtorEq]))
      exact h _ _ p'' hR hg
end Mine
end

section -- L15
set_option autoImplicit false
set_option linter.unusedVariables false
set_option linter.unusedSimpArgs false
set_option maxRecDepth 100000
namespace Mine

theorem routers_spec {ld : Nat} {st : St} (hl : st[ld]? = some (.dI [])) {Q : V → St → Prop} (h : Q (.loc st.length) (st ++ [.dI []] ++ [.list []])) : T_routers_for [.int 0, .loc ld] st Q := by
  ((try simp only [wS, Nat.reduceAdd, Nat.reduceLeDiff, String.reduceEq, ↓reduceIte, Int.reduceLE, Int.reduceLT, Int.reduceEq, Int.reduceToNat, Nat.reduceLT, Nat.reduceEqDiff, reduceCtorEq, T_routers_for, wb_routers_for]); repeat ((with_reducible refine Mine.later ?_); try simp only [wS, Nat.reduceAdd, Nat.reduceLeDiff, String.reduceEq, ↓reduceIte, Int.reduceLE, Int.reduceLT, Int.reduceEq, Int.reduceToNat, Nat.reduceLT, Nat.reduceEqDiff, reduceCtorEq, T_routers_for, wb_routers_for]))
  refine sorted_I0 (pre_get1 _ hl) ?_
  refine iter_list (last_get _ _) ?_
  ((try simp only [wS, Nat.reduceAdd, Nat.reduceLeDiff, String.reduceEq, ↓reduceIte, Int.reduceLE, Int.reduceLT, Int.reduceEq, Int.reduceToNat, Nat.reduceLT, Nat.reduceEqDiff, reduceCtorEq, wLoop_nil, wLoop_cons, id]); repeat ((with_reducible refine Mine.later ?_); try simp only [wS, Nat.reduceAdd, Nat.reduceLeDiff, String.reduceEq, ↓reduceIte, Int.reduceLE, Int.reduceLT, Int.reduceEq, Int.reduceToNat, Nat.reduceLT, Nat.reduceEqDiff, reduceCtorEq, wLoop_nil, wLoop_cons, id]))
  exact h

noncomputable def tell (K : Ai) (p : Px) : Tell := (p, idK K p, costOf K p)
noncomputable def bodiesV (K : Ai) (ps : List Px) : List (Px × V) := ps.map fun p => ((3, idK K p), bodyV (tell K p))

theorem summaries_spec {R : Rg} (G : GoodR R) {rows : Ai} (N : GoodN rows) {ar tb ld m : Nat} {st : St} (ha : AreasOk st ar m) (htb : st[tb]? = some (.dT none (tableV rows))) (hld : st[ld]? = some (.dI [])) (hm : st[m]? = some (.list (R.map rngV))) {Q : V → St → Prop}
    (h : ∀ st' (L : Ai) (ps : List Px), st <+: st' → L.Perm (reach rows) → ps.Perm ((cond R L).map (·.1)) → st'[st.length]? = some (.dT none (bodiesV (cond R L) ps)) → Q (.loc st.length) st') : T_summaries_for [.int 0, .loc ar, .loc tb, .loc ld, .int 4] st Q := by
  obtain ⟨a0, a1, g1, g2, g3⟩ := ha.a
  ((try simp only [wS, Nat.reduceAdd, Nat.reduceLeDiff, String.reduceEq, ↓reduceIte, Int.reduceLE, Int.reduceLT, Int.reduceEq, Int.reduceToNat, Nat.reduceLT, Nat.reduceEqDiff, reduceCtorEq, T_summaries_for, wb_summaries_for]); repeat ((with_reducible refine Mine.later ?_); try simp only [wS, Nat.reduceAdd, Nat.reduceLeDiff, String.reduceEq, ↓reduceIte, Int.reduceLE, Int.reduceLT, Int.reduceEq, Int.reduceToNat, Nat.reduceLT, Nat.reduceEqDiff, reduceCtorEq, T_summaries_for, wb_summaries_for]))
  refine item_I (v := .loc a0) g1 rfl ?_
  have hf := pre_get1 [O.dT none []] (last_get st (O.dT none []))
  have p0 : st <+: st ++ [O.dT none []] ++ [O.dT none []] := pre_app (pre_app (List.prefix_refl _) _) _
  generalize st ++ [O.dT none []] ++ [O.dT none []] = st1 at hf p0
  have hfl := lt_of_get hf
  ((try simp only [wS, Nat.reduceAdd, Nat.reduceLeDiff, String.reduceEq, ↓reduceIte, Int.reduceLE, Int.reduceLT, Int.reduceEq, Int.reduceToNat, Nat.reduceLT, Nat.reduceEqDiff, reduceCtorEq]); repeat ((with_reducible refine Mine.later ?_); try simp only [wS, Nat.reduceAdd, Nat.reduceLeDiff, String.reduceEq, ↓reduceIte, Int.reduceLE, Int.reduceLT, Int.reduceEq, Int.reduceToNat, Nat.reduceLT, Nat.reduceEqDiff, reduceCtorEq]))
  refine item_S (v := .bool false) (pre_get p0 g2) rfl ?_
  ((try simp only [wS, Nat.reduceAdd, Nat.reduceLeDiff, String.reduceEq, ↓reduceIte, Int.reduceLE, Int.reduceLT, Int.reduceEq, Int.reduceToNat, Nat.reduceLT, Nat.reduceEqDiff, reduceCtorEq]); repeat ((with_reducible refine Mine.later ?_); try simp only [wS, Nat.reduceAdd, Nat.reduceLeDiff, String.reduceEq, ↓reduceIte, Int.reduceLE, Int.reduceLT, Int.reduceEq, Int.reduceToNat, Nat.reduceLT, Nat.reduceEqDiff, reduceCtorEq]))
  refine nets_for_spec G N (ha.pre p0) (pre_get p0 htb) (pre_get p0 hm) fun st2 L p1 hL hK => ?_
  have hmem : ∀ x ∈ L, x ∈ rows ∧ x.2 < 16777215 := fun x hx => by
    have := hL.mem_iff.mp hx
    unfold reach at this
    simpa using this
  have ok := cond_ok R L fun x hx => (N.cost x (hmem x hx).1).1
  have Sb := ok.subP G fun x hx => (N.sub x (hmem x hx).1).1
  have h' := fun st' ps => h st' L ps
  generalize hKe : cond R L = K at hK ok Sb h'
  ((try simp only [wS, Nat.reduceAdd, Nat.reduceLeDiff, String.reduceEq, ↓reduceIte, Int.reduceLE, Int.reduceLT, Int.reduceEq, Int.reduceToNat, Nat.reduceLT, Nat.reduceEqDiff, reduceCtorEq]); repeat ((with_reducible refine Mine.later ?_); try simp only [wS, Nat.reduceAdd, Nat.reduceLeDiff, String.reduceEq, ↓reduceIte, Int.reduceLE, Int.reduceLT, Int.reduceEq, Int.reduceToNat, Nat.reduceLT, Nat.reduceEqDiff, reduceCtorEq]))
  refine item_S (v := .bool false) (pre_get p1 (pre_get p0 g2)) rfl ?_
  ((try simp only [wS, Nat.reduceAdd, Nat.reduceLeDiff, String.reduceEq, ↓reduceIte, Int.reduceLE, Int.reduceLT, Int.reduceEq, Int.reduceToNat, Nat.reduceLT, Nat.reduceEqDiff, reduceCtorEq]); repeat ((with_reducible refine Mine.later ?_); try simp only [wS, Nat.reduceAdd, Nat.reduceLeDiff, String.reduceEq, ↓reduceIte, Int.reduceLE, Int.reduceLT, Int.reduceEq, Int.reduceToNat, Nat.reduceLT, Nat.reduceEqDiff, reduceCtorEq]))
  refine numbered_spec ok.nodup Sb hK fun st3 ps p2 hps hids => ?_
  have hpl : ps.length ≤ 15 := by have := hps.length_eq; rw [List.length_map] at this; have := len_of_keys ok.nodup Sb; omega
  have hpn : ps.Nodup := hps.nodup_iff.mpr ok.nodup
  have p02 : st <+: st3 := p0.trans (p1.trans p2)
  have hf3 := pre_get (p1.trans p2) hf
  have hn3 := pre_get p2 hK
  have hi3 := lt_of_get hids
  have hkeys : ((ps.map fun p => (p, V.int (idK K p))).map (·.1)) = ps := by rw [List.map_map]; exact List.map_id _
  ((try simp only [wS, Nat.reduceAdd, Nat.reduceLeDiff, String.reduceEq, ↓reduceIte, Int.reduceLE, Int.reduceLT, Int.reduceEq, Int.reduceToNat, Nat.reduceLT, Nat.reduceEqDiff, reduceCtorEq]); repeat ((with_reducible refine Mine.later ?_); try simp only [wS, Nat.reduceAdd, Nat.reduceLeDiff, String.reduceEq, ↓reduceIte, Int.reduceLE, Int.reduceLT, Int.reduceEq, Int.reduceToNat, Nat.reduceLT, Nat.reduceEqDiff, reduceCtorEq]))
  refine sorted_T hids (by rw [hkeys]; exact hpn) (by simp; omega) fun ss as hss => ?_
  rw [hkeys] at hss
  have hsl := last_get st3 (O.list (ss.map keyT))
  have hssP : ss.Perm (K.map (·.1)) := hss.trans hps
  refine iter_list hsl ?_
  have hl12 := pre_len p1
  refine loop_inv (all := ss) (fun L η st' => st <+: st' ∧ st'[st.length]? = some (.dT none (bodiesV K L)) ∧ st'[st1.length]? = some (.dT none (K.map toTi)) ∧ st'[st2.length]? = some (.dT none (ps.map fun p => (p, V.int (idK K p)))) ∧ st'[st3.length]? = some (.list (ss.map keyT)) ∧
    η "found" = some (.loc st.length) ∧ η "nets" = some (.loc st1.length) ∧ η "ids" = some (.loc st2.length) ∧ η "config" = some (.loc a0) ∧ η "area" = some (.int 0) ∧ η "leading" = some (.loc ld)) ?_ ss [] rfl _ _ _
    ⟨pre_app p02 _, pre_get1 _ hf3, pre_get1 _ hn3, pre_get1 _ hids, hsl, rfl, rfl, rfl, rfl, rfl, rfl⟩ ?_
  · intro L' a r e η st' hz9 Kq hKq
    refine conj11 hz9 ?_
    clear hz9; intro i1 i2 i3 i4 i5 h1 h2 h3 h4 h5 h6
    have haS : a ∈ ss := by rw [e]; simp
    have haK : a ∈ K.map (·.1) := hssP.mem_iff.mp haS
    have hLl : L'.length ≤ 15 := by have : L'.length ≤ ss.length := by (rw [e]; simp)
                                    have := hss.length_eq; omega
    have haL : a ∉ L' := fun m => by
      have := hss.nodup_iff.mpr hpn
      rw [e, List.nodup_append] at this
      exact this.2.2 a m a (by simp) rfl
    have hnew : (3, idK K a) ∉ (bodiesV K L').map (·.1) := fun m => by
      unfold bodiesV at m
      rw [List.map_map] at m
      obtain ⟨s, hs, q⟩ := List.mem_map.mp m
      have q : ((3 : Int), idK K s) = (3, idK K a) := q
      have q2 : idK K s = idK K a := congrArg Prod.snd q
      have := idK_inj Sb (hssP.mem_iff.mp (by rw [e]; exact List.mem_append_left _ hs)) haK q2
      exact haL (this ▸ hs)
    ((try simp only [wS, Nat.reduceAdd, Nat.reduceLeDiff, String.reduceEq, ↓reduceIte, Int.reduceLE, Int.reduceLT, Int.reduceEq, Int.reduceToNat, Nat.reduceLT, Nat.reduceEqDiff, reduceCtorEq, h1, h2, h3]); repeat ((with_reducible refine Mine.later ?_); try simp only [wS, Nat.reduceAdd, Nat.reduceLeDiff, String.reduceEq, ↓reduceIte, Int.reduceLE, Int.reduceLT, Int.reduceEq, Int.reduceToNat, Nat.reduceLT, Nat.reduceEqDiff, reduceCtorEq, h1, h2, h3]))
    refine item_T (k := a) (v := .int (costOf K a)) i3 ?_ ?_
    · obtain ⟨x, hx, q⟩ := List.mem_map.mp haK
      have q : x.1 = a := q
      subst q
      rw [dget_ti]
      unfold costOf
      rw [(iget_mem ok.nodup (k := x.1) (v := x.2)).mpr hx]; rfl
    refine item_T (k := a) (v := .int (idK K a)) i4 ?_ ?_
    · exact dget_of_mem (by rw [hkeys]; exact hpn) (List.mem_map.mpr ⟨a, hss.mem_iff.mp haS, rfl⟩)
    refine setV_T (p := (3, idK K a)) i2 (by simp [bodiesV]; omega) ?_
    rw [dput_keys_new _ hnew]
    refine hKq _ _ _ (.inl rfl) (set_ne i5 (by omega)) ⟨pre_set i1 (Nat.le_refl _) _, ?_, set_ne i3 (by omega), set_ne i4 (by omega), set_ne i5 (by omega), ?_, ?_, ?_, ?_, ?_, ?_⟩
    · rw [set_eq i2]; unfold bodiesV; rw [List.map_append]; rfl
    all_goals ((try simp only [wS, Nat.reduceAdd, Nat.reduceLeDiff, String.reduceEq, ↓reduceIte, Int.reduceLE, Int.reduceLT, Int.reduceEq, Int.reduceToNat, Nat.reduceLT, Nat.reduceEqDiff, reduceCtorEq, h1, h2, h3, h4, h5, h6]); repeat ((with_reducible refine Mine.later ?_); try simp only [wS, Nat.reduceAdd, Nat.reduceLeDiff, String.reduceEq, ↓reduceIte, Int.reduceLE, Int.reduceLT, Int.reduceEq, Int.reduceToNat, Nat.reduceLT, Nat.reduceEqDiff, reduceCtorEq, h1, h2, h3, h4, h5, h6]))
  · intro η st' hz9
    refine conj11 hz9 ?_
    clear hz9; intro i1 i2 i3 i4 i5 h1 h2 h3 h4 h5 h6
    ((try simp only [wS, Nat.reduceAdd, Nat.reduceLeDiff, String.reduceEq, ↓reduceIte, Int.reduceLE, Int.reduceLT, Int.reduceEq, Int.reduceToNat, Nat.reduceLT, Nat.reduceEqDiff, reduceCtorEq, id, h1, h4, h5, h6]); repeat ((with_reducible refine Mine.later ?_); try simp only [wS, Nat.reduceAdd, Nat.reduceLeDiff, String.reduceEq, ↓reduceIte, Int.reduceLE, Int.reduceLT, Int.reduceEq, Int.reduceToNat, Nat.reduceLT, Nat.reduceEqDiff, reduceCtorEq, id, h1, h4, h5, h6]))
    refine item_S (v := .bool false) (pre_get i1 g2) rfl ?_
    ((try simp only [wS, Nat.reduceAdd, Nat.reduceLeDiff, String.reduceEq, ↓reduceIte, Int.reduceLE, Int.reduceLT, Int.reduceEq, Int.reduceToNat, Nat.reduceLT, Nat.reduceEqDiff, reduceCtorEq, h1, h4, h5, h6]); repeat ((with_reducible refine Mine.later ?_); try simp only [wS, Nat.reduceAdd, Nat.reduceLeDiff, String.reduceEq, ↓reduceIte, Int.reduceLE, Int.reduceLT, Int.reduceEq, Int.reduceToNat, Nat.reduceLT, Nat.reduceEqDiff, reduceCtorEq, h1, h4, h5, h6]))
    refine routers_spec (pre_get i1 hld) ?_
    ((try simp only [wS, Nat.reduceAdd, Nat.reduceLeDiff, String.reduceEq, ↓reduceIte, Int.reduceLE, Int.reduceLT, Int.reduceEq, Int.reduceToNat, Nat.reduceLT, Nat.reduceEqDiff, reduceCtorEq, h1, h4, h5, h6]); repeat ((with_reducible refine Mine.later ?_); try simp only [wS, Nat.reduceAdd, Nat.reduceLeDiff, String.reduceEq, ↓reduceIte, Int.reduceLE, Int.reduceLT, Int.reduceEq, Int.reduceToNat, Nat.reduceLT, Nat.reduceEqDiff, reduceCtorEq, h1, h4, h5, h6]))
    refine sorted_I0 (pre_get1 _ (last_get _ _)) ?_
    refine iter_list (last_get _ _) ?_
    ((try simp only [wS, Nat.reduceAdd, Nat.reduceLeDiff, String.reduceEq, ↓reduceIte, Int.reduceLE, Int.reduceLT, Int.reduceEq, Int.reduceToNat, Nat.reduceLT, Nat.reduceEqDiff, reduceCtorEq, wLoop_nil, wLoop_cons, id, h1]); repeat ((with_reducible refine Mine.later ?_); try simp only [wS, Nat.reduceAdd, Nat.reduceLeDiff, String.reduceEq, ↓reduceIte, Int.reduceLE, Int.reduceLT, Int.reduceEq, Int.reduceToNat, Nat.reduceLT, Nat.reduceEqDiff, reduceCtorEq, wLoop_nil, wLoop_cons, id, h1]))
    exact h' _ ss (pre_app (pre_app (pre_app i1 _) _) _) hL hssP (pre_get1 _ (pre_get1 _ (pre_get1 _ i2)))
end Mine
end

section -- L16
set_option autoImplicit false
set_option linter.unusedVariables false
set_option linter.unusedSimpArgs false
set_option maxRecDepth 100000
namespace Mine

theorem comp_dict {α : Type} {rep : α → V} {wt : WT} {wc : WB} {wk wv : WE} {src : Option (Nat × O)} {all : List α} {st0 : St} (J : AE → Prop) (B : α → AE → Prop) (kf : α → Px) (f : α → V)
    (hsrc : ∀ st', st0 <+: st' → SrcOk src st')
    (htgt : ∀ a ∈ all, ∀ η, J η → ∀ K : AE → Prop, (∀ η₁, J η₁ → B a η₁ → K η₁) → wt (rep a) η K)
    (htest : ∀ a ∈ all, ∀ η, J η → B a η → ∀ st', st0 <+: st' → ∀ K : Bool → St → Prop, (∀ st'', st0 <+: st'' → K true st'') → wc η st' K)
    (hkey : ∀ a ∈ all, ∀ η, J η → B a η → ∀ st', st0 <+: st' → ∀ K : V → St → Prop, (∀ st'', st0 <+: st'' → K (keyT (kf a)) st'') → wk η st' K)
    (helt : ∀ a ∈ all, ∀ η, J η → B a η → ∀ st', st0 <+: st' → ∀ K : V → St → Prop, (∀ st'', st0 <+: st'' → K (f a) st'') → wv η st' K) :
    ∀ (xs : List α) (acc : List (Px × V)) (η : AE) (st : St) (Q : O → St → Prop), (∀ a ∈ xs, a ∈ all) → acc.length + xs.length ≤ 1000 → (acc.map (·.1) ++ xs.map kf).Nodup → J η → st0 <+: st →
      (∀ st', st0 <+: st' → Q (.dT none (acc ++ xs.map fun a => (kf a, f a))) st') → wCompI wt wc (emDict wk wv) src (xs.map rep) (.dT none acc) η st Q
  | [], acc, η, st, Q, _, _, _, _, hp, h => by
    have := h st hp
    rw [List.map_nil, List.append_nil] at this; exact this
  | a :: xs, acc, η, st, Q, hm, hl, hn, hj, hp, h => by
    have ha := hm a List.mem_cons_self
    have hx : ∀ b ∈ xs, b ∈ all := fun b hb => hm b (List.mem_cons_of_mem _ hb)
    have hnew : kf a ∉ acc.map (·.1) := fun m => by
      rw [List.nodup_append] at hn
      exact hn.2.2 _ m (kf a) (by simp) rfl
    refine htgt a ha η hj _ fun η₁ j1 b1 => htest a ha η₁ j1 b1 st hp _ fun st1 p1 => ?_
    rw [if_pos rfl]
    refine hkey a ha η₁ j1 b1 st1 p1 _ fun st2 p2 => helt a ha η₁ j1 b1 st2 p2 _ fun st3 p3 => ⟨kf a, acc, rfl, rfl, by simp at hl; omega, hsrc _ p3, ?_⟩
    rw [dput_keys_new _ hnew]
    refine comp_dict J B kf f hsrc htgt htest hkey helt xs (acc ++ [(kf a, f a)]) η₁ st3 Q hx (by simp at hl ⊢; omega) (by simpa using hn) j1 p3 fun st' p' => ?_
    have := h st' p'
    rw [List.map_cons] at this
    rw [List.append_assoc]; exact this
theorem comp_dname {α : Type} {rep : α → V} {x : String} {wt : WT} {wc : WB} {wk wv : WE} {src : Option (Nat × O)} {all : List α} {η : AE} {st : St} {Q : O → St → Prop} (hwt : wt = fun v η K => K (AE.set x v η)) (kf : α → Px) (f : α → V)
    (hsrc : ∀ st', st <+: st' → SrcOk src st') (hl : all.length ≤ 1000) (hn : (all.map kf).Nodup)
    (htest : ∀ a ∈ all, ∀ η', (∀ y, y ≠ x → η' y = η y) → η' x = some (rep a) → ∀ st', st <+: st' → ∀ K : Bool → St → Prop, (∀ st'', st <+: st'' → K true st'') → wc η' st' K)
    (hkey : ∀ a ∈ all, ∀ η', (∀ y, y ≠ x → η' y = η y) → η' x = some (rep a) → ∀ st', st <+: st' → ∀ K : V → St → Prop, (∀ st'', st <+: st'' → K (keyT (kf a)) st'') → wk η' st' K)
    (helt : ∀ a ∈ all, ∀ η', (∀ y, y ≠ x → η' y = η y) → η' x = some (rep a) → ∀ st', st <+: st' → ∀ K : V → St → Prop, (∀ st'', st <+: st'' → K (f a) st'') → wv η' st' K)
    (h : ∀ st', st <+: st' → Q (.dT none (all.map fun a => (kf a, f a))) st') : wCompI wt wc (emDict wk wv) src (all.map rep) (.dT none []) η st Q := by
  subst hwt
  refine comp_dict (all := all) (st0 := st) (fun η' => ∀ y, y ≠ x → η' y = η y) (fun a η' => η' x = some (rep a)) kf f hsrc ?_ htest hkey helt all [] η st Q (fun _ h => h) (by simpa using hl) (by simpa using hn) (fun _ _ => rfl) (List.prefix_refl _) (fun st' p => by simpa using h st' p)
  intro a _ η' j K hK
  exact hK _ (fun y hy => by simp only [AE.set_app, hy, if_false]; exact j y hy) (by simp [AE.set_app])

theorem perm_map_exists {α β : Type} (g : α → β) : ∀ {l : List β} {l' : List α}, l.Perm (l'.map g) → ∃ l'' : List α, l''.Perm l' ∧ l = l''.map g
  | [], l', h => by
    have : l' = [] := by simpa using h.symm.eq_nil
    subst this; exact ⟨[], .refl _, rfl⟩
  | a :: r, l', h => by
    obtain ⟨b, hb, e⟩ := List.mem_map.mp (h.mem_iff.mp List.mem_cons_self)
    obtain ⟨s, t, rfl⟩ := List.append_of_mem hb
    have h2 : (s ++ b :: t).Perm (b :: (s ++ t)) := List.perm_middle
    have h3 := h.trans (h2.map g)
    rw [List.map_cons, e] at h3
    obtain ⟨l'', q1, q2⟩ := perm_map_exists g h3.cons_inv
    exact ⟨b :: l'', (q1.cons b).trans h2.symm, by rw [List.map_cons, e, q2]⟩
theorem GoodN.perm {a b : Ai} (h : GoodN a) (p : b.Perm a) : GoodN b :=
  ⟨(p.map (·.1)).nodup_iff.mpr h.nodup, fun e q => h.sub e (p.mem_iff.mp q), fun e q => h.cost e (p.mem_iff.mp q)⟩
theorem iget_perm {a b : Ai} (h : (a.map (·.1)).Nodup) (p : b.Perm a) (k : Px) : iget b k = iget a k := by
  have hb : (b.map (·.1)).Nodup := (p.map (·.1)).nodup_iff.mpr h
  cases e : iget a k with
  | none =>
    have := iget_none.mp e
    exact iget_none.mpr fun m => this ((p.map (·.1)).mem_iff.mp m)
  | some c => exact (iget_mem hb).mpr (p.mem_iff.mpr ((iget_mem h).mp e))
theorem CondOk.perm {R : Rg} {rows rows' es es' : Ai} (h : CondOk R rows es) (hr : rows.Perm rows') (he : es'.Perm es) : CondOk R rows' es' := by
  refine ⟨(he.map (·.1)).nodup_iff.mpr h.nodup, fun k hk => ?_, fun k => ?_⟩
  · obtain ⟨row, m, q⟩ := h.sub k ((he.map (·.1)).mem_iff.mp hk)
    exact ⟨row, hr.mem_iff.mp m, q⟩
  · rw [iget_perm h.nodup he]
    have := h.best k
    have e : ∀ p c, Sel R rows k p c ↔ Sel R rows' k p c := fun p c => by unfold Sel; rw [hr.mem_iff]
    revert this
    cases iget es k with
    | none => exact fun hb p c q => hb p c ((e p c).mpr q)
    | some d => exact fun hb => ⟨let ⟨p, q⟩ := hb.1; ⟨p, (e _ _).mp q⟩, fun p c q => hb.2 p c ((e p c).mpr q)⟩
theorem withC_perm' {K : Ai} (hn : (K.map (·.1)).Nodup) {qs : List Px} (h : qs.Perm (K.map (·.1))) : (withC K qs).Perm K := by
  have := h.map (fun k => (k, (iget K k).getD 0)); rw [map_iget hn] at this; exact this

theorem learned_spec {R : Rg} (G : GoodR R) {nets : Ai} (N : GoodN nets) {n m : Nat} {st : St} (hn : st[n]? = some (.dT none (nets.map toTi))) (hm : st[m]? = some (.list (R.map rngV))) {Q : V → St → Prop}
    (h : ∀ st' es, st <+: st' → Told R nets es → Q (.loc st'.length) (st' ++ [.dT none (es.map toTi)])) : T_law_learned [.loc n, .loc m] st Q := by
  have nl := N.len
  ((try simp only [wS, Nat.reduceAdd, Nat.reduceLeDiff, String.reduceEq, ↓reduceIte, Int.reduceLE, Int.reduceLT, Int.reduceEq, Int.reduceToNat, Nat.reduceLT, Nat.reduceEqDiff, reduceCtorEq, T_law_learned, wb_law_learned, wDict2, wDict1, mkI2, mkS2, mkI1, wDictComp]); repeat ((with_reducible refine Mine.later ?_); try simp only [wS, Nat.reduceAdd, Nat.reduceLeDiff, String.reduceEq, ↓reduceIte, Int.reduceLE, Int.reduceLT, Int.reduceEq, Int.reduceToNat, Nat.reduceLT, Nat.reduceEqDiff, reduceCtorEq, T_law_learned, wb_law_learned, wDict2, wDict1, mkI2, mkS2, mkI1, wDictComp]))
  have hA : AreasOk (st ++ [O.dS [("stub", V.bool false), ("ranges", V.tup [])]] ++ [O.dS [("stub", V.bool false), ("ranges", V.loc m)]] ++ [O.dI [(0, V.loc st.length), (1, V.loc (st ++ [O.dS [("stub", V.bool false), ("ranges", V.tup [])]]).length)]])
      (st ++ [O.dS [("stub", V.bool false), ("ranges", V.tup [])]] ++ [O.dS [("stub", V.bool false), ("ranges", V.loc m)]]).length m := by
    refine ⟨st.length, (st ++ [O.dS [("stub", V.bool false), ("ranges", V.tup [])]]).length, last_get _ _, ?_, ?_⟩
    · exact pre_get1 _ (pre_get1 _ (last_get _ _))
    · exact pre_get1 _ (last_get _ _)
  have p0 : st <+: st ++ [O.dS [("stub", V.bool false), ("ranges", V.tup [])]] ++ [O.dS [("stub", V.bool false), ("ranges", V.loc m)]] ++ [O.dI [(0, V.loc st.length), (1, V.loc (st ++ [O.dS [("stub", V.bool false), ("ranges", V.tup [])]]).length)]] := pre_app (pre_app (pre_app (List.prefix_refl _) _) _) _
  generalize (st ++ [O.dS [("stub", V.bool false), ("ranges", V.tup [])]] ++ [O.dS [("stub", V.bool false), ("ranges", V.loc m)]] ++ [O.dI [(0, V.loc st.length), (1, V.loc (st ++ [O.dS [("stub", V.bool false), ("ranges", V.tup [])]]).length)]]) = st1 at hA p0 ⊢
  generalize (st ++ [O.dS [("stub", V.bool false), ("ranges", V.tup [])]] ++ [O.dS [("stub", V.bool false), ("ranges", V.loc m)]]).length = ar at hA ⊢
  refine rows_spec N (pre_get p0 hn) fun st2 rows p1 hrp har => ?_
  have N' := N.perm hrp
  refine iter_list (last_get _ _) ?_
  refine comp_dname (x := "row") (all := rows) rfl (fun e => e.1) rowV (fun st' p' => pre_get p' (last_get _ _)) (by have := N'.len; omega) N'.nodup ?_ ?_ ?_ ?_
  · intro a ha η' hη hx st' p' K hK
    exact hK _ p'
  · intro a ha η' hη hx st' p' K hK
    ((try simp only [wS, Nat.reduceAdd, Nat.reduceLeDiff, String.reduceEq, ↓reduceIte, Int.reduceLE, Int.reduceLT, Int.reduceEq, Int.reduceToNat, Nat.reduceLT, Nat.reduceEqDiff, reduceCtorEq, hx, rowV]); repeat ((with_reducible refine Mine.later ?_); try simp only [wS, Nat.reduceAdd, Nat.reduceLeDiff, String.reduceEq, ↓reduceIte, Int.reduceLE, Int.reduceLT, Int.reduceEq, Int.reduceToNat, Nat.reduceLT, Nat.reduceEqDiff, reduceCtorEq, hx, rowV]))
    exact hK _ p'
  · intro a ha η' hη hx st' p' K hK
    ((try simp only [wS, Nat.reduceAdd, Nat.reduceLeDiff, String.reduceEq, ↓reduceIte, Int.reduceLE, Int.reduceLT, Int.reduceEq, Int.reduceToNat, Nat.reduceLT, Nat.reduceEqDiff, reduceCtorEq, hx]); repeat ((with_reducible refine Mine.later ?_); try simp only [wS, Nat.reduceAdd, Nat.reduceLeDiff, String.reduceEq, ↓reduceIte, Int.reduceLE, Int.reduceLT, Int.reduceEq, Int.reduceToNat, Nat.reduceLT, Nat.reduceEqDiff, reduceCtorEq, hx]))
    exact hK _ p'
  intro st3 p2
  ((try simp only [wS, Nat.reduceAdd, Nat.reduceLeDiff, String.reduceEq, ↓reduceIte, Int.reduceLE, Int.reduceLT, Int.reduceEq, Int.reduceToNat, Nat.reduceLT, Nat.reduceEqDiff, reduceCtorEq, id]); repeat ((with_reducible refine Mine.later ?_); try simp only [wS, Nat.reduceAdd, Nat.reduceLeDiff, String.reduceEq, ↓reduceIte, Int.reduceLE, Int.reduceLT, Int.reduceEq, Int.reduceToNat, Nat.reduceLT, Nat.reduceEqDiff, reduceCtorEq, id]))
  have p3 : st1 <+: st3 := p1.trans ((List.prefix_append _ _).trans p2)
  have htb := pre_get1 [O.dI []] (last_get st3 (O.dT none (rows.map fun a => (a.1, rowV a))))
  have hld := last_get (st3 ++ [O.dT none (rows.map fun a => (a.1, rowV a))]) (O.dI [])
  have p4 : st1 <+: st3 ++ [O.dT none (rows.map fun a => (a.1, rowV a))] ++ [O.dI []] := pre_app (pre_app p3 _) _
  refine summaries_spec G N' (hA.pre p4) htb hld (pre_get p4 (pre_get p0 hm)) fun st4 L ps p5 hL hps hb => ?_
  have hmem : ∀ x ∈ L, x ∈ rows ∧ x.2 < 16777215 := fun x hx => by
    have := hL.mem_iff.mp hx
    unfold reach at this
    simpa using this
  have ok := cond_ok R L fun x hx => (N'.cost x (hmem x hx).1).1
  have Sb := ok.subP G fun x hx => (N'.sub x (hmem x hx).1).1
  have hcK : ∀ k ∈ (cond R L).map (·.1), costOf (cond R L) k < 16777215 := fun k hk => by
    have hb := ok.best k
    cases e : iget (cond R L) k with
    | none => exact absurd hk (iget_none.mp e)
    | some c =>
      rw [e] at hb
      obtain ⟨⟨p, q, _⟩, _⟩ := hb
      unfold costOf; rw [e]
      exact (hmem _ q).2
  have hLn : L.Perm (reach nets) := hL.trans (hrp.filter _)
  generalize cond R L = K at ok Sb hcK hps hb
  have hpn : ps.Nodup := hps.nodup_iff.mpr ok.nodup
  have hpl : ps.length ≤ 15 := by have := hps.length_eq; rw [List.length_map] at this; have := len_of_keys ok.nodup Sb; omega
  have hbk : ((bodiesV K ps).map (·.1)) = ps.map fun p => ((3 : Int), idK K p) := by unfold bodiesV; rw [List.map_map]; rfl
  have hbn : ((bodiesV K ps).map (·.1)).Nodup := by
    rw [hbk]
    refine nodup_map_on _ hpn fun a ha b hb' e => idK_inj Sb (hps.mem_iff.mp ha) (hps.mem_iff.mp hb') (congrArg Prod.snd e)
  generalize (st3 ++ [O.dT none (rows.map fun a => (a.1, rowV a))] ++ [O.dI []]) = st3' at p4 p5 hb ⊢
  ((try simp only [wS, Nat.reduceAdd, Nat.reduceLeDiff, String.reduceEq, ↓reduceIte, Int.reduceLE, Int.reduceLT, Int.reduceEq, Int.reduceToNat, Nat.reduceLT, Nat.reduceEqDiff, reduceCtorEq]); repeat ((with_reducible refine Mine.later ?_); try simp only [wS, Nat.reduceAdd, Nat.reduceLeDiff, String.reduceEq, ↓reduceIte, Int.reduceLE, Int.reduceLT, Int.reduceEq, Int.reduceToNat, Nat.reduceLT, Nat.reduceEqDiff, reduceCtorEq]))
  refine sorted_T hb hbn (by simp [bodiesV]; omega) fun ks aks hks => ?_
  rw [hbk] at hks
  obtain ⟨qs, hq1, rfl⟩ := perm_map_exists _ hks
  have hqK := hq1.trans hps
  have hqn := hq1.nodup_iff.mpr hpn
  have hql : qs.length ≤ 15 := by have := hq1.length_eq; omega
  refine iter_list (last_get _ _) ?_
  rw [List.map_map]
  have hbget : ∀ p ∈ qs, dget (bodiesV K ps) (3, idK K p) = some (bodyV (tell K p)) := fun p hp => dget_of_mem hbn (List.mem_map.mpr ⟨p, hq1.mem_iff.mp hp, rfl⟩)
  refine comp_list (all := qs) (st0 := st4 ++ [O.list ((qs.map fun p => ((3 : Int), idK K p)).map keyT)]) (fun η => η "bodies" = some (.loc st3'.length)) (fun a η => η "kind" = some (.int 3) ∧ η "number" = some (.int (idK K a))) (fun _ => true) (fun p => lineV (tell K p))
    (fun st' p' => by rw [← List.map_map]; exact pre_get p' (last_get _ _)) ?_ ?_ ?_ qs [] _ _ _ (fun _ h => h) (by simp; omega) rfl (by rw [← List.map_map]; exact List.prefix_refl _) ?_
  · intro a ha η' j Kq hKq
    refine ⟨[.int 3, .int (idK K a)], rfl, rfl, hKq _ ?_ ⟨?_, ?_⟩⟩
    all_goals ((try simp only [wS, Nat.reduceAdd, Nat.reduceLeDiff, String.reduceEq, ↓reduceIte, Int.reduceLE, Int.reduceLT, Int.reduceEq, Int.reduceToNat, Nat.reduceLT, Nat.reduceEqDiff, reduceCtorEq, j]); repeat ((with_reducible refine Mine.later ?_); try simp only [wS, Nat.reduceAdd, Nat.reduceLeDiff, String.reduceEq, ↓reduceIte, Int.reduceLE, Int.reduceLT, Int.reduceEq, Int.reduceToNat, Nat.reduceLT, Nat.reduceEqDiff, reduceCtorEq, j]))
  · intro a ha η' j b st' p' Kq hKq
    exact hKq _ p'
  · intro a ha _ η' j b st' p' Kq hKq
    ((try simp only [wS, Nat.reduceAdd, Nat.reduceLeDiff, String.reduceEq, ↓reduceIte, Int.reduceLE, Int.reduceLT, Int.reduceEq, Int.reduceToNat, Nat.reduceLT, Nat.reduceEqDiff, reduceCtorEq, j, b.1, b.2]); repeat ((with_reducible refine Mine.later ?_); try simp only [wS, Nat.reduceAdd, Nat.reduceLeDiff, String.reduceEq, ↓reduceIte, Int.reduceLE, Int.reduceLT, Int.reduceEq, Int.reduceToNat, Nat.reduceLT, Nat.reduceEqDiff, reduceCtorEq, j, b.1, b.2]))
    refine item_T (k := (3, idK K a)) (pre_get p' (pre_get1 _ hb)) (hbget a ha) ?_
    exact hKq _ p'
  intro st5 p6
  rw [List.filter_eq_self.mpr (fun _ _ => rfl)]
  ((try simp only [wS, Nat.reduceAdd, Nat.reduceLeDiff, String.reduceEq, ↓reduceIte, Int.reduceLE, Int.reduceLT, Int.reduceEq, Int.reduceToNat, Nat.reduceLT, Nat.reduceEqDiff, reduceCtorEq, id, List.nil_append, wDict1, mkI1]); repeat ((with_reducible refine Mine.later ?_); try simp only [wS, Nat.reduceAdd, Nat.reduceLeDiff, String.reduceEq, ↓reduceIte, Int.reduceLE, Int.reduceLT, Int.reduceEq, Int.reduceToNat, Nat.reduceLT, Nat.reduceEqDiff, reduceCtorEq, id, List.nil_append, wDict1, mkI1]))
  have hlines := pre_get1 [O.dI [(5, V.tup [V.int 2, V.tup [V.int 9], V.int 1])]] (last_get st5 (O.list (qs.map fun p => lineV (tell K p))))
  have hent := last_get (st5 ++ [O.list (qs.map fun p => lineV (tell K p))]) (O.dI [(5, V.tup [V.int 2, V.tup [V.int 9], V.int 1])])
  have p7 : st <+: st5 ++ [O.list (qs.map fun p => lineV (tell K p))] ++ [O.dI [(5, V.tup [V.int 2, V.tup [V.int 9], V.int 1])]] :=
    pre_app (pre_app (p0.trans (p4.trans (p5.trans ((List.prefix_append _ _).trans p6)))) _) _
  generalize st5 ++ [O.list (qs.map fun p => lineV (tell K p))] ++ [O.dI [(5, V.tup [V.int 2, V.tup [V.int 9], V.int 1])]] = st6 at hlines hent p7 ⊢
  generalize (st5 ++ [O.list (qs.map fun p => lineV (tell K p))]).length = el at hent ⊢
  refine inter_spec (xs := qs.map (tell K)) ?_ (by simpa using hql) ?_ ?_ (by rw [hlines, List.map_map]; rfl) hent fun st7 p8 hfd => ?_
  · intro x hx
    obtain ⟨p, hp, rfl⟩ := List.mem_map.mp hx
    exact hcK p (hqK.mem_iff.mp hp)
  · intro x hx
    obtain ⟨p, hp, rfl⟩ := List.mem_map.mp hx
    have hpa := Sb p (hqK.mem_iff.mp hp)
    have := len_bd p hpa
    exact ⟨this.1, by show p.2 ≤ 4; omega, idK_pat hpa⟩
  · rw [List.map_map]; exact (List.map_id qs).symm ▸ hqn
  rw [List.map_map] at hfd
  ((try simp only [wS, Nat.reduceAdd, Nat.reduceLeDiff, String.reduceEq, ↓reduceIte, Int.reduceLE, Int.reduceLT, Int.reduceEq, Int.reduceToNat, Nat.reduceLT, Nat.reduceEqDiff, reduceCtorEq]); repeat ((with_reducible refine Mine.later ?_); try simp only [wS, Nat.reduceAdd, Nat.reduceLeDiff, String.reduceEq, ↓reduceIte, Int.reduceLE, Int.reduceLT, Int.reduceEq, Int.reduceToNat, Nat.reduceLT, Nat.reduceEqDiff, reduceCtorEq]))
  refine iter_dict hfd fun ep => ?_
  have hk : ((qs.map (foundV ∘ tell K)).map fun p => keyT p.1) = qs.map keyT := by rw [List.map_map]; rfl
  rw [hk]
  have hfg : ∀ p ∈ qs, dget (qs.map (foundV ∘ tell K)) p = some (bestV (2 + costOf K p)) := fun p hp => dget_of_mem (by rw [List.map_map]; exact (List.map_id qs).symm ▸ hqn) (List.mem_map.mpr ⟨p, hp, rfl⟩)
  refine comp_dname (x := "prefix") (rep := keyT) (all := qs) rfl (fun p => p) (fun p => .int (costOf K p)) (fun st' p' => pre_get p' (set_eq hfd)) (by omega) (by simpa using hqn) ?_ ?_ ?_ ?_
  · intro a ha η' hη hx st' p' Kq hKq
    have g1 : η' "found" = some (.loc st6.length) := by rw [hη _ (by decide)]; ((try simp only [wS, Nat.reduceAdd, Nat.reduceLeDiff, String.reduceEq, ↓reduceIte, Int.reduceLE, Int.reduceLT, Int.reduceEq, Int.reduceToNat, Nat.reduceLT, Nat.reduceEqDiff, reduceCtorEq]); repeat ((with_reducible refine Mine.later ?_); try simp only [wS, Nat.reduceAdd, Nat.reduceLeDiff, String.reduceEq, ↓reduceIte, Int.reduceLE, Int.reduceLT, Int.reduceEq, Int.reduceToNat, Nat.reduceLT, Nat.reduceEqDiff, reduceCtorEq]))
    ((try simp only [wS, Nat.reduceAdd, Nat.reduceLeDiff, String.reduceEq, ↓reduceIte, Int.reduceLE, Int.reduceLT, Int.reduceEq, Int.reduceToNat, Nat.reduceLT, Nat.reduceEqDiff, reduceCtorEq, hx, g1]); repeat ((with_reducible refine Mine.later ?_); try simp only [wS, Nat.reduceAdd, Nat.reduceLeDiff, String.reduceEq, ↓reduceIte, Int.reduceLE, Int.reduceLT, Int.reduceEq, Int.reduceToNat, Nat.reduceLT, Nat.reduceEqDiff, reduceCtorEq, hx, g1]))
    refine item_T (k := a) (pre_get p' (set_eq hfd)) (hfg a ha) ?_
    ((try simp only [wS, Nat.reduceAdd, Nat.reduceLeDiff, String.reduceEq, ↓reduceIte, Int.reduceLE, Int.reduceLT, Int.reduceEq, Int.reduceToNat, Nat.reduceLT, Nat.reduceEqDiff, reduceCtorEq, bestV]); repeat ((with_reducible refine Mine.later ?_); try simp only [wS, Nat.reduceAdd, Nat.reduceLeDiff, String.reduceEq, ↓reduceIte, Int.reduceLE, Int.reduceLT, Int.reduceEq, Int.reduceToNat, Nat.reduceLT, Nat.reduceEqDiff, reduceCtorEq, bestV]))
    refine ⟨[9], [9], rfl, rfl, ?_⟩
    ((try simp only [wS, Nat.reduceAdd, Nat.reduceLeDiff, String.reduceEq, ↓reduceIte, Int.reduceLE, Int.reduceLT, Int.reduceEq, Int.reduceToNat, Nat.reduceLT, Nat.reduceEqDiff, reduceCtorEq]); repeat ((with_reducible refine Mine.later ?_); try simp only [wS, Nat.reduceAdd, Nat.reduceLeDiff, String.reduceEq, ↓reduceIte, Int.reduceLE, Int.reduceLT, Int.reduceEq, Int.reduceToNat, Nat.reduceLT, Nat.reduceEqDiff, reduceCtorEq]))
    exact hKq _ p'
  · intro a ha η' hη hx st' p' Kq hKq
    ((try simp only [wS, Nat.reduceAdd, Nat.reduceLeDiff, String.reduceEq, ↓reduceIte, Int.reduceLE, Int.reduceLT, Int.reduceEq, Int.reduceToNat, Nat.reduceLT, Nat.reduceEqDiff, reduceCtorEq, hx]); repeat ((with_reducible refine Mine.later ?_); try simp only [wS, Nat.reduceAdd, Nat.reduceLeDiff, String.reduceEq, ↓reduceIte, Int.reduceLE, Int.reduceLT, Int.reduceEq, Int.reduceToNat, Nat.reduceLT, Nat.reduceEqDiff, reduceCtorEq, hx]))
    exact hKq _ p'
  · intro a ha η' hη hx st' p' Kq hKq
    have g1 : η' "found" = some (.loc st6.length) := by rw [hη _ (by decide)]; ((try simp only [wS, Nat.reduceAdd, Nat.reduceLeDiff, String.reduceEq, ↓reduceIte, Int.reduceLE, Int.reduceLT, Int.reduceEq, Int.reduceToNat, Nat.reduceLT, Nat.reduceEqDiff, reduceCtorEq]); repeat ((with_reducible refine Mine.later ?_); try simp only [wS, Nat.reduceAdd, Nat.reduceLeDiff, String.reduceEq, ↓reduceIte, Int.reduceLE, Int.reduceLT, Int.reduceEq, Int.reduceToNat, Nat.reduceLT, Nat.reduceEqDiff, reduceCtorEq]))
    ((try simp only [wS, Nat.reduceAdd, Nat.reduceLeDiff, String.reduceEq, ↓reduceIte, Int.reduceLE, Int.reduceLT, Int.reduceEq, Int.reduceToNat, Nat.reduceLT, Nat.reduceEqDiff, reduceCtorEq, hx, g1]); repeat ((with_reducible refine Mine.later ?_); try simp only [wS, Nat.reduceAdd, Nat.reduceLeDiff, String.reduceEq, ↓reduceIte, Int.reduceLE, Int.reduceLT, Int.reduceEq, Int.reduceToNat, Nat.reduceLT, Nat.reduceEqDiff, reduceCtorEq, hx, g1]))
    refine item_T (k := a) (pre_get p' (set_eq hfd)) (hfg a ha) ?_
    ((try simp only [wS, Nat.reduceAdd, Nat.reduceLeDiff, String.reduceEq, ↓reduceIte, Int.reduceLE, Int.reduceLT, Int.reduceEq, Int.reduceToNat, Nat.reduceLT, Nat.reduceEqDiff, reduceCtorEq, bestV, op_sub]); repeat ((with_reducible refine Mine.later ?_); try simp only [wS, Nat.reduceAdd, Nat.reduceLeDiff, String.reduceEq, ↓reduceIte, Int.reduceLE, Int.reduceLT, Int.reduceEq, Int.reduceToNat, Nat.reduceLT, Nat.reduceEqDiff, reduceCtorEq, bestV, op_sub]))
    rw [show (2 + costOf K a - 2) = costOf K a by omega]
    exact hKq _ p'
  intro st8 p9
  have p10 := unlock hfd p9
  ((try simp only [wS, Nat.reduceAdd, Nat.reduceLeDiff, String.reduceEq, ↓reduceIte, Int.reduceLE, Int.reduceLT, Int.reduceEq, Int.reduceToNat, Nat.reduceLT, Nat.reduceEqDiff, reduceCtorEq]); repeat ((with_reducible refine Mine.later ?_); try simp only [wS, Nat.reduceAdd, Nat.reduceLeDiff, String.reduceEq, ↓reduceIte, Int.reduceLE, Int.reduceLT, Int.reduceEq, Int.reduceToNat, Nat.reduceLT, Nat.reduceEqDiff, reduceCtorEq]))
  have hT : Told R nets (withC K qs) := ok.perm hLn (withC_perm' ok.nodup hqK)
  have := h _ _ (p7.trans (p8.trans p10)) hT
  have e : (withC K qs).map toTi = qs.map fun a => (a, V.int (costOf K a)) := by unfold withC; rw [List.map_map]; rfl
  rw [e] at this
  exact this
end Mine
end

section -- L17
set_option autoImplicit false
set_option linter.unusedVariables false
set_option linter.unusedSimpArgs false
set_option maxRecDepth 100000
namespace Mine

abbrev Fz := Nat × Obj × List V
structure BoxOk (st : St) (bx sl : Nat) (fz : Fz) (k : Int) : Prop where
  b : ∃ spot ws, st[bx]? = some (.list [.loc sl, .int spot]) ∧ st[sl]? = some (.list (List.map V.int ws)) ∧ 0 ≤ spot ∧ spot ≤ k ∧ ws.length ≤ 1000 ∧ bx ≠ sl
  fz : st[fz.1]? = some (.fro fz.2.1 fz.2.2)
theorem BoxOk.pre {st st' : St} {bx sl : Nat} {fz : Fz} {k : Int} (h : BoxOk st bx sl fz k) (p : st <+: st') : BoxOk st' bx sl fz k := by
  obtain ⟨spot, ws, h1, h2, h3, h4, h5, h6⟩ := h.b
  exact ⟨⟨spot, ws, pre_get p h1, pre_get p h2, h3, h4, h5, h6⟩, pre_get p h.fz⟩
theorem BoxOk.mono {st : St} {bx sl : Nat} {fz : Fz} {k k' : Int} (h : BoxOk st bx sl fz k) (l : k ≤ k') : BoxOk st bx sl fz k' := by
  obtain ⟨spot, ws, h1, h2, h3, h4, h5, h6⟩ := h.b
  exact ⟨⟨spot, ws, h1, h2, h3, by omega, h5, h6⟩, h.fz⟩
/-- another object is set -/
theorem BoxOk.other {st : St} {bx sl : Nat} {fz : Fz} {k : Int} (h : BoxOk st bx sl fz k) {n : Nat} {o o' : O} (g : st[n]? = some o) (ho : ∀ ob vs, o ≠ .fro ob vs) (hn : n ≠ bx) (hs : n ≠ sl) : BoxOk (st.set n o') bx sl fz k := by
  obtain ⟨spot, ws, h1, h2, h3, h4, h5, h6⟩ := h.b
  refine ⟨⟨spot, ws, set_ne h1 hn, set_ne h2 hs, h3, h4, h5, h6⟩, set_ne h.fz fun e => ?_⟩
  subst e; have := h.fz; rw [g] at this; cases this; exact ho _ _ rfl
theorem BoxOk.ne {st : St} {bx sl : Nat} {fz : Fz} {k : Int} (h : BoxOk st bx sl fz k) {n : Nat} {lk : Option Nat} {es : List (Px × V)} (g : st[n]? = some (.dT lk es)) : n ≠ bx ∧ n ≠ sl := by
  obtain ⟨spot, ws, h1, h2, h3, h4, h5, h6⟩ := h.b
  constructor
  · intro e; subst e; rw [g] at h1; cases h1
  · intro e; subst e; rw [g] at h2; cases h2

theorem draw_spec {st : St} {bx sl : Nat} {fz : Fz} {k many : Int} (B : BoxOk st bx sl fz k) (hk : k ≤ 900) (hm : 0 < many) {Q : V → St → Prop} (h : ∀ c o, 0 ≤ c → c < many → BoxOk (st.set bx o) bx sl fz (k + 1) → Q (.int c) (st.set bx o)) : T_law_draw [.loc bx, .int many] st Q := by
  obtain ⟨spot, ws, h1, h2, h3, h4, h5, h6⟩ := B.b
  ((try simp only [wS, Nat.reduceAdd, Nat.reduceLeDiff, String.reduceEq, ↓reduceIte, Int.reduceLE, Int.reduceLT, Int.reduceEq, Int.reduceToNat, Nat.reduceLT, Nat.reduceEqDiff, reduceCtorEq, T_law_draw, wb_law_draw]); repeat ((with_reducible refine Mine.later ?_); try simp only [wS, Nat.reduceAdd, Nat.reduceLeDiff, String.reduceEq, ↓reduceIte, Int.reduceLE, Int.reduceLT, Int.reduceEq, Int.reduceToNat, Nat.reduceLT, Nat.reduceEqDiff, reduceCtorEq, T_law_draw, wb_law_draw]))
  refine item_L (v := .int spot) (by decide) (by decide) h1 rfl ?_
  ((try simp only [wS, Nat.reduceAdd, Nat.reduceLeDiff, String.reduceEq, ↓reduceIte, Int.reduceLE, Int.reduceLT, Int.reduceEq, Int.reduceToNat, Nat.reduceLT, Nat.reduceEqDiff, reduceCtorEq, op_add]); repeat ((with_reducible refine Mine.later ?_); try simp only [wS, Nat.reduceAdd, Nat.reduceLeDiff, String.reduceEq, ↓reduceIte, Int.reduceLE, Int.reduceLT, Int.reduceEq, Int.reduceToNat, Nat.reduceLT, Nat.reduceEqDiff, reduceCtorEq, op_add]))
  refine .inl ⟨1, [.loc sl, .int spot], rfl, by decide, by simp, by simp, h1, ?_⟩
  have hb : (st.set bx (.list ([V.loc sl, V.int spot].set (Int.toNat 1) (V.int (spot + 1)))))[bx]? = some (.list [.loc sl, .int (spot + 1)]) := set_eq h1
  have hs := set_ne (o' := O.list ([V.loc sl, V.int spot].set (Int.toNat 1) (V.int (spot + 1)))) h2 h6
  have hB : BoxOk (st.set bx (.list ([V.loc sl, V.int spot].set (Int.toNat 1) (V.int (spot + 1))))) bx sl fz (k + 1) := ⟨⟨spot + 1, ws, hb, hs, by omega, by omega, h5, h6⟩, set_ne B.fz fun e => by have := B.fz; rw [← e, h1] at this; cases this⟩
  have hQ : ∀ a : Int, Q (.int (a.fmod many)) (st.set bx (.list ([V.loc sl, V.int spot].set (Int.toNat 1) (V.int (spot + 1))))) := fun a => h _ _ (Int.fmod_nonneg_of_pos a hm) (Int.fmod_lt_of_pos a hm) hB
  generalize st.set bx (.list ([V.loc sl, V.int spot].set (Int.toNat 1) (V.int (spot + 1)))) = st1 at hb hs hQ
  ((try simp only [wS, Nat.reduceAdd, Nat.reduceLeDiff, String.reduceEq, ↓reduceIte, Int.reduceLE, Int.reduceLT, Int.reduceEq, Int.reduceToNat, Nat.reduceLT, Nat.reduceEqDiff, reduceCtorEq]); repeat ((with_reducible refine Mine.later ?_); try simp only [wS, Nat.reduceAdd, Nat.reduceLeDiff, String.reduceEq, ↓reduceIte, Int.reduceLE, Int.reduceLT, Int.reduceEq, Int.reduceToNat, Nat.reduceLT, Nat.reduceEqDiff, reduceCtorEq]))
  refine item_L (v := .loc sl) (by decide) (by decide) hb rfl ?_
  ((try simp only [wS, Nat.reduceAdd, Nat.reduceLeDiff, String.reduceEq, ↓reduceIte, Int.reduceLE, Int.reduceLT, Int.reduceEq, Int.reduceToNat, Nat.reduceLT, Nat.reduceEqDiff, reduceCtorEq, wLen_l]); repeat ((with_reducible refine Mine.later ?_); try simp only [wS, Nat.reduceAdd, Nat.reduceLeDiff, String.reduceEq, ↓reduceIte, Int.reduceLE, Int.reduceLT, Int.reduceEq, Int.reduceToNat, Nat.reduceLT, Nat.reduceEqDiff, reduceCtorEq, wLen_l]))
  refine .inl ⟨_, hs, by simpa using h5, ?_⟩
  rw [List.length_map]
  have m1 : intOp .Mult 5 spot = some (5 * spot) := op_mul (by omega)
  have m2 : intOp .Mult spot spot = some (spot * spot) := op_mul (by omega)
  have d1 : intOp .FloorDiv (spot * spot) 3 = some ((spot * spot).fdiv 3) := op_div (by decide) (by decide)
  have md : ∀ a, intOp .Mod a many = some (a.fmod many) := fun a => op_mod (by omega)
  by_cases q : spot < (ws.length : Int)
  · ((try simp only [wS, Nat.reduceAdd, Nat.reduceLeDiff, String.reduceEq, ↓reduceIte, Int.reduceLE, Int.reduceLT, Int.reduceEq, Int.reduceToNat, Nat.reduceLT, Nat.reduceEqDiff, reduceCtorEq, decide_eq_true q]); repeat ((with_reducible refine Mine.later ?_); try simp only [wS, Nat.reduceAdd, Nat.reduceLeDiff, String.reduceEq, ↓reduceIte, Int.reduceLE, Int.reduceLT, Int.reduceEq, Int.reduceToNat, Nat.reduceLT, Nat.reduceEqDiff, reduceCtorEq, decide_eq_true q]))
    refine item_L (v := .loc sl) (by decide) (by decide) hb rfl ?_
    have hlt : spot.toNat < ws.length := by omega
    refine item_L (v := .int ws[spot.toNat]) h3 (by omega) hs (by simp [hlt]) ?_
    ((try simp only [wS, Nat.reduceAdd, Nat.reduceLeDiff, String.reduceEq, ↓reduceIte, Int.reduceLE, Int.reduceLT, Int.reduceEq, Int.reduceToNat, Nat.reduceLT, Nat.reduceEqDiff, reduceCtorEq, wAbs_i, md]); repeat ((with_reducible refine Mine.later ?_); try simp only [wS, Nat.reduceAdd, Nat.reduceLeDiff, String.reduceEq, ↓reduceIte, Int.reduceLE, Int.reduceLT, Int.reduceEq, Int.reduceToNat, Nat.reduceLT, Nat.reduceEqDiff, reduceCtorEq, wAbs_i, md]))
    exact hQ _
  · ((try simp only [wS, Nat.reduceAdd, Nat.reduceLeDiff, String.reduceEq, ↓reduceIte, Int.reduceLE, Int.reduceLT, Int.reduceEq, Int.reduceToNat, Nat.reduceLT, Nat.reduceEqDiff, reduceCtorEq, decide_eq_false q, m1, m2, d1, op_add, md]); repeat ((with_reducible refine Mine.later ?_); try simp only [wS, Nat.reduceAdd, Nat.reduceLeDiff, String.reduceEq, ↓reduceIte, Int.reduceLE, Int.reduceLT, Int.reduceEq, Int.reduceToNat, Nat.reduceLT, Nat.reduceEqDiff, reduceCtorEq, decide_eq_false q, m1, m2, d1, op_add, md]))
    exact hQ _

theorem px_mk : ∀ l ∈ ([0, 1, 2, 3] : List Int), ∀ c ∈ ([0, 1, 2, 3, 4, 5, 6, 7] : List Int), c < 2 ^ l.toNat → (c * 2 ^ (4 - l).toNat, l) ∈ allP := by decide +kernel
theorem prefix_spec {st : St} {bx sl : Nat} {fz : Fz} {k l : Int} (B : BoxOk st bx sl fz k) (hk : k ≤ 900) (h0 : 0 ≤ l) (h3 : l ≤ 3) {Q : V → St → Prop} (h : ∀ (p : Px) o, p ∈ allP → p.2 = l → BoxOk (st.set bx o) bx sl fz (k + 1) → Q (keyT p) (st.set bx o)) : T_law_prefix [.loc bx, .int l] st Q := by
  have e1 : intOp .Pow 2 l = some (2 ^ l.toNat) := op_pow h0 (by omega) (by decide)
  have e2 : intOp .Pow 2 (4 - l) = some (2 ^ (4 - l).toNat) := op_pow (by omega) (by omega) (by decide)
  have hl : l = 0 ∨ l = 1 ∨ l = 2 ∨ l = 3 := by omega
  have hl' : l ∈ ([0, 1, 2, 3] : List Int) := by rcases hl with e | e | e | e <;> rw [e] <;> decide
  have e3 : ∀ c, intOp .Mult c (2 ^ (4 - l).toNat) = some (c * 2 ^ (4 - l).toNat) := fun c => op_mul (by rcases hl with e | e | e | e <;> rw [e] <;> decide)
  have hp : 0 < (2 : Int) ^ l.toNat := by rcases hl with e | e | e | e <;> rw [e] <;> decide
  have h8 : (2 : Int) ^ l.toNat ≤ 8 := by rcases hl with e | e | e | e <;> rw [e] <;> decide
  ((try simp only [wS, Nat.reduceAdd, Nat.reduceLeDiff, String.reduceEq, ↓reduceIte, Int.reduceLE, Int.reduceLT, Int.reduceEq, Int.reduceToNat, Nat.reduceLT, Nat.reduceEqDiff, reduceCtorEq, T_law_prefix, wb_law_prefix, e1]); repeat ((with_reducible refine Mine.later ?_); try simp only [wS, Nat.reduceAdd, Nat.reduceLeDiff, String.reduceEq, ↓reduceIte, Int.reduceLE, Int.reduceLT, Int.reduceEq, Int.reduceToNat, Nat.reduceLT, Nat.reduceEqDiff, reduceCtorEq, T_law_prefix, wb_law_prefix, e1]))
  refine draw_spec B hk hp fun c o c0 c1 B' => ?_
  ((try simp only [wS, Nat.reduceAdd, Nat.reduceLeDiff, String.reduceEq, ↓reduceIte, Int.reduceLE, Int.reduceLT, Int.reduceEq, Int.reduceToNat, Nat.reduceLT, Nat.reduceEqDiff, reduceCtorEq, op_sub, e2, e3]); repeat ((with_reducible refine Mine.later ?_); try simp only [wS, Nat.reduceAdd, Nat.reduceLeDiff, String.reduceEq, ↓reduceIte, Int.reduceLE, Int.reduceLT, Int.reduceEq, Int.reduceToNat, Nat.reduceLT, Nat.reduceEqDiff, reduceCtorEq, op_sub, e2, e3]))
  refine h (c * 2 ^ (4 - l).toNat, l) o (px_mk l hl' c ?_ c1) rfl B'
  have : c = 0 ∨ c = 1 ∨ c = 2 ∨ c = 3 ∨ c = 4 ∨ c = 5 ∨ c = 6 ∨ c = 7 := by omega
  rcases this with e | e | e | e | e | e | e | e <;> rw [e] <;> decide
end Mine
end

section -- L18
set_option autoImplicit false
set_option linter.unusedVariables false
set_option linter.unusedSimpArgs false
set_option maxRecDepth 100000
namespace Mine

noncomputable def wb_tail : WS := (wSeq (wAssignT ["before", "told"] (wTup (wCons (wVar "told") (wCons (wArgs (wCons (wVar "nets") (wCons (wVar "ranges") wNil)) T_law_learned) wNil)))) (wLater (wIfS (wNot (wTest (wArgs (wCons (wVar "before") (wCons (wVar "told") (wCons (wVar "prefix") (wCons (wVar "nets") (wCons (wVar "ranges") wNil))))) T_law_turned_right))) (wLater (wRet (wConst (.bool false)))) wSkip)))
noncomputable def wb_turn2 : WS := (wSeq (wAssignT ["prefix", "cost"] (wTup (wCons (wArgs (wCons (wVar "box") (wCons (wBin .Add (wConst (.int 1)) (wArgs (wCons (wVar "box") (wCons (wConst (.int 3)) wNil)) T_law_draw)) wNil)) T_law_prefix) (wCons (wItem (wTup (wCons (wConst (.int 1)) (wCons (wConst (.int 3)) (wCons (wConst (.int 4)) (wCons (wConst (.int 7)) wNil))))) (wArgs (wCons (wVar "box") (wCons (wConst (.int 4)) wNil)) T_law_draw)) wNil)))) (wLater (wSeq (wIfS (wAndB (wTest (wCmp .Gt (wVar "form") (wConst (.int 2)))) (wAndB (wTest (wCmp .NotEq (wVar "nets") (wEmptyDict (.dT none [])))) (wConstB true))) (wLater (wSeq (wAssign "prefix" (wItem (wArgs (wCons (wVar "nets") wNil) (wSorted false)) (wArgs (wCons (wVar "box") (wCons (wArgs (wCons (wVar "nets") wNil) wLen) wNil)) T_law_draw))) (wLater (wExprS (wMeth recvD (wVar "nets") (wCons (wVar "prefix") wNil) wPop1))))) (wLater (wSetItem (wIf (wTest (wCmp .Gt (wVar "form") (wConst (.int 0)))) (wVar "cost") (wConst (.int 16777215))) (wVar "nets") (wVar "prefix")))) (wLater wb_tail))))
noncomputable def wb_turn : WS := (wSeq (wAssign "form" (wIf (wTest (wCmp .Gt (wVar "turn") (wConst (.int 2)))) (wArgs (wCons (wVar "box") (wCons (wConst (.int 5)) wNil)) T_law_draw) (wConst (.int 1)))) (wLater wb_turn2))
noncomputable def wb_l3 : WS := (wSeq (wAssign "rows" (wListComp (wArgs (wCons (wVar "nets") wNil) T_law_rows) [] (tName "row") (wTest (wCmp .Lt (wItem (wVar "row") (wConst (.int 2))) (wConst (.int 16777215)))) (wVar "row"))) (wLater (wSeq (wIfS (wTest (wCmp .Eq (wVar "rows") (wList wNil))) (wLater (wRet (wCmp .Eq (wVar "told") (wEmptyDict (.dT none []))))) wSkip) (wLater (wSeq (wIfS (wNot (wTest (wArgs (wCons (wVar "rows") (wCons (wBin .Add (wConst (.int 1)) (wArgs (wCons (wVar "box") (wCons (wConst (.int 3)) wNil)) T_law_draw)) (wCons (wVar "ranges") (wCons (wVar "told") wNil)))) T_law_lots_right))) (wLater (wRet (wConst (.bool false)))) wSkip) (wLater (wSeq (wAssign "base" (wItem (wItem (wVar "rows") (wArgs (wCons (wVar "box") (wCons (wArgs (wCons (wVar "rows") wNil) wLen) wNil)) T_law_draw)) (wConst (.int 0)))) (wLater (wSeq (wAssign "length" (wBin .Add (wConst (.int 1)) (wArgs (wCons (wVar "box") (wCons (wItem (wVar "base") (wConst (.int 1))) wNil)) T_law_draw))) (wLater (wSeq (wAssign "further" (wTup (wCons (wBin .Mult (wBin .FloorDiv (wItem (wVar "base") (wConst (.int 0))) (wBin .Pow (wConst (.int 2)) (wBin .Sub (wConst (.int 4)) (wVar "length")))) (wBin .Pow (wConst (.int 2)) (wBin .Sub (wConst (.int 4)) (wVar "length")))) (wCons (wVar "length") wNil)))) (wLater (wSeq (wIfS (wTest (wCmp .In (wVar "further") (wArgs (wCons (wVar "ranges") wNil) wDictC))) (wLater (wAssign "further" (wVar "base"))) wSkip) (wLater (wRet (wOrE (wCmp .In (wVar "further") (wArgs (wCons (wVar "ranges") wNil) wDictC)) (wArgs (wCons (wVar "rows") (wCons (wVar "further") (wCons (wVar "ranges") (wCons (wVar "told") wNil)))) T_law_further_right)))))))))))))))))
noncomputable def wb_l2 : WS := (wSeq (wForR (wConst (.int 7)) (tName "turn") wb_turn) (wLater wb_l3))
noncomputable def wb_l1 : WS := (wSeq (wForR (wBin .Add (wConst (.int 2)) (wArgs (wCons (wVar "box") (wCons (wConst (.int 2)) wNil)) T_law_draw)) (tName "turn") (wSeq (wAssignT ["wide", "is_shown"] (wTup (wCons (wArgs (wCons (wVar "box") (wCons (wArgs (wCons (wVar "box") (wCons (wConst (.int 4)) wNil)) T_law_draw) wNil)) T_law_prefix) (wCons (wCmp .Gt (wArgs (wCons (wVar "box") (wCons (wConst (.int 4)) wNil)) T_law_draw) (wConst (.int 0))) wNil)))) (wLater (wIfS (wTest (wCmp .NotIn (wVar "wide") (wArgs (wCons (wVar "ranges") wNil) wDictC))) (wLater (wExprS (wMeth recvL (wVar "ranges") (wCons (wTup (wCons (wVar "wide") (wCons (wVar "is_shown") wNil))) wNil) wAppend))) wSkip)))) (wLater wb_l2))
theorem law_split : wb_law = (wSeq (wAssignT ["box", "ranges", "nets", "told"] (wTup (wCons (wList (wCons (wArgs (wCons (wTake (wVar "script") (wConst (.int 48))) wNil) wListC) (wCons (wConst (.int 0)) wNil))) (wCons (wList wNil) (wCons (wEmptyDict (.dT none [])) (wCons (wEmptyDict (.dT none [])) wNil)))))) (wLater wb_l1)) := rfl

structure LawI (R : Rg) (nets told : Ai) (bx sl : Nat) (fz : Fz) (rg nt td : Nat) (k : Int) (η : AE) (st : St) : Prop where
  N : GoodN nets
  T : Told R nets told
  B : BoxOk st bx sl fz k
  rb : rg ≠ bx
  ntd : nt ≠ td
  hr : st[rg]? = some (.list (R.map rngV))
  hn : st[nt]? = some (.dT none (nets.map toTi))
  ht : st[td]? = some (.dT none (told.map toTi))
  e1 : η "box" = some (.loc bx)
  e2 : η "ranges" = some (.loc rg)
  e3 : η "nets" = some (.loc nt)
  e4 : η "told" = some (.loc td)

theorem tail_spec {R : Rg} (G : GoodR R) {nets0 nets told : Ai} (N0 : GoodN nets0) (T0 : Told R nets0 told) {p : Px} (hp : p ∈ allP) (hd : ∀ q c, q ≠ p → ((q, c) ∈ nets0 ↔ (q, c) ∈ nets)) (N : GoodN nets)
    {bx sl : Nat} {fz : Fz} {rg nt td : Nat} {k : Int} {η : AE} {st : St} (B : BoxOk st bx sl fz k) (rb : rg ≠ bx) (hr : st[rg]? = some (.list (R.map rngV))) (hn : st[nt]? = some (.dT none (nets.map toTi))) (ht : st[td]? = some (.dT none (told.map toTi)))
    (e1 : η "box" = some (.loc bx)) (e2 : η "ranges" = some (.loc rg)) (e3 : η "nets" = some (.loc nt)) (e4 : η "told" = some (.loc td)) (e5 : η "prefix" = some (keyT p)) {Q : Fl → AE → St → Prop}
    (h : ∀ td' told' η' st', LawI R nets told' bx sl fz rg nt td' k η' st' → Q .next η' st') : wb_tail η st Q := by
  ((try simp only [wS, Nat.reduceAdd, Nat.reduceLeDiff, String.reduceEq, ↓reduceIte, Int.reduceLE, Int.reduceLT, Int.reduceEq, Int.reduceToNat, Nat.reduceLT, Nat.reduceEqDiff, reduceCtorEq, wb_tail, e2, e3, e4]); repeat ((with_reducible refine Mine.later ?_); try simp only [wS, Nat.reduceAdd, Nat.reduceLeDiff, String.reduceEq, ↓reduceIte, Int.reduceLE, Int.reduceLT, Int.reduceEq, Int.reduceToNat, Nat.reduceLT, Nat.reduceEqDiff, reduceCtorEq, wb_tail, e2, e3, e4]))
  refine learned_spec G N hn hr fun st1 es p1 T => ?_
  ((try simp only [wS, Nat.reduceAdd, Nat.reduceLeDiff, String.reduceEq, ↓reduceIte, Int.reduceLE, Int.reduceLT, Int.reduceEq, Int.reduceToNat, Nat.reduceLT, Nat.reduceEqDiff, reduceCtorEq, e2, e3, e5]); repeat ((with_reducible refine Mine.later ?_); try simp only [wS, Nat.reduceAdd, Nat.reduceLeDiff, String.reduceEq, ↓reduceIte, Int.reduceLE, Int.reduceLT, Int.reduceEq, Int.reduceToNat, Nat.reduceLT, Nat.reduceEqDiff, reduceCtorEq, e2, e3, e5]))
  have p2 : st <+: st1 ++ [O.dT none (es.map toTi)] := pre_app p1 _
  have hl := last_get st1 (O.dT none (es.map toTi))
  have hnl : nt ≠ st1.length := by have := lt_of_get hn; have := pre_len p1; omega
  generalize st1 ++ [O.dT none (es.map toTi)] = st2 at p2 hl
  refine turned_spec G hp N0 N T0 T hd (pre_get p2 ht) hl (pre_get p2 hn) (pre_get p2 hr) fun st3 p3 => ?_
  ((try simp only [wS, Nat.reduceAdd, Nat.reduceLeDiff, String.reduceEq, ↓reduceIte, Int.reduceLE, Int.reduceLT, Int.reduceEq, Int.reduceToNat, Nat.reduceLT, Nat.reduceEqDiff, reduceCtorEq]); repeat ((with_reducible refine Mine.later ?_); try simp only [wS, Nat.reduceAdd, Nat.reduceLeDiff, String.reduceEq, ↓reduceIte, Int.reduceLE, Int.reduceLT, Int.reduceEq, Int.reduceToNat, Nat.reduceLT, Nat.reduceEqDiff, reduceCtorEq]))
  refine h st1.length es _ _ ⟨N, T, B.pre (p2.trans p3), rb, hnl, pre_get p3 (pre_get p2 hr), pre_get p3 (pre_get p2 hn), pre_get p3 hl, ?_, ?_, ?_, ?_⟩
  all_goals ((try simp only [wS, Nat.reduceAdd, Nat.reduceLeDiff, String.reduceEq, ↓reduceIte, Int.reduceLE, Int.reduceLT, Int.reduceEq, Int.reduceToNat, Nat.reduceLT, Nat.reduceEqDiff, reduceCtorEq, e1, e2, e3]); repeat ((with_reducible refine Mine.later ?_); try simp only [wS, Nat.reduceAdd, Nat.reduceLeDiff, String.reduceEq, ↓reduceIte, Int.reduceLE, Int.reduceLT, Int.reduceEq, Int.reduceToNat, Nat.reduceLT, Nat.reduceEqDiff, reduceCtorEq, e1, e2, e3]))

theorem GoodN.put {nets : Ai} (N : GoodN nets) {p : Px} {c : Int} (hp : p ∈ allP) (h1 : 1 ≤ p.2) (c0 : 0 ≤ c) (c1 : c ≤ 16777215) : GoodN (iput nets p c) := by
  have hm : ∀ e ∈ iput nets p c, e = (p, c) ∨ e ∈ nets := fun e he => by
    have g := (iget_mem (iput_nodup N.nodup p c) (k := e.1) (v := e.2)).mpr he
    rw [iget_put] at g
    by_cases q : p = e.1
    · rw [if_pos q] at g; exact .inl (Prod.ext q.symm (by simpa using g.symm))
    · rw [if_neg q] at g; exact .inr ((iget_mem N.nodup).mp g)
  refine ⟨iput_nodup N.nodup _ _, fun e he => ?_, fun e he => ?_⟩
  · rcases hm e he with rfl | he
    · exact ⟨hp, h1⟩
    · exact N.sub e he
  · rcases hm e he with rfl | he
    · exact ⟨c0, c1⟩
    · exact N.cost e he
theorem put_keeps {nets : Ai} (N : GoodN nets) {p : Px} {c : Int} (q : Px) (d : Int) (hq : q ≠ p) : (q, d) ∈ nets ↔ (q, d) ∈ iput nets p c := by
  rw [← iget_mem (iput_nodup N.nodup p c), iget_put, if_neg (Ne.symm hq), iget_mem N.nodup]
theorem GoodN.del {nets : Ai} (N : GoodN nets) (p : Px) : GoodN (idel nets p) :=
  ⟨by unfold idel; exact (List.filter_sublist.map fun e : Px × Int => e.1).nodup N.nodup, fun e he => N.sub e (List.mem_filter.mp he).1, fun e he => N.cost e (List.mem_filter.mp he).1⟩
theorem del_keeps {nets : Ai} {p : Px} (q : Px) (d : Int) (hq : q ≠ p) : (q, d) ∈ nets ↔ (q, d) ∈ idel nets p := by
  unfold idel; simp [hq]

theorem turn2_spec {R : Rg} (G : GoodR R) {nets told : Ai} {bx sl : Nat} {fz : Fz} {rg nt td : Nat} {k f : Int} {η : AE} {st : St} (I : LawI R nets told bx sl fz rg nt td k η st) (hk : k ≤ 800) (ef : η "form" = some (.int f)) {Q : Fl → AE → St → Prop}
    (h : ∀ nets' td' told' η' st', LawI R nets' told' bx sl fz rg nt td' (k + 4) η' st' → Q .next η' st') : wb_turn2 η st Q := by
  obtain ⟨N, T, B, rb, ntd, hr, hn, ht, e1, e2, e3, e4⟩ := I
  obtain ⟨nb, ns⟩ := B.ne hn
  obtain ⟨tb, ts⟩ := B.ne ht
  ((try simp only [wS, Nat.reduceAdd, Nat.reduceLeDiff, String.reduceEq, ↓reduceIte, Int.reduceLE, Int.reduceLT, Int.reduceEq, Int.reduceToNat, Nat.reduceLT, Nat.reduceEqDiff, reduceCtorEq, wb_turn2, e1]); repeat ((with_reducible refine Mine.later ?_); try simp only [wS, Nat.reduceAdd, Nat.reduceLeDiff, String.reduceEq, ↓reduceIte, Int.reduceLE, Int.reduceLT, Int.reduceEq, Int.reduceToNat, Nat.reduceLT, Nat.reduceEqDiff, reduceCtorEq, wb_turn2, e1]))
  refine draw_spec (many := 3) B (by omega) (by decide) fun c1 o1 c10 c11 B1 => ?_
  ((try simp only [wS, Nat.reduceAdd, Nat.reduceLeDiff, String.reduceEq, ↓reduceIte, Int.reduceLE, Int.reduceLT, Int.reduceEq, Int.reduceToNat, Nat.reduceLT, Nat.reduceEqDiff, reduceCtorEq, op_add]); repeat ((with_reducible refine Mine.later ?_); try simp only [wS, Nat.reduceAdd, Nat.reduceLeDiff, String.reduceEq, ↓reduceIte, Int.reduceLE, Int.reduceLT, Int.reduceEq, Int.reduceToNat, Nat.reduceLT, Nat.reduceEqDiff, reduceCtorEq, op_add]))
  refine prefix_spec B1 (by omega) (show 0 ≤ 1 + c1 by omega) (by omega) fun p o2 hp hp2 B2 => ?_
  ((try simp only [wS, Nat.reduceAdd, Nat.reduceLeDiff, String.reduceEq, ↓reduceIte, Int.reduceLE, Int.reduceLT, Int.reduceEq, Int.reduceToNat, Nat.reduceLT, Nat.reduceEqDiff, reduceCtorEq, e1]); repeat ((with_reducible refine Mine.later ?_); try simp only [wS, Nat.reduceAdd, Nat.reduceLeDiff, String.reduceEq, ↓reduceIte, Int.reduceLE, Int.reduceLT, Int.reduceEq, Int.reduceToNat, Nat.reduceLT, Nat.reduceEqDiff, reduceCtorEq, e1]))
  refine draw_spec (many := 4) B2 (by omega) (by decide) fun c2 o3 c20 c21 B3 => ?_
  have hr3 := set_ne (o' := o3) (set_ne (o' := o2) (set_ne (o' := o1) hr rb.symm) rb.symm) rb.symm
  have hn3 := set_ne (o' := o3) (set_ne (o' := o2) (set_ne (o' := o1) hn nb.symm) nb.symm) nb.symm
  have ht3 := set_ne (o' := o3) (set_ne (o' := o2) (set_ne (o' := o1) ht tb.symm) tb.symm) tb.symm
  generalize ((st.set bx o1).set bx o2).set bx o3 = st1 at B3 hr3 hn3 ht3
  ((try simp only [wS, Nat.reduceAdd, Nat.reduceLeDiff, String.reduceEq, ↓reduceIte, Int.reduceLE, Int.reduceLT, Int.reduceEq, Int.reduceToNat, Nat.reduceLT, Nat.reduceEqDiff, reduceCtorEq]); repeat ((with_reducible refine Mine.later ?_); try simp only [wS, Nat.reduceAdd, Nat.reduceLeDiff, String.reduceEq, ↓reduceIte, Int.reduceLE, Int.reduceLT, Int.reduceEq, Int.reduceToNat, Nat.reduceLT, Nat.reduceEqDiff, reduceCtorEq]))
  have hcost : ∃ cost : Int, ([V.int 1, V.int 3, V.int 4, V.int 7] : List V)[c2.toNat]? = some (.int cost) ∧ 0 ≤ cost ∧ cost ≤ 7 := by
    have : c2 = 0 ∨ c2 = 1 ∨ c2 = 2 ∨ c2 = 3 := by omega
    rcases this with e | e | e | e <;> rw [e]
    · exact ⟨1, rfl, by decide, by decide⟩
    · exact ⟨3, rfl, by decide, by decide⟩
    · exact ⟨4, rfl, by decide, by decide⟩
    · exact ⟨7, rfl, by decide, by decide⟩
  obtain ⟨cost, hc1, hc2, hc3⟩ := hcost
  refine ⟨c20, by omega, _, hc1, ?_⟩
  ((try simp only [wS, Nat.reduceAdd, Nat.reduceLeDiff, String.reduceEq, ↓reduceIte, Int.reduceLE, Int.reduceLT, Int.reduceEq, Int.reduceToNat, Nat.reduceLT, Nat.reduceEqDiff, reduceCtorEq, ef]); repeat ((with_reducible refine Mine.later ?_); try simp only [wS, Nat.reduceAdd, Nat.reduceLeDiff, String.reduceEq, ↓reduceIte, Int.reduceLE, Int.reduceLT, Int.reduceEq, Int.reduceToNat, Nat.reduceLT, Nat.reduceEqDiff, reduceCtorEq, ef]))
  have put : ∀ st2 (η' : AE) (c : Int), st1 <+: st2 → 0 ≤ c → c ≤ 16777215 → (∀ x ∈ ["box", "ranges", "nets", "told"], η' x = η x) → η' "prefix" = some (keyT p) → wb_tail η' (st2.set nt (.dT none ((iput nets p c).map toTi))) Q := fun st2 η' c p2 h0 h1 hη hpx => by
    refine tail_spec G N T hp (put_keeps N) (N.put hp (by omega) h0 h1) (((B3.pre p2).other (pre_get p2 hn3) (fun _ _ e => by cases e) nb ns).mono (show k + 1 + 1 + 1 ≤ k + 4 by omega)) rb (set_ne (pre_get p2 hr3) ?_) (set_eq (pre_get p2 hn3)) (set_ne (pre_get p2 ht3) ntd) (by rw [hη _ (by simp)]; exact e1) (by rw [hη _ (by simp)]; exact e2) (by rw [hη _ (by simp)]; exact e3) (by rw [hη _ (by simp)]; exact e4) hpx fun td' told' η'' st' I' => h _ td' told' η'' st' I'
    intro e; subst e; rw [hn3] at hr3; cases hr3
  have nr : nt ≠ rg := by intro e; subst e; rw [hn3] at hr3; cases hr3
  have nl := N.len
  by_cases hf : 2 < f
  · ((try simp only [wS, Nat.reduceAdd, Nat.reduceLeDiff, String.reduceEq, ↓reduceIte, Int.reduceLE, Int.reduceLT, Int.reduceEq, Int.reduceToNat, Nat.reduceLT, Nat.reduceEqDiff, reduceCtorEq, decide_eq_true hf, e1, e3]); repeat ((with_reducible refine Mine.later ?_); try simp only [wS, Nat.reduceAdd, Nat.reduceLeDiff, String.reduceEq, ↓reduceIte, Int.reduceLE, Int.reduceLT, Int.reduceEq, Int.reduceToNat, Nat.reduceLT, Nat.reduceEqDiff, reduceCtorEq, decide_eq_true hf, e1, e3]))
    refine .inr (.inr ⟨none, none, nets, [], pre_get1 _ hn3, last_get _ _, ?_⟩)
    cases hne : nets with
    | nil =>
      have e : dEq ([] : Ai) [] = true := rfl
      ((try simp only [wS, Nat.reduceAdd, Nat.reduceLeDiff, String.reduceEq, ↓reduceIte, Int.reduceLE, Int.reduceLT, Int.reduceEq, Int.reduceToNat, Nat.reduceLT, Nat.reduceEqDiff, reduceCtorEq, e, ef, e1, e3]); repeat ((with_reducible refine Mine.later ?_); try simp only [wS, Nat.reduceAdd, Nat.reduceLeDiff, String.reduceEq, ↓reduceIte, Int.reduceLE, Int.reduceLT, Int.reduceEq, Int.reduceToNat, Nat.reduceLT, Nat.reduceEqDiff, reduceCtorEq, e, ef, e1, e3]))
      rw [if_pos (show decide (0 < f) = true from decide_eq_true (by omega))]
      rw [hne] at hn3 put
      refine setV_ti (p := p) (es := []) (pre_get1 _ hn3) (by simp) ?_
      exact put _ _ cost (List.prefix_append _ _) hc2 (by omega) (by intro x hx; simp only [List.mem_cons, List.not_mem_nil, or_false] at hx; rcases hx with rfl | rfl | rfl | rfl <;> ((try simp only [wS, Nat.reduceAdd, Nat.reduceLeDiff, String.reduceEq, ↓reduceIte, Int.reduceLE, Int.reduceLT, Int.reduceEq, Int.reduceToNat, Nat.reduceLT, Nat.reduceEqDiff, reduceCtorEq]); repeat ((with_reducible refine Mine.later ?_); try simp only [wS, Nat.reduceAdd, Nat.reduceLeDiff, String.reduceEq, ↓reduceIte, Int.reduceLE, Int.reduceLT, Int.reduceEq, Int.reduceToNat, Nat.reduceLT, Nat.reduceEqDiff, reduceCtorEq]))) rfl
    | cons a r =>
      rw [← hne]
      have e : dEq nets [] = false := by rw [hne]; rfl
      ((try simp only [wS, Nat.reduceAdd, Nat.reduceLeDiff, String.reduceEq, ↓reduceIte, Int.reduceLE, Int.reduceLT, Int.reduceEq, Int.reduceToNat, Nat.reduceLT, Nat.reduceEqDiff, reduceCtorEq, e, e1, e3]); repeat ((with_reducible refine Mine.later ?_); try simp only [wS, Nat.reduceAdd, Nat.reduceLeDiff, String.reduceEq, ↓reduceIte, Int.reduceLE, Int.reduceLT, Int.reduceEq, Int.reduceToNat, Nat.reduceLT, Nat.reduceEqDiff, reduceCtorEq, e, e1, e3]))
      have pA := List.prefix_append st1 [O.dT none (List.map toTi [])]
      refine sorted_T (pre_get1 _ hn3) (by rw [toTi_keys]; exact N.nodup) (by simp; omega) fun ks ak hks => ?_
      rw [toTi_keys] at hks
      have hsl := last_get (st1 ++ [O.dT none []]) (O.list (ks.map keyT))
      have pB : st1 <+: st1 ++ [O.dT none []] ++ [O.list (ks.map keyT)] := pre_app (pre_app (List.prefix_refl _) _) _
      have hsb : (st1 ++ [O.dT none []]).length ≠ bx := by
        obtain ⟨_, _, g, _⟩ := B3.b
        have := lt_of_get g; simp; omega
      generalize hst2 : st1 ++ [O.dT none []] ++ [O.list (ks.map keyT)] = st2 at hsl pB
      generalize (st1 ++ [O.dT none []]).length = ksl at hsl hsb
      have hpos : 0 < nets.length := by rw [hne]; simp
      have hn4 := pre_get pB hn3
      have hr4 := pre_get pB hr3
      have ht4 := pre_get pB ht3
      have B4 := B3.pre pB
      ((try simp only [wS, Nat.reduceAdd, Nat.reduceLeDiff, String.reduceEq, ↓reduceIte, Int.reduceLE, Int.reduceLT, Int.reduceEq, Int.reduceToNat, Nat.reduceLT, Nat.reduceEqDiff, reduceCtorEq, wLen_l, e1, e3]); repeat ((with_reducible refine Mine.later ?_); try simp only [wS, Nat.reduceAdd, Nat.reduceLeDiff, String.reduceEq, ↓reduceIte, Int.reduceLE, Int.reduceLT, Int.reduceEq, Int.reduceToNat, Nat.reduceLT, Nat.reduceEqDiff, reduceCtorEq, wLen_l, e1, e3]))
      refine .inr ⟨none, nets.map toTi, hn4, by simp; omega, ?_⟩
      rw [List.length_map]
      refine draw_spec (many := nets.length) B4 (by omega) (by omega) fun c3 o4 c30 c31 B5 => ?_
      have hkl := hks.length_eq
      rw [List.length_map] at hkl
      have hlt : c3.toNat < ks.length := by omega
      have hpk : ks[c3.toNat] ∈ nets.map (·.1) := hks.mem_iff.mp (List.getElem_mem hlt)
      refine item_L (v := keyT ks[c3.toNat]) c30 (by omega) (set_ne hsl hsb.symm) (by simp [hlt]) ?_
      generalize ks[c3.toNat] = p' at hpk
      obtain ⟨x, hx, hxp⟩ := List.mem_map.mp hpk
      have hxp : x.1 = p' := hxp
      have hn5 := set_ne (o' := o4) hn4 nb.symm
      have hr5 := set_ne (o' := o4) hr4 rb.symm
      have ht5 := set_ne (o' := o4) ht4 tb.symm
      generalize st2.set bx o4 = st3 at B5 hn5 hr5 ht5
      ((try simp only [wS, Nat.reduceAdd, Nat.reduceLeDiff, String.reduceEq, ↓reduceIte, Int.reduceLE, Int.reduceLT, Int.reduceEq, Int.reduceToNat, Nat.reduceLT, Nat.reduceEqDiff, reduceCtorEq, e1, e3]); repeat ((with_reducible refine Mine.later ?_); try simp only [wS, Nat.reduceAdd, Nat.reduceLeDiff, String.reduceEq, ↓reduceIte, Int.reduceLE, Int.reduceLT, Int.reduceEq, Int.reduceToNat, Nat.reduceLT, Nat.reduceEqDiff, reduceCtorEq, e1, e3]))
      refine ⟨recvD_T hn5, nets.map toTi, p', .int x.2, rfl, hn5, by simp; omega, by rw [dget_ti, (iget_mem N.nodup (k := p') (v := x.2)).mpr (by rw [← hxp]; exact hx)]; rfl, ?_⟩
      rw [ddel_ti]
      ((try simp only [wS, Nat.reduceAdd, Nat.reduceLeDiff, String.reduceEq, ↓reduceIte, Int.reduceLE, Int.reduceLT, Int.reduceEq, Int.reduceToNat, Nat.reduceLT, Nat.reduceEqDiff, reduceCtorEq, e1, e3]); repeat ((with_reducible refine Mine.later ?_); try simp only [wS, Nat.reduceAdd, Nat.reduceLeDiff, String.reduceEq, ↓reduceIte, Int.reduceLE, Int.reduceLT, Int.reduceEq, Int.reduceToNat, Nat.reduceLT, Nat.reduceEqDiff, reduceCtorEq, e1, e3]))
      refine tail_spec G N T (p := p') (by rw [← hxp]; exact (N.sub x hx).1) (fun q d hq => del_keeps q d hq) (N.del p') ((B5.other (o' := O.dT none ((idel nets p').map toTi)) hn5 (fun _ _ e => by cases e) nb ns).mono (show k + 1 + 1 + 1 + 1 ≤ k + 4 by omega)) rb (set_ne hr5 nr) (set_eq hn5) (set_ne ht5 ntd) (by exact e1) (by exact e2) (by exact e3) (by exact e4) (by rfl) fun td' told' η'' st' I' => h _ td' told' η'' st' I'
  · ((try simp only [wS, Nat.reduceAdd, Nat.reduceLeDiff, String.reduceEq, ↓reduceIte, Int.reduceLE, Int.reduceLT, Int.reduceEq, Int.reduceToNat, Nat.reduceLT, Nat.reduceEqDiff, reduceCtorEq, decide_eq_false hf, e1, e3, ef]); repeat ((with_reducible refine Mine.later ?_); try simp only [wS, Nat.reduceAdd, Nat.reduceLeDiff, String.reduceEq, ↓reduceIte, Int.reduceLE, Int.reduceLT, Int.reduceEq, Int.reduceToNat, Nat.reduceLT, Nat.reduceEqDiff, reduceCtorEq, decide_eq_false hf, e1, e3, ef]))
    have fin : ∀ c : Int, 0 ≤ c → c ≤ 16777215 → wSetV (V.loc nt) (V.tup [V.int p.fst, V.int p.snd]) (V.int c) st1 fun st₄ => wb_tail (AE.set "cost" (V.int cost) (AE.set "prefix" (V.tup [V.int p.fst, V.int p.snd]) η)) st₄ Q := fun c h0 h1 =>
      setV_ti (p := p) hn3 (by omega) (put _ _ c (List.prefix_refl _) h0 h1 (by intro x hx; simp only [List.mem_cons, List.not_mem_nil, or_false] at hx; rcases hx with rfl | rfl | rfl | rfl <;> ((try simp only [wS, Nat.reduceAdd, Nat.reduceLeDiff, String.reduceEq, ↓reduceIte, Int.reduceLE, Int.reduceLT, Int.reduceEq, Int.reduceToNat, Nat.reduceLT, Nat.reduceEqDiff, reduceCtorEq]); repeat ((with_reducible refine Mine.later ?_); try simp only [wS, Nat.reduceAdd, Nat.reduceLeDiff, String.reduceEq, ↓reduceIte, Int.reduceLE, Int.reduceLT, Int.reduceEq, Int.reduceToNat, Nat.reduceLT, Nat.reduceEqDiff, reduceCtorEq]))) rfl)
    split
    · exact fin _ hc2 (by omega)
    · exact fin _ (by decide) (by decide)
end Mine
end

section -- L19
set_option autoImplicit false
set_option linter.unusedVariables false
set_option linter.unusedSimpArgs false
set_option maxRecDepth 100000
namespace Mine

theorem LawI.env {R : Rg} {nets told : Ai} {bx sl : Nat} {fz : Fz} {rg nt td : Nat} {k : Int} {η η' : AE} {st : St} (I : LawI R nets told bx sl fz rg nt td k η st) (h1 : η' "box" = η "box") (h2 : η' "ranges" = η "ranges") (h3 : η' "nets" = η "nets") (h4 : η' "told" = η "told") : LawI R nets told bx sl fz rg nt td k η' st :=
  ⟨I.N, I.T, I.B, I.rb, I.ntd, I.hr, I.hn, I.ht, h1.trans I.e1, h2.trans I.e2, h3.trans I.e3, h4.trans I.e4⟩
theorem LawI.mono {R : Rg} {nets told : Ai} {bx sl : Nat} {fz : Fz} {rg nt td : Nat} {k k' : Int} {η : AE} {st : St} (I : LawI R nets told bx sl fz rg nt td k η st) (h : k ≤ k') : LawI R nets told bx sl fz rg nt td k' η st :=
  ⟨I.N, I.T, I.B.mono h, I.rb, I.ntd, I.hr, I.hn, I.ht, I.e1, I.e2, I.e3, I.e4⟩
theorem LawI.draw {R : Rg} {nets told : Ai} {bx sl : Nat} {fz : Fz} {rg nt td : Nat} {k k' : Int} {η : AE} {st : St} (I : LawI R nets told bx sl fz rg nt td k η st) {o : O} (B : BoxOk (st.set bx o) bx sl fz k') : LawI R nets told bx sl fz rg nt td k' η (st.set bx o) :=
  ⟨I.N, I.T, B, I.rb, I.ntd, set_ne I.hr I.rb.symm, set_ne I.hn (I.B.ne I.hn).1.symm, set_ne I.ht (I.B.ne I.ht).1.symm, I.e1, I.e2, I.e3, I.e4⟩
theorem LawI.pre {R : Rg} {nets told : Ai} {bx sl : Nat} {fz : Fz} {rg nt td : Nat} {k : Int} {η : AE} {st st' : St} (I : LawI R nets told bx sl fz rg nt td k η st) (p : st <+: st') : LawI R nets told bx sl fz rg nt td k η st' :=
  ⟨I.N, I.T, I.B.pre p, I.rb, I.ntd, pre_get p I.hr, pre_get p I.hn, pre_get p I.ht, I.e1, I.e2, I.e3, I.e4⟩

theorem turn_spec {R : Rg} (G : GoodR R) {nets told : Ai} {bx sl : Nat} {fz : Fz} {rg nt td : Nat} {k j : Int} {η : AE} {st : St} (I : LawI R nets told bx sl fz rg nt td k η st) (hk : k ≤ 700) (et : η "turn" = some (.int j)) {Q : Fl → AE → St → Prop}
    (h : ∀ nets' td' told' η' st', LawI R nets' told' bx sl fz rg nt td' (k + 5) η' st' → Q .next η' st') : wb_turn η st Q := by
  ((try simp only [wS, Nat.reduceAdd, Nat.reduceLeDiff, String.reduceEq, ↓reduceIte, Int.reduceLE, Int.reduceLT, Int.reduceEq, Int.reduceToNat, Nat.reduceLT, Nat.reduceEqDiff, reduceCtorEq, wb_turn, et]); repeat ((with_reducible refine Mine.later ?_); try simp only [wS, Nat.reduceAdd, Nat.reduceLeDiff, String.reduceEq, ↓reduceIte, Int.reduceLE, Int.reduceLT, Int.reduceEq, Int.reduceToNat, Nat.reduceLT, Nat.reduceEqDiff, reduceCtorEq, wb_turn, et]))
  by_cases q : 2 < j
  · ((try simp only [wS, Nat.reduceAdd, Nat.reduceLeDiff, String.reduceEq, ↓reduceIte, Int.reduceLE, Int.reduceLT, Int.reduceEq, Int.reduceToNat, Nat.reduceLT, Nat.reduceEqDiff, reduceCtorEq, decide_eq_true q, I.e1]); repeat ((with_reducible refine Mine.later ?_); try simp only [wS, Nat.reduceAdd, Nat.reduceLeDiff, String.reduceEq, ↓reduceIte, Int.reduceLE, Int.reduceLT, Int.reduceEq, Int.reduceToNat, Nat.reduceLT, Nat.reduceEqDiff, reduceCtorEq, decide_eq_true q, I.e1]))
    refine draw_spec (many := 5) I.B (by omega) (by decide) fun c o c0 c1 B1 => ?_
    refine turn2_spec (f := c) G ((I.draw B1).env (by rfl) (by rfl) (by rfl) (by rfl)) (by omega) (by rfl) fun nets' td' told' η' st' I' => h _ td' told' η' st' (I'.mono (by omega))
  · ((try simp only [wS, Nat.reduceAdd, Nat.reduceLeDiff, String.reduceEq, ↓reduceIte, Int.reduceLE, Int.reduceLT, Int.reduceEq, Int.reduceToNat, Nat.reduceLT, Nat.reduceEqDiff, reduceCtorEq, decide_eq_false q]); repeat ((with_reducible refine Mine.later ?_); try simp only [wS, Nat.reduceAdd, Nat.reduceLeDiff, String.reduceEq, ↓reduceIte, Int.reduceLE, Int.reduceLT, Int.reduceEq, Int.reduceToNat, Nat.reduceLT, Nat.reduceEqDiff, reduceCtorEq, decide_eq_false q]))
    refine turn2_spec (f := 1) G (I.env (by rfl) (by rfl) (by rfl) (by rfl)) (by omega) (by rfl) fun nets' td' told' η' st' I' => h _ td' told' η' st' (I'.mono (by omega))

noncomputable def wb_l4 : WS := (wRet (wOrE (wCmp .In (wVar "further") (wArgs (wCons (wVar "ranges") wNil) wDictC)) (wArgs (wCons (wVar "rows") (wCons (wVar "further") (wCons (wVar "ranges") (wCons (wVar "told") wNil)))) T_law_further_right)))
theorem l3_split : wb_l3 = (wSeq (wAssign "rows" (wListComp (wArgs (wCons (wVar "nets") wNil) T_law_rows) [] (tName "row") (wTest (wCmp .Lt (wItem (wVar "row") (wConst (.int 2))) (wConst (.int 16777215)))) (wVar "row"))) (wLater (wSeq (wIfS (wTest (wCmp .Eq (wVar "rows") (wList wNil))) (wLater (wRet (wCmp .Eq (wVar "told") (wEmptyDict (.dT none []))))) wSkip) (wLater (wSeq (wIfS (wNot (wTest (wArgs (wCons (wVar "rows") (wCons (wBin .Add (wConst (.int 1)) (wArgs (wCons (wVar "box") (wCons (wConst (.int 3)) wNil)) T_law_draw)) (wCons (wVar "ranges") (wCons (wVar "told") wNil)))) T_law_lots_right))) (wLater (wRet (wConst (.bool false)))) wSkip) (wLater (wSeq (wAssign "base" (wItem (wItem (wVar "rows") (wArgs (wCons (wVar "box") (wCons (wArgs (wCons (wVar "rows") wNil) wLen) wNil)) T_law_draw)) (wConst (.int 0)))) (wLater (wSeq (wAssign "length" (wBin .Add (wConst (.int 1)) (wArgs (wCons (wVar "box") (wCons (wItem (wVar "base") (wConst (.int 1))) wNil)) T_law_draw))) (wLater (wSeq (wAssign "further" (wTup (wCons (wBin .Mult (wBin .FloorDiv (wItem (wVar "base") (wConst (.int 0))) (wBin .Pow (wConst (.int 2)) (wBin .Sub (wConst (.int 4)) (wVar "length")))) (wBin .Pow (wConst (.int 2)) (wBin .Sub (wConst (.int 4)) (wVar "length")))) (wCons (wVar "length") wNil)))) (wLater (wSeq (wIfS (wTest (wCmp .In (wVar "further") (wArgs (wCons (wVar "ranges") wNil) wDictC))) (wLater (wAssign "further" (wVar "base"))) wSkip) (wLater wb_l4)))))))))))))) := rfl
theorem further_px : ∀ p ∈ allP, ∀ l ∈ ([1, 2, 3] : List Int), l ≤ p.2 → (p.1.fdiv (2 ^ (4 - l).toNat) * 2 ^ (4 - l).toNat, l) ∈ allP := by decide +kernel

theorem l4_spec {R : Rg} (G : GoodR R) {f : Px} (hf : f ∈ allP) {rows told : Ai} (hr : ∀ row ∈ rows, row.1 ∈ allP ∧ 0 ≤ row.2) (T : CondOk R rows told) {rw_ td rg : Nat} {η : AE} {st : St} (hrw : st[rw_]? = some (.list (rows.map rowV))) (ht : st[td]? = some (.dT none (told.map toTi))) (hm : st[rg]? = some (.list (R.map rngV)))
    (e1 : η "rows" = some (.loc rw_)) (e2 : η "ranges" = some (.loc rg)) (e4 : η "told" = some (.loc td)) (e5 : η "further" = some (keyT f)) {fz : Fz} (hfz : st[fz.1]? = some (.fro fz.2.1 fz.2.2)) {Q : Fl → AE → St → Prop} (h : ∀ η' st', st'[fz.1]? = some (.fro fz.2.1 fz.2.2) → Q (.ret (.bool true)) η' st') : wb_l4 η st Q := by
  ((try simp only [wS, Nat.reduceAdd, Nat.reduceLeDiff, String.reduceEq, ↓reduceIte, Int.reduceLE, Int.reduceLT, Int.reduceEq, Int.reduceToNat, Nat.reduceLT, Nat.reduceEqDiff, reduceCtorEq, wb_l4, e1, e2, e4, e5]); repeat ((with_reducible refine Mine.later ?_); try simp only [wS, Nat.reduceAdd, Nat.reduceLeDiff, String.reduceEq, ↓reduceIte, Int.reduceLE, Int.reduceLT, Int.reduceEq, Int.reduceToNat, Nat.reduceLT, Nat.reduceEqDiff, reduceCtorEq, wb_l4, e1, e2, e4, e5]))
  refine dictC_R G hm ?_
  refine in_T (k := f) (last_get _ _) ?_
  rw [words_in]
  by_cases q : f ∈ R.map (·.1)
  · ((try simp only [wS, Nat.reduceAdd, Nat.reduceLeDiff, String.reduceEq, ↓reduceIte, Int.reduceLE, Int.reduceLT, Int.reduceEq, Int.reduceToNat, Nat.reduceLT, Nat.reduceEqDiff, reduceCtorEq, decide_eq_true q]); repeat ((with_reducible refine Mine.later ?_); try simp only [wS, Nat.reduceAdd, Nat.reduceLeDiff, String.reduceEq, ↓reduceIte, Int.reduceLE, Int.reduceLT, Int.reduceEq, Int.reduceToNat, Nat.reduceLT, Nat.reduceEqDiff, reduceCtorEq, decide_eq_true q]))
    exact h _ _ (pre_get1 _ hfz)
  · ((try simp only [wS, Nat.reduceAdd, Nat.reduceLeDiff, String.reduceEq, ↓reduceIte, Int.reduceLE, Int.reduceLT, Int.reduceEq, Int.reduceToNat, Nat.reduceLT, Nat.reduceEqDiff, reduceCtorEq, decide_eq_false q]); repeat ((with_reducible refine Mine.later ?_); try simp only [wS, Nat.reduceAdd, Nat.reduceLeDiff, String.reduceEq, ↓reduceIte, Int.reduceLE, Int.reduceLT, Int.reduceEq, Int.reduceToNat, Nat.reduceLT, Nat.reduceEqDiff, reduceCtorEq, decide_eq_false q]))
    refine further_spec G hf q hr T (pre_get1 _ hrw) (pre_get1 _ ht) (pre_get1 _ hm) fun st' p' => ?_
    exact h _ _ (pre_get p' (pre_get1 _ hfz))

theorem l3_spec {R : Rg} (G : GoodR R) {nets told : Ai} {bx sl : Nat} {fz : Fz} {rg nt td : Nat} {k : Int} {η : AE} {st : St} (I : LawI R nets told bx sl fz rg nt td k η st) (hk : k ≤ 700) {Q : Fl → AE → St → Prop} (h : ∀ η' st', st'[fz.1]? = some (.fro fz.2.1 fz.2.2) → Q (.ret (.bool true)) η' st') : wb_l3 η st Q := by
  have N := I.N
  ((try simp only [wS, Nat.reduceAdd, Nat.reduceLeDiff, String.reduceEq, ↓reduceIte, Int.reduceLE, Int.reduceLT, Int.reduceEq, Int.reduceToNat, Nat.reduceLT, Nat.reduceEqDiff, reduceCtorEq, l3_split, I.e3]); repeat ((with_reducible refine Mine.later ?_); try simp only [wS, Nat.reduceAdd, Nat.reduceLeDiff, String.reduceEq, ↓reduceIte, Int.reduceLE, Int.reduceLT, Int.reduceEq, Int.reduceToNat, Nat.reduceLT, Nat.reduceEqDiff, reduceCtorEq, l3_split, I.e3]))
  refine rows_spec N I.hn fun st1 rows p1 hrp har => ?_
  have N' := N.perm hrp
  refine iter_list (last_get _ _) ?_
  refine comp_name (x := "row") (all := rows) rfl (fun e => decide (e.2 < 16777215)) rowV (fun st' p' => pre_get p' (last_get _ _)) (by have := N'.len; omega) ?_ ?_ ?_
  · intro a ha η' hη hx st' p' K hK
    ((try simp only [wS, Nat.reduceAdd, Nat.reduceLeDiff, String.reduceEq, ↓reduceIte, Int.reduceLE, Int.reduceLT, Int.reduceEq, Int.reduceToNat, Nat.reduceLT, Nat.reduceEqDiff, reduceCtorEq, hx, rowV]); repeat ((with_reducible refine Mine.later ?_); try simp only [wS, Nat.reduceAdd, Nat.reduceLeDiff, String.reduceEq, ↓reduceIte, Int.reduceLE, Int.reduceLT, Int.reduceEq, Int.reduceToNat, Nat.reduceLT, Nat.reduceEqDiff, reduceCtorEq, hx, rowV]))
    exact hK _ p'
  · intro a ha _ η' hη hx st' p' K hK
    ((try simp only [wS, Nat.reduceAdd, Nat.reduceLeDiff, String.reduceEq, ↓reduceIte, Int.reduceLE, Int.reduceLT, Int.reduceEq, Int.reduceToNat, Nat.reduceLT, Nat.reduceEqDiff, reduceCtorEq, hx]); repeat ((with_reducible refine Mine.later ?_); try simp only [wS, Nat.reduceAdd, Nat.reduceLeDiff, String.reduceEq, ↓reduceIte, Int.reduceLE, Int.reduceLT, Int.reduceEq, Int.reduceToNat, Nat.reduceLT, Nat.reduceEqDiff, reduceCtorEq, hx]))
    exact hK _ p'
  intro st2 p2
  have T : CondOk R (reach rows) told := I.T.perm (hrp.symm.filter _) (.refl _)
  have hrr : ∀ x ∈ reach rows, x ∈ rows := fun x hx => (List.mem_filter.mp hx).1
  have hr : ∀ row ∈ reach rows, row.1 ∈ allP ∧ 0 ≤ row.2 := fun x hx => ⟨(N'.sub x (hrr x hx)).1, (N'.cost x (hrr x hx)).1⟩
  have hr1 : ∀ row ∈ reach rows, 1 ≤ row.1.2 := fun x hx => (N'.sub x (hrr x hx)).2
  have hrl : (reach rows).length ≤ 15 := Nat.le_trans (List.length_filter_le _ _) N'.len
  have eF : rows.filter (fun e => decide (e.2 < 16777215)) = reach rows := rfl
  rw [eF]
  generalize reach rows = rr at T hr hr1 hrl
  have p3 : st <+: st2 ++ [O.list (rr.map rowV)] := pre_app (p1.trans ((List.prefix_append _ _).trans p2)) _
  have hrw := last_get st2 (O.list (rr.map rowV))
  have hlb : bx ≠ st2.length := by
    obtain ⟨_, _, g, _⟩ := I.B.b
    have := lt_of_get g
    have := pre_len (p1.trans ((List.prefix_append st1 [O.list (rows.map rowV)]).trans p2))
    omega
  have I3 := I.pre p3
  ((try simp only [wS, Nat.reduceAdd, Nat.reduceLeDiff, String.reduceEq, ↓reduceIte, Int.reduceLE, Int.reduceLT, Int.reduceEq, Int.reduceToNat, Nat.reduceLT, Nat.reduceEqDiff, reduceCtorEq, id]); repeat ((with_reducible refine Mine.later ?_); try simp only [wS, Nat.reduceAdd, Nat.reduceLeDiff, String.reduceEq, ↓reduceIte, Int.reduceLE, Int.reduceLT, Int.reduceEq, Int.reduceToNat, Nat.reduceLT, Nat.reduceEqDiff, reduceCtorEq, id]))
  generalize st2 ++ [O.list (rr.map rowV)] = st3 at p3 hrw I3
  generalize st2.length = rl at hrw hlb
  refine .inl ⟨rr.map rowV, pre_get1 _ hrw, last_get _ _, ?_⟩
  have I4 := I3.pre (List.prefix_append st3 [O.list []])
  have hrw4 := pre_get1 [O.list []] hrw
  generalize st3 ++ [O.list []] = st4 at I4 hrw4
  by_cases q : rr = []
  · subst q
    ((try simp only [wS, Nat.reduceAdd, Nat.reduceLeDiff, String.reduceEq, ↓reduceIte, Int.reduceLE, Int.reduceLT, Int.reduceEq, Int.reduceToNat, Nat.reduceLT, Nat.reduceEqDiff, reduceCtorEq, List.map_nil, List.isEmpty_nil, I.e4]); repeat ((with_reducible refine Mine.later ?_); try simp only [wS, Nat.reduceAdd, Nat.reduceLeDiff, String.reduceEq, ↓reduceIte, Int.reduceLE, Int.reduceLT, Int.reduceEq, Int.reduceToNat, Nat.reduceLT, Nat.reduceEqDiff, reduceCtorEq, List.map_nil, List.isEmpty_nil, I.e4]))
    have et : told = [] := by
      cases ht : told with
      | nil => rfl
      | cons a r =>
        obtain ⟨p, c, m, _⟩ := (T.key a.1).mp (by rw [ht]; simp)
        simp at m
    refine .inr (.inr ⟨none, none, told, [], pre_get1 _ I4.ht, last_get _ _, ?_⟩)
    rw [et]
    have e : dEq ([] : Ai) [] = true := rfl
    ((try simp only [wS, Nat.reduceAdd, Nat.reduceLeDiff, String.reduceEq, ↓reduceIte, Int.reduceLE, Int.reduceLT, Int.reduceEq, Int.reduceToNat, Nat.reduceLT, Nat.reduceEqDiff, reduceCtorEq, e]); repeat ((with_reducible refine Mine.later ?_); try simp only [wS, Nat.reduceAdd, Nat.reduceLeDiff, String.reduceEq, ↓reduceIte, Int.reduceLE, Int.reduceLT, Int.reduceEq, Int.reduceToNat, Nat.reduceLT, Nat.reduceEqDiff, reduceCtorEq, e]))
    exact h _ _ (pre_get1 _ I4.B.fz)
  · have hpos : 0 < rr.length := List.length_pos_iff.mpr q
    rw [show (rr.map rowV).isEmpty = false by simpa using q]
    ((try simp only [wS, Nat.reduceAdd, Nat.reduceLeDiff, String.reduceEq, ↓reduceIte, Int.reduceLE, Int.reduceLT, Int.reduceEq, Int.reduceToNat, Nat.reduceLT, Nat.reduceEqDiff, reduceCtorEq, I.e1, I.e2, I.e4]); repeat ((with_reducible refine Mine.later ?_); try simp only [wS, Nat.reduceAdd, Nat.reduceLeDiff, String.reduceEq, ↓reduceIte, Int.reduceLE, Int.reduceLT, Int.reduceEq, Int.reduceToNat, Nat.reduceLT, Nat.reduceEqDiff, reduceCtorEq, I.e1, I.e2, I.e4]))
    refine draw_spec (many := 3) I4.B (by omega) (by decide) fun c1 o1 c10 c11 B1 => ?_
    have I5 := I4.draw B1
    have hrw5 := set_ne (o' := o1) hrw4 hlb
    generalize st4.set bx o1 = st5 at I5 hrw5 B1
    ((try simp only [wS, Nat.reduceAdd, Nat.reduceLeDiff, String.reduceEq, ↓reduceIte, Int.reduceLE, Int.reduceLT, Int.reduceEq, Int.reduceToNat, Nat.reduceLT, Nat.reduceEqDiff, reduceCtorEq, op_add]); repeat ((with_reducible refine Mine.later ?_); try simp only [wS, Nat.reduceAdd, Nat.reduceLeDiff, String.reduceEq, ↓reduceIte, Int.reduceLE, Int.reduceLT, Int.reduceEq, Int.reduceToNat, Nat.reduceLT, Nat.reduceEqDiff, reduceCtorEq, op_add]))
    refine lots_spec G hr hrl T (by omega) hrw5 I5.ht I5.hr fun st6 p6 => ?_
    have I6 := I5.pre p6
    have hrw6 := pre_get p6 hrw5
    ((try simp only [wS, Nat.reduceAdd, Nat.reduceLeDiff, String.reduceEq, ↓reduceIte, Int.reduceLE, Int.reduceLT, Int.reduceEq, Int.reduceToNat, Nat.reduceLT, Nat.reduceEqDiff, reduceCtorEq, I.e1, I.e2, I.e4, wLen_l]); repeat ((with_reducible refine Mine.later ?_); try simp only [wS, Nat.reduceAdd, Nat.reduceLeDiff, String.reduceEq, ↓reduceIte, Int.reduceLE, Int.reduceLT, Int.reduceEq, Int.reduceToNat, Nat.reduceLT, Nat.reduceEqDiff, reduceCtorEq, I.e1, I.e2, I.e4, wLen_l]))
    refine .inl ⟨_, hrw6, by simp; omega, ?_⟩
    rw [List.length_map]
    refine draw_spec (many := rr.length) I6.B (by omega) (by omega) fun c2 o2 c20 c21 B2 => ?_
    have I7 := I6.draw B2
    have hrw7 := set_ne (o' := o2) hrw6 hlb
    generalize st6.set bx o2 = st7 at I7 hrw7 B2
    have hlt : c2.toNat < rr.length := by omega
    have hbm : rr[c2.toNat] ∈ rr := List.getElem_mem hlt
    refine item_L (v := rowV rr[c2.toNat]) c20 (by omega) hrw7 (by simp [hlt]) ?_
    generalize rr[c2.toNat] = b at hbm
    have hb3 := len_bd _ (hr b hbm).1
    have hb1 := hr1 b hbm
    ((try simp only [wS, Nat.reduceAdd, Nat.reduceLeDiff, String.reduceEq, ↓reduceIte, Int.reduceLE, Int.reduceLT, Int.reduceEq, Int.reduceToNat, Nat.reduceLT, Nat.reduceEqDiff, reduceCtorEq, rowV, I.e1]); repeat ((with_reducible refine Mine.later ?_); try simp only [wS, Nat.reduceAdd, Nat.reduceLeDiff, String.reduceEq, ↓reduceIte, Int.reduceLE, Int.reduceLT, Int.reduceEq, Int.reduceToNat, Nat.reduceLT, Nat.reduceEqDiff, reduceCtorEq, rowV, I.e1]))
    refine draw_spec (many := b.1.2) I7.B (by omega) (by omega) fun c3 o3 c30 c31 B3 => ?_
    have I8 := I7.draw B3
    have hrw8 := set_ne (o' := o3) hrw7 hlb
    generalize st7.set bx o3 = st8 at I8 hrw8 B3
    have hl : 1 + c3 = 1 ∨ 1 + c3 = 2 ∨ 1 + c3 = 3 := by omega
    have hl' : 1 + c3 ∈ ([1, 2, 3] : List Int) := by rcases hl with e | e | e <;> rw [e] <;> decide
    have f1 : intOp .Pow 2 (4 - (1 + c3)) = some (2 ^ (4 - (1 + c3)).toNat) := op_pow (by omega) (by omega) (by decide)
    have f2 : ∀ a, intOp .FloorDiv a (2 ^ (4 - (1 + c3)).toNat) = some (a.fdiv (2 ^ (4 - (1 + c3)).toNat)) := fun a => op_div (by rcases hl with e | e | e <;> rw [e] <;> decide) (by rcases hl with e | e | e <;> rw [e] <;> decide)
    have f3 : ∀ a, intOp .Mult a (2 ^ (4 - (1 + c3)).toNat) = some (a * 2 ^ (4 - (1 + c3)).toNat) := fun a => op_mul (by rcases hl with e | e | e <;> rw [e] <;> decide)
    have hfp := further_px b.1 (hr b hbm).1 (1 + c3) hl' (by omega)
    ((try simp only [wS, Nat.reduceAdd, Nat.reduceLeDiff, String.reduceEq, ↓reduceIte, Int.reduceLE, Int.reduceLT, Int.reduceEq, Int.reduceToNat, Nat.reduceLT, Nat.reduceEqDiff, reduceCtorEq, op_add, op_sub, f1, f2, f3, I.e2]); repeat ((with_reducible refine Mine.later ?_); try simp only [wS, Nat.reduceAdd, Nat.reduceLeDiff, String.reduceEq, ↓reduceIte, Int.reduceLE, Int.reduceLT, Int.reduceEq, Int.reduceToNat, Nat.reduceLT, Nat.reduceEqDiff, reduceCtorEq, op_add, op_sub, f1, f2, f3, I.e2]))
    refine dictC_R G I8.hr ?_
    have I9 := I8.pre (List.prefix_append st8 [O.dT none (wordsV R)])
    have hrw9 := pre_get1 [O.dT none (wordsV R)] hrw8
    refine in_T (k := (b.1.1.fdiv (2 ^ (4 - (1 + c3)).toNat) * 2 ^ (4 - (1 + c3)).toNat, 1 + c3)) (last_get _ _) ?_
    rw [words_in]
    by_cases q2 : (b.1.1.fdiv (2 ^ (4 - (1 + c3)).toNat) * 2 ^ (4 - (1 + c3)).toNat, 1 + c3) ∈ R.map (·.1)
    · ((try simp only [wS, Nat.reduceAdd, Nat.reduceLeDiff, String.reduceEq, ↓reduceIte, Int.reduceLE, Int.reduceLT, Int.reduceEq, Int.reduceToNat, Nat.reduceLT, Nat.reduceEqDiff, reduceCtorEq, decide_eq_true q2]); repeat ((with_reducible refine Mine.later ?_); try simp only [wS, Nat.reduceAdd, Nat.reduceLeDiff, String.reduceEq, ↓reduceIte, Int.reduceLE, Int.reduceLT, Int.reduceEq, Int.reduceToNat, Nat.reduceLT, Nat.reduceEqDiff, reduceCtorEq, decide_eq_true q2]))
      exact l4_spec G (f := b.1) (hr b hbm).1 hr T hrw9 I9.ht I9.hr (by rfl) (by exact I.e2) (by exact I.e4) (by rfl) I9.B.fz h
    · ((try simp only [wS, Nat.reduceAdd, Nat.reduceLeDiff, String.reduceEq, ↓reduceIte, Int.reduceLE, Int.reduceLT, Int.reduceEq, Int.reduceToNat, Nat.reduceLT, Nat.reduceEqDiff, reduceCtorEq, decide_eq_false q2]); repeat ((with_reducible refine Mine.later ?_); try simp only [wS, Nat.reduceAdd, Nat.reduceLeDiff, String.reduceEq, ↓reduceIte, Int.reduceLE, Int.reduceLT, Int.reduceEq, Int.reduceToNat, Nat.reduceLT, Nat.reduceEqDiff, reduceCtorEq, decide_eq_false q2]))
      exact l4_spec G hfp hr T hrw9 I9.ht I9.hr (by rfl) (by exact I.e2) (by exact I.e4) (by rfl) I9.B.fz h
end Mine
end

section -- L20
set_option autoImplicit false
set_option linter.unusedVariables false
set_option linter.unusedSimpArgs false
set_option maxRecDepth 100000
namespace Mine

theorem l2_spec {R : Rg} (G : GoodR R) {nets told : Ai} {bx sl : Nat} {fz : Fz} {rg nt td : Nat} {k : Int} {η : AE} {st : St} (I : LawI R nets told bx sl fz rg nt td k η st) (hk : k ≤ 100) {Q : Fl → AE → St → Prop} (h : ∀ η' st', st'[fz.1]? = some (.fro fz.2.1 fz.2.2) → Q (.ret (.bool true)) η' st') : wb_l2 η st Q := by
  ((try simp only [wS, Nat.reduceAdd, Nat.reduceLeDiff, String.reduceEq, ↓reduceIte, Int.reduceLE, Int.reduceLT, Int.reduceEq, Int.reduceToNat, Nat.reduceLT, Nat.reduceEqDiff, reduceCtorEq, wb_l2]); repeat ((with_reducible refine Mine.later ?_); try simp only [wS, Nat.reduceAdd, Nat.reduceLeDiff, String.reduceEq, ↓reduceIte, Int.reduceLE, Int.reduceLT, Int.reduceEq, Int.reduceToNat, Nat.reduceLT, Nat.reduceEqDiff, reduceCtorEq, wb_l2]))
  refine ⟨7, rfl, by decide, ?_⟩
  refine loop_inv (all := List.range 7) (rep := fun j : Nat => V.int j) (fun L η st' => ∃ nets told td, LawI R nets told bx sl fz rg nt td (k + 5 * L.length) η st') ?_ (List.range 7) [] rfl _ _ _ ⟨nets, told, td, I.mono (by simp)⟩ ?_
  · rintro L a r e η st' ⟨nets, told, td, I⟩ K hK
    have hl : L.length < 7 := by
      have := congrArg List.length e
      simp at this; omega
    ((try simp only [wS, Nat.reduceAdd, Nat.reduceLeDiff, String.reduceEq, ↓reduceIte, Int.reduceLE, Int.reduceLT, Int.reduceEq, Int.reduceToNat, Nat.reduceLT, Nat.reduceEqDiff, reduceCtorEq]); repeat ((with_reducible refine Mine.later ?_); try simp only [wS, Nat.reduceAdd, Nat.reduceLeDiff, String.reduceEq, ↓reduceIte, Int.reduceLE, Int.reduceLT, Int.reduceEq, Int.reduceToNat, Nat.reduceLT, Nat.reduceEqDiff, reduceCtorEq]))
    refine turn_spec (j := a) G (I.env (η' := AE.set "turn" (V.int a) η) rfl rfl rfl rfl) (by omega) rfl fun nets' td' told' η' st'' I' => ?_
    refine hK _ _ _ (.inl rfl) trivial ⟨nets', told', td', I'.mono ?_⟩
    simp; omega
  · rintro η st' ⟨nets, told, td, I⟩
    refine l3_spec G I (by simp; omega) h

theorem l1_spec {bx sl : Nat} {fz : Fz} {rg nt td : Nat} {η : AE} {st : St} (I : LawI [] [] [] bx sl fz rg nt td 0 η st) (rs : rg ≠ sl) {Q : Fl → AE → St → Prop} (h : ∀ η' st', st'[fz.1]? = some (.fro fz.2.1 fz.2.2) → Q (.ret (.bool true)) η' st') : wb_l1 η st Q := by
  ((try simp only [wS, Nat.reduceAdd, Nat.reduceLeDiff, String.reduceEq, ↓reduceIte, Int.reduceLE, Int.reduceLT, Int.reduceEq, Int.reduceToNat, Nat.reduceLT, Nat.reduceEqDiff, reduceCtorEq, wb_l1, I.e1]); repeat ((with_reducible refine Mine.later ?_); try simp only [wS, Nat.reduceAdd, Nat.reduceLeDiff, String.reduceEq, ↓reduceIte, Int.reduceLE, Int.reduceLT, Int.reduceEq, Int.reduceToNat, Nat.reduceLT, Nat.reduceEqDiff, reduceCtorEq, wb_l1, I.e1]))
  refine draw_spec (many := 2) I.B (by decide) (by decide) fun c o c0 c1 B1 => ?_
  have I1 := I.draw B1
  generalize st.set bx o = st1 at I1
  ((try simp only [wS, Nat.reduceAdd, Nat.reduceLeDiff, String.reduceEq, ↓reduceIte, Int.reduceLE, Int.reduceLT, Int.reduceEq, Int.reduceToNat, Nat.reduceLT, Nat.reduceEqDiff, reduceCtorEq, op_add]); repeat ((with_reducible refine Mine.later ?_); try simp only [wS, Nat.reduceAdd, Nat.reduceLeDiff, String.reduceEq, ↓reduceIte, Int.reduceLE, Int.reduceLT, Int.reduceEq, Int.reduceToNat, Nat.reduceLT, Nat.reduceEqDiff, reduceCtorEq, op_add]))
  refine ⟨(2 + c).toNat, by simp; omega, by omega, ?_⟩
  refine loop_inv (all := List.range (2 + c).toNat) (rep := fun j : Nat => V.int j) (fun L η st' => ∃ R, GoodR R ∧ LawI R [] [] bx sl fz rg nt td (1 + 3 * L.length) η st') ?_ (List.range (2 + c).toNat) [] rfl _ _ _
    ⟨[], ⟨by simp, by simp⟩, I1.mono (by decide)⟩ ?_
  · rintro L a r e η st' ⟨R, G, I⟩ K hK
    have hl : L.length < 3 := by
      have := congrArg List.length e
      simp at this; omega
    ((try simp only [wS, Nat.reduceAdd, Nat.reduceLeDiff, String.reduceEq, ↓reduceIte, Int.reduceLE, Int.reduceLT, Int.reduceEq, Int.reduceToNat, Nat.reduceLT, Nat.reduceEqDiff, reduceCtorEq, I.e1]); repeat ((with_reducible refine Mine.later ?_); try simp only [wS, Nat.reduceAdd, Nat.reduceLeDiff, String.reduceEq, ↓reduceIte, Int.reduceLE, Int.reduceLT, Int.reduceEq, Int.reduceToNat, Nat.reduceLT, Nat.reduceEqDiff, reduceCtorEq, I.e1]))
    refine draw_spec (many := 4) I.B (by omega) (by decide) fun c1 o1 c10 c11 B1 => ?_
    have I1 := I.draw B1
    generalize st'.set bx o1 = st2 at I1
    refine prefix_spec I1.B (by omega) c10 (by omega) fun p o2 hp hp2 B2 => ?_
    have I2 := I1.draw B2
    generalize st2.set bx o2 = st3 at I2
    ((try simp only [wS, Nat.reduceAdd, Nat.reduceLeDiff, String.reduceEq, ↓reduceIte, Int.reduceLE, Int.reduceLT, Int.reduceEq, Int.reduceToNat, Nat.reduceLT, Nat.reduceEqDiff, reduceCtorEq, I.e1]); repeat ((with_reducible refine Mine.later ?_); try simp only [wS, Nat.reduceAdd, Nat.reduceLeDiff, String.reduceEq, ↓reduceIte, Int.reduceLE, Int.reduceLT, Int.reduceEq, Int.reduceToNat, Nat.reduceLT, Nat.reduceEqDiff, reduceCtorEq, I.e1]))
    refine draw_spec (many := 4) I2.B (by omega) (by decide) fun c2 o3 c20 c21 B3 => ?_
    have I3 := I2.draw B3
    generalize st3.set bx o3 = st4 at I3
    ((try simp only [wS, Nat.reduceAdd, Nat.reduceLeDiff, String.reduceEq, ↓reduceIte, Int.reduceLE, Int.reduceLT, Int.reduceEq, Int.reduceToNat, Nat.reduceLT, Nat.reduceEqDiff, reduceCtorEq, I.e2]); repeat ((with_reducible refine Mine.later ?_); try simp only [wS, Nat.reduceAdd, Nat.reduceLeDiff, String.reduceEq, ↓reduceIte, Int.reduceLE, Int.reduceLT, Int.reduceEq, Int.reduceToNat, Nat.reduceLT, Nat.reduceEqDiff, reduceCtorEq, I.e2]))
    refine dictC_R G I3.hr ?_
    have I4 := I3.pre (List.prefix_append st4 [O.dT none (wordsV R)])
    refine in_T (k := p) (last_get _ _) ?_
    rw [words_in]
    generalize st4 ++ [O.dT none (wordsV R)] = st5 at I4
    have hk : (1 + 3 * (L.length : Int) + 1 + 1 + 1) ≤ 1 + 3 * ((L ++ [a]).length : Int) := by simp; omega
    by_cases q : p ∈ R.map (·.1)
    · ((try simp only [wS, Nat.reduceAdd, Nat.reduceLeDiff, String.reduceEq, ↓reduceIte, Int.reduceLE, Int.reduceLT, Int.reduceEq, Int.reduceToNat, Nat.reduceLT, Nat.reduceEqDiff, reduceCtorEq, decide_eq_true q]); repeat ((with_reducible refine Mine.later ?_); try simp only [wS, Nat.reduceAdd, Nat.reduceLeDiff, String.reduceEq, ↓reduceIte, Int.reduceLE, Int.reduceLT, Int.reduceEq, Int.reduceToNat, Nat.reduceLT, Nat.reduceEqDiff, reduceCtorEq, decide_eq_true q]))
      refine hK _ _ _ (.inl rfl) trivial ⟨R, G, (I4.mono hk).env rfl rfl rfl rfl⟩
    · ((try simp only [wS, Nat.reduceAdd, Nat.reduceLeDiff, String.reduceEq, ↓reduceIte, Int.reduceLE, Int.reduceLT, Int.reduceEq, Int.reduceToNat, Nat.reduceLT, Nat.reduceEqDiff, reduceCtorEq, decide_eq_false q, I.e2]); repeat ((with_reducible refine Mine.later ?_); try simp only [wS, Nat.reduceAdd, Nat.reduceLeDiff, String.reduceEq, ↓reduceIte, Int.reduceLE, Int.reduceLT, Int.reduceEq, Int.reduceToNat, Nat.reduceLT, Nat.reduceEqDiff, reduceCtorEq, decide_eq_false q, I.e2]))
      refine ⟨recvL_l I4.hr, ?_⟩
      ((try simp only [wS, Nat.reduceAdd, Nat.reduceLeDiff, String.reduceEq, ↓reduceIte, Int.reduceLE, Int.reduceLT, Int.reduceEq, Int.reduceToNat, Nat.reduceLT, Nat.reduceEqDiff, reduceCtorEq, wAppend_l]); repeat ((with_reducible refine Mine.later ?_); try simp only [wS, Nat.reduceAdd, Nat.reduceLeDiff, String.reduceEq, ↓reduceIte, Int.reduceLE, Int.reduceLT, Int.reduceEq, Int.reduceToNat, Nat.reduceLT, Nat.reduceEqDiff, reduceCtorEq, wAppend_l]))
      refine ⟨_, I4.hr, by have := G.len; simp; omega, ?_⟩
      have nr : rg ≠ nt := by intro e; subst e; have := I4.hr; rw [I4.hn] at this; cases this
      have tr : rg ≠ td := by intro e; subst e; have := I4.hr; rw [I4.ht] at this; cases this
      have eR : R.map rngV ++ [V.tup [V.tup [V.int p.1, V.int p.2], V.bool (decide (0 < c2))]] = (R ++ [(p, decide (0 < c2))]).map rngV := by simp [rngV, keyT]
      rw [eR]
      refine hK _ _ _ (.inl rfl) trivial ⟨R ++ [(p, decide (0 < c2))], G.further hp q _, ⟨I4.N, ?_, (I4.B.mono hk).other I4.hr (fun _ _ e => by cases e) I4.rb rs, I4.rb, I4.ntd, set_eq I4.hr, set_ne I4.hn nr, set_ne I4.ht tr, ?_, ?_, ?_, ?_⟩⟩
      · exact ⟨by simp, by simp, fun k p c q => absurd q.1 (by simp [reach])⟩
      all_goals ((try simp only [wS, Nat.reduceAdd, Nat.reduceLeDiff, String.reduceEq, ↓reduceIte, Int.reduceLE, Int.reduceLT, Int.reduceEq, Int.reduceToNat, Nat.reduceLT, Nat.reduceEqDiff, reduceCtorEq, I.e1, I.e2, I.e3, I.e4]); repeat ((with_reducible refine Mine.later ?_); try simp only [wS, Nat.reduceAdd, Nat.reduceLeDiff, String.reduceEq, ↓reduceIte, Int.reduceLE, Int.reduceLT, Int.reduceEq, Int.reduceToNat, Nat.reduceLT, Nat.reduceEqDiff, reduceCtorEq, I.e1, I.e2, I.e3, I.e4]))
  · rintro η st' ⟨R, G, I⟩
    refine l2_spec G I ?_ h
    simp; omega

theorem law_spec {sc : Nat} {ob : Obj} {ws : List Int} {st : St} (hs : st[sc]? = some (.fro ob (ws.map V.int))) (hl : ws.length ≤ 1000) {Q : V → St → Prop} (h : ∀ st', st'[sc]? = some (.fro ob (ws.map V.int)) → Q (.bool true) st') : T_law [.loc sc] st Q := by
  ((try simp only [wS, Nat.reduceAdd, Nat.reduceLeDiff, String.reduceEq, ↓reduceIte, Int.reduceLE, Int.reduceLT, Int.reduceEq, Int.reduceToNat, Nat.reduceLT, Nat.reduceEqDiff, reduceCtorEq, T_law, law_split]); repeat ((with_reducible refine Mine.later ?_); try simp only [wS, Nat.reduceAdd, Nat.reduceLeDiff, String.reduceEq, ↓reduceIte, Int.reduceLE, Int.reduceLT, Int.reduceEq, Int.reduceToNat, Nat.reduceLT, Nat.reduceEqDiff, reduceCtorEq, T_law, law_split]))
  refine ⟨by decide, _, .inr ⟨ob, hs⟩, by simpa using hl, ?_⟩
  rw [← List.map_take]
  have hc := last_get st (O.list ((ws.take (Int.toNat 48)).map V.int))
  have hs := pre_get1 [O.list ((ws.take (Int.toNat 48)).map V.int)] hs
  generalize st ++ [O.list ((ws.take (Int.toNat 48)).map V.int)] = st1 at hc hs
  generalize st.length = l at hc
  refine ⟨.loc l, (ws.take (Int.toNat 48)).map V.int, rfl, items_l hc, by simp; omega, ?_⟩
  have hlen : (ws.take (Int.toNat 48)).length ≤ 1000 := by simp; omega
  generalize ws.take (Int.toNat 48) = vs at hc hlen
  have g0 : (st1 ++ [O.list (vs.map V.int)] ++ [O.list [.loc st1.length, .int 0]] ++ [O.list []] ++ [O.dT none []] ++ [O.dT none []])[sc]? = some (O.fro ob (ws.map V.int)) := pre_get1 _ (pre_get1 _ (pre_get1 _ (pre_get1 _ (pre_get1 _ hs))))
  have g1 : (st1 ++ [O.list (vs.map V.int)] ++ [O.list [.loc st1.length, .int 0]] ++ [O.list []] ++ [O.dT none []] ++ [O.dT none []])[st1.length]? = some (O.list (vs.map V.int)) := pre_get1 _ (pre_get1 _ (pre_get1 _ (pre_get1 _ (last_get _ _))))
  have g2 : (st1 ++ [O.list (vs.map V.int)] ++ [O.list [.loc st1.length, .int 0]] ++ [O.list []] ++ [O.dT none []] ++ [O.dT none []])[st1.length + 1]? = some (O.list [.loc st1.length, .int 0]) := by simp
  have g3 : (st1 ++ [O.list (vs.map V.int)] ++ [O.list [.loc st1.length, .int 0]] ++ [O.list []] ++ [O.dT none []] ++ [O.dT none []])[st1.length + 2]? = some (O.list []) := by simp
  have g4 : (st1 ++ [O.list (vs.map V.int)] ++ [O.list [.loc st1.length, .int 0]] ++ [O.list []] ++ [O.dT none []] ++ [O.dT none []])[st1.length + 3]? = some (O.dT none []) := by simp
  have g5 : (st1 ++ [O.list (vs.map V.int)] ++ [O.list [.loc st1.length, .int 0]] ++ [O.list []] ++ [O.dT none []] ++ [O.dT none []])[st1.length + 4]? = some (O.dT none []) := by simp
  refine l1_spec (bx := st1.length + 1) (sl := st1.length) (fz := (sc, ob, ws.map V.int)) (rg := st1.length + 2) (nt := st1.length + 3) (td := st1.length + 4) ⟨⟨by simp, by simp, by simp⟩, ⟨by simp, by simp, fun k p c q => absurd q.1 (by simp [reach])⟩, ⟨⟨0, vs, g2, g1, by decide, by decide, hlen, by omega⟩, g0⟩, by omega, by omega, g3, g4, g5, ?_, ?_, ?_, ?_⟩ (by omega) fun η' st' hf => ?_
  · ((try simp only [wS, Nat.reduceAdd, Nat.reduceLeDiff, String.reduceEq, ↓reduceIte, Int.reduceLE, Int.reduceLT, Int.reduceEq, Int.reduceToNat, Nat.reduceLT, Nat.reduceEqDiff, reduceCtorEq]); repeat ((with_reducible refine Mine.later ?_); try simp only [wS, Nat.reduceAdd, Nat.reduceLeDiff, String.reduceEq, ↓reduceIte, Int.reduceLE, Int.reduceLT, Int.reduceEq, Int.reduceToNat, Nat.reduceLT, Nat.reduceEqDiff, reduceCtorEq])); simp
  · ((try simp only [wS, Nat.reduceAdd, Nat.reduceLeDiff, String.reduceEq, ↓reduceIte, Int.reduceLE, Int.reduceLT, Int.reduceEq, Int.reduceToNat, Nat.reduceLT, Nat.reduceEqDiff, reduceCtorEq]); repeat ((with_reducible refine Mine.later ?_); try simp only [wS, Nat.reduceAdd, Nat.reduceLeDiff, String.reduceEq, ↓reduceIte, Int.reduceLE, Int.reduceLT, Int.reduceEq, Int.reduceToNat, Nat.reduceLT, Nat.reduceEqDiff, reduceCtorEq])); simp
  · ((try simp only [wS, Nat.reduceAdd, Nat.reduceLeDiff, String.reduceEq, ↓reduceIte, Int.reduceLE, Int.reduceLT, Int.reduceEq, Int.reduceToNat, Nat.reduceLT, Nat.reduceEqDiff, reduceCtorEq]); repeat ((with_reducible refine Mine.later ?_); try simp only [wS, Nat.reduceAdd, Nat.reduceLeDiff, String.reduceEq, ↓reduceIte, Int.reduceLE, Int.reduceLT, Int.reduceEq, Int.reduceToNat, Nat.reduceLT, Nat.reduceEqDiff, reduceCtorEq])); simp
  · ((try simp only [wS, Nat.reduceAdd, Nat.reduceLeDiff, String.reduceEq, ↓reduceIte, Int.reduceLE, Int.reduceLT, Int.reduceEq, Int.reduceToNat, Nat.reduceLT, Nat.reduceEqDiff, reduceCtorEq]); repeat ((with_reducible refine Mine.later ?_); try simp only [wS, Nat.reduceAdd, Nat.reduceLeDiff, String.reduceEq, ↓reduceIte, Int.reduceLE, Int.reduceLT, Int.reduceEq, Int.reduceToNat, Nat.reduceLT, Nat.reduceEqDiff, reduceCtorEq])); simp
  · ((try simp only [wS, Nat.reduceAdd, Nat.reduceLeDiff, String.reduceEq, ↓reduceIte, Int.reduceLE, Int.reduceLT, Int.reduceEq, Int.reduceToNat, Nat.reduceLT, Nat.reduceEqDiff, reduceCtorEq]); repeat ((with_reducible refine Mine.later ?_); try simp only [wS, Nat.reduceAdd, Nat.reduceLeDiff, String.reduceEq, ↓reduceIte, Int.reduceLE, Int.reduceLT, Int.reduceEq, Int.reduceToNat, Nat.reduceLT, Nat.reduceEqDiff, reduceCtorEq])); exact h _ hf
end Mine
end

section -- Hd2
namespace Mine
noncomputable def nthT : List Stmt → Nat → List Stmt
  | s :: _, 0 => [s]
  | _ :: r, n + 1 => nthT r n
  | [], _ => []
noncomputable def isName : Stmt → Bool
  | .Assign [.Name x _] _ _ => x == Str.ofString "__name__"
  | _ => false
noncomputable def view : Program := { PySem.Challenge.pw_sz0109_01 with main := { PySem.Challenge.pw_sz0109_01.main with body := PySem.Challenge.pw_sz0109_01.main.body.filter fun s => !isName s } }
abbrev loose : List Str := [Str.ofString "SUMMARY_NET", Str.ofString "SUMMARY_ROUTER"]
abbrev lv : List (Str × WData) := [(Str.ofString "SUMMARY_NET", WData.int 3), (Str.ofString "SUMMARY_ROUTER", WData.int 4)]
example : view.main.body.length = 30 := by decide +kernel
set_option maxRecDepth 100000
set_option maxHeartbeats 8000000
abbrev rw' : OpenRow := PySem.Challenge.rw_sz0109_01.row
theorem map_both {α β γ : Type} {o : Option α} {f : α → β} {g : α → γ} {a : β} {b : γ} (x : o.map f = some a) (y : o.map g = some b) : (o.map fun s => (f s, g s)) = some (a, b) := by
  cases o with
  | none => cases x
  | some v => cases x; cases y; rfl
noncomputable abbrev seenL (s : Shared) := (openSeen view loose (importedModules PySem.Challenge.pw_sz0109_01.main.body) (fun s => xlAt view lv s && recOk (RowW.records rw'.toRowW) s) true s, Hook.obs Hook.none s)
theorem left_f (w : World) : (fencedOpening treeTable PySem.Challenge.pw_sz0109_01 w 1954).map (fun s₀ => (topFrom treeTable PySem.Challenge.pw_sz0109_01 (w.withFollow "special-get-raises" false) 1954 s₀).map seenL) = some (some (openGood view loose, Hook.val Hook.none (w.withFollow "special-get-raises" false))) := by
  kernel_rfl
theorem left_t (w : World) : (fencedOpening treeTable PySem.Challenge.pw_sz0109_01 w 1954).map (fun s₀ => (topFrom treeTable PySem.Challenge.pw_sz0109_01 (w.withFollow "special-get-raises" true) 1954 s₀).map seenL) = some (some (openGood view loose, Hook.val Hook.none (w.withFollow "special-get-raises" true))) := by
  kernel_rfl
theorem left : LeftO PySem.Challenge.pw_sz0109_01 view loose (fun s => xlAt view lv s && recOk (RowW.records rw'.toRowW) s) (Hook.obs Hook.none) (Hook.val Hook.none) 1954 :=
  LeftO.of_split "special-get-raises" fun w => map_both (left_f w) (left_t w)
end Mine
end

section -- Hd4
namespace Mine
set_option maxRecDepth 100000
set_option maxHeartbeats 8000000
noncomputable def lawS : Stmt := (view.main.body.drop 29).headD (.Pass ⟨0, 0, 0, 0⟩)
noncomputable def lawD : DefRec := match lawS with
  | .FunctionDef name params body _ _ _ scope _ _ pos => ⟨name, params, body, scope, pos⟩
  | _ => ⟨"", ⟨[], [], none, [], [], none, []⟩, [], ⟨.function, [], false, false, []⟩, ⟨0, 0, 0, 0⟩⟩
theorem hd_1 : defOf view rw'.name = some (lawD, []) := by kernel_rfl
theorem hd_2 : rw'.prog.theDef rw'.name = some (lawD.params, lawD.body, lawD.scope) := by kernel_rfl
theorem hd_3 : kwWritten? lawD.params.kwonlyargs lawD.params.kw_defaults = some [] := by kernel_rfl
theorem hd_5 : (chainsOk view && opensWell rw'.prog && (frees rw'.toRowW && rw'.within.isEmpty)) = true := by decide +kernel
theorem hd_b : rw'.prog.bare := ⟨rfl, rfl, rfl, rfl, rfl, by decide +kernel⟩
theorem hd_w : rw'.toRowW.promised := by w_witness2
theorem hd_0 : PySem.Challenge.rw_sz0109_01.wellSaid = true := by
  delta OpenLaw.wellSaid OpenRow.wellSaid OpenRow.partSaid looksOpen
  repeat' (with_reducible refine look_both ?_ ?_)
  all_goals decide +kernel
theorem hd2 (walk : WalkO view loose (XL view lv) (Hook.says Hook.none) rw'.toRowW lawD [] fun f vs => PySem.call f vs) : PySem.Challenge.rw_sz0109_01.Holds :=
  holds_law (l := PySem.Challenge.rw_sz0109_01) hd_0 fun said =>
    PySem.W.holds_open (r := rw') (q := view) (loose := loose) (Xt := fun s => xlAt view lv s && recOk (RowW.records rw'.toRowW) s) (XP := XL view lv) (Yf := Hook.obs Hook.none) (Ya := Hook.val Hook.none) (YP := Hook.says Hook.none) (N := 1954)
      left (Hook.of Hook.none) (Hook.keeps Hook.none) (fun s e => xl_of s (Bool.and_eq_true_iff.mp e).1) XL.keeps hd_1 hd_2 hd_3 (fun s e => recFacts_of (Bool.and_eq_true_iff.mp e).2) rfl said hd_5 hd_b hd_w walk
end Mine
end

section -- J
set_option autoImplicit false
set_option linter.unusedVariables false
namespace Mine

noncomputable def consts : List (String × Int) := [("BACKBONE", 0), ("MAX_AGE", 3600), ("LS_INFINITY", 16777215), ("BORDER", 1)]
noncomputable def fnBlts : List String := ["len", "abs", "max", "min", "any", "sorted"]
noncomputable def tyBlts : List String := ["list", "tuple", "dict", "range"]
noncomputable def freeIn (view : Program) (loose : List Str) (x : Str) : Prop := x ∉ startupNames ∧ x ∉ loose ∧ x ∉ (recsOf view).map (·.name) ∧ x ∉ (litsOf view).map (·.1) ∧ x ∉ (clssOf view loose).map (·.name)

theorem root_ok {view : Program} {loose : List Str} {mean : ExcName → Option Value} {mg mb : Str → Option Value} {h : Heap} (T : Top view loose mean mg mb h) (V : LooseAre [(Str.ofString "SUMMARY_NET", WData.int 3), (Str.ofString "SUMMARY_ROUTER", WData.int 4)] mg h)
    (hrec : recsOf pw = recsOf view) (hc : ∀ x ∈ consts, valOf view (Str.ofString x.1) = some (PyData.int x.2)) (hf : ∀ x ∈ fnBlts ++ tyBlts, freeIn view loose (Str.ofString x))
    (hb : ∀ x ∈ fnBlts, bootBuiltins (Str.ofString x) = some (.builtin x)) (ht : ∀ x ∈ tyBlts, bootBuiltins (Str.ofString x) = some (.type x)) : RootOk ⟨view, mg, mb⟩ := by
  have C : ∀ x i, (x, i) ∈ consts → ∃ t, mg (Str.ofString x) = some (.int i t) := fun x i m => by
    obtain ⟨v, e, r⟩ := T.const _ _ (hc _ m)
    have := r h
    cases this
    exact ⟨_, e⟩
  have L : ∀ x i, (Str.ofString x, WData.int i) ∈ [(Str.ofString "SUMMARY_NET", WData.int 3), (Str.ofString "SUMMARY_ROUTER", WData.int 4)] → ∃ t, mg (Str.ofString x) = some (.int i t) := fun x i m => by
    obtain ⟨v, e, r⟩ := V.val _ m
    cases r
    exact ⟨_, e⟩
  have M : ∀ x ∈ fnBlts ++ tyBlts, mg (Str.ofString x) = none := fun x m => by
    obtain ⟨h1, h2, h3, h4, h5⟩ := hf x m
    exact T.free _ h1 h2 h3 h4 h5
  have NN : ∀ x ∈ fnBlts ++ tyBlts, Str.ofString x ≠ "__name__" := by
    intro x m
    simp only [fnBlts, tyBlts, List.mem_append, List.mem_cons, List.not_mem_nil, or_false] at m
    rcases m with (rfl | rfl | rfl | rfl | rfl | rfl) | (rfl | rfl | rfl | rfl) <;> decide
  have B : ∀ x ∈ fnBlts, mb (Str.ofString x) = some (.builtin x) := fun x m => (T.builtins _ (NN x (List.mem_append_left _ m))).trans (hb x m)
  have Y : ∀ x ∈ tyBlts, mb (Str.ofString x) = some (.type x) := fun x m => (T.builtins _ (NN x (List.mem_append_right _ m))).trans (ht x m)
  exact ⟨fun d hd => hrec ▸ hd, C _ _ (by simp [consts]), C _ _ (by simp [consts]), C _ _ (by simp [consts]), C _ _ (by simp [consts]), L _ _ (by simp), L _ _ (by simp),
    M _ (by simp [fnBlts]), B _ (by simp [fnBlts]), M _ (by simp [fnBlts]), B _ (by simp [fnBlts]), M _ (by simp [fnBlts]), B _ (by simp [fnBlts]), M _ (by simp [fnBlts]), B _ (by simp [fnBlts]), M _ (by simp [fnBlts]), B _ (by simp [fnBlts]), M _ (by simp [fnBlts]), B _ (by simp [fnBlts]),
    M _ (by simp [tyBlts]), Y _ (by simp [tyBlts]), M _ (by simp [tyBlts]), Y _ (by simp [tyBlts]), M _ (by simp [tyBlts]), Y _ (by simp [tyBlts]), M _ (by simp [tyBlts]), Y _ (by simp [tyBlts])⟩

theorem ints_rvs {σ : List Addr} {h : Heap} : ∀ {vs : List Value} {ws : List Int}, IntsAre vs ws → RVs σ h vs (ws.map V.int)
  | _, _, .nil => .nil
  | _, _, .cons n t r => .cons (.int n t) (ints_rvs r)

set_option maxRecDepth 100000 in
set_option maxHeartbeats 8000000 in
theorem whole : PySem.Challenge.rw_sz0109_01.Holds := hd2 (by
  intro w s₀ s₁ mg mb G Y fa o pm cd doc dV kV ho hdd hcd hD hmg hg args vals as hpre hlay hrd hwl hlo
  have hmg : mg (Str.ofString "law") = some (.ref fa) := (show lawD.name = Str.ofString "law" by kernel_rfl) ▸ hmg
  have VL := (Ground.X G).2
  refine Ground.open G ?_
  intro T B D TE TW
  clear Y
  have hlo' := hlo
  wrow_args hpre hlay hrd hwl hlo
  rename_i ws hs hlay0 hLy hr1 hl2 as4 as3 a vs as5 hL ra w1 r0 hI hr hc1 hc2
  have ha : (a == sysModules) = false := by
    cases r0 with
    | list _ _ _ _ => exact hlo' a (by simp)
  have RO := root_ok T VL (by kernel_rfl)
    (by
      intro x m
      simp only [consts, List.mem_cons, List.not_mem_nil, or_false] at m
      rcases m with rfl | rfl | rfl | rfl <;> kernel_rfl)
    (by unfold freeIn; decide +kernel)
    (by
      intro x m
      simp only [fnBlts, List.mem_cons, List.not_mem_nil, or_false] at m
      rcases m with rfl | rfl | rfl | rfl | rfl | rfl <;> kernel_rfl)
    (by
      intro x m
      simp only [tyBlts, List.mem_cons, List.not_mem_nil, or_false] at m
      rcases m with rfl | rfl | rfl | rfl <;> kernel_rfl)
  obtain ⟨ol, e, c, n, d⟩ := hL
  have W := Wd.of_top (prog := PySem.Challenge.pw_sz0109_01) (h' := hideAll s₁.heap [a]) T (σ := [a]) (fun b o e n => hideAll_get [a] e n) (fun x m => by
    simp at m; subst m; exact ⟨ol, _, n, e, d⟩)
  have R : Rep PySem.Challenge.pw_sz0109_01 w [a] [O.fro ol (ws.map V.int)] s₁.heap := by
    refine ⟨rfl, by simp, fun i o' a' h1 h2 => ?_, fun x m => by simp at m; subst m; exact ha, ?_⟩
    · cases i with
      | zero =>
        simp at h1 h2; subst h1; subst h2
        exact .fro e c d (ints_rvs hI)
      | succ i => simp at h2
    · obtain ⟨o1, _, _, e1, _⟩ := T.g
      exact ⟨mainGlobals, o1, by decide, e1⟩
  have hl : ws.length ≤ 1000 := by
    have : ¬ ((63 : Int) < ws.length) := hc1
    omega
  have F := fs_law (prog := PySem.Challenge.pw_sz0109_01) (w := w) RO fa hmg callerA ⟨rfl, by decide, by decide⟩ (hideAll s₁.heap [a]) [a] [O.fro ol (ws.map V.int)] s₁ (fun v st' => v = V.bool true ∧ st'[0]? = some (O.fro ol (ws.map V.int))) [.ref a] [.loc 0] W
    (fun p o q => of_hideAll [a] q) (fun p m => hideAll_none [a] m) R (.cons (.loc rfl) .nil) (law_spec rfl hl fun st' q => ⟨rfl, q⟩)
  refine wpAny_mono F (fun v s' p => ?_) (fun _ _ x => x.elim)
  obtain ⟨v', st', σ', h', tk, rfl, X, R', rv, rfl, q⟩ := p
  cases rv
  refine GoodW.toG ⟨.inl ⟨_, .bool true, [], rfl, ?_, .bool true, ?_, ?_⟩, ?_, rfl, hg⟩
  · intro cls; rfl
  · show (WShape.has [] (WData.bool true) .bool && (WTm.eq .res (.lit (.bool true))).holds [] { args := [ofPy (PyData.list (ws.map PyData.int))], res := some (.bool true), after := [ofPy (PyData.list (ws.map PyData.int))] }) = true
    exact Bool.and_eq_true_iff.mpr ⟨by first | rfl | decide | decide +kernel | simp [WShape.has, WShape.arms], by simp [WTm.holds, WTm.value, same]⟩
  · intro _; exact ⟨.nil, fun x m => absurd m (by simp)⟩
  · intro b ob hb
    by_cases m : b ∈ [a]
    · simp at m; subst m
      rw [e] at hb; cases hb
      have hσ : σ'[0]? = some b := pre_get X.pre rfl
      cases R'.obj _ _ _ q hσ with
      | fro e' _ _ _ => exact e'
    · exact X.keep b ob hb m)
end Mine
end

set_option maxRecDepth 100000 in
set_option maxHeartbeats 8000000 in
theorem PySem.Challenge.cw_sz0109_01_holds : PySem.Challenge.rw_sz0109_01.Holds := by
  exact Mine.whole
